import PyProof.Rows.All
import Wide.All
import OpenK.AllK
import Wide.FinOn
import HandS.ForMost
import HandS.ForExc
import HandS.CallSlots
import HandS.Defaults
import HandS.IsInst
import HandS.Slots
import HandS.SlotsOwn
import HandS.SlotsVar
import HandS.ExcInit
import HandS.ExcSuper
import HandS.ExcField
import HandS.ExcValue
import HandS.Property
import HandS.Lambda
import HandS.FStr
import HandS.RaiseMore
import HandS.Wide
import KE.KSuper
import KE.KExcIs
import HandS.Comp
import HandS.AnyAll
import HandS.Dict
import PyProof.ReprNest
import PyProof.ReprDict
import PyProof.CallFns
import HandS.EndTab
import HandS.EndOwn
import PyProof.InstNe
import HandS.Words
import KE.KOpsOwn
import PyProof.FactsAll.int
import HandS.OwnEq
import HandS.DictComp
import HandS.SetKeys
import HandS.ListItems
import HandS.TupAny
import HandS.Deep
import HandS.Star
import HandS.Conv
import HandS.StrMore
import KE.KUnpackStar
import PyProof.Rows.SeqMore
import KE.IntBitsLaws
import PyProof.Rows.RegStrFacts
import HandS.Text
import KE.IntTextLaws
import PyProof.Rows.TmSorted
import HandS.SetBool
import HandS.Strs
import OpenK.KOps
import OpenK.KMeth
import HandS.DictEq
import PyProof.Rows.ListStrD
import PyProof.DictUpdate
import PyProof.DictCopy
import HandS.Style
import HandS.TryOnly
import PyProof.Rows.ListMulArg
import KE.KCallOwn
import KE.GoesEnum
import HandS.Zip
import HandS.Iter
import KE.GoesMore
import PySem.Challenge.RW_sharedslip_k00_errors
import HandS.HeadHook2
import HandS.Head2
import KE.OsRunLaw
import HandS.Head0
import HandS.Head1
set_option Elab.async false
set_option linter.all false
set_option maxRecDepth 100000
set_option maxHeartbeats 4000000
namespace DL
open PySem PySem.Spec PyProof.Rows L2
inductive D where
  | non | bl (b : Bool) | int (i : Int) | str (x : Str) | val (v : V) | ref (a : Addr)
  | tup (xs : List D) | lst (xs : List D) | dct (ks : List Key) (xs : List D)
  | slo (C : Addr) (xs : List D) | obj (C : Addr) (ns : List Str) (xs : List D)
  | exc (c : Value) (ns : List Str) (xs : List D)
  | fn (f c : Addr) (q : Str) (vs : List V) (xs : List D)
inductive DO where
  | lst (xs : List D) | dct (ks : List Key) (xs : List D) | ins (C : Addr) (ns : List Str) (xs : List D)
  | slo (C : Addr) (xs : List (Option D)) | tbl (q : Str)
  | raw (o : HO)
abbrev Td := Addr -> Option DO
def tput (T : Td) (a : Addr) (o : DO) : Td := fun b => if b = a then some o else T b
theorem tput_same {T : Td} {a : Addr} {o : DO} : tput T a o a = some o := by unfold tput; rw [if_pos rfl]
theorem tput_ne {T : Td} {a b : Addr} {o : DO} (h : b ≠ a) : tput T a o b = T b := by unfold tput; rw [if_neg h]
def tdel (T : Td) (a : Addr) : Td := fun b => if b = a then none else T b
theorem tdel_same {T : Td} {a : Addr} : tdel T a a = none := by unfold tdel; rw [if_pos rfl]
theorem tdel_ne {T : Td} {a b : Addr} (h : b ≠ a) : tdel T a b = T b := by unfold tdel; rw [if_neg h]
def EcP (a : Addr) (c : Value) (d : Option Addr) (h : Heap) : Prop := ∃ oe vs, h.get? a = some oe /\ oe.cls = c /\ oe.dict = d /\ oe.data = .fields vs
def EcO (a : Addr) (c : Value) (d : Option Addr) : HO := .ext (EcP a c d)
def TupAt (K : PySem.W.Frag) (H : Hp) (T : Td) (a : Addr) (xs : List V) : Prop :=
  (T a = none /\ Rd H a (.tup xs)) \/
    ∃ (o : Obj) (its : Array Value) (n : Nat), K.lookup a = some o /\ o.cls = .type "tuple" /\ o.data = .seq its n /\ its.size <= sizeLine /\ Vals xs its.toList
def LstAt (K : PySem.W.Frag) (H : Hp) (T : Td) (a : Addr) (xs : List V) : Prop :=
  (T a = none /\ Rd H a (.lst xs)) \/
    ∃ (o : Obj) (its : Array Value) (n : Nat), K.lookup a = some o /\ o.cls = .type "list" /\ o.dict = none /\ o.data = .seq its n /\ its.size <= sizeLine /\ Vals xs its.toList
theorem TupAt.sq {K : PySem.W.Frag} {H : Hp} {T : Td} {a : Addr} {xs : List V} (h : TupAt K H T a xs) : SqT K H a xs := h.elim (fun q => .inl q.2) .inr
theorem LstAt.sq {K : PySem.W.Frag} {H : Hp} {T : Td} {a : Addr} {xs : List V} (h : LstAt K H T a xs) : SqL K H a xs := h.elim (fun q => .inl q.2) .inr
mutual
def RD (K : PySem.W.Frag) (H : Hp) (T : Td) : D -> V -> Prop
  | .non, v => v = .non
  | .bl b, v => v = .bl b
  | .int i, v => v = .int i
  | .str x, v => v = .str x
  | .val u, v => v = u
  | .ref a, v => v = .ref a
  | .tup ds, v => ∃ a vs, v = .ref a /\ TupAt K H T a vs /\ RDs K H T ds vs
  | .lst ds, v => ∃ a vs, v = .ref a /\ LstAt K H T a vs /\ RDs K H T ds vs
  | .dct ks ds, v => ∃ a od vs, v = .ref a /\ T a = none /\ H a = some (.frz od (.dK (ks.zip vs))) /\ ks.length = vs.length /\ RDs K H T ds vs
  | .slo C ds, v => ∃ a dx vs, v = .ref a /\ T a = none /\ T dx = none /\ H dx = some (.xd []) /\ H a = some (SlX.SlO a C dx (vs.map some)) /\ RDs K H T ds vs
  | .obj C ns ds, v => ∃ a dx vs, v = .ref a /\ T a = none /\ T dx = none /\ H dx = some (.own a) /\ H a = some (.ins C dx (ns.zip vs)) /\ ns.length = vs.length /\ RDs K H T ds vs
  | .fn f c q vs ds, v => v = .ref f /\ T c = none /\ H c = some (LamX.CodeO c q) /\ RDs K H T ds vs
  | .exc c ns ds, v => ∃ a d vs, v = .ref a /\ T a = none /\ T d = none /\ H a = some (EcO a c (some d)) /\ H d = some (.xd (ns.zip vs)) /\ ns.length = vs.length /\ RDs K H T ds vs
def RDs (K : PySem.W.Frag) (H : Hp) (T : Td) : List D -> List V -> Prop
  | [], vs => vs = []
  | d :: ds, vs => ∃ v r, vs = v :: r /\ RD K H T d v /\ RDs K H T ds r
end
def Fr (H : Hp) (T : Td) (H' : Hp) (T' : Td) : Prop := ∀ a o, H a = some o -> T a = none -> H' a = some o /\ T' a = none
theorem Fr.refl {H : Hp} {T : Td} : Fr H T H T := fun _ _ h t => ⟨h, t⟩
theorem Fr.trans {H H1 H2 : Hp} {T T1 T2 : Td} (a : Fr H T H1 T1) (b : Fr H1 T1 H2 T2) : Fr H T H2 T2 := fun c o h t => b c o (a c o h t).1 (a c o h t).2
section
variable {K : PySem.W.Frag} {H H' H1 : Hp} {T T' T1 : Td}
theorem Fr.rd (f : Fr H T H' T') {a : Addr} {u : HO} (t : T a = none) (h : Rd H a u) : T' a = none /\ Rd H' a u := by
  rcases h with h | ⟨o, h⟩
  . exact ⟨(f a _ h t).2, .inl (f a _ h t).1⟩
  . exact ⟨(f a _ h t).2, .inr ⟨o, (f a _ h t).1⟩⟩
theorem TupAt.mono (f : Fr H T H' T') {a : Addr} {vs : List V} (h : TupAt K H T a vs) : TupAt K H' T' a vs := h.elim (fun q => .inl (f.rd q.1 q.2)) .inr
theorem LstAt.mono (f : Fr H T H' T') {a : Addr} {vs : List V} (h : LstAt K H T a vs) : LstAt K H' T' a vs := h.elim (fun q => .inl (f.rd q.1 q.2)) .inr
mutual
theorem RD.mono (f : Fr H T H' T') : ∀ (d : D) {v : V}, RD K H T d v -> RD K H' T' d v
  | .non, _, h => h
  | .bl _, _, h => h
  | .int _, _, h => h
  | .str _, _, h => h
  | .val _, _, h => h
  | .ref _, _, h => h
  | .tup ds, _, h => by
    obtain ⟨a, vs, e, t, r⟩ := h
    exact ⟨a, vs, e, t.mono f, RDs.mono f ds r⟩
  | .lst ds, _, h => by
    obtain ⟨a, vs, e, t, r⟩ := h
    exact ⟨a, vs, e, t.mono f, RDs.mono f ds r⟩
  | .dct ks ds, _, h => by
    obtain ⟨a, od, vs, e, t, h, l, r⟩ := h
    exact ⟨a, od, vs, e, (f a _ h t).2, (f a _ h t).1, l, RDs.mono f ds r⟩
  | .slo C ds, _, h => by
    obtain ⟨a, dx, vs, e, t, t2, h2, h1, r⟩ := h
    exact ⟨a, dx, vs, e, (f a _ h1 t).2, (f dx _ h2 t2).2, (f dx _ h2 t2).1, (f a _ h1 t).1, RDs.mono f ds r⟩
  | .obj C ns ds, _, h => by
    obtain ⟨a, dx, vs, e, t, t2, h2, h1, l, r⟩ := h
    exact ⟨a, dx, vs, e, (f a _ h1 t).2, (f dx _ h2 t2).2, (f dx _ h2 t2).1, (f a _ h1 t).1, l, RDs.mono f ds r⟩
  | .fn g c q vs ds, _, h => by
    obtain ⟨e, t, h1, r⟩ := h
    exact ⟨e, (f c _ h1 t).2, (f c _ h1 t).1, RDs.mono f ds r⟩
  | .exc c ns ds, _, h => by
    obtain ⟨a, d, vs, e, t, t2, h1, h2, l, r⟩ := h
    exact ⟨a, d, vs, e, (f a _ h1 t).2, (f d _ h2 t2).2, (f a _ h1 t).1, (f d _ h2 t2).1, l, RDs.mono f ds r⟩
theorem RDs.mono (f : Fr H T H' T') : ∀ (ds : List D) {vs : List V}, RDs K H T ds vs -> RDs K H' T' ds vs
  | [], _, h => h
  | d :: ds, _, h => by
    obtain ⟨v, r, e, h1, h2⟩ := h
    exact ⟨v, r, e, RD.mono f d h1, RDs.mono f ds h2⟩
end
theorem RDs.length : ∀ {ds : List D} {vs : List V}, RDs K H T ds vs -> ds.length = vs.length
  | [], _, h => by
    have h' : _ = [] := h
    rw [h'] <;> rfl
  | d :: ds, _, h => by
    obtain ⟨v, r, e, _, h2⟩ := h
    rw [e, List.length_cons, List.length_cons, RDs.length h2]
theorem RDs.get : ∀ {ds : List D} {vs : List V} {i : Nat} {d : D}, RDs K H T ds vs -> ds[i]? = some d -> ∃ v, vs[i]? = some v /\ RD K H T d v
  | [], _, _, _, _, e => by simp at e
  | d :: ds, _, 0, d', h, e => by
    obtain ⟨v, r, rfl, h1, _⟩ := h
    simp at e
    subst e
    exact ⟨v, rfl, h1⟩
  | d :: ds, _, i + 1, d', h, e => by
    obtain ⟨v, r, rfl, _, h2⟩ := h
    obtain ⟨u, e1, e2⟩ := RDs.get (i := i) h2 (by simpa using e)
    exact ⟨u, by simpa using e1, e2⟩
theorem RDs.append : ∀ {ds es : List D} {vs ws : List V}, RDs K H T ds vs -> RDs K H T es ws -> RDs K H T (ds ++ es) (vs ++ ws)
  | [], _, _, _, h, q => by
    have h' : _ = [] := h
    subst h'
    exact q
  | d :: ds, _, _, _, h, q => by
    obtain ⟨v, r, rfl, h1, h2⟩ := h
    exact ⟨v, r ++ _, rfl, h1, RDs.append h2 q⟩
theorem RDs.set : ∀ {ds : List D} {vs : List V} (i : Nat) {d : D} {v : V}, RDs K H T ds vs -> RD K H T d v -> RDs K H T (ds.set i d) (vs.set i v)
  | [], _, _, _, _, h, _ => by
    have h' : _ = [] := h
    subst h'
    exact rfl
  | d :: ds, _, 0, _, _, h, q => by
    obtain ⟨v, r, rfl, h1, h2⟩ := h
    exact ⟨_, r, rfl, q, h2⟩
  | d :: ds, _, i + 1, _, _, h, q => by
    obtain ⟨v, r, rfl, h1, h2⟩ := h
    exact ⟨v, _, rfl, h1, RDs.set i h2 q⟩
theorem RDs.of : ∀ {ds : List D} {vs : List V}, ds.length = vs.length -> (∀ (i : Nat) d v, ds[i]? = some d -> vs[i]? = some v -> RD K H T d v) -> RDs K H T ds vs
  | [], [], _, _ => rfl
  | [], _ :: _, h, _ => by cases h
  | _ :: _, [], h, _ => by cases h
  | d :: ds, v :: vs, h, q => ⟨v, vs, rfl, q 0 d v rfl rfl, RDs.of (by simpa using h) fun i a b e1 e2 => q (i + 1) a b (by simpa using e1) (by simpa using e2)⟩
theorem RDs.nil : RDs K H T [] [] := rfl
theorem RDs.cons {d : D} {v : V} {ds : List D} {vs : List V} (h : RD K H T d v) (q : RDs K H T ds vs) : RDs K H T (d :: ds) (v :: vs) := ⟨v, vs, rfl, h, q⟩
theorem RDs.take {ds : List D} {vs : List V} (n : Nat) (h : RDs K H T ds vs) : RDs K H T (ds.take n) (vs.take n) := by
  refine RDs.of (by rw [List.length_take, List.length_take, h.length]) fun i d v e1 e2 => ?_
  rw [List.getElem?_take] at e1 e2
  split at e1
  . rename_i c
    rw [if_pos c] at e2
    obtain ⟨u, q1, q2⟩ := h.get e1
    rw [q1] at e2
    cases e2
    exact q2
  . cases e1
theorem RDs.drop {ds : List D} {vs : List V} (n : Nat) (h : RDs K H T ds vs) : RDs K H T (ds.drop n) (vs.drop n) := by
  refine RDs.of (by rw [List.length_drop, List.length_drop, h.length]) fun i d v e1 e2 => ?_
  rw [List.getElem?_drop] at e1 e2
  obtain ⟨u, q1, q2⟩ := h.get e1
  rw [q1] at e2
  cases e2
  exact q2
def DObj (K : PySem.W.Frag) (H : Hp) (T : Td) (a : Addr) : DO -> Prop
  | .lst ds => ∃ vs, H a = some (.lst vs) /\ RDs K H T ds vs
  | .dct ks ds => ∃ vs, H a = some (.dK (ks.zip vs)) /\ ks.length = vs.length /\ RDs K H T ds vs
  | .ins C ns ds => ∃ dx vs, H a = some (.ins C dx (ns.zip vs)) /\ T dx = none /\ H dx = some (.own a) /\ ns.length = vs.length /\ RDs K H T ds vs
  | .slo C ds => ∃ dx vs, H a = some (SlX.SlO a C dx vs) /\ H dx = some (.xd []) /\ T dx = none /\ ds.length = vs.length /\ ∀ (i : Nat) d, ds[i]? = some (some d) -> ∃ v, vs[i]? = some (some v) /\ RD K H T d v
  | .tbl q => ∃ ps : Array Value, H a = some (.tbl ps) /\ TriplesOk ps.toList /\ ∀ (pos : Pos) (cv : Value), codeAmong pos ps.toList = some cv -> ∃ c, cv = .ref c /\ H c = some (LamX.CodeO c q) /\ T c = none
  | .raw o => H a = some o
def DOk (K : PySem.W.Frag) (H : Hp) (T : Td) : Prop := ∀ a o, T a = some o -> DObj K H T a o
theorem DObj.some {a : Addr} {o : DO} (h : DObj K H T a o) : ∃ u, H a = some u := by
  cases o with
  | lst ds => obtain ⟨_, h, _⟩ := h; exact ⟨_, h⟩
  | dct ks ds => obtain ⟨_, h, _⟩ := h; exact ⟨_, h⟩
  | ins C ns ds => obtain ⟨_, _, h, _⟩ := h; exact ⟨_, h⟩
  | slo C ds => obtain ⟨_, _, h, _⟩ := h; exact ⟨_, h⟩
  | tbl q => obtain ⟨ps, h, _⟩ := h; exact ⟨_, h⟩
  | raw o => exact ⟨_, h⟩
theorem DObj.mono (f : Fr H T H' T') {a : Addr} (e : H' a = H a) {o : DO} (h : DObj K H T a o) : DObj K H' T' a o := by
  cases o with
  | lst ds => obtain ⟨vs, h, r⟩ := h; exact ⟨vs, e.trans h, RDs.mono f ds r⟩
  | dct ks ds => obtain ⟨vs, h, l, r⟩ := h; exact ⟨vs, e.trans h, l, RDs.mono f ds r⟩
  | ins C ns ds => obtain ⟨dx, vs, h, t, w, l, r⟩ := h; exact ⟨dx, vs, e.trans h, (f dx _ w t).2, (f dx _ w t).1, l, RDs.mono f ds r⟩
  | slo C ds =>
    obtain ⟨dx, vs, h1, h2, t, l, r⟩ := h
    refine ⟨dx, vs, e.trans h1, (f dx _ h2 t).1, (f dx _ h2 t).2, l, fun i d q => ?_⟩
    obtain ⟨v, q1, q2⟩ := r i d q
    exact ⟨v, q1, RD.mono f d q2⟩
  | tbl q =>
    obtain ⟨ps, h, t, r⟩ := h
    refine ⟨ps, e.trans h, t, fun pos cv z => ?_⟩
    obtain ⟨c, e1, e2, e3⟩ := r pos cv z
    exact ⟨c, e1, f c _ e2 e3⟩
  | raw o => exact e.trans h
theorem DOk.fresh (h : DOk K H T) {a : Addr} (n : H a = none) : T a = none := by
  cases e : T a with
  | none => rfl
  | some o =>
    obtain ⟨u, q⟩ := (h a o e).some
    rw [n] at q
    cases q
theorem Fr.laid {p : Addr} {o : HO} (h : H p = none) (t : T p = none) : Fr H T (upd H p o) T := fun a u e n => by
  refine ⟨?_, n⟩
  rw [upd_ne (ne_of_none e h)]
  exact e
theorem DOk.laid (h : DOk K H T) {p : Addr} {o : HO} (n : H p = none) : DOk K (upd H p o) T := fun a u e => by
  refine (h a u e).mono (Fr.laid n (h.fresh n)) ?_
  exact upd_ne fun z => by rw [z, h.fresh n] at e; cases e
theorem Fr.laidT {p : Addr} {o : HO} {u : DO} (h : H p = none) : Fr H T (upd H p o) (tput T p u) := fun a w e n => by
  have z := ne_of_none e h
  exact ⟨by rw [upd_ne z]; exact e, by rw [tput_ne z]; exact n⟩
theorem DOk.laidT (h : DOk K H T) {p : Addr} {o : HO} {u : DO} (n : H p = none) (w : DObj K (upd H p o) (tput T p u) p u) : DOk K (upd H p o) (tput T p u) := fun a q e => by
  by_cases z : a = p
  . subst z
    rw [tput_same] at e
    cases e
    exact w
  . rw [tput_ne z] at e
    exact (h a q e).mono (Fr.laidT n) (upd_ne z)
theorem Fr.write {p : Addr} {o : HO} {u v : DO} (h : T p = some v) : Fr H T (upd H p o) (tput T p u) := fun a w e n => by
  have z : a ≠ p := fun z => by rw [z, h] at n; cases n
  exact ⟨by rw [upd_ne z]; exact e, by rw [tput_ne z]; exact n⟩
theorem DOk.write (h : DOk K H T) {p : Addr} {o : HO} {u v : DO} (e0 : T p = some v) (w : DObj K (upd H p o) (tput T p u) p u) : DOk K (upd H p o) (tput T p u) := fun a q e => by
  by_cases z : a = p
  . subst z
    rw [tput_same] at e
    cases e
    exact w
  . rw [tput_ne z] at e
    exact (h a q e).mono (Fr.write e0) (upd_ne z)
theorem Fr.free {p : Addr} : Fr H T H (tdel T p) := fun a w e n => by
  refine ⟨e, ?_⟩
  unfold tdel
  split
  . rfl
  . exact n
theorem DOk.free (h : DOk K H T) {p : Addr} : DOk K H (tdel T p) := fun a q e => by
  have z : a ≠ p := fun z => by rw [z, tdel_same] at e; cases e
  rw [tdel_ne z] at e
  exact (h a q e).mono Fr.free rfl
abbrev SD := List (Option D)
structure StOk (K : PySem.W.Frag) (H : Hp) (T : Td) (sd : SD) (σ : L2.St) : Prop where
  len : sd.length = σ.length
  at_ : ∀ (i : Nat) d, sd[i]? = some (some d) -> ∃ v, σ[i]? = some (some v) /\ RD K H T d v
theorem StOk.mono (f : Fr H T H' T') {sd : SD} {σ : L2.St} (h : StOk K H T sd σ) : StOk K H' T' sd σ :=
  ⟨h.len, fun i d e => let ⟨v, q, r⟩ := h.at_ i d e; ⟨v, q, RD.mono f d r⟩⟩
theorem StOk.set {sd : SD} {σ : L2.St} (h : StOk K H T sd σ) (i : Nat) {d : D} {v : V} (r : RD K H T d v) : StOk K H T (sd.set i (some d)) (σ.set i (some v)) := by
  refine ⟨by rw [List.length_set, List.length_set, h.len], fun j e q => ?_⟩
  by_cases hj : j = i
  . subst hj
    by_cases hl : j < sd.length
    . rw [List.getElem?_set_self hl] at q
      cases q
      exact ⟨v, List.getElem?_set_self (by rw [<- h.len]; exact hl), r⟩
    . rw [List.getElem?_eq_none (by simpa using hl)] at q
      cases q
  . rw [List.getElem?_set_ne (Ne.symm hj)] at q ⊢
    exact h.at_ j e q
theorem StOk.none {sd : SD} {σ : L2.St} (h : StOk K H T sd σ) (i : Nat) : StOk K H T (sd.set i none) (σ.set i none) := by
  refine ⟨by rw [List.length_set, List.length_set, h.len], fun j e q => ?_⟩
  by_cases hj : j = i
  . subst hj
    by_cases hl : j < sd.length
    . rw [List.getElem?_set_self hl] at q
      cases q
    . rw [List.getElem?_eq_none (by simpa using hl)] at q
      cases q
  . rw [List.getElem?_set_ne (Ne.symm hj)] at q ⊢
    exact h.at_ j e q
structure Ex where
  cls : Value
  ns : List Str
  xs : List D
def XR (K : PySem.W.Frag) (H : Hp) (T : Td) (x : Ex) (c : Value) (d : Option Addr) : Prop :=
  c = x.cls /\ ((d = none /\ x.ns = []) \/ ∃ dx vs, d = some dx /\ T dx = none /\ H dx = some (.xd (x.ns.zip vs)) /\ x.ns.length = vs.length /\ RDs K H T x.xs vs)
theorem XR.mono (f : Fr H T H' T') {x : Ex} {c : Value} {d : Option Addr} (h : XR K H T x c d) : XR K H' T' x c d := by
  obtain ⟨e, h⟩ := h
  refine ⟨e, h.elim .inl fun ⟨dx, vs, e1, t, e2, l, r⟩ => .inr ⟨dx, vs, e1, (f dx _ e2 t).2, (f dx _ e2 t).1, l, RDs.mono f _ r⟩⟩
abbrev KD := D -> Td -> Prop
abbrev XD := Ex -> Td -> Prop
abbrev TDE := SD -> Td -> KD -> XD -> Prop
abbrev TDT := SD -> Td -> (Bool -> Td -> Prop) -> XD -> Prop
abbrev TDA := SD -> Td -> (List D -> Td -> Prop) -> XD -> Prop
structure LE (K : PySem.W.Frag) (W : WX) (σ : L2.St) (H : Hp) (Q : VK) (sd : SD) (T : Td) (QD : KD) (ED : XD) : Prop where
  st : StOk K H T sd σ
  ok : DOk K H T
  q : ∀ x T' v H', QD x T' -> RD K H' T' x v -> DOk K H' T' -> Fr H T H' T' -> Q v H'
  x : ∀ ex T' c da H', ED ex T' -> XR K H' T' ex c da -> DOk K H' T' -> Fr H T H' T' -> W c da σ H'
structure LT (K : PySem.W.Frag) (W : WX) (σ : L2.St) (H : Hp) (Q : Bool -> Hp -> Prop) (sd : SD) (T : Td) (QD : Bool -> Td -> Prop) (ED : XD) : Prop where
  st : StOk K H T sd σ
  ok : DOk K H T
  q : ∀ x T' H', QD x T' -> DOk K H' T' -> Fr H T H' T' -> Q x H'
  x : ∀ ex T' c da H', ED ex T' -> XR K H' T' ex c da -> DOk K H' T' -> Fr H T H' T' -> W c da σ H'
structure LA (K : PySem.W.Frag) (W : WX) (σ : L2.St) (H : Hp) (Q : List V -> Hp -> Prop) (sd : SD) (T : Td) (QD : List D -> Td -> Prop) (ED : XD) : Prop where
  st : StOk K H T sd σ
  ok : DOk K H T
  q : ∀ x T' v H', QD x T' -> RDs K H' T' x v -> DOk K H' T' -> Fr H T H' T' -> Q v H'
  x : ∀ ex T' c da H', ED ex T' -> XR K H' T' ex c da -> DOk K H' T' -> Fr H T H' T' -> W c da σ H'
def liftE (K : PySem.W.Frag) (W : WX) (d : TDE) : TE := fun σ H Q => ∃ sd T QD ED, LE K W σ H Q sd T QD ED /\ d sd T QD ED
def liftT (K : PySem.W.Frag) (W : WX) (d : TDT) : TT := fun σ H Q => ∃ sd T QD ED, LT K W σ H Q sd T QD ED /\ d sd T QD ED
def liftA (K : PySem.W.Frag) (W : WX) (d : TDA) : TA := fun σ H Q => ∃ sd T QD ED, LA K W σ H Q sd T QD ED /\ d sd T QD ED
end
structure DEnds where
  nx : SD -> Td -> Prop
  rt : KD
  bk : SD -> Td -> Prop := fun _ _ => False
  ct : SD -> Td -> Prop := fun _ _ => False
  xe : Ex -> SD -> Td -> Prop
abbrev TDS := DEnds -> SD -> Td -> Prop
structure LS (K : PySem.W.Frag) (W : WX) (De : Ends) (DD : DEnds) (H : Hp) (T : Td) : Prop where
  nx : ∀ sd' T' σ' H', DD.nx sd' T' -> StOk K H' T' sd' σ' -> DOk K H' T' -> Fr H T H' T' -> De.nx σ' H'
  rt : ∀ x T' v H', DD.rt x T' -> RD K H' T' x v -> DOk K H' T' -> Fr H T H' T' -> De.rt v H'
  bk : ∀ sd' T' σ' H', DD.bk sd' T' -> StOk K H' T' sd' σ' -> DOk K H' T' -> Fr H T H' T' -> De.bk σ' H'
  ct : ∀ sd' T' σ' H', DD.ct sd' T' -> StOk K H' T' sd' σ' -> DOk K H' T' -> Fr H T H' T' -> De.ct σ' H'
  xe : ∀ ex sd' T' c da σ' H', DD.xe ex sd' T' -> XR K H' T' ex c da -> StOk K H' T' sd' σ' -> DOk K H' T' -> Fr H T H' T' -> W c da σ' H'
def liftS (K : PySem.W.Frag) (W : WX) (d : TDS) : TS := fun De σ H => ∃ sd T DD, StOk K H T sd σ /\ DOk K H T /\ LS K W De DD H T /\ d DD sd T
section
variable {K : PySem.W.Frag} {W : WX} {σ : L2.St} {H H1 : Hp} {sd : SD} {T T1 : Td} {ED : XD}
theorem LE.go {Q : VK} {QD : KD} (L : LE K W σ H Q sd T QD ED) (o : DOk K H1 T1) (f : Fr H T H1 T1) : LE K W σ H1 Q sd T1 QD ED :=
  ⟨L.st.mono f, o, fun x T' v H' a b c d => L.q x T' v H' a b c (f.trans d), fun ex T' c da H' a b o d => L.x ex T' c da H' a b o (f.trans d)⟩
theorem LT.go {Q : Bool -> Hp -> Prop} {QD : Bool -> Td -> Prop} (L : LT K W σ H Q sd T QD ED) (o : DOk K H1 T1) (f : Fr H T H1 T1) : LT K W σ H1 Q sd T1 QD ED :=
  ⟨L.st.mono f, o, fun x T' H' a c d => L.q x T' H' a c (f.trans d), fun ex T' c da H' a b o d => L.x ex T' c da H' a b o (f.trans d)⟩
theorem LS.go {De : Ends} {DD : DEnds} (L : LS K W De DD H T) (f : Fr H T H1 T1) : LS K W De DD H1 T1 :=
  ⟨fun a b c d e g h i => L.nx a b c d e g h (f.trans i), fun a b c d e g h i => L.rt a b c d e g h (f.trans i), fun a b c d e g h i => L.bk a b c d e g h (f.trans i), fun a b c d e g h i => L.ct a b c d e g h (f.trans i),
    fun a b c d e g h i j k l m => L.xe a b c d e g h i j k l (f.trans m)⟩
end
def DE (X : Cx) (W : WX) (e : Expr) (d : TDE) : Prop := PE X e (liftE X.K W d)
def DT (X : Cx) (W : WX) (e : Expr) (d : TDT) : Prop := PT X e (liftT X.K W d)
def DWh (X : Cx) (W : WX) (e : Expr) (d : TDT) : Prop := PW X e (liftT X.K W d)
def DA (X : Cx) (W : WX) (es : List Expr) (d : TDA) : Prop := PA X es (liftA X.K W d)
def DS (X : Cx) (W : WX) (st : Stmt) (d : TDS) : Prop := PS X st (liftS X.K W d)
def DSs (X : Cx) (W : WX) (st : List Stmt) (d : TDS) : Prop := PSs X st (liftS X.K W d)
theorem _root_.L2.PE.imp {X : Cx} {e : Expr} {t t' : TE} (h : PE X e t) (i : ∀ σ H Q, t' σ H Q -> t σ H Q) : PE X e t' := ⟨fun pins s σ H Q I q => h.run pins s σ H Q I (i σ H Q q)⟩
theorem _root_.L2.PT.imp {X : Cx} {e : Expr} {t t' : TT} (h : PT X e t) (i : ∀ σ H Q, t' σ H Q -> t σ H Q) : PT X e t' := ⟨fun pins s σ H Q I q => h.run pins s σ H Q I (i σ H Q q)⟩
theorem _root_.L2.PW.imp {X : Cx} {e : Expr} {t t' : TT} (h : PW X e t) (i : ∀ σ H Q, t' σ H Q -> t σ H Q) : PW X e t' := ⟨fun w pins s σ H Q I q => h.run w pins s σ H Q I (i σ H Q q)⟩
theorem _root_.L2.PA.imp {X : Cx} {e : List Expr} {t t' : TA} (h : PA X e t) (i : ∀ σ H Q, t' σ H Q -> t σ H Q) : PA X e t' := ⟨fun pos pins s σ H Q I q => h.run pos pins s σ H Q I (i σ H Q q)⟩
theorem _root_.L2.PS.imp {X : Cx} {e : Stmt} {t t' : TS} (h : PS X e t) (i : ∀ D σ H, t' D σ H -> t D σ H) : PS X e t' := ⟨fun pins s σ H Q I q => h.run pins s σ H Q I (i Q σ H q)⟩
theorem _root_.L2.PSs.imp {X : Cx} {e : List Stmt} {t t' : TS} (h : PSs X e t) (i : ∀ D σ H, t' D σ H -> t D σ H) : PSs X e t' := ⟨fun pins s σ H Q I q => h.run pins s σ H Q I (i Q σ H q)⟩
end DL
namespace DL
open PySem PySem.Spec PyProof.Rows L2
section
variable {X : Cx} {W : WX} {pins : List (Addr × Obj)} {s : Shared} {σ : L2.St} {H : Hp} {sd : SD} {T : Td} {ED : XD}
structure Bh (X : Cx) (pins : List (Addr × Obj)) (σ : L2.St) (H : Hp) (T : Td) (kD : KD) (v : Value) (s1 : Shared) (x : D) (vx : V) (H1 : Hp) (T1 : Td) : Prop where
  I : Inv X pins σ H1 s1
  rd : RD X.K H1 T1 x vx
  rv : RelV vx v
  ok : DOk X.K H1 T1
  fr : Fr H T H1 T1
  k : kD x T1
abbrev EXok (X : Cx) (W : WX) (σ : L2.St) (H : Hp) (T : Td) (ED : XD) : Prop := ∀ ex T' c da H', ED ex T' -> XR X.K H' T' ex c da -> DOk X.K H' T' -> Fr H T H' T' -> W c da σ H'
theorem EXok.go {H1 : Hp} {T1 : Td} (h : EXok X W σ H T ED) (f : Fr H T H1 T1) : EXok X W σ H1 T1 ED := fun a b c d e g h' i j => h a b c d e g h' i (f.trans j)
theorem DE.one {a : Expr} {ta : TDE} {kD : KD} (ha : DE X W a ta) (I : Inv X pins σ H s) (st : StOk X.K H T sd σ) (ok : DOk X.K H T) (hx : EXok X W σ H T ED) (h : ta sd T kD ED) :
    wpAny (model X.prog X.w) X.A (eval a X.env) (fun v s1 => ∃ x vx H1 T1, Bh X pins σ H T kD v s1 x vx H1 T1) X.xe s := by
  refine thn (PE.run ha pins s σ H (fun vx H1 => ∃ x T1, RD X.K H1 T1 x vx /\ DOk X.K H1 T1 /\ Fr H T H1 T1 /\ kD x T1) I ⟨sd, T, kD, ED, ⟨st, ok, fun x T1 v H1 a b c d => ⟨x, T1, b, c, d, a⟩, hx⟩, h⟩) ?_
  rintro v s1 ⟨vx, H1, I1, r, x, T1, b, c, d, a⟩
  exact ⟨x, vx, H1, T1, I1, b, r, c, d, a⟩
structure Bhs (X : Cx) (pins : List (Addr × Obj)) (σ : L2.St) (H : Hp) (T : Td) (kD : List D -> Td -> Prop) (us : List Value) (s1 : Shared) (xs : List D) (vs : List V) (H1 : Hp) (T1 : Td) : Prop where
  I : Inv X pins σ H1 s1
  rd : RDs X.K H1 T1 xs vs
  rv : Vals vs us
  ok : DOk X.K H1 T1
  fr : Fr H T H1 T1
  k : kD xs T1
theorem DA.one {es : List Expr} {ta : TDA} {kD : List D -> Td -> Prop} (ha : DA X W es ta) (I : Inv X pins σ H s) (st : StOk X.K H T sd σ) (ok : DOk X.K H T) (hx : EXok X W σ H T ED) (h : ta sd T kD ED) (pos : Pos) :
    wpAny (model X.prog X.w) X.A (spliced (backTo pos (starEach es X.env))) (fun us s1 => ∃ xs vs H1 T1, Bhs X pins σ H T kD us s1 xs vs H1 T1) X.xe s := by
  refine thn (PA.run ha pos pins s σ H (fun vs H1 => ∃ xs T1, RDs X.K H1 T1 xs vs /\ DOk X.K H1 T1 /\ Fr H T H1 T1 /\ kD xs T1) I ⟨sd, T, kD, ED, ⟨st, ok, fun x T1 v H1 a b c d => ⟨x, T1, b, c, d, a⟩, hx⟩, h⟩) ?_
  rintro v s1 ⟨vx, H1, I1, r, x, T1, b, c, d, a⟩
  exact ⟨x, vx, H1, T1, I1, b, r, c, d, a⟩
theorem DE.mk {e : Expr} {d : TDE} (h : ∀ pins s σ H Q sd T QD ED, Inv X pins σ H s -> LE X.K W σ H Q sd T QD ED -> d sd T QD ED -> wpAny (model X.prog X.w) X.A (eval e X.env) (EP X pins σ Q) X.xe s) : DE X W e d :=
  ⟨fun pins s σ H Q I ⟨sd, T, QD, ED, L, q⟩ => h pins s σ H Q sd T QD ED I L q⟩
theorem DT.mk {e : Expr} {d : TDT} (h : ∀ pins s σ H Q sd T QD ED, Inv X pins σ H s -> LT X.K W σ H Q sd T QD ED -> d sd T QD ED -> wpAny (model X.prog X.w) X.A (isTrue e X.env (eval e X.env)) (TP X pins σ Q) X.xe s) : DT X W e d :=
  ⟨fun pins s σ H Q I ⟨sd, T, QD, ED, L, q⟩ => h pins s σ H Q sd T QD ED I L q⟩
theorem DS.mk {e : Stmt} {d : TDS} (h : ∀ pins s σ H De sd T DD, Inv X pins σ H s -> StOk X.K H T sd σ -> DOk X.K H T -> LS X.K W De DD H T -> d DD sd T -> wpAny (model X.prog X.w) X.A (exec e X.env) (SP X pins De) X.xe s) : DS X W e d :=
  ⟨fun pins s σ H De I ⟨sd, T, DD, st, ok, L, q⟩ => h pins s σ H De sd T DD I st ok L q⟩
theorem LE.ep {Q : VK} {QD : KD} (L : LE X.K W σ H Q sd T QD ED) {x : D} {vx : V} {v : Value} {H1 : Hp} {T1 : Td} {s1 : Shared} (I : Inv X pins σ H1 s1) (r : RD X.K H1 T1 x vx) (rv : RelV vx v) (o : DOk X.K H1 T1) (f : Fr H T H1 T1) (q : QD x T1) : EP X pins σ Q v s1 :=
  ⟨vx, H1, I, rv, L.q x T1 vx H1 q r o f⟩
theorem LE.here {Q : VK} {QD : KD} (L : LE X.K W σ H Q sd T QD ED) {x : D} {vx : V} {v : Value} {s1 : Shared} (I : Inv X pins σ H s1) (r : RD X.K H T x vx) (rv : RelV vx v) (q : QD x T) : EP X pins σ Q v s1 := L.ep I r rv L.ok Fr.refl q
theorem LT.tp {Q : Bool -> Hp -> Prop} {QD : Bool -> Td -> Prop} (L : LT X.K W σ H Q sd T QD ED) {b : Bool} {H1 : Hp} {T1 : Td} {s1 : Shared} (I : Inv X pins σ H1 s1) (o : DOk X.K H1 T1) (f : Fr H T H1 T1) (q : QD b T1) : TP X pins σ Q b s1 :=
  ⟨H1, I, L.q b T1 H1 q o f⟩
theorem LS.exok {De : Ends} {DD : DEnds} (L : LS X.K W De DD H T) (st : StOk X.K H T sd σ) : EXok X W σ H T (fun ex T' => DD.xe ex sd T') := fun ex T' c da H' a b o f => L.xe ex sd T' c da σ H' a b (st.mono f) o f
end
section
variable {X : Cx} {W : WX} {pos : Pos}
def dVar (i : Nat) : TDE := fun sd T Q _ => match sd[i]? with
  | some (some d) => Q d T
  | _ => False
theorem de_var {i : Nat} {x : Str} (hN : X.N[i]? = some x) (hv : Vis X.env.scope x) (hd : (x == ("__debug__" : Str)) = false := by decide) (hcd : (x == ("__classdict__" : Str)) = false := by decide) : DE X W (.Name x pos) (dVar i) := by
  refine PE.imp (pe_var hN hv hd hcd) ?_
  rintro σ H Q ⟨sd, T, QD, ED, L, h⟩
  unfold dVar at h
  split at h
  . rename_i d e
    obtain ⟨v, q, r⟩ := L.st.at_ i d e
    exact ⟨v, q, L.q d T v H h r L.ok Fr.refl⟩
  . exact h.elim
def dC (d : D) : TDE := fun _ T Q _ => Q d T
theorem de_c {e : Expr} {v : V} {d : D} (h : PE X e (tC v)) (r : ∀ H T, RD X.K H T d v) : DE X W e (dC d) := PE.imp h fun σ H Q ⟨sd, T, QD, ED, L, q⟩ => L.q d T v H q (r H T) L.ok Fr.refl
theorem de_int {i j} : DE X W (.Constant (.int i) j pos) (dC (.int i)) := de_c pe_int fun _ _ => rfl
theorem de_bl {b j} : DE X W (.Constant (.bool b) j pos) (dC (.bl b)) := de_c pe_bl fun _ _ => rfl
theorem de_non {j} : DE X W (.Constant .none j pos) (dC .non) := de_c pe_non fun _ _ => rfl
theorem de_str {x j} : DE X W (.Constant (.str x) j pos) (dC (.str x)) := de_c pe_str fun _ _ => rfl
end
abbrev R1D := D -> Td -> KD -> XD -> Prop
abbrev R2D := D -> D -> Td -> KD -> XD -> Prop
def UnD (X : Cx) (W : WX) (f : Value -> Sem Value) (r : R1D) : Prop :=
  ∀ pins s σ H Q sd T QD ED (x : D) (vx : V) (v : Value), Inv X pins σ H s -> LE X.K W σ H Q sd T QD ED -> RD X.K H T x vx -> RelV vx v -> r x T QD ED -> wpAny (model X.prog X.w) X.A (f v) (EP X pins σ Q) X.xe s
def OpD (X : Cx) (W : WX) (f : Value -> Value -> Sem Value) (r : R2D) : Prop :=
  ∀ pins s σ H Q sd T QD ED (x y : D) (vx vy : V) (v u : Value), Inv X pins σ H s -> LE X.K W σ H Q sd T QD ED -> RD X.K H T x vx -> RelV vx v -> RD X.K H T y vy -> RelV vy u -> r x y T QD ED ->
    wpAny (model X.prog X.w) X.A (f v u) (EP X pins σ Q) X.xe s
theorem OpD.of {X : Cx} {W : WX} {f : Value -> Value -> Sem Value} {r0 : R2} {r : R2D} (h : OpR X f r0)
    (i : ∀ σ H Q sd T QD ED x y vx vy, LE X.K W σ H Q sd T QD ED -> RD X.K H T x vx -> RD X.K H T y vy -> r x y T QD ED -> r0 vx vy H Q) : OpD X W f r :=
  fun pins s σ H Q sd T QD ED x y vx vy v u I L r1 r2 r3 r4 q => h pins s σ H vx vy v u Q I r2 r4 (i σ H Q sd T QD ED x y vx vy L r1 r3 q)
theorem UnD.of {X : Cx} {W : WX} {f : Value -> Sem Value} {r0 : V -> Hp -> VK -> Prop} {r : R1D} (h : UnR X f r0)
    (i : ∀ σ H Q sd T QD ED x vx, LE X.K W σ H Q sd T QD ED -> RD X.K H T x vx -> r x T QD ED -> r0 vx H Q) : UnD X W f r :=
  fun pins s σ H Q sd T QD ED x vx v I L r1 r2 q => h pins s σ H vx v Q I r2 (i σ H Q sd T QD ED x vx L r1 q)
structure O1 (r : R1D) (x : D) (T : Td) (Q : KD) (E : XD) : Prop where
  h : r x T Q E
structure O2 (r : R2D) (x y : D) (T : Td) (Q : KD) (E : XD) : Prop where
  h : r x y T Q E
def dUn (r : R1D) (ta : TDE) : TDE := fun sd T Q E => ta sd T (fun x T1 => O1 r x T1 Q E) E
def dBin (r : R2D) (ta tb : TDE) : TDE := fun sd T Q E => ta sd T (fun x T1 => tb sd T1 (fun y T2 => O2 r x y T2 Q E) E) E
section
variable {X : Cx} {W : WX} {a b c : Expr} {ta tb tc : TDE} {pos : Pos} {r r' : R2D}
theorem DE.two (ha : DE X W a ta) (hb : DE X W b tb) {pins : List (Addr × Obj)} {s : Shared} {σ : L2.St} {H : Hp} {Q : VK} {sd : SD} {T : Td} {QD : KD} {ED : XD} {k : D -> D -> Td -> Prop} (I : Inv X pins σ H s) (L : LE X.K W σ H Q sd T QD ED)
    (h : ta sd T (fun x T1 => tb sd T1 (fun y T2 => k x y T2) ED) ED) {P : Value -> Shared -> Prop} {f : Value -> Value -> Sem Value}
    (hf : ∀ x y vx vy v u s2 H2 T2, Inv X pins σ H2 s2 -> LE X.K W σ H2 Q sd T2 QD ED -> RD X.K H2 T2 x vx -> RelV vx v -> RD X.K H2 T2 y vy -> RelV vy u -> k x y T2 -> wpAny (model X.prog X.w) X.A (f v u) P X.xe s2) :
    wpAny (model X.prog X.w) X.A (eval a X.env) (fun v s₁ => wpAny (model X.prog X.w) X.A (eval b X.env) (fun u s₂ => wpAny (model X.prog X.w) X.A (f v u) P X.xe s₂) X.xe s₁) X.xe s := by
  refine thn (ha.one I L.st L.ok L.x h) ?_
  rintro v s1 ⟨x, vx, H1, T1, B⟩
  refine thn (hb.one B.I (L.st.mono B.fr) B.ok (EXok.go L.x B.fr) B.k) ?_
  rintro u s2 ⟨y, vy, H2, T2, C⟩
  exact hf x y vx vy v u s2 H2 T2 C.I (L.go C.ok (B.fr.trans C.fr)) (RD.mono C.fr x B.rd) B.rv C.rd C.rv C.k
theorem de_op {op : Operator} (ho : OpD X W (binaryOp op) r) (ha : DE X W a ta) (hb : DE X W b tb) : DE X W (.BinOp a op b pos) (dBin r ta tb) :=
  DE.mk fun pins s σ H Q sd T QD ED I L h => wpAny_BinOp (ha.two hb I L h fun x y vx vy v u s2 H2 T2 I2 L2 r1 r2 r3 r4 q => ho pins s2 σ H2 Q sd T2 QD ED x y vx vy v u I2 L2 r1 r2 r3 r4 q.h)
theorem de_un {op : UnaryOp} {r : R1D} (ho : UnD X W (unaryOp op) r) (ha : DE X W a ta) : DE X W (.UnaryOp op a pos) (dUn r ta) :=
  DE.mk fun pins s σ H Q sd T QD ED I L h => UnaryOp_ (thn (ha.one I L.st L.ok L.x h) fun v s1 ⟨x, vx, H1, T1, B⟩ => ho pins s1 σ H1 Q sd T1 QD ED x vx v B.I (L.go B.ok B.fr) B.rd B.rv B.k.h)
theorem de_cmp {op : CmpOp} (ho : OpD X W (compareOp op) r) (ha : DE X W a ta) (hb : DE X W b tb) (hm : behindInMarks op b = false) : DE X W (.Compare a [op] [b] pos) (dBin r ta tb) :=
  DE.mk fun pins s σ H Q sd T QD ED I L h => wpAny_Compare1 (ha.two hb I L h fun x y vx vy v u s2 H2 T2 I2 L2 r1 r2 r3 r4 q => ho pins s2 σ H2 Q sd T2 QD ED x y vx vy v u I2 L2 r1 r2 r3 r4 q.h) hm
def dTst (t : TDE) : TDT := fun sd T Q E => t sd T (fun x T1 => match x with | .bl b => Q b T1 | _ => False) E
theorem dt_val {e : Expr} {t : TDE} (h : DE X W e t) (he : ∀ whole, isTrue e X.env whole = (do let v <- whole; standAt e.pos; holding [v] (truthy v)) := by intro _; rfl) : DT X W e (dTst t) :=
  DT.mk fun pins s σ H Q sd T QD ED I L q => isTrue_plain (thn (h.one I L.st L.ok L.x q) fun v s1 ⟨x, vx, H1, T1, B⟩ => by
    obtain ⟨I1, rd, rv, ok, fr, k⟩ := B
    cases x <;> try exact k.elim
    rename_i b
    have rd' : vx = .bl b := rd
    subst rd'
    obtain rfl : v = Value.bool b := rv
    exact wpAny_truthy_bool (L.tp I1 ok fr k)) (he _)
theorem dt_cmp {op : CmpOp} (ho : OpD X W (compareOp op) r) (ha : DE X W a ta) (hb : DE X W b tb) (hm : behindInMarks op b = false) : DT X W (.Compare a [op] [b] pos) (dTst (dBin r ta tb)) :=
  DT.mk fun pins s σ H Q sd T QD ED I L h => by
    have key : ∀ (x : D) (v : Value) (vx : V) H1 T1 s1, Inv X pins σ H1 s1 -> RD X.K H1 T1 x vx -> RelV vx v -> DOk X.K H1 T1 -> Fr H T H1 T1 -> (match x with | .bl b => QD b T1 | _ => False) -> wpAny (model X.prog X.w) X.A (truthy v) (TP X pins σ Q) X.xe s1 := by
      intro x v vx H1 T1 s1 I1 rd rv ok fr k
      cases x <;> try exact k.elim
      rename_i b
      have rd' : vx = .bl b := rd
      subst rd'
      obtain rfl : v = Value.bool b := rv
      exact wpAny_truthy_bool (L.tp I1 ok fr k)
    refine wpAny_isTrue_Compare1 (ha.two hb (Q := fun vx H1 => ∃ x T1, RD X.K H1 T1 x vx /\ DOk X.K H1 T1 /\ Fr H T H1 T1 /\ (match x with | .bl b => QD b T1 | _ => False)) (QD := fun x T1 => match x with | .bl b => QD b T1 | _ => False) I
      ⟨L.st, L.ok, fun x T1 v H1 a b c d => ⟨x, T1, b, c, d, a⟩, L.x⟩ h fun x y vx vy v u s2 H2 T2 I2 L2 r1 r2 r3 r4 q => ?_) hm
    refine thn (ho pins s2 σ H2 _ sd T2 _ ED x y vx vy v u I2 L2 r1 r2 r3 r4 q.h) ?_
    rintro c s3 ⟨vc, H3, I3, r3, x3, T3, b, c3, d, a⟩
    exact key x3 c vc H3 T3 s3 I3 b r3 c3 d a
def dChain (r r' : R2D) (ta tb tc : TDE) : TDE := fun sd T Q E => ta sd T (fun x T1 => tb sd T1 (fun y T2 => O2 r x y T2 (fun z T3 => match z with
  | .bl true => tc sd T3 (fun w T4 => O2 r' y w T4 Q E) E
  | .bl false => Q (.bl false) T3
  | _ => False) E) E) E
end
section
variable {X : Cx} {W : WX} {a b : Expr} {tA tB : TDT} {ta tb : TDE} {rest : List Expr} {pos : Pos}
inductive IfP (c : Bool) (A B : Prop) : Prop where
  | t (h : c = true) (a : A) : IfP c A B
  | f (h : c = false) (b : B) : IfP c A B
theorem IfP.yes {c : Bool} {A B : Prop} (h : IfP c A B) (z : c = true) : A := by
  cases h with
  | t _ a => exact a
  | f h _ => rw [h] at z; cases z
theorem IfP.no {c : Bool} {A B : Prop} (h : IfP c A B) (z : ¬ c = true) : B := by
  cases h with
  | t h _ => exact absurd h z
  | f _ b => exact b
theorem IfP.by {c : Bool} {A B : Prop} (h1 : c = true -> A) (h2 : c = false -> B) : IfP c A B := by
  cases c
  . exact .f rfl (h2 rfl)
  . exact .t rfl (h1 rfl)
def dOr (t u : TDT) : TDT := fun sd T Q E => t sd T (fun c T1 => IfP c (Q true T1) (u sd T1 Q E)) E
def dNot (t : TDT) : TDT := fun sd T Q E => t sd T (fun c T1 => Q (!c) T1) E
theorem DWh.dt (h : DWh X W a tA) : DT X W a tA := PW.pt h
theorem dw_or1 (ha : DT X W a tA) : DWh X W (.BoolOp .Or [a] pos) tA := pw_or1 ha
theorem dw_or (ha : DT X W a tA) (hb : DWh X W (.BoolOp .Or (b :: rest) pos) tB) : DWh X W (.BoolOp .Or (a :: b :: rest) pos) (dOr tA tB) :=
  PW.imp (pw_or ha hb) fun σ H Q ⟨sd, T, QD, ED, L, q⟩ => ⟨sd, T, _, ED, ⟨L.st, L.ok, fun c T1 H1 k o f => by
    by_cases z : c = true
    . rw [if_pos z]
      replace k := k.yes z
      exact L.q _ _ _ k o f
    . rw [if_neg z]
      replace k := k.no z
      exact ⟨sd, T1, QD, ED, L.go o f, k⟩, L.x⟩, q⟩
theorem dt_not (ha : DT X W a tA) : DT X W (.UnaryOp .Not a pos) (dNot tA) :=
  PT.imp (pt_not ha) fun σ H Q ⟨sd, T, QD, ED, L, q⟩ => ⟨sd, T, _, ED, ⟨L.st, L.ok, fun c T1 H1 k o f => L.q _ _ _ k o f, L.x⟩, q⟩
def dAndV (ta tb : TDE) : TDE := fun sd T Q E => ta sd T (fun x T1 => match x with
  | .bl true => tb sd T1 Q E
  | .bl false => Q (.bl false) T1
  | _ => False) E
def dOrV (ta tb : TDE) : TDE := fun sd T Q E => ta sd T (fun x T1 => match x with
  | .bl true => Q (.bl true) T1
  | .bl false => tb sd T1 Q E
  | _ => False) E
def dNotV (ta : TDE) : TDE := fun sd T Q E => ta sd T (fun x T1 => match x with
  | .bl b => Q (.bl (!b)) T1
  | _ => False) E
theorem de_one {op} (ha : DE X W a ta) : DE X W (.BoolOp op [a] pos) ta := pe_one ha
theorem de_and (ha : DE X W a ta) (hb : DE X W (.BoolOp .And (b :: rest) pos) tb) : DE X W (.BoolOp .And (a :: b :: rest) pos) (dAndV ta tb) :=
  PE.imp (pe_and ha hb) fun σ H Q ⟨sd, T, QD, ED, L, q⟩ => ⟨sd, T, _, ED, ⟨L.st, L.ok, fun x T1 v H1 k r o f => by
    cases x <;> try exact k.elim
    rename_i c
    refine ⟨c, r, ?_⟩
    cases c with
    | true => exact ⟨sd, T1, QD, ED, L.go o f, k⟩
    | false => exact L.q (.bl false) _ _ _ k rfl o f, L.x⟩, q⟩
theorem de_or (ha : DE X W a ta) (hb : DE X W (.BoolOp .Or (b :: rest) pos) tb) : DE X W (.BoolOp .Or (a :: b :: rest) pos) (dOrV ta tb) :=
  PE.imp (pe_or ha hb) fun σ H Q ⟨sd, T, QD, ED, L, q⟩ => ⟨sd, T, _, ED, ⟨L.st, L.ok, fun x T1 v H1 k r o f => by
    cases x <;> try exact k.elim
    rename_i c
    refine ⟨c, r, ?_⟩
    cases c with
    | true => exact L.q (.bl true) _ _ _ k rfl o f
    | false => exact ⟨sd, T1, QD, ED, L.go o f, k⟩, L.x⟩, q⟩
theorem de_not (ha : DE X W a ta) : DE X W (.UnaryOp .Not a pos) (dNotV ta) :=
  PE.imp (pe_not ha) fun σ H Q ⟨sd, T, QD, ED, L, q⟩ => ⟨sd, T, _, ED, ⟨L.st, L.ok, fun x T1 v H1 k r o f => by
    cases x <;> try exact k.elim
    rename_i c
    exact ⟨c, r, L.q (.bl (!c)) _ _ _ k rfl o f⟩, L.x⟩, q⟩
def dIf (t : TDT) (ta tb : TDE) : TDE := fun sd T Q E => t sd T (fun c T1 => IfP c (ta sd T1 Q E) (tb sd T1 Q E)) E
theorem de_ifExp {c : Expr} (hc : DT X W c tA) (ha : DE X W a ta) (hb : DE X W b tb) : DE X W (.IfExp c a b pos) (dIf tA ta tb) :=
  PE.imp (pe_ifExp hc ha hb) fun σ H Q ⟨sd, T, QD, ED, L, q⟩ => ⟨sd, T, _, ED, ⟨L.st, L.ok, fun c T1 H1 k o f => by
    by_cases z : c = true
    . rw [if_pos z]
      replace k := k.yes z
      exact ⟨sd, T1, QD, ED, L.go o f, k⟩
    . rw [if_neg z]
      replace k := k.no z
      exact ⟨sd, T1, QD, ED, L.go o f, k⟩, L.x⟩, q⟩
end
section
variable {X : Cx} {W : WX} {e : Expr} {es : List Expr} {te : TDE} {t : TDA} {pos : Pos}
def dNil : TDA := fun _ T Q _ => Q [] T
def dCons (ta : TDE) (tr : TDA) : TDA := fun sd T Q E => ta sd T (fun x T1 => tr sd T1 (fun xs T2 => Q (x :: xs) T2) E) E
theorem da_nil : DA X W [] dNil := PA.imp pa_nil fun σ H Q ⟨sd, T, QD, ED, L, q⟩ => L.q [] T [] H q rfl L.ok Fr.refl
theorem da_cons (ha : DE X W e te) (hr : DA X W es t) (hs : starEach (e :: es) X.env = (false, eval e X.env) :: starEach es X.env := by rfl) : DA X W (e :: es) (dCons te t) :=
  PA.imp (pa_cons ha hr hs) fun σ H Q ⟨sd, T, QD, ED, L, q⟩ => ⟨sd, T, _, ED, ⟨L.st, L.ok, fun x T1 v H1 k r o f => ⟨sd, T1, _, ED, ⟨L.st.mono f, o, fun xs T2 vs H2 k2 r2 o2 f2 =>
    L.q (x :: xs) T2 (v :: vs) H2 k2 (RDs.cons (RD.mono f2 x r) r2) o2 (f.trans f2), EXok.go L.x f⟩, k⟩, L.x⟩, q⟩
def dTup (t : TDA) : TDE := fun sd T Q E => t sd T (fun xs T1 => xs.length <= sizeLine /\ Q (.tup xs) T1) E
theorem de_tup {x1} (h : DA X W es t) : DE X W (.Tuple es x1 pos) (dTup t) :=
  PE.imp (pe_tup h) fun σ H Q ⟨sd, T, QD, ED, L, q⟩ => ⟨sd, T, _, ED, ⟨L.st, L.ok, fun xs T1 vs H1 k r o f => ⟨by rw [<- r.length]; exact k.1, fun p hp =>
    L.q (.tup xs) T1 (.ref p) _ k.2 ⟨p, vs, rfl, .inl ⟨o.fresh hp, .inl upd_same⟩, RDs.mono (Fr.laid hp (o.fresh hp)) xs r⟩ (o.laid hp) (f.trans (Fr.laid hp (o.fresh hp)))⟩, L.x⟩, q⟩
def dLst (t : TDA) : TDE := fun sd T Q E => t sd T (fun xs T1 => xs.length <= sizeLine /\ Q (.lst xs) T1) E
theorem de_lst (h : DA X W es t) : DE X W (.List es pos) (dLst t) :=
  PE.imp (pe_lst h) fun σ H Q ⟨sd, T, QD, ED, L, q⟩ => ⟨sd, T, _, ED, ⟨L.st, L.ok, fun xs T1 vs H1 k r o f => ⟨by rw [<- r.length]; exact k.1, fun p hp =>
    L.q (.lst xs) T1 (.ref p) _ k.2 ⟨p, vs, rfl, .inl ⟨o.fresh hp, .inl upd_same⟩, RDs.mono (Fr.laid hp (o.fresh hp)) xs r⟩ (o.laid hp) (f.trans (Fr.laid hp (o.fresh hp)))⟩, L.x⟩, q⟩
def dLstM (t : TDA) : TDE := fun sd T Q E => t sd T (fun xs T1 => xs.length <= sizeLine /\ ∀ p, T1 p = none -> Q (.ref p) (tput T1 p (.lst xs))) E
theorem de_lstM (h : DA X W es t) : DE X W (.List es pos) (dLstM t) :=
  PE.imp (pe_lst h) fun σ H Q ⟨sd, T, QD, ED, L, q⟩ => ⟨sd, T, _, ED, ⟨L.st, L.ok, fun xs T1 vs H1 k r o f => ⟨by rw [<- r.length]; exact k.1, fun p hp =>
    L.q (.ref p) _ (.ref p) _ (k.2 p (o.fresh hp)) rfl (o.laidT hp (show DObj X.K _ _ p (.lst xs) from ⟨vs, upd_same, RDs.mono (Fr.laidT hp) xs r⟩)) (f.trans (Fr.laidT hp))⟩, L.x⟩, q⟩
end
section
variable {X : Cx} {W : WX} {st : Stmt} {rest : List Stmt} {t u : TDS} {e : Expr} {te : TDE} {pos : Pos}
def dNext : TDS := fun D sd T => D.nx sd T
def dSeq (t u : TDS) : TDS := fun D sd T => t { D with nx := u D } sd T
theorem dss_nil : DSs X W [] dNext := PSs.imp pss_nil fun De σ H ⟨sd, T, DD, st, ok, L, q⟩ => L.nx sd T σ H q st ok Fr.refl
theorem LS.seq {K : PySem.W.Frag} {W : WX} {De : Ends} {DD : DEnds} {H : Hp} {T : Td} {n : SD -> Td -> Prop} {n' : L2.St -> Hp -> Prop} (L : LS K W De DD H T) (h : ∀ sd' T' σ' H', n sd' T' -> StOk K H' T' sd' σ' -> DOk K H' T' -> Fr H T H' T' -> n' σ' H') :
    LS K W { De with nx := n' } { DD with nx := n } H T := ⟨h, L.rt, L.bk, L.ct, L.xe⟩
theorem dss_cons (h1 : DS X W st t) (h2 : DSs X W rest u) : DSs X W (st :: rest) (dSeq t u) :=
  PSs.imp (pss_cons h1 h2) fun De σ H ⟨sd, T, DD, st, ok, L, q⟩ => ⟨sd, T, { DD with nx := u DD }, st, ok, L.seq fun sd' T' σ' H' n s' o f => ⟨sd', T', DD, s', o, L.go f, n⟩, q⟩
theorem dss_one (h1 : DS X W st t) : DSs X W [st] t := pss_one h1
def dRet (te : TDE) : TDS := fun D sd T => te sd T D.rt (fun ex T1 => D.xe ex sd T1)
theorem ds_ret (he : DE X W e te) : DS X W (.Return (some e) pos) (dRet te) :=
  PS.imp (ps_ret he) fun De σ H ⟨sd, T, DD, st, ok, L, q⟩ => ⟨sd, T, _, _, ⟨st, ok, fun x T1 v H1 k r o f => L.rt x T1 v H1 k r o f, L.exok st⟩, q⟩
def dIfS (c : TDT) (t u : TDS) : TDS := fun D sd T => c sd T (fun b T1 => IfP b (t D sd T1) (u D sd T1)) (fun ex T1 => D.xe ex sd T1)
theorem ds_if {c : Expr} {a b : List Stmt} {tc : TDT} (hc : DT X W c tc) (ha : DSs X W a t) (hb : DSs X W b u) : DS X W (.If c a b pos) (dIfS tc t u) :=
  PS.imp (ps_if hc ha hb) fun De σ H ⟨sd, T, DD, st, ok, L, q⟩ => ⟨sd, T, _, _, ⟨st, ok, fun c T1 H1 k o f => by
    by_cases z : c = true
    . rw [if_pos z]
      replace k := k.yes z
      exact ⟨sd, T1, DD, st.mono f, o, L.go f, k⟩
    . rw [if_neg z]
      replace k := k.no z
      exact ⟨sd, T1, DD, st.mono f, o, L.go f, k⟩, L.exok st⟩, q⟩
def dSet (i : Nat) (te : TDE) : TDS := fun D sd T => te sd T (fun x T1 => D.nx (sd.set i (some x)) T1) (fun ex T1 => D.xe ex sd T1)
theorem ds_set {i : Nat} {x : Str} {pos' : Pos} (hN : X.N.Nodup) (hi : X.N[i]? = some x) (hx : Loc X.env.scope x) (he : DE X W e te) (hs : swapsWith e (some (.Name x pos')) pos.line X.env = pure false := by rfl) (hf : X.fn x = true \/ X.env.scope.names.lookup x = some .local := by first | exact .inl rfl | exact .inr rfl | assumption) :
    DS X W (.Assign [.Name x pos'] e pos) (dSet i te) :=
  PS.imp (ps_set hN hi hx he hs hf) fun De σ H ⟨sd, T, DD, st, ok, L, q⟩ => ⟨sd, T, _, _, ⟨st, ok, fun x T1 v H1 k r o f => L.nx _ T1 _ H1 k ((st.mono f).set i r) o f, L.exok st⟩, q⟩
def dPar (i j : Nat) (ta : TDA) : TDS := fun D sd T => ta sd T (fun xs T1 => match xs with
  | [x, y] => D.nx ((sd.set i (some x)).set j (some y)) T1
  | _ => False) (fun ex T1 => D.xe ex sd T1)
theorem ds_par {i j : Nat} {x y : Str} {a b : Expr} {ta : TDA} {px py pt : Pos} {kt k2 pt2} (hc : X.calm = true) (hN : X.N.Nodup) (hi : X.N[i]? = some x) (hj : X.N[j]? = some y) (hij : i ≠ j)
    (hx : X.env.scope.names.lookup x = some .local) (hy : X.env.scope.names.lookup y = some .local) (ha : DA X W [a, b] ta)
    (hw : swappedStores [.Tuple [.Name x px, .Name y py] kt pt] (.Tuple [a, b] k2 pt2) X.env = pure (some [x, y]))
    (hs : swapsWithSole [.Tuple [.Name x px, .Name y py] kt pt] (.Tuple [a, b] k2 pt2) pos.line X.env = pure false := by rfl) :
    DS X W (.Assign [.Tuple [.Name x px, .Name y py] kt pt] (.Tuple [a, b] k2 pt2) pos) (dPar i j ta) :=
  PS.imp (ps_par hc hN hi hj hij hx hy ha hw hs) fun De σ H ⟨sd, T, DD, st, ok, L, q⟩ => ⟨sd, T, _, _, ⟨st, ok, fun xs T1 vs H1 k r o f => by
    match xs, k with
    | [x, y], k =>
      obtain ⟨v, r1, e1, h1, r2⟩ := r
      obtain ⟨w, r3, e2, h2, r4⟩ := r2
      have r4' : r3 = [] := r4
      subst e1 e2 r4'
      exact ⟨v, w, rfl, L.nx _ T1 _ H1 k (((st.mono f).set i h1).set j h2) o f⟩, L.exok st⟩, q⟩
end
section
variable {X : Cx} {W : WX} {pos : Pos}
def dIter (c : TDT) (tb : TDS) (D : DEnds) : Nat -> SD -> Td -> Prop
  | 0, _, _ => False
  | n + 1, sd, T => c sd T (fun b T1 => IfP b (tb { D with nx := dIter c tb D n, ct := dIter c tb D n, bk := D.nx } sd T1) (D.nx sd T1)) (fun ex T1 => D.xe ex sd T1)
def dWhile (c : TDT) (tb : TDS) : TDS := fun D sd T => ∃ n, dIter c tb D n sd T
theorem ds_while {c : Expr} {body : List Stmt} {tc : TDT} {tb : TDS} (hp : PassesOwn (model X.prog X.w) X.A X.env X.xe) (hc : DT X W c tc) (hb : DSs X W body tb) : DS X W (.While c body [] pos) (dWhile tc tb) := by
  refine PS.imp (ps_while hp hc hb) ?_
  rintro De σ H ⟨sd, T, DD, st, ok, L, n, q⟩
  refine ⟨fun m σ1 H1 => ∃ sd1 T1, StOk X.K H1 T1 sd1 σ1 /\ DOk X.K H1 T1 /\ Fr H T H1 T1 /\ dIter tc tb DD m sd1 T1, ⟨n, sd, T, st, ok, Fr.refl, q⟩, ?_⟩
  rintro m σ1 H1 ⟨sd1, T1, st1, ok1, f1, q1⟩
  cases m with
  | zero => exact q1.elim
  | succ m =>
    refine ⟨sd1, T1, _, _, ⟨st1, ok1, fun b T2 H2 k o f => ?_, (L.go f1).exok st1⟩, q1⟩
    by_cases z : b = true
    . rw [if_pos z]
      replace k := k.yes z
      refine ⟨fun σ3 H3 => ∃ sd3 T3, StOk X.K H3 T3 sd3 σ3 /\ DOk X.K H3 T3 /\ Fr H T H3 T3 /\ dIter tc tb DD m sd3 T3, fun σ' H' w => ⟨m, Nat.lt_succ_self m, w⟩, ?_⟩
      have g : ∀ sd' T' σ' H', dIter tc tb DD m sd' T' -> StOk X.K H' T' sd' σ' -> DOk X.K H' T' -> Fr H2 T2 H' T' -> ∃ sd3 T3, StOk X.K H' T3 sd3 σ' /\ DOk X.K H' T3 /\ Fr H T H' T3 /\ dIter tc tb DD m sd3 T3 :=
        fun sd' T' σ' H' n s' o' f' => ⟨sd', T', s', o', (f1.trans f).trans f', n⟩
      exact ⟨sd1, T2, { DD with nx := dIter tc tb DD m, ct := dIter tc tb DD m, bk := DD.nx }, st1.mono f, o, ⟨g, ((L.go f1).go f).rt, ((L.go f1).go f).nx, g, ((L.go f1).go f).xe⟩, k⟩
    . rw [if_neg z]
      replace k := k.no z
      exact (L.go f1).nx sd1 T2 σ1 H2 k (st1.mono f) o f
end
end DL
namespace DL
open PySem PySem.Spec PyProof.Rows L2
abbrev SpD := List D -> Td -> KD -> XD -> Prop
def liftSp (K : PySem.W.Frag) (sp : SpD) : Sp := fun vs H Q E => ∃ ds T QD ED, RDs K H T ds vs /\ DOk K H T /\ sp ds T QD ED /\
  (∀ x T' v H', QD x T' -> RD K H' T' x v -> DOk K H' T' -> Fr H T H' T' -> Q v H') /\ (∀ ex T' c da H', ED ex T' -> XR K H' T' ex c da -> DOk K H' T' -> Fr H T H' T' -> E c da H')
class Gd where
  ok : Option (List Code) -> Prop
class GdN [Gd] : Prop where
  nil : ∀ g, Gd.ok g -> g = some []
structure Bd [Gd] (k : Nat) (X : Cx) (W : WX) : Prop where
  tk : L2.Takes X W
  hr : Room k X.A
  hg : Gd.ok X.A.guards
theorem Bd.le [Gd] {j k : Nat} {X : Cx} {W : WX} (b : Bd k X W) (h : j <= k) : Bd j X W := ⟨b.tk, b.hr.mono h, b.hg⟩
def GR [Gd] (P : Program) (w : World) (K : PySem.W.Frag) (mg : Str -> Option Value) (base : Heap) (f : Addr) (k : Nat) (sp : SpD) : Prop :=
  ∀ (A : Around) (outer : List Env) (s : Shared) (H : Hp) (us : List Value) (vs : List V) (Q : VK) (E : XK), Room k A -> Gd.ok A.guards -> Env0 P w K mg base A outer s H -> Vals vs us -> liftSp K sp vs H Q E -> codeAny (model P w) A (.call (.ref f) ⟨us, []⟩) (CR (L2.CX P w) outer P w H s Q E) s
theorem GR.mono [Gd] {P : Program} {w : World} {K : PySem.W.Frag} {mg : Str -> Option Value} {base : Heap} {f : Addr} {j k : Nat} {sp : SpD} (F : GR P w K mg base f j sp) (h : j <= k) : GR P w K mg base f k sp := fun A outer s H us vs Q E hr => F A outer s H us vs Q E (hr.mono h)
theorem GR.imp [Gd] {P : Program} {w : World} {K : PySem.W.Frag} {mg : Str -> Option Value} {base : Heap} {f : Addr} {k : Nat} {sp sp' : SpD} (F : GR P w K mg base f k sp) (h : ∀ xs T Q E, sp' xs T Q E -> sp xs T Q E) : GR P w K mg base f k sp' :=
  fun A outer s H us vs Q E hr hg e0 r ⟨ds, T, QD, ED, r2, o, q, h1, h2⟩ => F A outer s H us vs Q E hr hg e0 r ⟨ds, T, QD, ED, r2, o, h _ _ _ _ q, h1, h2⟩
structure GF [Gd] (P : Program) (w : World) (K : PySem.W.Frag) (mg : Str -> Option Value) (base : Heap) (x : Str) (k : Nat) (sp : SpD) : Prop where
  ex : ∃ f, mg x = some (.ref f) /\ PySem.W.keepIn K (.ref f) = true /\ GR P w K mg base f k sp
section
variable {X : Cx} {W : WX} {x : Str} {k : Nat} {sp : SpD} {e : Expr} {es : List Expr} {t : TDA} {p pos : Pos} {f : Addr}
theorem sp_of {σ : L2.St} {H H1 : Hp} {sd : SD} {T T1 : Td} {Q : VK} {QD : KD} {ED : XD} {xs : List D} {vs : List V} (L : LE X.K W σ H Q sd T QD ED) (r : RDs X.K H1 T1 xs vs) (o : DOk X.K H1 T1) (f : Fr H T H1 T1) (q : sp xs T1 QD ED) :
    liftSp X.K sp vs H1 Q (WE W σ) :=
  ⟨xs, T1, QD, ED, r, o, q, (L.go o f).q, (L.go o f).x⟩
theorem run_at [Gd] {pins : List (Addr × Obj)} {σ : L2.St} {H : Hp} {s : Shared} {sd : SD} {T : Td} {Q : VK} {QD : KD} {ED : XD} {xs : List D} {vs : List V} {us : List Value} (tk : L2.Takes X W) {A : Around} (F : GR X.prog X.w X.K X.mg X.base f k sp) (hr : Room k A) (hg : Gd.ok A.guards)
    (e0 : Env0 X.prog X.w X.K X.mg X.base A X.stack s H) (I : Inv X pins σ H s) (L : LE X.K W σ H Q sd T QD ED) (rs : RDs X.K H T xs vs) (r : Vals vs us) (q : sp xs T QD ED) :
    codeAny (model X.prog X.w) A (.call (.ref f) ⟨us, []⟩) (fun r s' => match r with | .ok (.ret v) => EP X pins σ Q v s' | .ok _ => False | .error e => X.xe e s') s := by
  refine codeAny_mono (F A X.stack s H us vs Q (WE W σ) hr hg e0 r (sp_of L rs L.ok Fr.refl q)) fun r s' hq => ?_
  cases r with
  | error e => exact passAt tk σ pins H s e s' I hq
  | ok fl =>
    cases fl with
    | ret u => exact I.after hq
    | next => exact False.elim hq
    | brk => exact False.elim hq
    | cont => exact False.elim hq
abbrev RAD := List D -> Td -> KD -> XD -> Prop
def CallD (X : Cx) (W : WX) (f : Value) (r : RAD) : Prop :=
  ∀ pins s σ H Q sd T QD ED (xs : List D) (vs : List V) (us : List Value), Inv X pins σ H s -> LE X.K W σ H Q sd T QD ED -> RDs X.K H T xs vs -> Vals vs us -> r xs T QD ED -> wpAny (model X.prog X.w) X.A (call f us) (EP X pins σ Q) X.xe s
theorem CallD.of {X : Cx} {W : WX} {f : Value} {r0 : List V -> Hp -> VK -> Prop} {r : RAD} (h : CallR X f r0)
    (i : ∀ σ H Q sd T QD ED xs vs, LE X.K W σ H Q sd T QD ED -> RDs X.K H T xs vs -> r xs T QD ED -> r0 vs H Q) : CallD X W f r :=
  fun pins s σ H Q sd T QD ED xs vs us I L r1 r2 q => h pins s σ H vs us Q I r2 (i σ H Q sd T QD ED xs vs L r1 q)
def dCB (r : RAD) (t : TDA) : TDE := fun sd T Q E => t sd T (fun xs T1 => r xs T1 Q E) E
structure OL (r : RAD) (xs : List D) (T : Td) (Q : KD) (E : XD) : Prop where
  h : r xs T Q E
def dCL (r : RAD) (t : TDA) : TDE := fun sd T Q E => t sd T (fun xs T1 => OL r xs T1 Q E) E
theorem cd_fn [Gd] (b : Bd k X W) (F : GR X.prog X.w X.K X.mg X.base f k sp) : CallD X W (.ref f) sp := fun pins s σ H Q sd T QD ED xs vs us I L rs r q =>
  wpAny_call (codeAny_mono (run_at b.tk F b.hr b.hg I.env0 I L rs r q) fun r s' h => by
    cases r with
    | error e => exact h
    | ok fl =>
      cases fl with
      | ret u => exact h
      | next => exact False.elim h
      | brk => exact False.elim h
      | cont => exact False.elim h)
theorem de_callN {r : RAD} (hc : CallD X W (.ref f) r) (hg : Gl X x) (hm : X.mg x = some (.ref f)) (hk : PySem.W.keepIn X.K (.ref f) = true) (ha : DA X W (e :: es) t) (hdb : (x == ("__debug__" : Str)) = false := by decide)
    (he : starEach (e :: es) X.env = (false, eval e X.env) :: starEach es X.env := by rfl) (hpl : (backTo pos (starEach es X.env)).any (·.1) = false := by rfl) : DE X W (.Call (.Name x p) (e :: es) [] pos) (dCB r t) :=
  DE.mk fun pins s σ H Q sd T QD ED I L h => wpAny_Call_Name_kw (ld_glob I hg hm (PySem.W.callWith_K (h₀ := X.base) I.ok.mod.kin hk
    (thn (ha.one I L.st L.ok L.x h pos) fun us s1 ⟨xs, vs, H1, T1, B⟩ => ⟨B.I.kIn, hc pins s1 σ H1 Q sd T1 QD ED xs vs us B.I (L.go B.ok B.fr) B.rd B.rv B.k⟩) he hpl) hdb)
theorem de_callM {r : RAD} (hc : CallD X W (.ref f) r) (hg : Gl X x) (hm : X.mg x = some (.ref f)) (hk : PySem.W.keepIn X.K (.ref f) = true) (ha : DA X W (e :: es) t) (hdb : (x == ("__debug__" : Str)) = false := by decide)
    (he : starEach (e :: es) X.env = (false, eval e X.env) :: starEach es X.env := by rfl) (hpl : (backTo pos (starEach es X.env)).any (·.1) = false := by rfl) : DE X W (.Call (.Name x p) (e :: es) [] pos) (dCL r t) :=
  DE.mk fun pins s σ H Q sd T QD ED I L h => wpAny_Call_Name_kw (ld_glob I hg hm (PySem.W.callWith_K (h₀ := X.base) I.ok.mod.kin hk
    (thn (ha.one I L.st L.ok L.x h pos) fun us s1 ⟨xs, vs, H1, T1, B⟩ => ⟨B.I.kIn, hc pins s1 σ H1 Q sd T1 QD ED xs vs us B.I (L.go B.ok B.fr) B.rd B.rv B.k.h⟩) he hpl) hdb)
theorem de_call [Gd] {j : Nat} (b : Bd k X W) (F : GF X.prog X.w X.K X.mg X.base x j sp) (hj : j <= k) (hg : Gl X x) (ha : DA X W (e :: es) t) (hdb : (x == ("__debug__" : Str)) = false := by decide)
    (he : starEach (e :: es) X.env = (false, eval e X.env) :: starEach es X.env := by rfl) (hpl : (backTo pos (starEach es X.env)).any (·.1) = false := by rfl) : DE X W (.Call (.Name x p) (e :: es) [] pos) (dCB sp t) := by
  obtain ⟨f, hm, hk, F⟩ := F.ex
  exact de_callN (cd_fn b (F.mono hj)) hg hm hk ha hdb he hpl
end
def startD (N : List Str) (ds : List D) : SD := ds.map some ++ List.replicate (N.length - ds.length) none
theorem startD_ok {K : PySem.W.Frag} {H : Hp} {T : Td} {N : List Str} {ds : List D} {vs : List V} (r : RDs K H T ds vs) : StOk K H T (startD N ds) (L2.start N vs) := by
  have hl := r.length
  refine ⟨by unfold startD L2.start; rw [List.length_append, List.length_append, List.length_map, List.length_map, List.length_replicate, List.length_replicate, hl], fun i d e => ?_⟩
  unfold startD at e
  unfold L2.start
  by_cases hi : i < ds.length
  . rw [List.getElem?_append_left (by simpa using hi), List.getElem?_map] at e
    rw [List.getElem?_append_left (by simpa [<- hl] using hi), List.getElem?_map]
    cases q : ds[i]? with
    | none => rw [q] at e; cases e
    | some d' =>
      rw [q] at e
      have e' : d' = d := Option.some.inj (Option.some.inj e)
      subst e'
      obtain ⟨v, h1, h2⟩ := r.get q
      exact ⟨v, by rw [h1]; rfl, h2⟩
  . rw [List.getElem?_append_right (by simpa using hi), List.getElem?_replicate] at e
    split at e <;> cases e
def endsD (Q : KD) (E : XD) : DEnds := { nx := fun _ T => Q .non T, rt := Q, xe := fun ex _ T => E ex T }
section
variable {P : Program} {w : World} {K : PySem.W.Frag} {mg : Str -> Option Value} {base : Heap} {x qual : Str} {params : Arguments} {body : List Stmt} {scope : Scope} {dvs : List V} {kws : List (Str × V)} {f : Addr} {fd : FuncData} {N ps : List Str} {k : Nat} {sp : SpD} {d : TDS}
abbrev WE0 (E : XK) : WX := fun c da _ H => E c da H
end
abbrev TDG := D -> SD -> Td -> (SD -> Td -> Prop) -> Prop
abbrev TDGs := List D -> SD -> Td -> (SD -> Td -> Prop) -> Prop
def liftG (K : PySem.W.Frag) (d : TDG) : TG := fun v σ H Q => ∃ x sd T QD, StOk K H T sd σ /\ DOk K H T /\ RD K H T x v /\ (∀ sd' T' σ' H', QD sd' T' -> StOk K H' T' sd' σ' -> DOk K H' T' -> Fr H T H' T' -> Q σ' H') /\ d x sd T QD
def liftGs (K : PySem.W.Frag) (d : TDGs) : TGs := fun v σ H Q => ∃ x sd T QD, StOk K H T sd σ /\ DOk K H T /\ RDs K H T x v /\ (∀ sd' T' σ' H', QD sd' T' -> StOk K H' T' sd' σ' -> DOk K H' T' -> Fr H T H' T' -> Q σ' H') /\ d x sd T QD
def DG (X : Cx) (target : Expr) (d : TDG) : Prop := PG X target (liftG X.K d)
def DGs (X : Cx) (targets : List Expr) (d : TDGs) : Prop := PGs X targets (liftGs X.K d)
theorem _root_.L2.PG.imp {X : Cx} {e : Expr} {t t' : TG} (h : PG X e t) (i : ∀ v σ H Q, t' v σ H Q -> t v σ H Q) : PG X e t' := ⟨fun pins s σ H v u Q I r q => h.run pins s σ H v u Q I r (i v σ H Q q)⟩
theorem _root_.L2.PGs.imp {X : Cx} {e : List Expr} {t t' : TGs} (h : PGs X e t) (i : ∀ v σ H Q, t' v σ H Q -> t v σ H Q) : PGs X e t' := ⟨fun pins s σ H v u Q I r q => h.run pins s σ H v u Q I r (i v σ H Q q)⟩
section
variable {X : Cx} {W : WX} {pos : Pos}
def dgName (i : Nat) : TDG := fun x sd T Q => Q (sd.set i (some x)) T
theorem dg_name {i : Nat} {x : Str} (hN : X.N.Nodup) (hi : X.N[i]? = some x) (hx : Loc X.env.scope x) (hf : X.fn x = true \/ X.env.scope.names.lookup x = some .local := by first | exact .inl rfl | exact .inr rfl | assumption) : DG X (.Name x pos) (dgName i) :=
  PG.imp (pg_name hN hi hx hf) fun v σ H Q ⟨x, sd, T, QD, st, o, r, k, q⟩ => k _ T _ H q (st.set i r) o Fr.refl
def dgNil : TDGs := fun xs sd T Q => xs = [] /\ Q sd T
def dgCons (t : TDG) (u : TDGs) : TDGs := fun xs sd T Q => match xs with
  | [] => False
  | x :: r => t x sd T fun sd' T' => u r sd' T' Q
theorem dgs_nil : DGs X [] dgNil := PGs.imp pgs_nil fun v σ H Q ⟨x, sd, T, QD, st, o, r, k, e, q⟩ => by
  subst e
  have r' : v = [] := r
  exact ⟨r', k sd T σ H q st o Fr.refl⟩
theorem dgs_cons {e : Expr} {es : List Expr} {t : TDG} {u : TDGs} (h1 : DG X e t) (h2 : DGs X es u) (hs : (assignEach (e :: es) X.env).map (·.2) = assign e X.env :: (assignEach es X.env).map (·.2) := by rfl) : DGs X (e :: es) (dgCons t u) :=
  PGs.imp (pgs_cons h1 h2 hs) fun v σ H Q ⟨xs, sd, T, QD, st, o, r, k, q⟩ => by
    match xs, r, q with
    | x :: xs, r, q =>
      obtain ⟨y, ys, e, r1, r2⟩ := r
      subst e
      exact ⟨y, ys, rfl, x, sd, T, _, st, o, r1, fun sd' T' σ' H' n st' o' f => ⟨xs, sd', T', QD, st', o', RDs.mono f xs r2, fun a b c d e g h i => k a b c d e g h (f.trans i), n⟩, q⟩
def dgTup (n : Nat) (t : TDGs) : TDG := fun x sd T Q => match x with
  | .tup xs => xs.length = n /\ t xs sd T Q
  | _ => False
theorem dg_tup {es : List Expr} {k : Nat} {t : TDGs} {n : Nat} (hc : X.calm = true) (h : DGs X es t) (hn : (assignEach es X.env).length = n := by rfl) (hst : (assignEach es X.env).findIdx? (·.1) = none := by rfl) : DG X (.Tuple es k pos) (dgTup n t) :=
  PG.imp (pg_tup hc h hn hst) fun v σ H Q ⟨x, sd, T, QD, st, o, r, k, q⟩ => by
    cases x <;> try exact q.elim
    rename_i xs
    obtain ⟨a, vs, e, t, r⟩ := r
    exact ⟨a, vs, e, t.sq, by rw [<- r.length]; exact q.1, xs, sd, T, QD, st, o, r, k, q.2⟩
def dAsg (te : TDE) (g : TDG) : TDS := fun D sd T => te sd T (fun x T1 => g x sd T1 D.nx) (fun ex T1 => D.xe ex sd T1)
theorem ds_asg {tg e : Expr} {te : TDE} {g : TDG} (he : DE X W e te) (hg : DG X tg g) (hs : swapsWithSole [tg] e pos.line X.env = pure false := by rfl) (hw : swappedStores [tg] e X.env = pure none := by rfl)
    (h1 : (assignEach [tg] X.env).map (·.2) = [assign tg X.env] := by rfl) : DS X W (.Assign [tg] e pos) (dAsg te g) :=
  PS.imp (ps_asg he hg hs hw h1) fun De σ H ⟨sd, T, DD, st, ok, L, q⟩ => ⟨sd, T, _, _, ⟨st, ok, fun x T1 v H1 k r o f => ⟨x, sd, T1, DD.nx, st.mono f, o, r, fun sd' T' σ' H' n s' o' f' => L.nx sd' T' σ' H' n s' o' (f.trans f'), k⟩, L.exok st⟩, q⟩
end
abbrev TDI := SD -> Td -> (List D -> (Td -> Prop) -> Td -> Prop) -> XD -> Prop
def IsIt (K : PySem.W.Frag) (items : List D) (g : Td -> Prop) (J : It) (H0 : Hp) (T0 : Td) : Prop :=
  ∀ (i : Nat) (H : Hp) (T : Td), Fr H0 T0 H T -> DOk K H T -> g T -> (i < items.length -> J.go i H /\ ∀ x H3, J.yld i H x H3 -> ∃ d, items[i]? = some d /\ RD K H3 T d x /\ DOk K H3 T /\ Fr H T H3 T) /\ (items.length <= i -> J.stop i H)
def liftI (K : PySem.W.Frag) (W : WX) (d : TDI) : TI := fun σ H R => ∃ sd T RD' ED, StOk K H T sd σ /\ DOk K H T /\ (∀ ex T' c da H', ED ex T' -> XR K H' T' ex c da -> DOk K H' T' -> Fr H T H' T' -> W c da σ H') /\
  (∀ items g T' J H', RD' items g T' -> IsIt K items g J H' T' -> DOk K H' T' -> Fr H T H' T' -> R J H') /\ d sd T RD' ED
def DI (X : Cx) (W : WX) (tg iter : Expr) (d : TDI) : Prop := PI X tg iter (liftI X.K W d)
theorem _root_.L2.PI.imp {X : Cx} {tg e : Expr} {t t' : TI} (h : PI X tg e t) (i : ∀ σ H Q, t' σ H Q -> t σ H Q) : PI X tg e t' := ⟨fun pins s σ H Q I q => h.run pins s σ H Q I (i σ H Q q)⟩
section
variable {X : Cx} {W : WX} {tg : Expr} {pos : Pos}
def diSeqL (tl : TDE) : TDI := fun sd T R E => tl sd T (fun x T1 => match x with
  | .lst xs => R xs (fun _ => True) T1
  | .ref a => match T1 a with
    | some (.lst xs) => R xs (fun T2 => T2 a = some (.lst xs)) T1
    | _ => False
  | _ => False) E
theorem di_list {l : Expr} {tl : TDE} (hl : DE X W l tl) : DI X W tg l (diSeqL tl) :=
  PI.imp (pi_list hl) fun σ H R ⟨sd, T, RD', ED, st, ok, hx, hk, q⟩ => ⟨sd, T, _, ED, ⟨st, ok, fun x T1 v H1 k r o f => by
    cases x <;> try exact k.elim
    . rename_i a
      have r' : v = .ref a := r
      subst r'
      simp only at k
      split at k
      . rename_i xs ht
        obtain ⟨vs, hv, rs⟩ := o a _ ht
        refine ⟨a, rfl, ⟨vs, SqL.of hv⟩, hk xs _ T1 _ H1 k ?_ o f⟩
        intro i H2 T2 f2 o2 g2
        obtain ⟨vs2, hv2, rs2⟩ := o2 a _ g2
        refine ⟨fun hi => ?_, fun hi => ⟨vs2, SqL.of hv2, by rw [<- rs2.length]; exact hi⟩⟩
        obtain ⟨u, hu, ru⟩ := rs2.get (List.getElem?_eq_getElem hi)
        refine ⟨⟨vs2, u, SqL.of hv2, hu⟩, fun x H3 ⟨e, y⟩ => ?_⟩
        subst e
        have e := y vs2 (SqL.of hv2)
        rw [hu] at e
        cases e
        exact ⟨_, List.getElem?_eq_getElem hi, ru, o2, Fr.refl⟩
      . exact k.elim
    . rename_i xs
      obtain ⟨a, vs, e, t, rs⟩ := r
      refine ⟨a, e, ⟨vs, t.sq⟩, hk xs _ T1 _ H1 k ?_ o f⟩
      intro i H2 T2 f2 o2 _
      have t2 := (t.mono f2).sq
      have rs2 := RDs.mono f2 xs rs
      refine ⟨fun hi => ?_, fun hi => ⟨vs, t2, by rw [<- rs2.length]; exact hi⟩⟩
      obtain ⟨u, hu, ru⟩ := rs2.get (List.getElem?_eq_getElem hi)
      refine ⟨⟨vs, u, t2, hu⟩, fun x H3 ⟨e, y⟩ => ?_⟩
      subst e
      have e := y vs t2
      rw [hu] at e
      cases e
      exact ⟨_, List.getElem?_eq_getElem hi, ru, o2, Fr.refl⟩, hx⟩, q⟩
def diSeqT (tl : TDE) : TDI := fun sd T R E => tl sd T (fun x T1 => match x with
  | .tup xs => R xs (fun _ => True) T1
  | _ => False) E
theorem di_tup {l : Expr} {tl : TDE} (hl : DE X W l tl) : DI X W tg l (diSeqT tl) :=
  PI.imp (pi_tup hl) fun σ H R ⟨sd, T, RD', ED, st, ok, hx, hk, q⟩ => ⟨sd, T, _, ED, ⟨st, ok, fun x T1 v H1 k r o f => by
    cases x <;> try exact k.elim
    rename_i xs
    obtain ⟨a, vs, e, t, rs⟩ := r
    refine ⟨a, e, ⟨vs, t.sq⟩, hk xs _ T1 _ H1 k ?_ o f⟩
    intro i H2 T2 f2 o2 _
    have t2 := (t.mono f2).sq
    have rs2 := RDs.mono f2 xs rs
    refine ⟨fun hi => ?_, fun hi => ⟨vs, t2, by rw [<- rs2.length]; exact hi⟩⟩
    obtain ⟨u, hu, ru⟩ := rs2.get (List.getElem?_eq_getElem hi)
    refine ⟨⟨vs, u, t2, hu⟩, fun x H3 ⟨e, y⟩ => ?_⟩
    subst e
    have e := y vs t2
    rw [hu] at e
    cases e
    exact ⟨_, List.getElem?_eq_getElem hi, ru, o2, Fr.refl⟩, hx⟩, q⟩
def rangeD (lo : Int) (n : Nat) : List D := (List.range n).map fun (i : Nat) => D.int (lo + (i : Int))
def diRng1 (t : TDA) : TDI := fun sd T R E => t sd T (fun xs T1 => match xs with
  | [.int j] => -(2 ^ 62) <= j /\ j < 2 ^ 62 /\ R (rangeD 0 j.toNat) (fun _ => True) T1
  | _ => False) E
theorem isIt_range {K : PySem.W.Frag} {lo : Int} {n : Nat} {H : Hp} {T : Td} : IsIt K (rangeD lo n) (fun _ => True) (Itr lo n) H T := by
  intro i H2 T2 f2 o2 _
  have hl : (rangeD lo n).length = n := by unfold rangeD; simp
  refine ⟨fun hi => ⟨by rw [hl] at hi; exact hi, fun x H3 ⟨e1, e2⟩ => ?_⟩, fun hi => by rw [hl] at hi; exact hi⟩
  subst e1 e2
  rw [hl] at hi
  refine ⟨.int (lo + i), ?_, rfl, o2, Fr.refl⟩
  unfold rangeD
  rw [List.getElem?_map, List.getElem?_range hi]
  rfl
theorem di_range1 {a : Expr} {ta : TDA} {p : Pos} (hg : Gl X "range") (hm : X.mg "range" = none) (ha : DA X W [a] ta) (hs : starEach [a] X.env = [(false, eval a X.env)] := by rfl) : DI X W tg (.Call (.Name "range" p) [a] [] pos) (diRng1 ta) :=
  PI.imp (pi_range1 hg hm ha hs) fun σ H R ⟨sd, T, RD', ED, st, ok, hx, hk, q⟩ => ⟨sd, T, _, ED, ⟨st, ok, fun xs T1 vs H1 k r o f => by
    match xs, k, r with
    | [.int j], k, r =>
      obtain ⟨v, r1, e, h1, h2⟩ := r
      have h1' : v = .int j := h1
      have h2' : r1 = [] := h2
      subst e h1' h2'
      exact ⟨j, rfl, k.1, k.2.1, hk _ _ T1 _ H1 k.2.2 isIt_range o f⟩, hx⟩, q⟩
def signsD (x : Str) : List D := x.cps.toList.map fun c => .str ⟨#[c]⟩
def dLoop (g : TDG) (tb : TDS) (gd : Td -> Prop) (D : DEnds) : List DL.D -> SD -> Td -> Prop
  | [], sd, T => gd T /\ D.nx sd T
  | x :: xs, sd, T => gd T /\ g x sd T fun sd2 T2 => tb { D with nx := dLoop g tb gd D xs, ct := dLoop g tb gd D xs, bk := D.nx } sd2 T2
def dFor (wi : TDI) (g : TDG) (tb : TDS) : TDS := fun D sd T => wi sd T (fun items gd T1 => dLoop g tb gd D items sd T1) (fun ex T1 => D.xe ex sd T1)
theorem ds_for {iter : Expr} {body : List Stmt} {wi : TDI} {g : TDG} {tb : TDS} (hp : PassesOwn (model X.prog X.w) X.A X.env X.xe) (hc : X.calm = true) (hi : DI X W tg iter wi) (hg : DG X tg g) (hb : DSs X W body tb)
    (hs : ∀ x, foldedSetIterable iter X.env x = pure x := by intro _; rfl) : DS X W (.For tg iter body [] pos) (dFor wi g tb) := by
  refine PS.imp (ps_for hp hc hi hg hb hs) ?_
  rintro De σ H ⟨sd, T, DD, st, ok, L, q⟩
  refine ⟨sd, T, _, _, st, ok, L.exok st, fun items gd T1 J H1 k it o f => ?_, q⟩
  refine ⟨fun i m σ2 H2 => m = items.length - i /\ i <= items.length /\ ∃ sd2 T2, StOk X.K H2 T2 sd2 σ2 /\ DOk X.K H2 T2 /\ Fr H1 T1 H2 T2 /\ dLoop g tb gd DD (items.drop i) sd2 T2, ⟨_, rfl, Nat.zero_le _, sd, T1, st.mono f, o, Fr.refl, k⟩, ?_⟩
  rintro i m σ2 H2 ⟨rfl, hi, sd2, T2, st2, o2, f2, q2⟩
  by_cases hlt : i < items.length
  . rw [List.drop_eq_getElem_cons hlt] at q2
    obtain ⟨gd2, q2⟩ := q2
    obtain ⟨go, yl⟩ := (it i H2 T2 f2 o2 gd2).1 hlt
    refine .inr ⟨go, fun σ3 H3 => ∃ sd3 T3, StOk X.K H3 T3 sd3 σ3 /\ DOk X.K H3 T3 /\ Fr H1 T1 H3 T3 /\ dLoop g tb gd DD (items.drop (i + 1)) sd3 T3, fun σ' H' w => ⟨items.length - (i + 1), by omega, rfl, hlt, w⟩, fun x H3 y => ?_⟩
    obtain ⟨d, hd, rd, o3, f3⟩ := yl x H3 y
    rw [List.getElem?_eq_getElem hlt] at hd
    cases hd
    refine ⟨_, sd2, T2, _, st2.mono f3, o3, rd, fun sd' T' σ' H' n s' o' f' => ?_, q2⟩
    have f13 : Fr H1 T1 H' T' := (f2.trans f3).trans f'
    have LL := L.go (f.trans f13)
    have nx : ∀ sd' T'' σ'' H'', dLoop g tb gd DD (items.drop (i + 1)) sd' T'' -> StOk X.K H'' T'' sd' σ'' -> DOk X.K H'' T'' -> Fr H' T' H'' T'' -> ∃ sd3 T3, StOk X.K H'' T3 sd3 σ'' /\ DOk X.K H'' T3 /\ Fr H1 T1 H'' T3 /\ dLoop g tb gd DD (items.drop (i + 1)) sd3 T3 :=
      fun sd' T'' σ'' H'' n s'' o'' f'' => ⟨sd', T'', s'', o'', f13.trans f'', n⟩
    exact ⟨sd', T', { DD with nx := dLoop g tb gd DD (items.drop (i + 1)), ct := dLoop g tb gd DD (items.drop (i + 1)), bk := DD.nx }, s', o', ⟨nx, LL.rt, LL.nx, nx, LL.xe⟩, n⟩
  . have e : i = items.length := by omega
    subst e
    rw [List.drop_length] at q2
    exact .inl ⟨(it _ H2 T2 f2 o2 q2.1).2 (Nat.le_refl _), (L.go (f.trans f2)).nx sd2 T2 σ2 H2 q2.2 st2 o2 Fr.refl⟩
end
end DL
namespace DL
open PySem PySem.Spec PyProof.Rows L2
section
variable {X : Cx} {W : WX}
def rII (C : Int -> Int -> Prop) (g : Int -> Int -> D) : R2D := fun x y T Q _ => match x, y with
  | .int i, .int j => C i j /\ Q (g i j) T
  | _, _ => False
theorem rII_inv {C : Int -> Int -> Prop} {g : Int -> Int -> D} {x y : D} {T : Td} {Q : KD} {E : XD} (h : rII C g x y T Q E) : ∃ i j, x = .int i /\ y = .int j /\ C i j /\ Q (g i j) T := by
  unfold rII at h
  split at h
  . exact ⟨_, _, rfl, rfl, h⟩
  . exact h.elim
theorem opII {f : Value -> Value -> Sem Value} {C : Int -> Int -> Prop} {g : Int -> Int -> Int}
    (rule : ∀ (i j : Int) (t u : Tok) (s : Shared) (Q : Value -> Shared -> Prop) (E : Value -> Shared -> Prop), C i j -> Q (.int (g i j) s.toks) { s with toks := s.toks + 1 } -> wpAny (model X.prog X.w) X.A (f (.int i t) (.int j u)) Q E s) :
    OpD X W f (rII C fun i j => .int (g i j)) := OpD.of (opI (X := X) rule) fun σ H Q sd T QD ED x y vx vy L r1 r2 h => by
  obtain ⟨i, j, rfl, rfl, c, q⟩ := rII_inv h
  exact ⟨i, j, r1, r2, c, L.q _ T _ H q rfl L.ok Fr.refl⟩
theorem opIB {f : Value -> Value -> Sem Value} {g : Int -> Int -> Bool}
    (rule : ∀ (i j : Int) (t u : Tok) (s : Shared) (Q : Value -> Shared -> Prop) (E : Value -> Shared -> Prop), Q (.bool (g i j)) s -> wpAny (model X.prog X.w) X.A (f (.int i t) (.int j u)) Q E s) :
    OpD X W f (rII (fun _ _ => True) fun i j => .bl (g i j)) := OpD.of (opB0 (X := X) rule) fun σ H Q sd T QD ED x y vx vy L r1 r2 h => by
  obtain ⟨i, j, rfl, rfl, c, q⟩ := rII_inv h
  exact ⟨i, j, r1, r2, L.q _ T _ H q rfl L.ok Fr.refl⟩
abbrev CAny (_ _ : Int) : Prop := True
abbrev CDv (_ j : Int) : Prop := j ≠ 0 /\ j.natAbs.log2 < 9000
abbrev CMd (_ j : Int) : Prop := j ≠ 0
abbrev CPw (i j : Int) : Prop := 0 <= j /\ (Builtin.Int.intBits i : Int) * j <= 2 ^ 27
theorem od_addI : OpD X W (binaryOp .Add) (rII CAny fun i j => .int (i + j)) := opII fun _ _ _ _ _ _ _ _ q => add_int q
theorem od_mul : OpD X W (binaryOp .Mult) (rII IntMulOk fun i j => .int (i * j)) := opII fun _ _ _ _ _ _ _ c q => mul_int q c
theorem od_fdiv : OpD X W (binaryOp .FloorDiv) (rII CDv fun i j => .int (i.fdiv j)) := opII fun _ _ _ _ _ _ _ c q => floordiv_int c.1 q (.inl (PyProof.noPylong_of_log2 c.2))
theorem od_mod : OpD X W (binaryOp .Mod) (rII CMd fun i j => .int (i.fmod j)) := opII fun _ _ _ _ _ _ _ c q => mod_int' c q
theorem od_pow : OpD X W (binaryOp .Pow) (rII CPw fun i j => .int (i ^ j.toNat)) := opII fun _ _ _ _ _ _ _ c q => pow_int c.1 c.2 q
theorem od_ltI : OpD X W (compareOp .Lt) (rII CAny fun i j => .bl (decide (i < j))) := opIB fun _ _ _ _ _ _ _ q => lt_int q
theorem od_leI : OpD X W (compareOp .LtE) (rII CAny fun i j => .bl (decide (i <= j))) := opIB fun _ _ _ _ _ _ _ q => le_int q
theorem od_gtI : OpD X W (compareOp .Gt) (rII CAny fun i j => .bl (decide (j < i))) := opIB fun _ _ _ _ _ _ _ q => gt_int q
theorem od_geI : OpD X W (compareOp .GtE) (rII CAny fun i j => .bl (decide (j <= i))) := opIB fun _ _ _ _ _ _ _ q => ge_int q
def rSS : R2D := fun x y T Q _ => match x, y with
  | .str a, .str b => a.length + b.length <= sizeLine /\ Q (.str (a ++ b)) T
  | _, _ => False
theorem od_addS : OpD X W (binaryOp .Add) rSS := OpD.of op_add_str fun σ H Q sd T QD ED x y vx vy L r1 r2 h => by
  unfold rSS at h
  split at h
  . exact ⟨_, _, r1, r2, h.1, L.q _ T _ H h.2 rfl L.ok Fr.refl⟩
  . exact h.elim
def eqS : D -> D -> Option Bool
  | .int i, .int j => some (decide (i = j))
  | .str i, .str j => some (decide (i = j))
  | .bl i, .bl j => some (decide (i = j))
  | .non, .non => some true
  | .non, .int _ => some false
  | .int _, .non => some false
  | .non, .bl _ => some false
  | .bl _, .non => some false
  | .non, .str _ => some false
  | .str _, .non => some false
  | .int _, .str _ => some false
  | .str _, .int _ => some false
  | .bl _, .str _ => some false
  | .str _, .bl _ => some false
  | _, _ => none
theorem eqS_V {K : PySem.W.Frag} {H : Hp} {T : Td} {x y : D} {vx vy : V} {b : Bool} (e : eqS x y = some b) (r1 : RD K H T x vx) (r2 : RD K H T y vy) : scal vx vy = true /\ decide (vx = vy) = b := by
  cases x <;> cases y <;> first | (exfalso; simp [eqS] at e; done) | (
    simp only [eqS, Option.some.injEq] at e
    subst e
    simp only [RD] at r1 r2
    subst r1 r2
    simp [scal])
def rEqS : R2D := fun x y T Q _ => match eqS x y with
  | some b => Q (.bl b) T
  | none => False
def rNeS : R2D := fun x y T Q _ => match eqS x y with
  | some b => Q (.bl (!b)) T
  | none => False
theorem od_eqS : OpD X W (compareOp .Eq) rEqS := OpD.of op_eq fun σ H Q sd T QD ED x y vx vy L r1 r2 h => by
  unfold rEqS at h
  split at h
  . rename_i b e
    obtain ⟨h1, h2⟩ := eqS_V e r1 r2
    exact ⟨h1, by rw [h2]; exact L.q _ T _ H h rfl L.ok Fr.refl⟩
  . exact h.elim
theorem od_neS : OpD X W (compareOp .NotEq) rNeS := OpD.of op_ne fun σ H Q sd T QD ED x y vx vy L r1 r2 h => by
  unfold rNeS at h
  split at h
  . rename_i b e
    obtain ⟨h1, h2⟩ := eqS_V e r1 r2
    exact ⟨h1, by rw [h2]; exact L.q _ T _ H h rfl L.ok Fr.refl⟩
  . exact h.elim
def rU1 (g : Int -> D) : R1D := fun x T Q _ => match x with
  | .int i => Q (g i) T
  | _ => False
theorem ud_negI : UnD X W (unaryOp .USub) (rU1 fun i => .int (-i)) := UnD.of un_neg fun σ H Q sd T QD ED x vx L r1 h => by
  cases x <;> try exact h.elim
  exact ⟨_, r1, L.q _ T _ H h rfl L.ok Fr.refl⟩
end
section
variable {X : Cx} {W : WX} {x : Str} {e : Expr} {es : List Expr} {t : TDA} {p pos : Pos} {r : RAD}
theorem de_callB {id : String} (hc : CallD X W (.builtin id) r) (hg : Gl X x) (hm : X.mg x = none) (hv : bootBuiltins x = some (.builtin id)) (ha : DA X W (e :: es) t) (hn : x ≠ "__name__" := by decide) (hdb : (x == ("__debug__" : Str)) = false := by decide)
    (he : starEach (e :: es) X.env = (false, eval e X.env) :: starEach es X.env := by rfl) (hpl : (backTo pos (starEach es X.env)).any (·.1) = false := by rfl) : DE X W (.Call (.Name x p) (e :: es) [] pos) (dCL r t) :=
  DE.mk fun pins s σ H Q sd T QD ED I L h => wpAny_Call_Name_kw (ld_blt I hg hm hv
    (PyProof.Rows.callWith_builtin1 (thn (ha.one I L.st L.ok L.x h pos) fun us s1 ⟨xs, vs, H1, T1, B⟩ => hc pins s1 σ H1 Q sd T1 QD ED xs vs us B.I (L.go B.ok B.fr) B.rd B.rv B.k.h) he hpl) hn hdb)
theorem de_callTy {C : String} (hc : CallD X W (.type C) r) (hg : Gl X x) (hm : X.mg x = none) (hv : bootBuiltins x = some (.type C)) (ha : DA X W (e :: es) t) (hn : x ≠ "__name__" := by decide) (hdb : (x == ("__debug__" : Str)) = false := by decide)
    (he : starEach (e :: es) X.env = (false, eval e X.env) :: starEach es X.env := by rfl) (hpl : (backTo pos (starEach es X.env)).any (·.1) = false := by rfl) : DE X W (.Call (.Name x p) (e :: es) [] pos) (dCL r t) :=
  DE.mk fun pins s σ H Q sd T QD ED I L h => wpAny_Call_Name_kw (ld_blt I hg hm hv
    (PyProof.Rows.callWith_type1 (thn (ha.one I L.st L.ok L.x h pos) fun us s1 ⟨xs, vs, H1, T1, B⟩ => hc pins s1 σ H1 Q sd T1 QD ED xs vs us B.I (L.go B.ok B.fr) B.rd B.rv B.k.h) he hpl) hn hdb)
def rI1 (C : Int -> Prop) (g : Int -> D) : RAD := fun xs T Q _ => match xs with
  | [.int i] => C i /\ Q (g i) T
  | _ => False
theorem rds1 {K : PySem.W.Frag} {H : Hp} {T : Td} {d : D} {vs : List V} (r : RDs K H T [d] vs) : ∃ v, vs = [v] /\ RD K H T d v := by
  obtain ⟨v, r1, e, h1, h2⟩ := r
  have h2' : r1 = [] := h2
  subst e h2'
  exact ⟨v, rfl, h1⟩
theorem rds2 {K : PySem.W.Frag} {H : Hp} {T : Td} {d d' : D} {vs : List V} (r : RDs K H T [d, d'] vs) : ∃ v v', vs = [v, v'] /\ RD K H T d v /\ RD K H T d' v' := by
  obtain ⟨v, r1, e, h1, h2⟩ := r
  obtain ⟨v', e', h3⟩ := rds1 h2
  subst e e'
  exact ⟨v, v', rfl, h1, h3⟩
theorem cd_abs : CallD X W (.builtin "abs") (rI1 (fun _ => True) fun i => .int i.natAbs) := CallD.of call_abs fun σ H Q sd T QD ED xs vs L rs h => by
  unfold rI1 at h
  split at h
  . rename_i i
    obtain ⟨v, rfl, r⟩ := rds1 rs
    have r' : v = .int i := r
    subst r'
    refine ⟨i, rfl, ?_⟩
    have e : (if i < 0 then -i else i) = (i.natAbs : Int) := by split <;> omega
    rw [e]
    exact L.q _ T _ H h.2 rfl L.ok Fr.refl
  . exact h.elim
def rMax : RAD := fun xs T Q _ => match xs with
  | [.int i, .int j] => Q (.int (max i j)) T
  | _ => False
def rMin : RAD := fun xs T Q _ => match xs with
  | [.int i, .int j] => Q (.int (min i j)) T
  | _ => False
theorem cd_max (hc : X.calm = true) : CallD X W (.builtin "max") rMax := CallD.of (call_max2 hc) fun σ H Q sd T QD ED xs vs L rs h => by
  unfold rMax at h
  split at h
  . rename_i i j
    obtain ⟨v, v', rfl, r, r2⟩ := rds2 rs
    have r' : v = .int i := r
    have r2' : v' = .int j := r2
    subst r' r2'
    refine ⟨i, j, rfl, ?_⟩
    have e : (if j > i then j else i) = max i j := by rw [Int.max_def]; split <;> split <;> omega
    rw [e]
    exact L.q _ T _ H h rfl L.ok Fr.refl
  . exact h.elim
theorem cd_min (hc : X.calm = true) : CallD X W (.builtin "min") rMin := CallD.of (call_min2 hc) fun σ H Q sd T QD ED xs vs L rs h => by
  unfold rMin at h
  split at h
  . rename_i i j
    obtain ⟨v, v', rfl, r, r2⟩ := rds2 rs
    have r' : v = .int i := r
    have r2' : v' = .int j := r2
    subst r' r2'
    refine ⟨i, j, rfl, ?_⟩
    have e : (if j < i then j else i) = min i j := by rw [Int.min_def]; split <;> split <;> omega
    rw [e]
    exact L.q _ T _ H h rfl L.ok Fr.refl
  . exact h.elim
def rInt : RAD := fun xs T Q _ => match xs with
  | [.int i] => Q (.int i) T
  | [.bl b] => Q (.int (if b then 1 else 0)) T
  | _ => False
theorem cd_int : CallD X W (.type "int") rInt := CallD.of call_int1 fun σ H Q sd T QD ED xs vs L rs h => by
  unfold rInt at h
  split at h
  . rename_i i
    obtain ⟨v, rfl, r⟩ := rds1 rs
    have r' : v = .int i := r
    subst r'
    exact .inl ⟨i, rfl, L.q _ T _ H h rfl L.ok Fr.refl⟩
  . rename_i b
    obtain ⟨v, rfl, r⟩ := rds1 rs
    have r' : v = .bl b := r
    subst r'
    exact .inr ⟨b, rfl, L.q _ T _ H h rfl L.ok Fr.refl⟩
  . exact h.elim
def lenD (T : Td) : D -> Option Nat
  | .lst xs => some xs.length
  | .tup xs => some xs.length
  | .ref a => match T a with
    | some (.lst xs) => some xs.length
    | _ => none
  | _ => none
def rLenQ : RAD := fun xs T Q _ => match xs with
  | [x] => match lenD T x with
    | some n => Q (.int n) T
    | none => False
  | _ => False
theorem lenD_V {H : Hp} {T : Td} {x : D} {v : V} {n : Nat} (e : lenD T x = some n) (o : DOk X.K H T) (r : RD X.K H T x v) : ∃ p ys, v = .ref p /\ (SqL X.K H p ys \/ SqT X.K H p ys) /\ ys.length = n := by
  cases x <;> simp only [lenD] at e <;> try (cases e; done)
  . rename_i a
    split at e
    . rename_i xs ht
      cases e
      obtain ⟨vs, hv, rs⟩ := o a _ ht
      exact ⟨a, vs, r, .inl (SqL.of hv), rs.length.symm⟩
    . cases e
  . rename_i xs
    cases e
    obtain ⟨a, vs, e, t, rs⟩ := r
    exact ⟨a, vs, e, .inr t.sq, rs.length.symm⟩
  . rename_i xs
    cases e
    obtain ⟨a, vs, e, t, rs⟩ := r
    exact ⟨a, vs, e, .inl t.sq, rs.length.symm⟩
theorem cd_len : CallD X W (.builtin "len") rLenQ := CallD.of call_len_seq fun σ H Q sd T QD ED xs vs L rs h => by
  unfold rLenQ at h
  split at h
  . split at h
    . rename_i n e
      obtain ⟨v, rfl, r⟩ := rds1 rs
      obtain ⟨p, ys, rfl, hs, hl⟩ := lenD_V e L.ok r
      exact ⟨p, ys, rfl, hs, by rw [hl]; exact L.q _ T _ H h rfl L.ok Fr.refl⟩
    . exact h.elim
  . exact h.elim
end
def IxD (X : Cx) (W : WX) (r : R2D) : Prop :=
  ∀ (value slice : Expr) pins s σ H Q sd T QD ED (x y : D) (vx vy : V) (v u : Value), Inv X pins σ H s -> LE X.K W σ H Q sd T QD ED -> RD X.K H T x vx -> RelV vx v -> RD X.K H T y vy -> RelV vy u -> r x y T QD ED ->
    subscripted slice false v u = operate [v, u] (getItem v u) -> wpAny (model X.prog X.w) X.A (subscriptTail value slice v u) (EP X pins σ Q) X.xe s
theorem IxD.of {X : Cx} {W : WX} {r0 : R2} {r : R2D} (h : IxR X r0)
    (i : ∀ σ H Q sd T QD ED x y vx vy, LE X.K W σ H Q sd T QD ED -> RD X.K H T x vx -> RD X.K H T y vy -> r x y T QD ED -> r0 vx vy H Q) : IxD X W r :=
  fun value slice pins s σ H Q sd T QD ED x y vx vy v u I L r1 r2 r3 r4 q hs => h value slice pins s σ H vx vy v u Q I r2 r4 (i σ H Q sd T QD ED x y vx vy L r1 r3 q) hs
theorem atI_RD {K : PySem.W.Frag} {H : Hp} {T : Td} {ds : List D} {vs : List V} {i : Int} {d : D} (r : RDs K H T ds vs) (e : atI ds i = some d) : ∃ v, atI vs i = some v /\ RD K H T d v := by
  unfold atI at e ⊢
  rw [<- r.length]
  cases q : ixN ds.length i with
  | none => rw [q] at e; cases e
  | some j =>
    rw [q] at e
    exact r.get e
section
variable {X : Cx} {W : WX} {a b : Expr} {ta tb : TDE} {pos : Pos} {r : R2D}
theorem de_ix (hr : IxD X W r) (ha : DE X W a ta) (hb : DE X W b tb) (hs : PlainIx b := by intro _ _; rfl) : DE X W (.Subscript a b pos) (dBin r ta tb) :=
  DE.mk fun pins s σ H Q sd T QD ED I L h => Subscript_ (ha.two hb I L h fun x y vx vy v u s2 H2 T2 I2 L2 r1 r2 r3 r4 q => hr a b pins s2 σ H2 Q sd T2 QD ED x y vx vy v u I2 L2 r1 r2 r3 r4 q.h (hs _ _))
def itemsD (T : Td) : D -> Option (List D)
  | .lst xs => some xs
  | .tup xs => some xs
  | .ref a => match T a with
    | some (.lst xs) => some xs
    | _ => none
  | _ => none
def rIx : R2D := fun x y T Q _ => match y with
  | .int i => match itemsD T x with
    | some xs => match atI xs i with
      | some d => Q d T
      | none => False
    | none => False
  | _ => False
theorem ixd_seq : IxD X W rIx := IxD.of (IxR.or ix_list ix_tup) fun σ H Q sd T QD ED x y vx vy L r1 r2 h => by
  cases y <;> try exact h.elim
  rename_i i
  simp only [rIx] at h
  split at h
  . rename_i xs e
    split at h
    . rename_i d ed
      have r2' : vy = .int i := r2
      subst r2'
      cases x <;> simp only [itemsD] at e <;> try (cases e; done)
      . rename_i a
        split at e
        . rename_i xs' ht
          cases e
          obtain ⟨vs, hv, rs⟩ := L.ok a _ ht
          obtain ⟨v, e1, e2⟩ := atI_RD rs ed
          have r1' : vx = .ref a := r1
          subst r1'
          exact .inl ⟨a, vs, i, v, rfl, rfl, SqL.of hv, e1, L.q _ T _ H h e2 L.ok Fr.refl⟩
        . cases e
      . cases e
        obtain ⟨a, vs, e, t, rs⟩ := r1
        obtain ⟨v, e1, e2⟩ := atI_RD rs ed
        exact .inr ⟨a, vs, i, v, e, rfl, t.sq, e1, L.q _ T _ H h e2 L.ok Fr.refl⟩
      . cases e
        obtain ⟨a, vs, e, t, rs⟩ := r1
        obtain ⟨v, e1, e2⟩ := atI_RD rs ed
        exact .inl ⟨a, vs, i, v, e, rfl, t.sq, e1, L.q _ T _ H h e2 L.ok Fr.refl⟩
    . exact h.elim
  . exact h.elim
end
end DL
namespace DL
open PySem PySem.Spec PyProof.Rows L2
theorem cx_none {P : Program} {w : World} {outer : List Env} {H : Hp} {s : Shared} {u : Value} {s' : Shared} (h : L2.CX P w outer H s (fun _ _ _ => False) u s') : False := by
  obtain ⟨_, _, _, _, _, _, _, _, _, _, _, _, z⟩ := h
  exact z
section
variable {X : Cx} {W : WX} {pins : List (Addr × Obj)} {σ : L2.St} {H : Hp} {s : Shared} {k : Nat} {f C g p : Addr} {sp : SpD} {T : Td} {sd : SD} {QD : KD} {ED : XD} {Q : VK} {xs dds : List D} {vs : List V} {us : List Value}
theorem make_guards [Gd] {A : Around} {C : Addr} {us : List Value} {kw : List (Str × Value)} (h : Gd.ok A.guards) : Gd.ok (A.under (.builtin "type.__call__" ⟨.ref C :: us, kw⟩)).guards := by
  have e : (A.under (.builtin "type.__call__" ⟨.ref C :: us, kw⟩)).guards = A.guards := by
    cases hg : A.guards <;> simp [Around.under, Code.guards, Code.isGuard, guardIds, pushGuards, hg]
  rw [e]
  exact h
theorem tdel_none {T : Td} {a b : Addr} (h : T b = none) : tdel T a b = none := by
  unfold tdel
  split
  . rfl
  . exact h
theorem all_slots {K : PySem.W.Frag} {H : Hp} {T : Td} : ∀ {ys : List D} {ws : List (Option V)}, ys.length = ws.length -> (∀ (i : Nat) d, (ys.map some)[i]? = some (some d) -> ∃ v, ws[i]? = some (some v) /\ RD K H T d v) ->
    ∃ zs : List V, ws = zs.map some /\ RDs K H T ys zs
  | [], [], _, _ => ⟨[], rfl, rfl⟩
  | [], _ :: _, h, _ => by cases h
  | _ :: _, [], h, _ => by cases h
  | y :: ys, w :: ws, h, q => by
    obtain ⟨v, e, r⟩ := q 0 y rfl
    obtain ⟨zs, e2, r2⟩ := all_slots (ys := ys) (ws := ws) (by simpa using h) fun i d z => q (i + 1) d (by simpa using z)
    simp only [List.getElem?_cons_zero, Option.some.injEq] at e
    subst e e2
    exact ⟨v :: zs, rfl, RDs.cons r r2⟩
theorem laid2 {K : PySem.W.Frag} {H H' : Hp} {T : Td} {a dx : Addr} {u : DO} (o : DOk K H T) (na : H a = none) (nd : H dx = none) (same : ∀ b, b ≠ a -> b ≠ dx -> H' b = H b) (w : DObj K H' (tput T a u) a u) : Fr H T H' (tput T a u) /\ DOk K H' (tput T a u) := by
  have fr : Fr H T H' (tput T a u) := fun b o e n => by
    have h1 := ne_of_none e na
    have h2 := ne_of_none e nd
    exact ⟨(same b h1 h2).trans e, by rw [tput_ne h1]; exact n⟩
  refine ⟨fr, fun b q e => ?_⟩
  by_cases z : b = a
  . subst z
    rw [tput_same] at e
    cases e
    exact w
  . rw [tput_ne z] at e
    have h2 : b ≠ dx := fun y => by
      rw [y, o.fresh nd] at e
      cases e
    exact (o b q e).mono fr (same b z h2)
def rMake (C : Addr) (sp : SpD) : RAD := fun xs T Q E => ∀ x, T x = none -> sp (.ref x :: xs) (tput T x (.slo C [])) (fun r T2 => r = .non /\ ∃ ys, T2 x = some (.slo C (ys.map some)) /\ Q (.slo C ys) (tdel T2 x)) (fun ex T2 => E ex (tdel T2 x))
theorem cd_make [Gd] (b : Bd (k + 1) X W) (M : Mk X.K C f) (F : GR X.prog X.w X.K X.mg X.base f k sp) : CallD X W (.ref C) (rMake C sp) := by
  intro pins s σ H Q sd T QD ED xs vs us I L rs r h
  have n1 : H (s.heap.objs.size + 1) = none := I.hok.fresh (Nat.le_succ _)
  have n0 : H s.heap.objs.size = none := I.hok.fresh (Nat.le_refl _)
  have ne : s.heap.objs.size ≠ s.heap.objs.size + 1 := Nat.ne_of_lt (Nat.lt_succ_self _)
  have I1 := Inv.made (C := C) I
  have S1 : SlX.Slt (upd (upd H s.heap.objs.size (.own (s.heap.objs.size + 1))) (s.heap.objs.size + 1) (.ins C s.heap.objs.size [])) (s.heap.objs.size + 1) C s.heap.objs.size [] := .inl ⟨upd_same, rfl⟩
  obtain ⟨_, sl, mA, e0, r0, _, _⟩ := SlX.slt_at I1 S1
  have I2 := SlX.inv_slot (vs' := []) (sl' := sl) (h' := (s.heap.push PySem.W.emptyDict).push (PySem.W.instObj C s.heap.objs.size)) (t' := s.toks) I1 S1 (fun b o _ _ e => e) (fun m e => e) e0 (SlX.SlR.nil _)
  have hT := L.ok.fresh n1
  have hq := h _ hT
  have same : ∀ b, b ≠ s.heap.objs.size + 1 -> b ≠ s.heap.objs.size -> SlX.slH (upd (upd H s.heap.objs.size (.own (s.heap.objs.size + 1))) (s.heap.objs.size + 1) (.ins C s.heap.objs.size [])) (s.heap.objs.size + 1) C s.heap.objs.size [] b = H b := fun b h1 h2 => by
    rw [SlX.slH_ne h1 h2, upd_ne h1, upd_ne h2]
  have hx1 : SlX.slH (upd (upd H s.heap.objs.size (.own (s.heap.objs.size + 1))) (s.heap.objs.size + 1) (.ins C s.heap.objs.size [])) (s.heap.objs.size + 1) C s.heap.objs.size [] (s.heap.objs.size + 1) = some (SlX.SlO (s.heap.objs.size + 1) C s.heap.objs.size []) := by
    unfold SlX.slH
    exact upd_same
  have hx0 : SlX.slH (upd (upd H s.heap.objs.size (.own (s.heap.objs.size + 1))) (s.heap.objs.size + 1) (.ins C s.heap.objs.size [])) (s.heap.objs.size + 1) C s.heap.objs.size [] s.heap.objs.size = some (.xd []) := by
    unfold SlX.slH
    rw [upd_ne ne]
    exact upd_same
  obtain ⟨fr, ok⟩ := laid2 (u := .slo C []) L.ok n1 n0 same ⟨s.heap.objs.size, [], hx1, hx0, by rw [tput_ne ne]; exact L.ok.fresh n0, rfl, fun i d e => by simp at e⟩
  have L2' : LE X.K W σ (SlX.slH (upd (upd H s.heap.objs.size (.own (s.heap.objs.size + 1))) (s.heap.objs.size + 1) (.ins C s.heap.objs.size [])) (s.heap.objs.size + 1) C s.heap.objs.size []) (fun v H' => v = .non /\ Q (.ref (s.heap.objs.size + 1)) H') sd (tput T (s.heap.objs.size + 1) (.slo C [])) (fun r T2 => r = .non /\ ∃ ys, T2 (s.heap.objs.size + 1) = some (.slo C (ys.map some)) /\ QD (.slo C ys) (tdel T2 (s.heap.objs.size + 1))) (fun ex T2 => ED ex (tdel T2 (s.heap.objs.size + 1))) := by
    refine ⟨L.st.mono fr, ok, ?_, fun ex T' c da H' a b c' d => L.x ex _ c da H' a (b.mono Fr.free) c'.free ((fr.trans d).trans Fr.free)⟩
    rintro d T2 v H' ⟨ed, ys, eT, hQ⟩ rd o2 f2
    subst ed
    refine ⟨rd, L.q _ _ _ _ hQ ?_ o2.free ((fr.trans f2).trans Fr.free)⟩
    obtain ⟨dx, ws, h1, h0, td, hl, hs⟩ := o2 _ _ eT
    rw [List.length_map] at hl
    have ew := all_slots hl hs
    obtain ⟨zs, rfl, rz⟩ := ew
    exact ⟨_, dx, zs, rfl, tdel_same, tdel_none td, h0, h1, RDs.mono Fr.free ys rz⟩
  refine wpAny_call (make_map (f := f) I.kIn M.makes M.init (beq_iff_eq.mp M.fn) (codeAny_mono (F _ X.stack _ _ (Value.ref (s.heap.objs.size + 1) :: us) (V.ref (s.heap.objs.size + 1) :: vs) _ (WE W σ) (b.hr.make C us []) (make_guards b.hg) (I2.env0.make C us []) (.cons rfl r)
    (sp_of L2' (RDs.cons (d := .ref (s.heap.objs.size + 1)) rfl (RDs.mono fr xs rs)) L2'.ok Fr.refl hq)) fun r s' hq' => ?_))
  cases r with
  | error e => exact passAt b.tk σ pins _ _ e s' I2 hq'
  | ok fl =>
    cases fl with
    | ret u =>
      obtain ⟨v, H', I3, rv, ev, q3⟩ := I2.after hq'
      subst ev
      exact ⟨rv, ⟨V.ref (s.heap.objs.size + 1), H', I3, rfl, q3⟩⟩
    | next => exact False.elim hq'
    | brk => exact False.elim hq'
    | cont => exact False.elim hq'
end
def AttrD (X : Cx) (W : WX) (f : Str) (r : R1D) : Prop :=
  ∀ pins s σ H Q sd T QD ED (x : D) (vx : V) (v : Value) (b : Bool), Inv X pins σ H s -> LE X.K W σ H Q sd T QD ED -> RD X.K H T x vx -> RelV vx v -> r x T QD ED -> wpAny (model X.prog X.w) X.A (getAttr v f b) (EP X pins σ Q) X.xe s
section
variable {X : Cx} {W : WX} {f : Str} {r : R1D} {e : Expr} {te ta tv : TDE} {pos pos' : Pos} {C p g : Addr} {i k : Nat} {sp : SpD}
theorem de_attr (ho : AttrD X W f r) (he : DE X W e te) (hb : attributeBase e f X.env (eval e X.env) = eval e X.env := by rfl) : DE X W (.Attribute e f pos) (dUn r te) :=
  DE.mk fun pins s σ H Q sd T QD ED I L h => attr_of hb (thn (he.one I L.st L.ok L.x h) fun v s1 ⟨x, vx, H1, T1, B⟩ => ho pins s1 σ H1 Q sd T1 QD ED x vx v _ B.I (L.go B.ok B.fr) B.rd B.rv B.k.h)
def slotsD (C : Addr) (T : Td) : D -> Option (List (Option D))
  | .slo C' xs => if C' = C then some (xs.map some) else none
  | .ref a => match T a with
    | some (.slo C' ds) => if C' = C then some ds else none
    | _ => none
  | _ => none
theorem slotsD_V {K : PySem.W.Frag} {H : Hp} {T : Td} {x : D} {vx : V} {ds : List (Option D)} (o : DOk K H T) (r : RD K H T x vx) (e : slotsD C T x = some ds) :
    ∃ a dx vs, vx = .ref a /\ SlX.Slt H a C dx vs /\ ds.length = vs.length /\ ∀ (i : Nat) d, ds[i]? = some (some d) -> ∃ v, vs[i]? = some (some v) /\ RD K H T d v := by
  cases x <;> simp only [slotsD] at e <;> try (cases e; done)
  . rename_i a
    split at e
    . rename_i C' ds' ht
      split at e
      . rename_i z
        subst z
        cases e
        obtain ⟨dx, vs, h1, h2, h3, h4, h5⟩ := o a _ ht
        exact ⟨a, dx, vs, r, .inr ⟨h1, h2⟩, h4, h5⟩
      . cases e
    . cases e
  . rename_i C' xs
    split at e
    . rename_i z
      subst z
      cases e
      obtain ⟨a, dx, vs, e, t1, t2, h2, h1, rs⟩ := r
      refine ⟨a, dx, vs.map some, e, .inr ⟨h1, h2⟩, by rw [List.length_map, List.length_map, rs.length], fun i d q => ?_⟩
      rw [List.getElem?_map] at q
      cases q1 : xs[i]? with
      | none => rw [q1] at q; cases q
      | some d' =>
        rw [q1] at q
        have q' : d' = d := Option.some.inj (Option.some.inj q)
        subst q'
        obtain ⟨v, e1, e2⟩ := rs.get q1
        exact ⟨v, by rw [List.getElem?_map, e1]; rfl, e2⟩
    . cases e
def rSlot (C : Addr) (i : Nat) : R1D := fun x T Q _ => match slotsD C T x with
  | some ds => match ds[i]? with
    | some (some d) => Q d T
    | _ => False
  | none => False
theorem ad_slot (c : SlX.SCls X.K C) (t : SlX.Slot1 X.K C f p i) : AttrD X W f (rSlot C i) := by
  intro pins s σ H Q sd T QD ED x vx v b I L r1 r2 h
  unfold rSlot at h
  split at h
  . rename_i ds e
    split at h
    . rename_i d ed
      obtain ⟨a, dx, vs, rfl, hs, _, hv⟩ := slotsD_V L.ok r1 e
      obtain ⟨u, e1, e2⟩ := hv i d ed
      obtain rfl : v = Value.ref a := r2
      exact SlX.getslot_ok I hs c t e1 fun w s' I' rw' => L.here I' e2 rw' h
    . exact h.elim
  . exact h.elim
def rProp (C : Addr) (sp : SpD) : R1D := fun x T Q E => (slotsD C T x).isSome = true /\ sp [x] T Q (fun _ _ => False)
structure PrS (K : PySem.W.Frag) (C : Addr) (f : Str) (p g : Addr) : Prop where
  at_ : PySem.W.findIn K (.ref C) f = some (some (.ref p))
  get : PySem.W.specialIn K (.ref p) "__get__" = some (some (.builtin "property.__get__"))
  tk : PySem.W.takesIn K (.ref p) = some true
  rc : ∃ rest, PySem.W.recIn K p "property" = some (.ref g :: rest)
theorem ad_prop [Gd] (bd : Bd (k + 1) X W) (c : SlX.SCls X.K C) (P : PrS X.K C f p g) (F : GR X.prog X.w X.K X.mg X.base g k sp) : AttrD X W f (rProp C sp) := by
  intro pins s σ H Q sd T QD ED x vx v b I L r1 r2 ⟨h1, h⟩
  cases e : slotsD C T x with
  | none => rw [e] at h1; cases h1
  | some ds =>
    obtain ⟨a, dx, vs, rfl, hs, _, _⟩ := slotsD_V L.ok r1 e
    obtain rfl : v = Value.ref a := r2
    obtain ⟨sl, od, _, J, _⟩ := SlX.slt_inst I hs
    obtain ⟨rest, hrec⟩ := P.rc
    have I1 : Inv X pins σ H { s with toks := s.toks + 1 } := I.tok (s.toks + 1)
    refine PySem.W.get_bind I.kIn J (PySem.W.plainGet_of (c.get f)).1 (PySem.W.findObj_data c.ic P.at_ P.get P.tk) (PySem.W.plainGet_of (c.get f)).2 (wpAny_call (PySem.W.prop_get (s := { s with toks := s.toks + 1 }) I.kIn hrec ?_))
    refine codeAny_mono (F X.A.in1 X.stack { s with toks := s.toks + 1 } H [.ref a] [.ref a] Q (fun _ _ _ => False) bd.hr.in1 (show Gd.ok X.A.guards from bd.hg) I1.env0.in1 (.cons rfl .nil) ⟨[x], T, QD, _, RDs.cons r1 RDs.nil, L.ok, h, L.q, fun _ _ _ _ _ z => z.elim⟩) fun r s' hq => ?_
    cases r with
    | error er => exact (cx_none hq).elim
    | ok fl =>
      cases fl with
      | ret u =>
        obtain ⟨v, H', I2, rv, q⟩ := I1.after hq
        exact wpAny_of_eq (PySem.W.handedOut_of (handed_of rv)) ⟨v, H', I2, rv, q⟩
      | next => exact False.elim hq
      | brk => exact False.elim hq
      | cont => exact False.elim hq
def putO (i : Nat) (d : D) (ds : List (Option D)) : List (Option D) := (ds ++ List.replicate (i + 1 - ds.length) none).set i (some d)
def dSlot (C : Addr) (i : Nat) (ta tv : TDE) : TDS := fun Dn sd T => tv sd T (fun y T1 => ta sd T1 (fun x T2 => match x with
  | .ref a => match T2 a with
    | some (.slo C' ds) => C' = C /\ Dn.nx sd (tput T2 a (.slo C (putO i y ds)))
    | _ => False
  | _ => False) (fun ex T1 => Dn.xe ex sd T1)) (fun ex T1 => Dn.xe ex sd T1)
theorem slo_put {K : PySem.W.Frag} {H : Hp} {T : Td} {ds : List (Option D)} {vs : List (Option V)} {y : D} {vy : V} (hl : ds.length = vs.length) (h : ∀ (i : Nat) d, ds[i]? = some (some d) -> ∃ v, vs[i]? = some (some v) /\ RD K H T d v) (ry : RD K H T y vy) (i : Nat) :
    (putO i y ds).length = (SlX.putS i vy vs).length /\ ∀ (j : Nat) d, (putO i y ds)[j]? = some (some d) -> ∃ v, (SlX.putS i vy vs)[j]? = some (some v) /\ RD K H T d v := by
  refine ⟨by unfold putO SlX.putS; simp [hl], fun j d q => ?_⟩
  by_cases hj : j = i
  . subst hj
    unfold putO at q
    rw [List.getElem?_set_self (by simp; omega)] at q
    have q' : y = d := Option.some.inj (Option.some.inj q)
    subst q'
    exact ⟨vy, SlX.putS_get _ _ _, ry⟩
  . unfold putO at q
    rw [List.getElem?_set_ne (Ne.symm hj)] at q
    by_cases hlt : j < ds.length
    . rw [List.getElem?_append_left hlt] at q
      obtain ⟨v, e1, e2⟩ := h j d q
      exact ⟨v, (SlX.putS_ne hj).mpr e1, e2⟩
    . rw [List.getElem?_append_right (by omega), List.getElem?_replicate] at q
      split at q <;> cases q
theorem ds_slot {o value : Expr} (c : SlX.SCls X.K C) (t : SlX.Slot1 X.K C f p i) (ha : DE X W o ta) (hv : DE X W value tv) (hs : swapsWith value (some (.Attribute o f pos')) pos.line X.env = pure false := by rfl) : DS X W (.Assign [.Attribute o f pos'] value pos) (dSlot C i ta tv) := by
  refine PS.imp (SlX.ps_sl ha hv hs) fun De σ H ⟨sd, T, DD, st, ok, L, q⟩ => ?_
  refine ⟨sd, T, _, _, ⟨st, ok, fun y T1 vy H1 k r o f1 => ?_, L.exok st⟩, q⟩
  refine ⟨sd, T1, _, _, ⟨st.mono f1, o, fun x T2 vx H2 k2 r2 o2 f2 => ?_, EXok.go (L.exok st) f1⟩, k⟩
  cases x <;> try exact k2.elim
  rename_i a
  simp only at k2
  split at k2
  . rename_i C' ds ht
    obtain ⟨ec, k2⟩ := k2
    subst ec
    obtain ⟨dx, vs, h1, h2, h3, h4, h5⟩ := o2 a _ ht
    have ne : dx ≠ a := fun z => by
      rw [z, h1] at h2
      exact SlX.slO_not (Option.some.inj h2)
    refine ⟨a, C', dx, p, vs, i, r2, .inr ⟨h1, h2⟩, c, t, ?_⟩
    have eH : SlX.slH H2 a C' dx (SlX.putS i vy vs) = upd H2 a (SlX.SlO a C' dx (SlX.putS i vy vs)) := by
      unfold SlX.slH
      funext b
      by_cases z : b = a
      . rw [z, upd_same, upd_same]
      . rw [upd_ne z, upd_ne z]
        by_cases w : b = dx
        . rw [w, upd_same, h2]
        . rw [upd_ne w]
    rw [eH]
    have fw : Fr H2 T2 (upd H2 a (SlX.SlO a C' dx (SlX.putS i vy vs))) (tput T2 a (.slo C' (putO i y ds))) := Fr.write ht
    obtain ⟨l5, g5⟩ := slo_put h4 h5 (RD.mono f2 y r) i
    refine L.nx sd _ _ _ k2 (((st.mono f1).mono f2).mono fw) (o2.write ht ?_) ((f1.trans f2).trans fw)
    refine ⟨dx, _, upd_same, by rw [upd_ne ne]; exact h2, by rw [tput_ne ne]; exact h3, l5, fun j d q => ?_⟩
    obtain ⟨v, e1, e2⟩ := g5 j d q
    exact ⟨v, e1, RD.mono fw d e2⟩
  . exact k2.elim
end
end DL
namespace VX
open PySem PySem.Spec PyProof.Rows
abbrev veI : Value := .builtin "ValueError.__init__"
abbrev wrO (x : Addr) : Obj := { cls := .type "method-wrapper", dict := none, data := .fields #[veI, .ref x], slots := #[] }
theorem ty_veI : typeOf veI = pure (.type "wrapper_descriptor") := by show builtinType _ = _; rw [builtinType_eq_fast]; kernel_rfl
theorem nc_veI : (kfb_private% "nameAndClass") veI = (pure (("__init__" : Str), Value.type "ValueError") : Sem (Str × Value)) := by kernel_rfl
section
open PySem.W
variable {prog : Program} {w : World} {M : Model} {A : Around} {E : Value -> Shared -> Prop} {h : Heap} {g : Array GenState} {d : Drawn} {t : Nat} {os : OsState}
theorem bind_wr {x C : Addr} {P : Fin -> Shared -> Prop} (hin : W.Looks M h (isInstance (.ref x) (.type "ValueError")) true) (hq : P (.done (.ret (.ref h.objs.size))) ⟨h.push (wrO x), g, d, t, os⟩) :
    wpAny M A (Builtin.«wrapper_descriptor.__get__» ⟨[veI, .ref x, .ref C], []⟩) P E ⟨h, g, d, t, os⟩ := by
  unfold Builtin.«wrapper_descriptor.__get__»
  refine wpAny_bind (wpAny_of_eq (a := (veI, some (.ref x), some (.ref C))) (by first | rfl | kernel_rfl) ?_)
  show wpAny M A ((kfb_private% "checkInstance") veI (.ref x) >>= fun _ => newFields "method-wrapper" [veI, .ref x] >>= fun r => ret r) P E _
  refine wpAny_bind ?_
  show wpAny M A ((kfb_private% "nameAndClass") veI >>= _) _ E _
  refine wpAny_bind (wpAny_of_eq nc_veI ?_)
  show wpAny M A (isInstance (.ref x) (.type "ValueError") >>= _) _ E _
  refine wpAny_bind (hin.at ?_)
  refine KFB.if_not rfl ?_
  exact wpAny_pure (wpAny_bind (wpAny_newObj_type (wpAny_pure hq)))
theorem sup_ga {so D x C : Addr} {l₀ l : List Value} {K : Frag} {name : Str} {tk : Tok} {Q : Fin -> Shared -> Prop}
    (hso : h.get? so = some (ks_superObj D x C)) (hno : W.Looks (model prog w) h (opaqueClassAbove (.ref C)) none)
    (hC : W.Looks (model prog w) h (mroOf (.ref C)) l₀) (hl : (l₀.dropWhile (· != .ref D)).drop 1 = l) (X : K.In h) (hf : alongIn K name l = some (some veI)) (hxC : x ≠ C) (hn : (name == ("__class__" : Str)) = false)
    (hin : W.Looks (model prog w) h (isInstance (.ref x) (.type "ValueError")) true) (hq : Q (.done (.ret (.ref h.objs.size))) ⟨h.push (wrO x), g, d, t, os⟩) :
    wpAny (model prog w) A (Builtin.«super.__getattribute__» ⟨[.ref so, .str name tk], []⟩) Q E ⟨h, g, d, t, os⟩ := by
  have hlk := ESX.slot_wd.lookup
  have hne : (Value.ref x == Value.ref C) = false := by simp [hxC]
  have hTf := ty_veI
  have hTi : Shared.TypeIs ⟨h, g, d, t, os⟩ veI "wrapper_descriptor" := ty_veI
  have hdt : (ks_superObj D x C).data = .fields #[.ref D, .ref x, .ref C] := rfl
  have f0 : (#[.ref D, .ref x, .ref C] : Array Value)[0]? = some (.ref D) := rfl
  have f1 : (#[.ref D, .ref x, .ref C] : Array Value)[1]? = some (.ref x) := rfl
  have f2 : (#[.ref D, .ref x, .ref C] : Array Value)[2]? = some (.ref C) := rfl
  unfold Builtin.«super.__getattribute__»
  repeat (first
    | (with_reducible refine wpAny_field hso hdt f0 ?_) | (with_reducible refine wpAny_field hso hdt f1 ?_) | (with_reducible refine wpAny_field hso hdt f2 ?_)
    | (with_reducible refine ks_wpAny_notOpaque hno ?_)
    | (with_reducible refine Looks.at hC ?_; rw [hl])
    | (refine ks_forIn_along X (fun _ _ => rfl) rfl ?_ hf)
    | (with_reducible refine wpAny_call_entry ESX.slot_wd hTi ESX.entry_wd ?_ (ESX.args_wd _ _ _))
    | (with_reducible refine bind_wr hin ?_)
    | (with_reducible refine ⟨_, rfl, ?_⟩)
    | (simp only [hn, hne, Bool.or_false, Bool.false_eq_true, if_false])
    | wp_step
    | dsimp only)
  all_goals exact hq
theorem sup_method {so D x C : Addr} {l₀ l : List Value} {K : Frag} {name : Str} {pl : Sem Bool} {Q : Value × List Value -> Shared -> Prop}
    (hso : h.get? so = some (ks_superObj D x C)) (hno : W.Looks (model prog w) h (opaqueClassAbove (.ref C)) none)
    (hC : W.Looks (model prog w) h (mroOf (.ref C)) l₀) (hl : (l₀.dropWhile (· != .ref D)).drop 1 = l) (X : K.In h) (hf : alongIn K name l = some (some veI)) (hxC : x ≠ C) (hn : (name == ("__class__" : Str)) = false)
    (hin : W.Looks (model prog w) h (isInstance (.ref x) (.type "ValueError")) true) (hq : Q (.ref h.objs.size, []) ⟨h.push (wrO x), g, d, t + 1, os⟩) : wpAny (model prog w) A (getMethod (.ref so) name pl) Q E ⟨h, g, d, t, os⟩ := by
  have hlk := F.ks_slot_super_ga.lookup
  have hcan := F.ks_canon_super_ga
  have hT : ∀ t', (⟨h, g, d, t', os⟩ : Shared).TypeIs (.ref so) "super" := fun _ => ⟨_, hso, rfl⟩
  unfold getMethod
  refine wpAny_bind (wpAny_specialOf (hT _) hlk ?_)
  show wpAny _ _ (if (Manifest.canonical "super.__getattribute__" != "object.__getattribute__") = true then _ else _) _ _ _
  rw [if_pos hcan]
  unfold getAttr getAttrBy
  refine wpAny_bind (wpAny_bind (wpAny_mkText (wpAny_holding (wpAny_bind (wpAny_typeOf (hT _) (wpAny_bind (wpAny_of_eq hlk ?_)))))))
  show wpAny _ _ (getAttrByItsOwn (.ref so) (.str name t) (.type "super") (.builtin "super.__getattribute__") true false) _ _ _
  unfold getAttrByItsOwn hookBefore callGetattribute boundAndCalled
  refine wpAny_bind (wpAny_of_eq (show (if onTheHeap (.type "super") then typeLookup (.type "super") "__getattr__" else pure none) = pure none from rfl) ?_)
  refine wpAny_bind (wpAny_attempt (wpAny_holding ?_))
  show wpAny _ _ (bindSpecial (.builtin "super.__getattribute__") (.ref so) >>= _) _ _ _
  refine wpAny_bind (wpAny_of_eq (F.ks_slot_super_ga.bind _) ?_)
  refine wpAny_mono (Q := fun v s' => v = .ref h.objs.size /\ s' = ⟨h.push (wrO x), g, d, t + 1, os⟩) (E := fun _ _ => False)
    (wpAny_call_entry F.ks_slot_super_ga (hT _) F.ks_entry_super_ga (sup_ga hso hno hC hl X hf hxC hn hin ⟨_, rfl, rfl, rfl⟩) (F.ks_gaArgs_super _ _)) (fun v s' hv => ?_) fun _ _ z => z.elim
  obtain ⟨rfl, rfl⟩ := hv
  exact wpAny_pure (wpAny_pure hq)
end
section
open PySem.W PySem.Calls
variable {M : Model} {A : Around} {E : Value -> Shared -> Prop} {s : Shared}
theorem cw_wr {pos : Pos} {u x : Addr} {env : Env} {e : Expr} {Q : Value -> Shared -> Prop}
    (h : wpAny M A (spliced (backTo pos (starEach [e] env))) (fun vs s₁ => s₁.heap.get? u = some (wrO x) /\ wpAny M A (call (.ref u) vs) Q E s₁) E s)
    (he : starEach [e] env = (false, eval e env) :: starEach [] env := by rfl) : wpAny M A (callWith pos (.ref u) [] (backTo pos (starEach [e] env)) []) Q E s := by
  have hplain : (backTo pos (starEach [e] env)).any (·.1) = false := by rw [he]; rfl
  have h2 : wpAny M A (evalArgs (.ref u) true (backTo pos (starEach [e] env)) []) (fun a s₁ => s₁.heap.get? u = some (wrO x) /\ wpAny M A (call (.ref u) ([] ++ a.pos) a.kw) Q E s₁) E s := by
    rw [he] at h ⊢
    exact evalArgs_plain h
  unfold callWith
  refine wpAny_bind (wpAny_holding (wpAny_mono h2 (fun a s₁ h₁ => wpAny_bind (wpAny_standAt ?_)) fun _ _ x => x))
  obtain ⟨ho, hcall⟩ := h₁
  simp only [hplain, List.any_nil, Bool.or_false]
  refine wpAny_bind (m := keeperOf (.ref u)) ?_
  unfold keeperOf
  refine wpAny_bind (wpAny_load ho ?_)
  simp only [wrO, show (Value.type "method-wrapper" != Value.type "method") = true by decide, show (Value.type "method-wrapper" == Value.type "builtin_function_or_method" || Value.type "method-wrapper" == Value.type "method-wrapper") = true by decide, if_true]
  refine wpAny_pure ?_
  exact wpAny_bind (wpAny_mono hcall (fun r s₂ hr => wpAny_bind (wpAny_holding (wpAny_point (wpAny_pure hr)))) fun _ _ x => x)
end
section
variable {prog : Program} {w : World} {A : Around} {E : Value -> Shared -> Prop} {h : Heap} {g : Array GenState} {d : Drawn} {t : Nat} {os : OsState}
variable {nm q : Str} {C N : Addr} {bs bm : List Value} {hdct : Bool} {sn : List Str} {sub : List Value} {ab : Bool} {col : Option Bool} {dd : Option Addr} {k0 k1 k2 k3 k5 : Option Value}
theorem call_wr {u e t0 : Addr} {rest : List Value} {Q : Value -> Shared -> Prop}
    (hC : h.get? C = some (excClassObj nm q C N bs bm hdct sn sub ab col dd k0 k1 k2 k3 k5 "ValueError.__new__")) (he : h.get? e = some (HandSPX.excO C t0)) (hu : h.get? u = some (wrO e)) (hrest : rest.length <= sizeLine)
    (hq : ∀ h' t1, (∀ b o, b ≠ e -> h.get? b = some o -> h'.get? b = some o) -> h'.get? e = some (HandSPX.excO C t1) -> Q .none ⟨h', g, d, t, os⟩) :
    wpAny (model prog w) A (call (.ref u) rest) Q E ⟨h, g, d, t, os⟩ := by
  refine wpAny_call (codeAny_of_tree ?_)
  show wpAny _ A.in1 (callAny (.ref u) ⟨rest, []⟩) _ _ _
  simp only [callAny]
  refine wpAny_bind (wpAny_load hu ?_)
  simp only [wrO, show (Value.type "method-wrapper" == Value.type "method" || Value.type "method-wrapper" == Value.type "builtin_function_or_method" || Value.type "method-wrapper" == Value.type "method-wrapper") = true by decide, if_true]
  refine W.KFB.if_so (by decide) ?_
  refine wpAny_bind (ESX.check_bound F.excBase_ValueError hC he rfl ?_)
  refine wpAny_bind (wpAny_pure (wpAny_pure ?_))
  refine ⟨Code.quiet_builtin _ (by decide +kernel), codeAny_builtin F.excBase_ValueError.initEntry ?_⟩
  rw [Around.under_plainId F.excBase_ValueError.init.plain _]
  wp_walk
  refine hq _ h.objs.size (fun b o hb ho => ?_) ?_
  . rw [Heap.get?_update_other _ _ (Ne.symm hb)]
    exact Heap.get?_push_of_some _ ho
  . rw [Heap.get?_update_self _ (Heap.get?_push_of_some _ he) rfl]
    rfl
end
end VX
namespace VX
open PySem PySem.Spec PyProof.Rows L2
abbrev slScope : Scope := { kind := .function, names := [("self", .local), ("value", .local), ("__class__", .free), ("super", .globalImplicit)], isGenerator := false, isCoroutine := false, more := [] }
structure SlF (prog : Program) (K : PySem.W.Frag) (f D : Addr) (fd : FuncData) : Prop where
  ex : ∃ (oc : Value) (od : Option Addr) (osl : Array (Option Value)) (qual : Str) (params : Arguments) (dV kV doc pm : Value) (an : Option Addr) (cda cc : Addr) (ct : Value) (ccl cl : Value) (cdd cld : Option Addr) (ccs csl : Array (Option Value))
    (vs : Array Value) (file : Str) (tf : Tok) (ar : Arg) (p0 p1 p2 p3 p4 p5 p6 p7 p8 p9 : Pos) (cdD : ClassData),
    fd = PySem.W.ksFn "__init__" qual params [.Expr (.Call (.Attribute (.Call (.Name "super" p0) [] [] p1) "__init__" p2) [.Name "value" p3] [] p4) p5, .Assign [.Attribute (.Name "self" p6) "value" p7] (.Name "value" p8) p9] slScope dV kV doc pm an (.ref cda) ct cc /\
    K.lookup f = some ⟨oc, od, .func fd, osl⟩ /\ PySem.W.codeIn K (.ref cda) qual = true /\ K.lookup cda = some ⟨ccl, cdd, .fields vs, ccs⟩ /\ vs[2]? = some (.str file tf) /\ ((prog.main.file : Str) == file) = true /\
    K.lookup cc = some ⟨cl, cld, .cell (some (.ref D)), csl⟩ /\ PySem.W.clsIn K D = some cdD /\ (params.posonlyargs ++ params.args).head? = some ar /\ ar.arg = "self" /\ (p2.endLine == p4.line) = true
  top : (prog.main.scope.names.lookup ("super" : Str)).isSome = false
  opq : PySem.W.nsIn K cStatics "thirdparty.any" = some none
structure SlC (K : PySem.W.Frag) (D C : Addr) : Prop where
  o : OexC K C
  ve : PySem.W.mroIn K C (.type "ValueError") = some true
  sub : PySem.W.mroIn K C (.ref D) = some true
  sup : PySem.W.ks_superIn K C D "__init__" = some (some veI)
  noV : PySem.W.findIn K (.ref C) "value" = some none
def slSp (K : PySem.W.Frag) (D : Addr) : Sp := fun vs H Q _ => ∃ (a C : Addr) (v : V), vs = [.ref a, v] /\ SlC K D C /\ H a = some (exo a C none) /\ ∀ dx, H dx = none -> dx ≠ a -> Q .non (upd (upd H dx (exd dx [("value", v)])) a (exo a C (some dx)))
theorem ev_sup {p0 p1 p2 p3 p4 : Pos} {env : Env} (hp : (p2.endLine == p4.line) = true) : eval (.Call (.Attribute (.Call (.Name "super" p0) [] [] p1) "__init__" p2) [.Name "value" p3] [] p4) env = (do
    let ov <- attributeBase (.Call (.Name "super" p0) [] [] p1) "__init__" env (eval (.Call (.Name "super" p0) [] [] p1) env)
    standAt p2.atName
    let (f, first) <- holding [ov] (getMethod ov "__init__" (do return (<- importBound (.Call (.Name "super" p0) [] [] p1) env).getD true))
    callWith p4 f first (backTo p4 (starEach [.Name "value" p3] env)) []) := by
  have e : ∀ few, methodCallPos few (.Call (.Name "super" p0) [] [] p1) env p2 p4 = pure p4 := fun few => by
    unfold methodCallPos
    rw [hp, Bool.or_true]
    rfl
  show (do
    let ov <- attributeBase (.Call (.Name "super" p0) [] [] p1) "__init__" env (eval (.Call (.Name "super" p0) [] [] p1) env)
    standAt p2.atName
    methodCall (.Call (.Name "super" p0) [] [] p1) "__init__" p2 p4 env ov 1 (backTo p4 (starEach [.Name "value" p3] env)) []) = _
  unfold methodCall
  simp only [e]
  rfl
section
variable {CX : CXT} {P : Program} {w : World} {K : PySem.W.Frag} {mg : Str -> Option Value} {base : Heap} {k : Nat}
theorem inv_bare {qual : Str} {sc : Scope} {f : Addr} {cd : Value} {A : Around} {outer : List Env} {s : Shared} {H : Hp} {E : XK} {h₀ : Heap} {m : Str -> Option Value} {t : Nat} (hk : sc.kind = .function) (hd : A.handled = none) (e0 : Env0 P w K mg base A outer s H)
    (hn : h₀.Ns s.heap.objs.size m) (keep : ∀ b o, s.heap.get? b = some o -> h₀.get? b = some o) : Inv (cxOf CX P w K mg base [] qual { sc with names := [] } f cd A outer s H E) [] [] H { s with heap := h₀, toks := t } := by
  have noA : ∀ b : Addr, b ∉ (cxOf CX P w K mg base [] qual { sc with names := [] } f cd A outer s H E).ex := fun b z => absurd (show b ∈ ([] : List Addr) from z) (by simp)
  have noC : ∀ x c, (cxOf CX P w K mg base [] qual { sc with names := [] } f cd A outer s H E).env.cells.lookup x = some c -> False := fun x c e => by
    have e' : ([] : List (Str × Addr)).lookup x = some c := e
    cases e'
  have noK : ∀ y (z : NameKind), (cxOf CX P w K mg base [] qual { sc with names := [] } f cd A outer s H E).env.kindOf y = some z -> False := fun y z e => by
    have e' : ([] : List (Str × NameKind)).lookup y = some z := e
    cases e'
  refine ⟨⟨e0.mod, hk, rfl, rfl, Nat.le_refl _, fun y z c h1 _ => (noC y c h1).elim, fun y hy => ?_, fun y c _ h => (noC y c h).elim, fun _ => hd, Around.frames_deeper e0.frames, .inr ⟨rfl, rfl⟩, fun b z => absurd z (noA b), e0.bs, e0.bsz, fun b _ _ => noA b, fun b z => absurd z (noA b), e0.funs, e0.frf⟩,
    rfl, e0.bare, Un.kept keep, ⟨_, hn, fun i y v h1 h2 h3 => ?_⟩, fun y c h => (noC y c h).elim, e0.hok.fresh (Nat.le_refl _), fun y c h => (noC y c h).elim, fun p hp => absurd (show p ∈ ([] : List (Addr × Obj)) from hp) (by simp), e0.hok.kept keep, rfl⟩
  . rcases hy with hy | hy
    . exact (noK _ _ hy).elim
    . exact (noK _ _ hy).elim
  . have h1' : ([] : List Str)[i]? = some y := h1
    simp at h1'
theorem slip_init {f D : Addr} {fd : FuncData} (F : SlF P K f D fd) (hms : mg "super" = none) : FnOk P w K mg base CX (k + 1) f fd ["self", "value"] (slSp K D) := by
  obtain ⟨oc, od, osl, qual, params, dV, kV, doc, pm, an, cda, cc, ct, ccl, cl, cdd, cld, ccs, csl, vs0, file, tf, ar, p0, p1, p2, p3, p4, p5, p6, p7, p8, p9, cdD, rfl, lk, hcd, lc, hvs, hfile, lcc, hD, hhd, har, hpp⟩ := F.ex
  refine ⟨fun vs H Q E ⟨a, C, v, e, _⟩ => by rw [e]; rfl, fun A outer s H args us vs Q E hr e0 hb r hsp => ?_⟩
  obtain ⟨a, C, v, rfl, SC, ea, hq⟩ := hsp
  obtain ⟨ua, uv, rfl, ra, rv⟩ : ∃ ua uv, us = [ua, uv] /\ RelV (.ref a) ua /\ RelV v uv := by
    cases r with
    | cons r1 r2 =>
      cases r2 with
      | cons r3 r4 =>
        cases r4
        exact ⟨_, _, rfl, r1, r3⟩
  obtain rfl : ua = Value.ref a := ra
  have KX : K.In s.heap := e0.mod.kin.keeps fun b o e => (e0.bs b o e).1
  have lim : s.heap.NoLimit := e0.mod.nolimit.keeps fun b o e => (e0.bs b o e).1
  refine PySem.ks_codeAny_call_defAt (binds := (["self", "value"] : List Str).zip [Value.ref a, uv]) hr.depth (KX _ _ lk) rfl lim (PySem.W.codeRec_of KX hcd) rfl hb (by show ∀ x ∈ slScope.names, x.2 ≠ .cell; decide) (fun x hx => ?_) (fun h₀ hns keep => ?_) rfl rfl rfl
  . rcases List.mem_cons.mp hx with rfl | hx
    . rfl
    . rcases List.mem_cons.mp hx with rfl | hx
      . rfl
      . cases hx
  have I0 : Inv (cxOf CX P w K mg base [] qual { slScope with names := [] } f (.ref cda) A outer s H E) [] [] H { s with heap := h₀, toks := s.toks + 2 } := inv_bare rfl hr.hd e0 hns keep
  show _root_.PySem.wpAt (model P w) (A.deeper (PySem.W.ksEnv qual slScope s.heap.objs.size f (.ref cda) cc)) (.func _ (PySem.W.ksEnv qual slScope s.heap.objs.size f (.ref cda) cc)) (execs _ (PySem.W.ksEnv qual slScope s.heap.objs.size f (.ref cda) cc)) _ _ { s with heap := h₀, toks := s.toks + 2 }
  have KX0 : K.In h₀ := I0.kIn
  obtain ⟨t1, hoa⟩ := exo_at I0.hok ea
  obtain ⟨nm, q, N, bs, bm, sn, sub, ab, col, dd, k0, k1, k2, k3, k5, hC, hbm⟩ := SC.o.cls
  have hclC : PySem.W.clsIn K C = some { name := nm, bases := bs, mro := .ref C :: bm, ns := N, qualname := q, hasDict := true, slotNames := sn, subclasses := sub, abstract := ab, collection := col, hasDel := false } := by unfold PySem.W.clsIn; rw [hC] <;> rfl
  have haC : a ≠ C := fun z => by
    have z2 := KX0 _ _ hC
    rw [<- z, hoa] at z2
    cases z2
  have hs1 : ((["self", "value"] : List Str).zip [Value.ref a, uv]).reverse.lookup ("self" : Str) = some (.ref a) := by
    simp [List.lookup]
    rfl
  have hs2 : ((["self", "value"] : List Str).zip [Value.ref a, uv]).reverse.lookup ("value" : Str) = some uv := by simp [List.lookup]
  obtain ⟨oD, hD1, hD2⟩ : ∃ oD, h₀.get? D = some oD /\ oD.data = .cls cdD := by
    unfold PySem.W.clsIn at hD
    split at hD
    . rename_i c d cd' sl ho
      cases hD
      exact ⟨_, KX0 _ _ ho, rfl⟩
    . cases hD
  refine ks_wpAt_execs_cons (ks_wpAt_Expr_any (ks_wpAt_MethodCall (pl := do return (<- importBound (.Call (.Name "super" p0) [] [] p1) (PySem.W.ksEnv qual slScope s.heap.objs.size f (.ref cda) cc)).getD true) ?_ (ev_sup hpp)))
  refine ks_wpAt_super_base (ar := ar) (env := PySem.W.ksEnv qual slScope s.heap.objs.size f (.ref cda) cc) (by rfl) (by rfl) (by decide) rfl (KX0 _ _ lk) rfl hhd rfl (KX0 _ _ lc) rfl hvs hfile F.top ?_
  obtain ⟨mb, hb1, hb2⟩ := e0.mod.blt
  have bk : ∀ b o, base.get? b = some o -> h₀.get? b = some o := I0.bk
  refine PySem.W.ks_loadName_global rfl (by rfl) (Calls.loadGlobal_builtin (env := PySem.W.ksEnv qual slScope s.heap.objs.size f (.ref cda) cc) (e0.mod.glob.keeps bk) hms (hb1.keeps bk) ((hb2 _ (by decide)).trans (by rfl : bootBuiltins ("super" : Str) = some (.type "super"))) ⟨rfl, ?_⟩)
  refine wpAny_loadName_free rfl (by rfl) rfl ⟨_, KX0 _ _ lcc, rfl⟩ ?_
  rw [har]
  refine wpAny_loadName_local rfl (by rfl) hns hs1 ?_
  refine ks_wpAny_isType_cls hD1 hD2 ⟨rfl, ?_⟩
  refine ks_wpAny_call_super hD1 hD2 hoa rfl (fun c e => by cases e) (PySem.W.looks_mroIn KX0 SC.sub) (fun h1 e1 kp1 => ?_)
  have I1 : Inv (cxOf CX P w K mg base [] qual { slScope with names := [] } f (.ref cda) A outer s H E) [] [] H { s with heap := h1, toks := s.toks + 2 } := I0.kept (t' := s.toks + 2) kp1
  have KX1 : K.In h1 := I1.kIn
  have hns1 := hns.keeps kp1
  have lkC : PySem.W.Looks (model P w) h1 (mroOf (.ref C)) (.ref C :: bm) := (PySem.W.looks_clsIn KX1 hclC).andThen .now
  have hin : PySem.W.Looks (model P w) h1 (isInstance (.ref a) (.type "ValueError")) true := PySem.W.Looks.andThen (fun A Q E s k q => wpAny_typeOf_ref (k _ _ (kp1 _ _ hoa)) q) (PySem.W.looks_mroIn KX1 SC.ve)
  have hal : PySem.W.alongIn K "__init__" (((Value.ref C :: bm).dropWhile (· != .ref D)).drop 1) = some (some veI) := by
    have z := SC.sup
    unfold PySem.W.ks_superIn at z
    rw [hclC] at z
    exact z
  refine sup_method e1 (PySem.W.looks_opaque KX1 F.opq) lkC rfl KX1 hal haC (by decide) hin ?_
  have hu : (h1.push (wrO a)).get? h1.objs.size = some (wrO a) := Heap.get?_push_size h1 rfl
  have kp2 : ∀ b o, h1.get? b = some o -> (h1.push (wrO a)).get? b = some o := fun b o e => Heap.get?_push_of_some _ e
  have I2 : Inv (cxOf CX P w K mg base [] qual { slScope with names := [] } f (.ref cda) A outer s H E) [] [] H { s with heap := h1.push (wrO a), toks := s.toks + 2 + 1 } := I1.kept (t' := s.toks + 2 + 1) kp2
  have hns2 := hns1.keeps kp2
  refine cw_wr (x := a) ?_ (by rfl)
  refine Calls.spliced_cons (wpAny_Name (wpAny_loadName_local rfl (by rfl) hns2 hs2 ?_) (by decide))
  refine Calls.spliced_nil ⟨hu, ?_⟩
  refine call_wr (t0 := t1) (I2.kIn _ _ hC) (kp2 _ _ (kp1 _ _ hoa)) hu (by show 1 <= sizeLine; rw [sizeLine_eq]; omega) fun h3 t3 kp3 e3 => ?_
  have J := I2.write (t' := s.toks + 2 + 1) (x := a) (e := a) (o := exo a C none) (by rw [ea]; exact True.intro) (.inl rfl) kp3 ⟨_, e3⟩ (exo_ok e3)
  have eu : upd H a (exo a C none) = H := by
    funext b
    by_cases hb : b = a
    . rw [hb, upd_same, ea]
    . rw [upd_ne hb]
  rw [eu] at J
  have hns3 : h3.Ns s.heap.objs.size fun y => ((["self", "value"] : List Str).zip [Value.ref a, uv]).reverse.lookup y := by
    obtain ⟨oL, es, ep, hL, rr⟩ := hns2
    refine ⟨oL, es, ep, kp3 _ _ (fun z => ?_) hL, rr⟩
    have z2 : H s.heap.objs.size = none := e0.hok.fresh (Nat.le_refl _)
    rw [z, ea] at z2
    cases z2
  refine ks_wpAt_execs_cons (wpAt_of_wpAny ?_)
  refine plainObj_wpAny_Assign_Attribute (wpAny_Name (wpAny_loadName_local rfl (by rfl) hns3 hs2 (wpAny_Name (wpAny_loadName_local rfl (by rfl) hns3 hs1 ?_) (by decide))) (by decide)) (by rfl)
  refine ost_new (X := cxOf CX P w K mg base [] qual { slScope with names := [] } f (.ref cda) A outer s H E) SC.o J ea SC.noV rv fun dx s4 nd ne J4 => ?_
  refine wpAt_of_wpAny (wpAny_execs_nil ?_)
  exact ⟨.non, _, J4.os, J4.bare, J4.base, J4.hok, rfl, hq dx nd ne⟩
end
end VX
namespace DL
open PySem PySem.Spec PyProof.Rows L2
section
variable {X : Cx} {W : WX} {pins : List (Addr × Obj)} {s : Shared} {σ : L2.St} {H : Hp} {T : Td} {C : Addr}
def insD (C : Addr) (T : Td) : D -> Option (List Str × List D)
  | .obj C' ns xs => if C' = C then some (ns, xs) else none
  | .ref a => match T a with
    | some (.ins C' ns xs) => if C' = C then some (ns, xs) else none
    | _ => none
  | _ => none
theorem insD_V {K : PySem.W.Frag} {x : D} {vx : V} {ns : List Str} {xs : List D} (ok : DOk K H T) (r : RD K H T x vx) (q : insD C T x = some (ns, xs)) :
    ∃ a dx vs, vx = .ref a /\ H a = some (.ins C dx (ns.zip vs)) /\ ns.length = vs.length /\ RDs K H T xs vs := by
  cases x <;> simp only [insD] at q <;> try (cases q; done)
  . rename_i a
    split at q
    . rename_i C' ns' xs' ht
      split at q
      . rename_i z
        subst z
        cases q
        obtain ⟨dx, vs, h1, _, _, l, rs⟩ := ok a _ ht
        exact ⟨a, dx, vs, r, h1, l, rs⟩
      . cases q
    . cases q
  . rename_i C' ns' xs'
    split at q
    . rename_i z
      subst z
      cases q
      obtain ⟨a, dx, vs, e, _, _, _, h1, l, rs⟩ := r
      exact ⟨a, dx, vs, e, h1, l, rs⟩
    . cases q
def isIn (C : Addr) (T : Td) (x : D) : Bool := (slotsD C T x).isSome || (insD C T x).isSome
theorem isIn_s {x : D} (h : (slotsD C T x).isSome = true) : isIn C T x = true := by unfold isIn; rw [h, Bool.true_or]
theorem any_inst {x : D} {vx : V} (I : Inv X pins σ H s) (o : DOk X.K H T) (r : RD X.K H T x vx) (h : isIn C T x = true) : ∃ a dx sl od, vx = .ref a /\ PySem.W.InstAt s.heap a { PySem.W.instObj C dx with slots := sl } C (some od) := by
  cases e : slotsD C T x with
  | some ds =>
    obtain ⟨a, dx, vs, rfl, hs, _⟩ := slotsD_V o r e
    obtain ⟨sl, od, _, J, _⟩ := SlX.slt_inst I hs
    exact ⟨a, dx, sl, od, rfl, J⟩
  | none =>
    cases e2 : insD C T x with
    | none => unfold isIn at h; rw [e, e2] at h; cases h
    | some q =>
      obtain ⟨ns, xs⟩ := q
      obtain ⟨a, dx, vs, rfl, ea, _, _⟩ := insD_V o r e2
      obtain ⟨mA, O, _, _, _, _⟩ := ins_get I.hok ea
      obtain ⟨od, J, _⟩ := O.look
      exact ⟨a, dx, _, od, rfl, J⟩
theorem slo_inst {x : D} {vx : V} (I : Inv X pins σ H s) (o : DOk X.K H T) (r : RD X.K H T x vx) (h : isIn C T x = true) : ∃ a ox od, vx = .ref a /\ PySem.W.InstAt s.heap a ox C (some od) :=
  let ⟨a, _, _, od, e, J⟩ := any_inst I o r h
  ⟨a, _, od, e, J⟩
end
end DL
namespace DL
open PySem PySem.Spec PyProof.Rows L2 VX
section
variable {X : Cx} {pins : List (Addr × Obj)} {σ : L2.St} {H : Hp} {s : Shared} {a : Addr} {c : Value} {d : Option Addr}
theorem track (I : Inv X pins σ H s) (P : EcP a c d s.heap) (na : H a = none) (n0 : X.s_0.heap.get? a = none) (nL : a ≠ X.env.locals) (nC : ∀ x cc, X.env.cells.lookup x = some cc -> cc ≠ a) (nP : ∀ p ∈ X.pn ++ pins, p.1 ≠ a) : Inv X pins σ (upd H a (EcO a c d)) s := by
  have ne0 : ∀ {b : Addr} {o : Obj}, X.s_0.heap.get? b = some o -> b ≠ a := fun {b o} e z => by rw [z, n0] at e; cases e
  have neH : ∀ {b : Addr} {u : HO}, H b = some u -> b ≠ a := fun {b u} e z => by rw [z, na] at e; cases e
  refine ⟨I.ok, I.os, I.bare, ⟨I.base.keep, I.base.slot, fun b o e n hx => ?_, I.base.there, fun b xs e => ?_, fun b o u e => ?_, fun b ps e => ?_⟩, I.loc, I.cell, ?_, fun x cc e => ?_, fun p hp => ?_, fun b u e => ?_, I.len⟩
  . rw [upd_ne (ne0 e)]
    exact I.base.free b o e n hx
  . have q := I.base.tups b xs e
    rw [upd_ne (neH q)]
    exact q
  . have q := I.base.frzs b o u e
    rw [upd_ne (neH q)]
    exact q
  . obtain ⟨m, q⟩ := I.base.tbls b ps e
    exact ⟨m, by rw [upd_ne (neH q)]; exact q⟩
  . rw [upd_ne (Ne.symm nL)]
    exact I.free
  . rw [upd_ne (nC x cc e)]
    exact I.freeC x cc e
  . obtain ⟨h1, h2, h3⟩ := I.pin p hp
    exact ⟨h1, by rw [upd_ne (nP p hp)]; exact h2, h3⟩
  . by_cases z : b = a
    . subst z
      rw [upd_same] at e
      cases e
      obtain ⟨oe, vs, ho, hr⟩ := P
      exact ⟨⟨oe, vs, ho, hr⟩, ⟨oe, ho⟩, fun h1 h2 ⟨o, vs, q, r⟩ k => ⟨o, vs, k _ q, r⟩⟩
    . rw [upd_ne z] at e
      exact (I.hok b u e).stay (fun c v _ q => q) (fun c q => by rw [upd_ne (neH q)]; exact q) fun c xs q => by rw [upd_ne (neH q)]; exact q
abbrev suiteE (X : Cx) (a : Addr) (pn : List (Addr × Obj)) : Cx := { X with A := X.A.mark (some (.ref a)), calm := false, pn := pn, xe := fun _ _ => False }
theorem suiteE_ok (ok : X.Ok) (pn : List (Addr × Obj)) : (suiteE X a pn).Ok :=
  ⟨ok.mod, ok.kind, ok.glob, ok.blt, ok.above, ok.inj, ok.has, ok.cab, (fun z => absurd (show false = true from z) Bool.false_ne_true), ok.frames, ok.stk, ok.exf, ok.bs, ok.bsz, ok.noex, ok.exfs, ok.funs, ok.frf⟩
theorem suiteE_in (I : Inv X pins σ H s) : Inv (suiteE X a (X.pn ++ pins)) [] σ H s :=
  ⟨suiteE_ok I.ok _, I.os, I.bare, I.base, I.loc, I.cell, I.free, I.freeC, fun p hp => I.pin p (by rw [List.append_nil] at hp; exact hp), I.hok, I.len⟩
theorem suiteE_out {pn' : List (Addr × Obj)} (I : Inv (suiteE X a (X.pn ++ pins)) pn' σ H s) (ok : X.Ok) : Inv X pins σ H s :=
  ⟨ok, I.os, I.bare, I.base, I.loc, I.cell, I.free, I.freeC, fun p hp => I.pin p (List.mem_append_left _ hp), I.hok, I.len⟩
end
abbrev WN : WX := fun _ _ _ _ => False
def hCond (m : Value -> Option Bool) (i : Nat) (ts : TDS) (D : DEnds) : Ex -> SD -> Td -> Prop := fun ex sd T => ∃ b, m ex.cls = some b /\
  (b = true -> ex.ns ≠ [] /\ ts { nx := fun s2 T2 => D.nx (s2.set i none) T2, rt := D.rt, bk := fun s2 T2 => D.bk (s2.set i none) T2, ct := fun s2 T2 => D.ct (s2.set i none) T2, xe := fun _ _ _ => False } (sd.set i (some (.exc ex.cls ex.ns ex.xs))) T) /\
  (b = false -> D.xe ex sd T)
def dTry (m : Value -> Option Bool) (i : Nat) (tb ts : TDS) : TDS := fun D sd T => tb { D with xe := hCond m i ts D } sd T
section
variable {X : Cx} {x n : Str} {c : Value} {i : Nat} {body suite : List Stmt} {b₀ : Stmt} {np pos pos' : Pos} {tb : TDS} {ts : TDS} {Wout : WX} {m : Value -> Option Bool}
theorem ds_try_as (hex : X.ex = []) (hs : X.stack = X.env :: X.outer) (hf : X.env.frame = some X.env.locals) (hN : X.N.Nodup) (hi : X.N[i]? = some n) (hln : X.env.kindOf n = some .local) (hc : Names X x c) (tk : L2.Takes X Wout) (hm : ∀ v b, m v = some b -> PySem.W.exmOne X.K v c = some b)
    (hb : ∀ (W : WX) (pn : List (Addr × Obj)) (xe : Value -> Shared -> Prop), L2.Takes (X.tr pn xe) W -> PassesOwn (model X.prog X.w) X.A X.env xe -> DSs (X.tr pn xe) W body tb)
    (hsu : ∀ (a : Addr) (pn : List (Addr × Obj)), DSs (suiteE X a pn) WN (b₀ :: suite) ts) :
    DS X Wout (.Try body [.ExceptHandler (some (.Name x np)) (some n) (b₀ :: suite) pos'] [] [] pos) (dTry m i tb ts) := by
  refine DS.mk fun pins s σ H De sd T DD I st ok0 L q => ?_
  have ok := I.ok
  have hfr : X.A.frames = some (X.env :: X.outer) := by rw [ok.frames, hs]
  have hloc : Loc X.env.scope n := .inl hln
  let W0 : WX := fun cls d σ' H' => ∃ ex sd' T', hCond m i ts DD ex sd' T' /\ XR X.K H' T' ex cls d /\ StOk X.K H' T' sd' σ' /\ DOk X.K H' T' /\ Fr H T H' T'
  have LB : LS X.K W0 De { DD with xe := hCond m i ts DD } H T := ⟨L.nx, L.rt, L.bk, L.ct, fun ex sd' T' c da σ' H' n xr st' o f => ⟨ex, sd', T', n, xr, st', o, f⟩⟩
  refine wpAny_Try_except ?_
  refine wpAny_mono ((hb W0 (X.pn ++ pins) (fun e s₁ => wpAny (model X.prog X.w) X.A (noteFrame e X.env) (fun _ s₂ => wpAny (model X.prog X.w) X.A (setFlight e none) (fun _ s₃ =>
    wpAny (model X.prog X.w) X.A (handleBy e X.env [.ExceptHandler (some (.Name x np)) (some n) (b₀ :: suite) pos']) (SP X pins De) X.xe s₃) X.xe s₂) X.xe s₁) (fun u s' xx => ?_) PassesOwn.looking).run [] s σ H De (I.toTry _) ⟨sd, T, _, st, ok0, LB, q⟩) (fun f s1 hsp => ?_) (fun e s1 he => he)
  . obtain ⟨a, B, sI, pins', σ', H', cls, d, rfl, J', nb, up, sky, na, os, ag, ex, sd', T', ⟨b, hb1, hyes, hno⟩, xr, st', ok', fr'⟩ := xx
    have J : Inv X pins σ' H' sI := J'.ofTry ok
    have sky' : Sky B (X.env :: X.outer) a (Zc cls d) X.env.locals s'.heap := by rw [<- hs]; exact sky
    have ecls : cls = ex.cls := xr.1
    show wpAny (model X.prog X.w) X.A (noteFrame (.ref a) X.env) _ _ _
    refine Sky.land Zc.steady hfr hf sky' fun h3 fl3 up3 => ?_
    have J3 : Inv X pins σ' H' { s' with heap := h3 } := J.landed nb fl3.1 (up.trans up3) os ag
    obtain ⟨oe3, vs3, he3, hz3, hd3⟩ := fl3.there
    have notFr : ∀ {h : Heap} {o : Obj} {vs : Array Value}, h.FunFrames B (X.env :: X.outer) -> h.get? a = some o -> o.data = .fields vs -> a ∉ frs (X.env :: X.outer) := fun {h o vs} ff e dd hm => by
      obtain ⟨_, o', e', hnf⟩ := ff.mem hm
      rw [e] at e'; cases e'
      exact hnf _ dd
    have nfr := notFr fl3.2.2.1 he3 hd3
    have nL : a ≠ X.env.locals := fun z => nfr (List.mem_filterMap.mpr ⟨X.env, List.mem_cons_self, by rw [hf, z]⟩)
    have nF : a ∉ X.fs := fun hm => by
      obtain ⟨e, he, q⟩ := List.mem_filterMap.mp hm
      exact nfr (List.mem_filterMap.mpr ⟨e, List.mem_cons_of_mem _ he, q⟩)
    have S3 := J3.suite he3 hd3 na nL nF
    refine wpAny_handleBy_cons (codeAny_handlers_test ?_) (by intro q; cases q)
    have LT : PySem.W.Looks (model X.prog X.w) h3 (typeOf (.ref a)) cls := fun A Q E s k q => wpAny_typeOf_ref (k _ _ he3) (by rw [hz3.1]; exact q)
    have LM := PySem.W.exm_one (M := model X.prog X.w) (J3.kIn) LT (hm cls b (by rw [ecls]; exact hb1))
    have test : ∀ {Q : Value -> Shared -> Prop} {E : Value -> Shared -> Prop}, Q c { s' with heap := h3 } -> wpAny (model X.prog X.w) (X.A.mark (some (.ref a))) (eval (.Name x np) X.env) Q E { s' with heap := h3 } := fun {Q E} q => by
      obtain ⟨hg, hdbg, hm | ⟨hm, hv, hnn⟩⟩ := hc
      . exact ld_glob (X := X.suite a ((a, oe3) :: (X.pn ++ pins))) S3 hg hm q hdbg
      . exact ld_blt (X := X.suite a ((a, oe3) :: (X.pn ++ pins))) S3 hg hm hv q hnn hdbg
    refine test (LM.here ?_)
    cases b with
    | true =>
      refine codeAny_handlers_suite_as ?_
      refine HandSPX.lands_againZ fl3 fun h4 fl4 up4 => ?_
      have J4 : Inv X pins σ' H' { s' with heap := h4 } := J.landed nb fl4.1 ((up.trans up3).trans up4) os ag
      obtain ⟨oe4, vs4, he4, hz4, hd4⟩ := fl4.there
      obtain ⟨nns, hts⟩ := hyes rfl
      have aB : B.get? a = none := fl4.2.1
      have inB : ∀ {b : Addr} {o : Obj}, sI.heap.get? b = some o -> b ∉ frs X.stack -> b ≠ a := fun {b o} e nf z => by
        have z2 := nb b o e nf
        rw [z, aB] at z2
        cases z2
      have nfs : a ∉ frs X.stack := by rw [hs]; exact nfr
      have n0 : X.s_0.heap.get? a = none := by
        cases e : X.s_0.heap.get? a with
        | none => rfl
        | some o =>
          obtain ⟨o', e'⟩ := J.base.there a o e (by rw [hex]; exact fun z => nomatch z)
          exact absurd rfl (inB e' nfs)
      have nC : ∀ x cc, X.env.cells.lookup x = some cc -> cc ≠ a := fun x cc e z => by
        obtain ⟨v, o, h1, h2⟩ := J4.cell x cc e
        have h1' : h4.get? cc = some o := h1
        rw [z, he4] at h1'
        cases h1'
        rw [hd4] at h2
        cases h2
      have nP : ∀ p ∈ X.pn ++ pins, p.1 ≠ a := fun p hp => by
        obtain ⟨e, _, e2, e3, _⟩ := J.pin p hp
        refine inB e fun z => ?_
        rw [hs] at z
        obtain ⟨y, hy, hq⟩ := List.mem_filterMap.mp z
        rcases List.mem_cons.mp hy with w | w
        . rw [w, hf] at hq
          exact e2 (Option.some.inj hq).symm
        . exact e3 (List.mem_filterMap.mpr ⟨y, w, hq⟩)
      have J5 : Inv X pins σ' (upd H' a (EcO a cls d)) { s' with heap := h4 } := track J4 ⟨oe4, vs4, he4, hz4.1, hz4.2, hd4⟩ na n0 nL nC nP
      have fa : Fr H' T' (upd H' a (EcO a cls d)) T' := Fr.laid na (ok'.fresh na)
      have okA : DOk X.K (upd H' a (EcO a cls d)) T' := ok'.laid na
      have rdA : RD X.K (upd H' a (EcO a cls d)) T' (.exc ex.cls ex.ns ex.xs) (.ref a) := by
        obtain ⟨e1, e2⟩ := xr
        rcases e2 with ⟨_, e2⟩ | ⟨dx, vs, ed, td, hx, hl, rs⟩
        . exact absurd e2 nns
        . exact ⟨a, dx, vs, rfl, ok'.fresh na, td, by rw [<- e1, <- ed]; exact upd_same, (fa dx _ hx td).1, hl, RDs.mono fa _ rs⟩
      have F0 : Fr H T (upd H' a (EcO a cls d)) T' := fr'.trans fa
      have LA := L.go F0
      refine store_ok (X := suiteE X a (X.pn ++ pins)) (v := .ref a) (suiteE_in J5) hN hi hloc rfl (fun s5 S5 => ?_) (.inr hln)
      refine wpAny_mono ((hsu a (X.pn ++ pins)).run [] s5 _ (upd H' a (EcO a cls d)) { nx := fun σ' H' => De.nx (σ'.set i none) H', rt := De.rt, bk := fun σ' H' => De.bk (σ'.set i none) H', ct := fun σ' H' => De.ct (σ'.set i none) H' } S5
        ⟨_, T', { nx := fun s2 T2 => DD.nx (s2.set i none) T2, rt := DD.rt, bk := fun s2 T2 => DD.bk (s2.set i none) T2, ct := fun s2 T2 => DD.ct (s2.set i none) T2, xe := fun _ _ _ => False }, (st'.mono fa).set i rdA, okA, ⟨fun s2 T2 σ2 H2 n2 t2 o2 f2 => LA.nx (s2.set i none) T2 (σ2.set i none) H2 n2 (t2.none i) o2 f2, LA.rt, fun s2 T2 σ2 H2 n2 t2 o2 f2 => LA.bk (s2.set i none) T2 (σ2.set i none) H2 n2 (t2.none i) o2 f2, fun s2 T2 σ2 H2 n2 t2 o2 f2 => LA.ct (s2.set i none) T2 (σ2.set i none) H2 n2 (t2.none i) o2 f2, fun _ _ _ _ _ _ _ z => z.elim⟩, hts⟩) (fun f s6 hsp => ?_) (fun _ _ z => False.elim z)
      have end_ : ∀ {σ6 : L2.St} {H6 : Hp} {Q : Shared -> Prop}, Inv (suiteE X a (X.pn ++ pins)) [] σ6 H6 s6 -> (∀ s7, Inv X pins (σ6.set i none) H6 s7 -> Q s7) ->
          wpAny (model X.prog X.w) X.A (do bindName X.env n .none; unbindBehindTheSuite X.env n pos') (fun _ s7 => Q s7) X.xe s6 := fun {σ6 H6 Q} S6 hq => gone_ok (suiteE_out S6 ok) hN hi hln hq
      cases f with
      | next =>
        obtain ⟨σ6, H6, S6, q6⟩ := hsp
        exact end_ S6 fun s7 J7 => ⟨_, _, J7, q6⟩
      | brk =>
        obtain ⟨σ6, H6, S6, q6⟩ := hsp
        exact end_ S6 fun s7 J7 => ⟨_, _, J7, q6⟩
      | cont =>
        obtain ⟨σ6, H6, S6, q6⟩ := hsp
        exact end_ S6 fun s7 J7 => ⟨_, _, J7, q6⟩
      | ret u =>
        obtain ⟨v6, σ6, H6, S6, r6, q6⟩ := hsp
        exact end_ S6 fun s7 J7 => ⟨_, _, _, J7, r6, q6⟩
    | false =>
      show wpAny _ X.A (handleBy (.ref a) X.env []) _ _ _
      refine wpAny_handleBy_nil ?_
      obtain ⟨k1, k2, k3, oe, vs, Tr, oT, ts', he, hz, hd, h1, hr⟩ := id fl3
      unfold PySem.passOn
      refine wpAny_bind (wpAny_field he hd h1 ?_)
      rw [if_neg (show ¬ ((Value.ref Tr == Value.none) = true) from by simp)]
      have fin : wpAny (model X.prog X.w) X.A (setFlight (.ref a) X.env.frame) (fun _ s4 => wpAny (model X.prog X.w) X.A (throw (.ref a) : Sem Flow) (SP X pins De) X.xe s4) X.xe { s' with heap := h3 } := by
        rw [hf]
        refine HandSPX.setFlight_upZ fl3 fun h4 hh4 up4 => wpAny_throw (tk _ _ ?_)
        exact ⟨a, B, sI, pins, σ', H', cls, d, rfl, J, nb, (up.trans up3).trans up4, .inr (.inr (by rw [hs]; exact hh4)), na, os, ag, L.xe ex sd' T' cls d σ' H' (hno rfl) xr st' ok' fr'⟩
      first
        | exact wpAny_bind (wpAny_pure (wpAny_bind fin))
        | exact wpAny_bind fin
  . cases f with
    | next =>
      obtain ⟨σ', H', J', q⟩ := hsp
      exact wpAny_execs_nil ⟨σ', H', J'.ofTry ok, q⟩
    | brk =>
      obtain ⟨σ', H', J', q⟩ := hsp
      exact ⟨σ', H', J'.ofTry ok, q⟩
    | cont =>
      obtain ⟨σ', H', J', q⟩ := hsp
      exact ⟨σ', H', J'.ofTry ok, q⟩
    | ret u =>
      obtain ⟨v, σ', H', J', r, q⟩ := hsp
      exact ⟨v, σ', H', J'.ofTry ok, r, q⟩
end
def dRaise (c : Value) (te : TDE) : TDS := fun D sd T => te sd T (fun x T1 => D.xe ⟨c, ["value"], [x]⟩ sd T1) (fun ex T1 => D.xe ex sd T1)
section
variable {X : Cx} {W : WX} {e : Expr} {te : TDE} {x : Str} {p pos pos' : Pos} {C D0 fI : Addr} {k : Nat} {fd : FuncData}
theorem ds_raise1 (hc : X.calm = true) (tk : L2.Takes X W) (SC : SlC X.K D0 C) (iC : PySem.W.findIn X.K (.ref C) "__init__" = some (some (.ref fI))) (tI : PySem.W.typeIn X.K (.ref fI) = some (.type "function"))
    (F : FnOk X.prog X.w X.K X.mg X.base (L2.CX X.prog X.w) k fI fd ["self", "value"] (slSp X.K D0)) (hr : Room (k + 1) X.A) (hb : Binds X.K fd ["self", "value"] []) (hg : Gl X x) (hm : X.mg x = some (.ref C)) (ha : DE X W e te)
    (hdb : (x == ("__debug__" : Str)) = false := by decide) (he : starEach [e] X.env = (false, eval e X.env) :: starEach [] X.env := by rfl) : DS X W (.Raise (some (.Call (.Name x p) [e] [] pos)) none pos') (dRaise (.ref C) te) := by
  refine PS.imp (ps_raise hc tk (pmk_oex (ta := liftA X.K W (dCons te dNil)) SC.o iC tI F hr hb .nil (fun _ _ _ _ _ _ _ h => (cx_none h).elim) hg hm (da_cons ha da_nil he) hdb he (by rfl))) ?_
  rintro De σ H ⟨sd, T, DD, st, ok, L, q⟩
  refine ⟨sd, T, fun xs T1 => match xs with | [y] => DD.xe ⟨.ref C, ["value"], [y]⟩ sd T1 | _ => False, fun ex T1 => DD.xe ex sd T1, ⟨st, ok, ?_, L.exok st⟩, q⟩
  . intro xs T1 vs H1 hx rs o f
    match xs, hx, rs with
    | [y], hx, rs =>
    obtain ⟨v, rfl, rv⟩ := rds1 rs
    refine ⟨by show 1 <= 1000; decide, fun a na => ⟨a, C, v, rfl, SC, upd_same, fun dx nd ne => ⟨rfl, dx, _, upd_same, by rw [upd_ne ne]; exact upd_same, by rw [upd_ne ne] at nd; exact nd, ?_⟩⟩⟩
    have nd1 : H1 dx = none := by rw [upd_ne ne] at nd; exact nd
    have eH : upd (L2.del (upd (upd (upd H1 a (exo a C none)) dx (exd dx [("value", v)])) a (exo a C (some dx))) a) dx (.xd [("value", v)]) = upd H1 dx (.xd [("value", v)]) := by
      funext b
      by_cases z : b = dx
      . rw [z, upd_same, upd_same]
      . rw [upd_ne z, upd_ne z]
        by_cases w : b = a
        . rw [w, L2.del_same, na]
        . rw [L2.del_ne w, upd_ne w, upd_ne z, upd_ne w]
    rw [eH]
    have fd : Fr H1 T1 (upd H1 dx (.xd [("value", v)])) T1 := Fr.laid nd1 (o.fresh nd1)
    exact L.xe _ sd T1 _ _ σ _ hx ⟨rfl, .inr ⟨dx, [v], rfl, o.fresh nd1, upd_same, rfl, RDs.cons (RD.mono fd y rv) RDs.nil⟩⟩ ((st.mono f).mono fd) (o.laid nd1) (f.trans fd)
end
end DL
namespace DL
open PySem PySem.Spec PyProof.Rows L2 VX
structure ExC (K : PySem.W.Frag) (C : Addr) : Prop where
  f : XfC K C
  cl : (PySem.W.clsIn K C).isSome = true
  ca : PySem.W.findIn K (.ref C) "__class__" = some (some (.builtin "object.__class__"))
  cn : PySem.W.specialIn K (.builtin "object.__class__") "__get__" = some (some (.builtin "getset_descriptor.__get__"))
  ct : PySem.W.takesIn K (.builtin "object.__class__") = some true
  cm : PySem.W.mroIn K C (.type "object") = some true
section
variable {X : Cx} {W : WX} {pins : List (Addr × Obj)} {σ : L2.St} {H : Hp} {s : Shared} {f : Str} {inE : Addr -> Bool}
theorem exc_inst {T : Td} {C : Addr} {ns : List Str} {xs : List D} {vx : V} (I : Inv X pins σ H s) (r : RD X.K H T (.exc (.ref C) ns xs) vx) :
    ∃ (a dx : Addr) (vs : List V) (oe od : Obj) (mA : Str -> Option Value), vx = .ref a /\ ns.length = vs.length /\ RDs X.K H T xs vs /\ PySem.W.InstAt s.heap a oe C (some od) /\ (∀ y, PySem.W.lookIn y od = some (mA y)) /\ ∀ y, RelO ((ns.zip vs).lookup y) (mA y) := by
  obtain ⟨a, dx, vs, e, _, _, ha, hd, hl, rs⟩ := r
  obtain ⟨⟨oe, fv, ho, h1, h2, h3⟩, _, _⟩ := (show ObjOk X.prog X.w H s.heap a (EcO a (.ref C) (some dx)) from I.hok a _ ha)
  obtain ⟨mA, hns, hr⟩ := (show ObjOk X.prog X.w H s.heap dx (.xd (ns.zip vs)) from I.hok dx _ hd)
  obtain ⟨od, hod, hlk⟩ := lookIn_ns hns
  exact ⟨a, dx, vs, oe, od, mA, e, hl, rs, ⟨ho, h1, by unfold PySem.W.notCls; rw [h3] <;> rfl, by rw [h2]; exact hod⟩, hlk, hr⟩
def lookD (f : Str) : List Str -> List D -> Option D
  | n :: ns, x :: xs => if f = n then some x else lookD f ns xs
  | _, _ => none
theorem lookD_V {K : PySem.W.Frag} {H : Hp} {T : Td} : ∀ {ns : List Str} {xs : List D} {vs : List V} {d : D}, RDs K H T xs vs -> lookD f ns xs = some d -> ∃ v, (ns.zip vs).lookup f = some v /\ RD K H T d v
  | [], _, _, _, _, e => by simp [lookD] at e
  | n :: ns, [], _, _, _, e => by simp [lookD] at e
  | n :: ns, x :: xs, _, d, r, e => by
    obtain ⟨v, r1, rfl, h1, h2⟩ := r
    unfold lookD at e
    by_cases z : f = n
    . rw [if_pos z] at e
      cases e
      exact ⟨v, by rw [List.zip_cons_cons, lookup_put, if_pos z], h1⟩
    . rw [if_neg z] at e
      obtain ⟨u, q1, q2⟩ := lookD_V h2 e
      exact ⟨u, by rw [List.zip_cons_cons, lookup_put, if_neg z]; exact q1, q2⟩
def rFld (inE : Addr -> Bool) (f : Str) : R1D := fun x T Q _ => match x with
  | .exc (.ref C) ns xs => inE C = true /\ match lookD f ns xs with
    | some d => Q d T
    | none => False
  | _ => False
theorem ad_fld (h : ∀ C, inE C = true -> ExC X.K C /\ PySem.W.findIn X.K (.ref C) f = some none) : AttrD X W f (rFld inE f) := by
  intro pins s σ H Q sd T QD ED x vx v b I L r1 r2 q
  unfold rFld at q
  split at q
  . rename_i C ns xs
    obtain ⟨hE, q⟩ := q
    split at q
    . rename_i d ed
      obtain ⟨a, dx, vs, oe, od, mA, rfl, hl, rs, J, hlk, hr⟩ := exc_inst I r1
      obtain rfl : v = Value.ref a := r2
      obtain ⟨u, e1, e2⟩ := lookD_V rs ed
      obtain ⟨w, hw, rw'⟩ := RelO.some_of (v := u) (o := mA f) (by rw [<- e1]; exact hr f)
      obtain ⟨E, hno⟩ := h C hE
      exact HandSPX.exc_get I.kIn J E.f.ga E.f.gg E.f.exC (PySem.W.findObj_own E.f.hdC hno rfl (by rw [hlk, hw])) (handed_of rw') (L.here (I.tok _) e2 rw' q)
    . exact q.elim
  . exact q.elim
theorem de_glob {x : Str} {a : Addr} {pos : Pos} (hg : Gl X x) (hm : X.mg x = some (.ref a)) (hd : (x == ("__debug__" : Str)) = false := by decide) : DE X W (.Name x pos) (dC (.val (.ref a))) := de_c (pe_glob (v := .ref a) hg hm rfl hd) fun _ _ => rfl
theorem de_bty {x : Str} {n : String} {pos : Pos} (hg : Gl X x) (hm : X.mg x = none) (hv : bootBuiltins x = some (.type n)) (hn : x ≠ "__name__" := by decide) (hd : (x == ("__debug__" : Str)) = false := by decide) : DE X W (.Name x pos) (dC (.val (.ty n))) :=
  de_c (pe_bltn (v := .ty n) hg hm hv rfl hn hd) fun _ _ => rfl
structure OCls (K : PySem.W.Frag) (C : Addr) : Prop where
  cl : Cls K C
  ca : PySem.W.findIn K (.ref C) "__class__" = some (some (.builtin "object.__class__"))
  cn : PySem.W.specialIn K (.builtin "object.__class__") "__get__" = some (some (.builtin "getset_descriptor.__get__"))
  ct : PySem.W.takesIn K (.builtin "object.__class__") = some true
  cm : PySem.W.mroIn K C (.type "object") = some true
def tyD (inS inE inO : Addr -> Bool) (T : Td) : D -> Option Value
  | .non => some (.type "NoneType")
  | .bl _ => some (.type "bool")
  | .int _ => some (.type "int")
  | .str _ => some (.type "str")
  | .tup _ => some (.type "tuple")
  | .lst _ => some (.type "list")
  | .dct _ _ => some (.type "dict")
  | .slo C _ => if inS C = true then some (.ref C) else none
  | .exc (.ref C) _ _ => if inE C = true then some (.ref C) else none
  | .obj C _ _ => if inO C = true then some (.ref C) else none
  | .ref a => match T a with
    | some (.lst _) => some (.type "list")
    | some (.dct _ _) => some (.type "dict")
    | some (.slo C _) => if inS C = true then some (.ref C) else none
    | some (.ins C _ _) => if inO C = true then some (.ref C) else none
    | _ => none
  | _ => none
def clsV : D -> Option Value
  | .val (.ty n) => some (.type n)
  | .val (.ref C) => some (.ref C)
  | _ => none
def rIsiD (inS inE inO : Addr -> Bool) (inst : Value -> Value -> Option Bool) : RAD := fun xs T Q _ => match xs with
  | [x, c] => match tyD inS inE inO T x, clsV c with
    | some t, some u => match inst t u with
      | some b => Q (.bl b) T
      | none => False
    | _, _ => False
  | _ => False
theorem kit_D {inS inO : Addr -> Bool} {T : Td} {x : D} {vx : V} {v t : Value} (hS : ∀ C, inS C = true -> SlX.SCls X.K C /\ SlX.SIsi X.K C) (hE : ∀ C, inE C = true -> ExC X.K C) (hO : ∀ C, inO C = true -> OCls X.K C) (I : Inv X pins σ H s) (o : DOk X.K H T) (rd : RD X.K H T x vx) (rv : RelV vx v)
    (ht : tyD inS inE inO T x = some t) : ∃ P : Heap -> Prop, PySem.W.KitX X.K v t P /\ P s.heap /\ v ≠ .builtin "__main__.__loader__#opaque" := by
  have base : ∀ {ty : Value}, TyX X.K H vx ty -> ty = t -> ∃ P : Heap -> Prop, PySem.W.KitX X.K v t P /\ P s.heap /\ v ≠ .builtin "__main__.__loader__#opaque" := fun {ty} h e => by
    rw [<- e]
    exact kit_of I rv h
  have slot : ∀ {a C dx : Addr} {vs : List (Option V)}, vx = .ref a -> SlX.Slt H a C dx vs -> SlX.SCls X.K C /\ SlX.SIsi X.K C -> t = .ref C -> ∃ P : Heap -> Prop, PySem.W.KitX X.K v t P /\ P s.heap /\ v ≠ .builtin "__main__.__loader__#opaque" := fun {a C dx vs} e hsl hc et => by
    subst e et
    obtain rfl : v = Value.ref a := rv
    obtain ⟨sl, od, _, J, _⟩ := SlX.slt_inst I hsl
    exact ⟨_, OwX.kitx_slt hc.1.ic (hc.1.get _) hc.2.ca hc.2.cn hc.2.ct hc.2.cm, J, fun z => nomatch z⟩
  cases x with
  | non => cases ht; have r : vx = _ := rd; subst r; exact base (.base .non) rfl
  | bl b => cases ht; have r : vx = _ := rd; subst r; exact base (.base (.bl b)) rfl
  | int i => cases ht; have r : vx = _ := rd; subst r; exact base (.base (.int i)) rfl
  | str y => cases ht; have r : vx = _ := rd; subst r; exact base (.base (.str y)) rfl
  | tup ds =>
    cases ht
    obtain ⟨a, vs, e, q, _⟩ := rd
    subst e
    rcases q with ⟨_, q | ⟨ob, q⟩⟩ | ⟨ob, its, n, q1, q2, _⟩
    . exact base (.base (.tup q)) rfl
    . exact base (.fTuple q) rfl
    . exact base (.kTuple q1 q2) rfl
  | lst ds =>
    cases ht
    obtain ⟨a, vs, e, q, _⟩ := rd
    subst e
    rcases q with ⟨_, q | ⟨ob, q⟩⟩ | ⟨ob, its, n, q1, q2, _⟩
    . exact base (.base (.lst q)) rfl
    . exact base (.base (.frz q)) rfl
    . exact base (.kList q1 q2) rfl
  | dct ks ds =>
    cases ht
    obtain ⟨a, od, vs, e, _, q, _⟩ := rd
    subst e
    exact base (.fDict q) rfl
  | obj C ns ds =>
    simp only [tyD] at ht
    split at ht
    . rename_i hc
      cases ht
      obtain ⟨a, dx, vs, e, t1, t2, h2, h1, rs⟩ := rd
      subst e
      exact base (.base (.ins h1 (hO C hc).cl (hO C hc).ca (hO C hc).cn (hO C hc).ct (hO C hc).cm)) rfl
    . cases ht
  | slo C ds =>
    simp only [tyD] at ht
    split at ht
    . rename_i hc
      cases ht
      obtain ⟨a, dx, vs, e, t1, t2, h2, h1, rs⟩ := rd
      exact slot e (.inr ⟨h1, h2⟩) (hS C hc) rfl
    . cases ht
  | exc c ns xs =>
    cases c <;> try (cases ht; done)
    rename_i C
    simp only [tyD] at ht
    split at ht
    case isFalse => cases ht
    rename_i hc
    cases ht
    obtain ⟨a, dx, vs, oe, od, mA, rfl, hl, rs, J, hlk, hr⟩ := exc_inst I rd
    obtain rfl : v = Value.ref a := rv
    have E := hE C hc
    exact ⟨_, PySem.W.kitx_exc E.cl E.f.ga E.f.gg E.f.exC E.ca E.cn E.ct E.cm, J, fun z => nomatch z⟩
  | ref a =>
    simp only [tyD] at ht
    have r : vx = .ref a := rd
    subst r
    split at ht
    . rename_i e
      cases ht
      obtain ⟨vs, h, _⟩ := o a _ e
      exact base (.base (.lst h)) rfl
    . rename_i e
      cases ht
      obtain ⟨vs, h, _⟩ := o a _ e
      exact base (.base (.dK h)) rfl
    . rename_i e
      split at ht
      . rename_i hc
        cases ht
        obtain ⟨dx, vs, h1, h2, _⟩ := o a _ e
        exact slot rfl (.inr ⟨h1, h2⟩) (hS _ hc) rfl
      . cases ht
    . rename_i e
      split at ht
      . rename_i hc
        cases ht
        obtain ⟨dx, vs, h1, _⟩ := o a _ e
        exact base (.base (.ins h1 (hO _ hc).cl (hO _ hc).ca (hO _ hc).cn (hO _ hc).ct (hO _ hc).cm)) rfl
      . cases ht
    . cases ht
  | val u => cases ht
  | fn _ _ _ _ _ => cases ht
theorem clsV_V {K : PySem.W.Frag} {T : Td} {c : D} {vc : V} {u w : Value} (e : clsV c = some u) (r : RD K H T c vc) (rv : RelV vc w) : w = u := by
  cases c <;> try (cases e; done)
  rename_i z
  have r' : vc = z := r
  subst r'
  cases vc <;> first | (cases e; done) | (cases e; exact rv)
theorem cd_isi {inS inO : Addr -> Bool} {inst : Value -> Value -> Option Bool} (hS : ∀ C, inS C = true -> SlX.SCls X.K C /\ SlX.SIsi X.K C) (hE : ∀ C, inE C = true -> ExC X.K C) (hO : ∀ C, inO C = true -> OCls X.K C) (hi : ∀ t u b, inst t u = some b -> PySem.W.kitOne X.K t u = some b) :
    CallD X W (.builtin "isinstance") (rIsiD inS inE inO inst) := by
  intro pins s σ H Q sd T QD ED xs vs us I L rs rv q
  match xs, q with
  | [x, c], q =>
    simp only [rIsiD] at q
    obtain ⟨vx, vc, rfl, r1, r2⟩ := rds2 rs
    cases rv with
    | @cons _ u1 _ _ k1 k2 =>
      cases k2 with
      | @cons _ u2 _ _ k3 k4 =>
        cases k4
        split at q
        . rename_i t u et eu
          split at q
          . rename_i b eb
            obtain rfl := clsV_V eu r2 k3
            obtain ⟨P, Z, p, hx⟩ := kit_D hS hE hO I L.ok r1 k1 et
            exact PySem.W.kia_one Z I.kIn p (hi _ _ _ eb) hx fun tk => L.here (x := .bl b) (vx := .bl b) (I.tok tk) rfl rfl q
          . exact q.elim
        . exact q.elim
end
end DL
namespace DL
open PySem PySem.Spec PyProof.Rows L2 VX
theorem tput_tput {T : Td} {a : Addr} {u v : DO} : tput (tput T a u) a v = tput T a v := by
  funext b
  unfold tput
  split <;> rfl
theorem tdel_tput {T : Td} {a : Addr} {u : DO} (h : T a = none) : tdel (tput T a u) a = T := by
  funext b
  unfold tdel tput
  split
  . rename_i z
    rw [z, h]
  . rfl
section
variable {X : Cx} {W : WX} {o i e : Expr} {to ti te : TDE} {pos pos' : Pos}
def dSetIx (to ti te : TDE) : TDS := fun D sd T => te sd T (fun v T1 => to sd T1 (fun x T2 => ti sd T2 (fun y T3 => match x, y with
  | .ref a, .int k => match T3 a with
    | some (.lst xs) => match ixN xs.length k with
      | some j => D.nx sd (tput T3 a (.lst (xs.set j v)))
      | none => False
    | _ => False
  | _, _ => False) (fun ex T' => D.xe ex sd T')) (fun ex T' => D.xe ex sd T')) (fun ex T' => D.xe ex sd T')
theorem ds_setIx (ho : DE X W o to) (hi : DE X W i ti) (he : DE X W e te) (hs : swapsWithSole [.Subscript o i pos'] e pos.line X.env = pure false := by rfl) (hw : swappedStores [.Subscript o i pos'] e X.env = pure none := by rfl)
    (h1 : (assignEach [.Subscript o i pos'] X.env).map (·.2) = [assign (.Subscript o i pos') X.env] := by rfl)
    (ha : ∀ v, assign (.Subscript o i pos') X.env v = (do
      let ov <- holding [v] (eval o X.env)
      let iv <- holding [v, ov] (eval i X.env)
      standAt pos'
      holding [v, ov, iv] (setItem ov iv v)
      release [v, ov, iv] []) := by intro _; rfl) : DS X W (.Assign [.Subscript o i pos'] e pos) (dSetIx to ti te) := by
  refine PS.imp (ps_asg he (pg_sub ho hi set_list ha) hs hw h1) fun De σ H ⟨sd, T, DD, st, ok, L, q⟩ => ?_
  refine ⟨sd, T, _, _, ⟨st, ok, fun v T1 vv H1 k r o1 f1 => ?_, L.exok st⟩, q⟩
  refine ⟨sd, T1, _, _, ⟨st.mono f1, o1, fun x T2 vx H2 k2 r2 o2 f2 => ?_, EXok.go (L.exok st) f1⟩, k⟩
  refine ⟨sd, T2, _, _, ⟨(st.mono f1).mono f2, o2, fun y T3 vy H3 k3 r3 o3 f3 => ?_, EXok.go (EXok.go (L.exok st) f1) f2⟩, k2⟩
  cases x <;> cases y <;> try exact k3.elim
  rename_i a n
  simp only at k3
  split at k3
  . rename_i xs ht
    split at k3
    . rename_i j ej
      obtain ⟨vs, hv, rs⟩ := o3 a _ ht
      have r2' : vx = .ref a := r2
      have r3' : vy = .int n := r3
      subst r2' r3'
      refine ⟨a, vs, n, j, rfl, rfl, hv, by rw [<- rs.length]; exact ej, ?_⟩
      have fw : Fr H3 T3 (upd H3 a (.lst (vs.set j vv))) (tput T3 a (.lst (xs.set j v))) := Fr.write ht
      have F := ((f1.trans f2).trans f3).trans fw
      exact L.nx sd _ _ _ k3 (st.mono F) (o3.write ht ⟨_, upd_same, (RDs.mono fw xs rs).set j (RD.mono ((f2.trans f3).trans fw) v r)⟩) F
    . exact k3.elim
  . exact k3.elim
end
theorem wipe_set {σ : L2.St} {i : Nat} {x : Option V} : ∀ {vs : List Nat}, i ∈ vs -> wipe (σ.set i x) vs = wipe σ vs
  | [], h => by cases h
  | v :: vs, h => by
    show (wipe (σ.set i x) vs).set v none = (wipe σ vs).set v none
    by_cases hi : i ∈ vs
    . rw [wipe_set hi]
    . have hv : i = v := by
        rcases List.mem_cons.mp h with h | h
        . exact h
        . exact absurd h hi
      subst hv
      refine List.ext_getElem? fun j => ?_
      by_cases hj : i = j
      . subst hj
        have hl : (wipe (σ.set i x) vs).length = (wipe σ vs).length := by rw [wipe_length, wipe_length, List.length_set]
        by_cases hb : i < (wipe σ vs).length
        . rw [List.getElem?_set_self hb, List.getElem?_set_self (by rw [hl]; exact hb)]
        . rw [List.getElem?_eq_none (by rw [List.length_set]; omega), List.getElem?_eq_none (by rw [List.length_set]; omega)]
      . rw [List.getElem?_set_ne hj, List.getElem?_set_ne hj]
        by_cases hm : j ∈ vs
        . have z : ∀ τ : L2.St, τ.length = σ.length -> (wipe τ vs)[j]? = if j < σ.length then some none else none := fun τ hτ => by
            rw [wiped hm, hτ]
          rw [z _ (by rw [List.length_set]), z _ rfl]
        . rw [wipe_out hm, wipe_out hm, List.getElem?_set_ne hj]
where
  wiped {τ : L2.St} {j : Nat} : ∀ {vs : List Nat}, j ∈ vs -> (wipe τ vs)[j]? = if j < τ.length then some none else none
    | [], h => by cases h
    | v :: vs, h => by
      show ((wipe τ vs).set v none)[j]? = _
      by_cases hv : v = j
      . subst hv
        by_cases hb : v < τ.length
        . rw [if_pos hb, List.getElem?_set_self (by rw [wipe_length]; exact hb)]
        . rw [if_neg hb, List.getElem?_eq_none (by rw [List.length_set, wipe_length]; omega)]
      . rw [List.getElem?_set_ne hv]
        rcases List.mem_cons.mp h with h | h
        . exact absurd h.symm hv
        . exact wiped h
def wipeD (sd : SD) : List Nat -> SD
  | [] => sd
  | v :: vs => (wipeD sd vs).set v none
theorem StOk.wipe {K : PySem.W.Frag} {H : Hp} {T : Td} {sd : SD} {σ : L2.St} (h : StOk K H T sd σ) : ∀ vs : List Nat, StOk K H T (wipeD sd vs) (L2.wipe σ vs)
  | [] => h
  | v :: vs => (StOk.wipe h vs).none v
def liftGw (K : PySem.W.Frag) (vs : List Nat) (d : TDG) : TG := fun v σ H Q => ∃ x sd T QD, StOk K H T sd σ /\ DOk K H T /\ RD K H T x v /\ (∀ sd' T' σ' H', QD sd' T' -> StOk K H' T' sd' σ' -> DOk K H' T' -> Fr H T H' T' -> wipe σ' vs = wipe σ vs -> Q σ' H') /\ d x sd T QD
def liftGws (K : PySem.W.Frag) (vs : List Nat) (d : TDGs) : TGs := fun v σ H Q => ∃ x sd T QD, StOk K H T sd σ /\ DOk K H T /\ RDs K H T x v /\ (∀ sd' T' σ' H', QD sd' T' -> StOk K H' T' sd' σ' -> DOk K H' T' -> Fr H T H' T' -> wipe σ' vs = wipe σ vs -> Q σ' H') /\ d x sd T QD
def DGw (X : Cx) (vs : List Nat) (target : Expr) (d : TDG) : Prop := PG X target (liftGw X.K vs d)
def DGws (X : Cx) (vs : List Nat) (targets : List Expr) (d : TDGs) : Prop := PGs X targets (liftGws X.K vs d)
section
variable {X : Cx} {W : WX} {pos : Pos} {vs : List Nat}
theorem dgw_name {i : Nat} {x : Str} (hi : X.N[i]? = some x) (hN : X.N.Nodup) (hx : Loc X.env.scope x) (hv : i ∈ vs) (hf : X.fn x = true \/ X.env.scope.names.lookup x = some .local := by first | exact .inl rfl | exact .inr rfl | assumption) : DGw X vs (.Name x pos) (dgName i) :=
  PG.imp (pg_name hN hi hx hf) fun v σ H Q ⟨x, sd, T, QD, st, o, r, k, q⟩ => k _ T _ H q (st.set i r) o Fr.refl (wipe_set hv)
theorem dgws_nil : DGws X vs [] dgNil := PGs.imp pgs_nil fun v σ H Q ⟨x, sd, T, QD, st, o, r, k, e, q⟩ => by
  subst e
  have r' : v = [] := r
  exact ⟨r', k sd T σ H q st o Fr.refl rfl⟩
theorem dgws_cons {e : Expr} {es : List Expr} {t : TDG} {u : TDGs} (h1 : DGw X vs e t) (h2 : DGws X vs es u) (hs : (assignEach (e :: es) X.env).map (·.2) = assign e X.env :: (assignEach es X.env).map (·.2) := by rfl) : DGws X vs (e :: es) (dgCons t u) :=
  PGs.imp (pgs_cons h1 h2 hs) fun v σ H Q ⟨xs, sd, T, QD, st, o, r, k, q⟩ => by
    match xs, r, q with
    | x :: xs, r, q =>
      obtain ⟨y, ys, e, r1, r2⟩ := r
      subst e
      exact ⟨y, ys, rfl, x, sd, T, _, st, o, r1, fun sd' T' σ' H' n st' o' f w => ⟨xs, sd', T', QD, st', o', RDs.mono f xs r2, fun a b c d e g h i w2 => k a b c d e g h (f.trans i) (w2.trans w), n⟩, q⟩
theorem dgw_tup {es : List Expr} {k : Nat} {t : TDGs} {n : Nat} (hc : X.calm = true) (h : DGws X vs es t) (hn : (assignEach es X.env).length = n := by rfl) (hst : (assignEach es X.env).findIdx? (·.1) = none := by rfl) : DGw X vs (.Tuple es k pos) (dgTup n t) :=
  PG.imp (pg_tup hc h hn hst) fun v σ H Q ⟨x, sd, T, QD, st, o, r, k, q⟩ => by
    cases x <;> try exact q.elim
    rename_i xs
    obtain ⟨a, vs, e, t, r⟩ := r
    exact ⟨a, vs, e, t.sq, by rw [<- r.length]; exact q.1, xs, sd, T, QD, st, o, r, k, q.2⟩
def DTs (X : Cx) (W : WX) (ifs : List Expr) (d : TDT) : Prop := PTs X ifs (liftT X.K W d)
def dYes : TDT := fun _ T Q _ => Q true T
theorem _root_.L2.PTs.imp {X : Cx} {e : List Expr} {t t' : TT} (h : PTs X e t) (i : ∀ σ H Q, t' σ H Q -> t σ H Q) : PTs X e t' := ⟨fun pins s σ H Q I q => h.run pins s σ H Q I (i σ H Q q)⟩
theorem dts_nil : DTs X W [] dYes := PTs.imp pts_nil fun σ H Q ⟨sd, T, QD, ED, L, q⟩ => L.q true T H q L.ok Fr.refl
theorem dts_one {c : Expr} {t : TDT} (h : DT X W c t) : DTs X W [c] t := pts_one h
def dLcL (g : TDG) (tt : TDT) (te : TDE) (gd : Td -> Prop) (P : Addr) (k : Td -> Prop) (sd : SD) : List D -> Td -> Prop
  | [], T => gd T /\ k T
  | x :: xs, T => gd T /\ g x sd T fun sd2 T2 => tt sd2 T2 (fun b T3 => IfP b (te sd2 T3 (fun y T4 => match T4 P with
      | some (.lst acc) => acc.length < sizeLine /\ dLcL g tt te gd P k sd xs (tput T4 P (.lst (acc ++ [y])))
      | _ => False) (fun _ _ => False)) (dLcL g tt te gd P k sd xs T3)) (fun _ _ => False)
def dLc (wi : TDI) (g : TDG) (tt : TDT) (te : TDE) (vs : List Nat) : TDE := fun sd T Q E => wi sd T (fun items gd T1 => ∀ P, T1 P = none -> dLcL g tt te gd P (fun T' => match T' P with
  | some (.lst acc) => Q (.lst acc) (tdel T' P)
  | _ => False) (wipeD sd vs) items (tput T1 P (.lst []))) E
theorem lc_lift {wi : TDI} {g : TDG} {tt : TDT} {te : TDE} {sd : SD} {T : Td} {σ : L2.St} {H : Hp} {Q : VK} {QD : KD} {ED : XD} {kD : Addr -> Td -> Prop} (L : LE X.K W σ H Q sd T QD ED)
    (hk : ∀ P T' H', kD P T' -> DOk X.K H' T' -> Fr H T H' T' -> Q (.ref P) H')
    (q : wi sd T (fun items gd T1 => ∀ P, T1 P = none -> dLcL g tt te gd P (kD P) (wipeD sd vs) items (tput T1 P (.lst []))) ED) :
    tLc (liftI X.K W wi) (liftGw X.K vs g) (liftT X.K WN tt) (liftE X.K WN te) vs σ H Q := by
  refine ⟨sd, T, _, ED, L.st, L.ok, L.x, fun items gd T1 J H1 k it o1 f1 P nP => ?_, q⟩
  have nT := o1.fresh nP
  have fP : Fr H1 T1 (upd H1 P (.lst [])) (tput T1 P (.lst [])) := Fr.laidT nP
  have oP : DOk X.K (upd H1 P (.lst [])) (tput T1 P (.lst [])) := o1.laidT nP ⟨[], upd_same, rfl⟩
  let WW : Nat -> Nat -> Hp -> Prop := fun i m H2 => m = items.length - i /\ i <= items.length /\ ∃ T2, DOk X.K H2 T2 /\ Fr H1 T1 H2 T2 /\ dLcL g tt te gd P (kD P) (wipeD sd vs) (items.drop i) T2
  refine ⟨WW, ⟨_, rfl, Nat.zero_le _, _, oP, fP, k P nT⟩, ?_⟩
  rintro i m H2 ⟨rfl, hi, T2, o2, f2, q2⟩
  by_cases hlt : i < items.length
  . rw [List.drop_eq_getElem_cons hlt] at q2
    obtain ⟨gd2, q2⟩ := q2
    obtain ⟨go, yl⟩ := (it i H2 T2 f2 o2 gd2).1 hlt
    refine .inr ⟨go, fun H3 => ∃ T3, DOk X.K H3 T3 /\ Fr H1 T1 H3 T3 /\ dLcL g tt te gd P (kD P) (wipeD sd vs) (items.drop (i + 1)) T3, fun H' w => ⟨items.length - (i + 1), by omega, rfl, hlt, w⟩, fun x H3 y => ?_⟩
    obtain ⟨d, hd, rd, o3, f3⟩ := yl x H3 y
    rw [List.getElem?_eq_getElem hlt] at hd
    cases hd
    have F3 := f2.trans f3
    refine ⟨_, wipeD sd vs, T2, _, (L.st.mono (f1.trans F3)).wipe vs, o3, rd, fun sd4 T4 σ4 H4 n4 s4 o4 f4 w4 => ⟨?_, ?_⟩, q2⟩
    . rw [w4]
      refine List.ext_getElem? fun j => ?_
      by_cases hm : j ∈ vs
      . rw [wipe_set.wiped hm, wipe_set.wiped hm, wipe_length]
      . rw [wipe_out hm, wipe_out hm]
    . have F4 := F3.trans f4
      refine ⟨sd4, T4, _, _, ⟨s4, o4, fun b T5 H5 k5 o5 f5 => ?_, fun _ _ _ _ _ z => z.elim⟩, n4⟩
      by_cases z : b = true
      . rw [if_pos z]
        replace k5 := k5.yes z
        refine ⟨sd4, T5, _, _, ⟨s4.mono f5, o5, fun y T6 vy H6 k6 r6 o6 f6 => ?_, fun _ _ _ _ _ z => z.elim⟩, k5⟩
        split at k6
        . rename_i acc ht
          obtain ⟨av, ha, ra⟩ := o6 P _ ht
          have fw : Fr H6 T6 (upd H6 P (.lst (av ++ [vy]))) (tput T6 P (.lst (acc ++ [y]))) := Fr.write ht
          refine ⟨av, ha, by rw [<- ra.length]; exact k6.1, tput T6 P (.lst (acc ++ [y])), o6.write ht (show DObj X.K _ _ P (.lst (acc ++ [y])) from ⟨_, upd_same, (RDs.mono fw acc ra).append (RDs.cons (RD.mono fw y r6) RDs.nil)⟩), ((F4.trans f5).trans f6).trans fw, k6.2⟩
        . exact k6.elim
      . rw [if_neg z]
        replace k5 := k5.no z
        exact ⟨T5, o5, F4.trans f5, k5⟩
  . have e : i = items.length := by omega
    subst e
    rw [List.drop_length] at q2
    exact .inl ⟨(it _ H2 T2 f2 o2 q2.1).2 (Nat.le_refl _), hk P T2 H2 q2.2 o2 (f1.trans f2)⟩
end
section
variable {X : Cx} {W : WX} {elt tg iter : Expr} {ifs : List Expr} {scope : Scope} {own : List (Str × Nat)} {pos : Pos} {wi : TDI} {g : TDG} {tt : TDT} {te : TDE}
theorem de_lc (hc : X.calm = true) (hN : X.N.Nodup) (hi : DI X W tg iter wi) (ok : BlkOk X.N X.env.scope scope own)
    (hg : ∀ (s : Shared) (H : Hp) (C : Addr) (cl : List (Str × Addr)) (fp : List Addr), DGw (X.blk s H scope (compEnvC scope cl C X.env) fp) (own.map (·.2)) tg g) (ht : ∀ (s : Shared) (H : Hp) (C : Addr) (cl : List (Str × Addr)) (fp : List Addr), DTs (X.blk s H scope (compEnvC scope cl C X.env) fp) WN ifs tt)
    (he : ∀ (s : Shared) (H : Hp) (C : Addr) (cl : List (Str × Addr)) (fp : List Addr), DE (X.blk s H scope (compEnvC scope cl C X.env) fp) WN elt te) (hs : ∀ x, foldedSetIterable iter X.env x = pure x := by intro _; rfl) :
    DE X W (.ListComp elt [⟨tg, iter, ifs, 0⟩] scope pos) (dLc wi g tt te (own.map (·.2))) :=
  PE.imp (pe_lc (g := liftGw X.K (own.map (fun x : Str × Nat => x.2)) g) (tt := liftT X.K WN tt) (te := liftE X.K WN te) hc hN hi ok hg ht he hs) fun σ H Q ⟨sd, T, QD, ED, L, q⟩ => lc_lift L (fun P T' H' k o f => by
    split at k
    . rename_i acc ht
      obtain ⟨vs, h, rs⟩ := o P _ ht
      exact L.q (.lst acc) (tdel T' P) _ H' k ⟨P, vs, rfl, .inl ⟨tdel_same, .inl h⟩, RDs.mono Fr.free acc rs⟩ o.free (f.trans Fr.free)
    . exact k.elim) q
end
end DL
namespace DL
open PySem PySem.Spec PyProof.Rows L2 VX
mutual
def okR : D -> Bool
  | .non => true
  | .bl _ => true
  | .int _ => true
  | .str _ => true
  | .tup xs => okRs xs
  | .lst xs => okRs xs
  | .dct _ xs => okRs xs
  | .slo _ _ => true
  | .obj _ _ _ => true
  | _ => false
def okRs : List D -> Bool
  | [] => true
  | x :: xs => okR x && okRs xs
end
mutual
def sizeD : D -> Nat
  | .tup xs => sizeDs xs + 1
  | .lst xs => sizeDs xs + 1
  | .dct _ xs => sizeDs xs + 1
  | _ => 0
def sizeDs : List D -> Nat
  | [] => 0
  | x :: xs => sizeD x + sizeDs xs + 1
end
theorem size_mem : ∀ {xs : List D} {x : D}, x ∈ xs -> sizeD x < sizeDs xs
  | y :: ys, x, h => by
    unfold sizeDs
    rcases List.mem_cons.mp h with rfl | h
    . omega
    . have := size_mem h
      omega
theorem relV_inj {v w : V} {u : Value} (h1 : L2.RelV v u) (h2 : L2.RelV w u) : v = w := by
  cases v <;> cases w <;> simp only [L2.RelV] at h1 h2 <;> first
    | rfl
    | (exfalso; subst h1; cases h2; done)
    | (exfalso; subst h1; obtain ⟨_, h2⟩ := h2; cases h2; done)
    | (exfalso; obtain ⟨_, h1⟩ := h1; subst h1; obtain ⟨_, h2⟩ := h2; cases h2; done)
    | (exfalso; obtain ⟨_, h1⟩ := h1; subst h1; cases h2; done)
    | (obtain ⟨_, h1⟩ := h1; obtain ⟨_, h2⟩ := h2; rw [h1] at h2; cases h2; rfl)
    | (rw [h1] at h2; cases h2; rfl)
theorem vals_inj : ∀ {us ws : List V} {vs : List Value}, Vals us vs -> Vals ws vs -> us = ws
  | _, _, _, .nil, .nil => rfl
  | _, _, _, .cons r t, .cons r2 t2 => by rw [vals_inj t t2, relV_inj r r2]
section
variable {K : PySem.W.Frag} {H : Hp} {T : Td}
theorem tupAt_eq (hK : ∀ a o, K.lookup a = some o -> H a = none) {a : Addr} {xs ys : List V} (h1 : TupAt K H T a xs) (h2 : TupAt K H T a ys) : xs = ys := by
  rcases h1 with ⟨_, h1 | ⟨o, h1⟩⟩ | ⟨o, its, n, l1, c1, d1, _, r1⟩
  . rcases h2 with ⟨_, h2 | ⟨o2, h2⟩⟩ | ⟨o2, its2, n2, l2, _⟩
    . rw [h1] at h2; cases h2; rfl
    . rw [h1] at h2; cases h2
    . rw [hK a _ l2] at h1; cases h1
  . rcases h2 with ⟨_, h2 | ⟨o2, h2⟩⟩ | ⟨o2, its2, n2, l2, _⟩
    . rw [h1] at h2; cases h2
    . rw [h1] at h2; cases h2; rfl
    . rw [hK a _ l2] at h1; cases h1
  . rcases h2 with ⟨_, h2 | ⟨o2, h2⟩⟩ | ⟨o2, its2, n2, l2, c2, d2, _, r2⟩
    . rw [hK a _ l1] at h2; cases h2
    . rw [hK a _ l1] at h2; cases h2
    . rw [l1] at l2
      cases l2
      rw [d1] at d2
      cases d2
      exact vals_inj r1 r2
theorem lstAt_eq (hK : ∀ a o, K.lookup a = some o -> H a = none) {a : Addr} {xs ys : List V} (h1 : LstAt K H T a xs) (h2 : LstAt K H T a ys) : xs = ys := by
  rcases h1 with ⟨_, h1 | ⟨o, h1⟩⟩ | ⟨o, its, n, l1, c1, e1, d1, _, r1⟩
  . rcases h2 with ⟨_, h2 | ⟨o2, h2⟩⟩ | ⟨o2, its2, n2, l2, _⟩
    . rw [h1] at h2; cases h2; rfl
    . rw [h1] at h2; cases h2
    . rw [hK a _ l2] at h1; cases h1
  . rcases h2 with ⟨_, h2 | ⟨o2, h2⟩⟩ | ⟨o2, its2, n2, l2, _⟩
    . rw [h1] at h2; cases h2
    . rw [h1] at h2; cases h2; rfl
    . rw [hK a _ l2] at h1; cases h1
  . rcases h2 with ⟨_, h2 | ⟨o2, h2⟩⟩ | ⟨o2, its2, n2, l2, c2, e2, d2, _, r2⟩
    . rw [hK a _ l1] at h2; cases h2
    . rw [hK a _ l1] at h2; cases h2
    . rw [l1] at l2
      cases l2
      rw [d1] at d2
      cases d2
      exact vals_inj r1 r2
def hoK : HO -> Option Nat
  | .tup _ => some 0
  | .frz _ (.tup _) => some 0
  | .lst _ => some 1
  | .frz _ (.lst _) => some 1
  | .dK _ => some 2
  | .frz _ (.dK _) => some 2
  | .ins _ _ _ => some 4
  | .ext _ => some 3
  | _ => none
def kindAt (K : PySem.W.Frag) (H : Hp) (a : Addr) (n : Nat) : Prop := match H a with
  | some o => hoK o = some n
  | none => ∃ o, K.lookup a = some o /\ ((o.cls = .type "tuple" /\ n = 0) \/ (o.cls = .type "list" /\ n = 1))
theorem kindAt_eq {a : Addr} {m n : Nat} (h1 : kindAt K H a m) (h2 : kindAt K H a n) : m = n := by
  unfold kindAt at h1 h2
  cases e : H a with
  | some o =>
    rw [e] at h1 h2
    exact Option.some.inj (h1.symm.trans h2)
  | none =>
    rw [e] at h1 h2
    obtain ⟨o, l1, c1⟩ := h1
    obtain ⟨o2, l2, c2⟩ := h2
    rw [l1] at l2
    cases l2
    rcases c1 with ⟨c1, z1⟩ | ⟨c1, z1⟩ <;> rcases c2 with ⟨c2, z2⟩ | ⟨c2, z2⟩
    . rw [z1, z2]
    . rw [c1] at c2; exact absurd (Value.type.inj c2) (by decide)
    . rw [c1] at c2; exact absurd (Value.type.inj c2) (by decide)
    . rw [z1, z2]
theorem TupAt.kind (hK : ∀ a o, K.lookup a = some o -> H a = none) {a : Addr} {xs : List V} (h : TupAt K H T a xs) : kindAt K H a 0 := by
  unfold kindAt
  rcases h with ⟨_, h | ⟨o, h⟩⟩ | ⟨o, its, n, l, c, _⟩
  . rw [h]; rfl
  . rw [h]; rfl
  . rw [hK a _ l]
    exact ⟨o, l, .inl ⟨c, rfl⟩⟩
theorem LstAt.kind (hK : ∀ a o, K.lookup a = some o -> H a = none) {a : Addr} {xs : List V} (h : LstAt K H T a xs) : kindAt K H a 1 := by
  unfold kindAt
  rcases h with ⟨_, h | ⟨o, h⟩⟩ | ⟨o, its, n, l, c, _⟩
  . rw [h]; rfl
  . rw [h]; rfl
  . rw [hK a _ l]
    exact ⟨o, l, .inr ⟨c, rfl⟩⟩
def kindD : D -> Option Nat
  | .tup _ => some 0
  | .lst _ => some 1
  | .dct _ _ => some 2
  | .slo _ _ => some 3
  | .obj _ _ _ => some 4
  | _ => none
theorem kind_of (hK : ∀ a o, K.lookup a = some o -> H a = none) {x : D} {a : Addr} {n : Nat} (r : RD K H T x (.ref a)) (e : kindD x = some n) : kindAt K H a n := by
  cases x <;> simp only [kindD] at e <;> first | (cases e; done) | cases e
  . obtain ⟨b, vs, z, t, _⟩ := r
    cases z
    exact t.kind hK
  . obtain ⟨b, vs, z, t, _⟩ := r
    cases z
    exact t.kind hK
  . obtain ⟨b, od, vs, z, _, h, _⟩ := r
    cases z
    unfold kindAt
    rw [h]
    rfl
  . obtain ⟨b, dx, vs, z, _, _, _, h, _⟩ := r
    cases z
    unfold kindAt
    rw [h]
    rfl
  . obtain ⟨b, dx, vs, z, _, _, _, h, _⟩ := r
    cases z
    unfold kindAt
    rw [h]
    rfl
theorem kind_ref {x : D} {a : Addr} (r : RD K H T x (.ref a)) (ok : okR x = true) : ∃ n, kindD x = some n := by
  cases x <;> first | exact ⟨_, rfl⟩ | (cases ok; done) | (have r' : V.ref a = _ := r; cases r')
mutual
theorem size_eq (hK : ∀ a o, K.lookup a = some o -> H a = none) : ∀ (x y : D) {v : V}, RD K H T x v -> RD K H T y v -> okR x = true -> okR y = true -> sizeD x = sizeD y
  | .tup xs, y, v, r, r2, o1, o2 => by
    obtain ⟨a, vs, z, t, rs⟩ := r
    subst z
    obtain ⟨n, hn⟩ := kind_ref r2 o2
    have hn0 := kindAt_eq (kind_of hK r2 hn) (t.kind hK)
    subst hn0
    cases y <;> simp only [kindD] at hn <;> try (cases hn; done)
    rename_i ys
    obtain ⟨b, ws, z, t2, rs2⟩ := r2
    cases z
    rw [tupAt_eq hK t t2] at rs
    unfold sizeD
    rw [sizes_eq hK xs ys rs rs2 o1 o2]
  | .lst xs, y, v, r, r2, o1, o2 => by
    obtain ⟨a, vs, z, t, rs⟩ := r
    subst z
    obtain ⟨n, hn⟩ := kind_ref r2 o2
    have hn0 := kindAt_eq (kind_of hK r2 hn) (t.kind hK)
    subst hn0
    cases y <;> simp only [kindD] at hn <;> try (cases hn; done)
    rename_i ys
    obtain ⟨b, ws, z, t2, rs2⟩ := r2
    cases z
    rw [lstAt_eq hK t t2] at rs
    unfold sizeD
    rw [sizes_eq hK xs ys rs rs2 o1 o2]
  | .dct ks xs, y, v, r, r2, o1, o2 => by
    have r0 := r
    obtain ⟨a, od, vs, z, t, h, l, rs⟩ := r
    subst z
    obtain ⟨n, hn⟩ := kind_ref r2 o2
    have hn0 := kindAt_eq (kind_of hK r2 hn) (kind_of hK r0 rfl)
    subst hn0
    cases y <;> simp only [kindD] at hn <;> try (cases hn; done)
    rename_i ks2 ys
    obtain ⟨b, od2, ws, z, t2, h2, l2, rs2⟩ := r2
    cases z
    rw [h] at h2
    have e : ks.zip vs = ks2.zip ws := by injection h2 with h2; injection h2 with _ h2; injection h2
    have ev : vs = ws := by
      have e2 := congrArg (fun l => l.map Prod.snd) e
      rw [List.map_snd_zip (by omega), List.map_snd_zip (by omega)] at e2
      exact e2
    rw [ev] at rs
    unfold sizeD
    rw [sizes_eq hK xs ys rs rs2 o1 o2]
  | .slo C xs, y, v, r, r2, o1, o2 => by
    have r0 := r
    obtain ⟨a, dx, vs, z, _⟩ := r
    subst z
    obtain ⟨n, hn⟩ := kind_ref r2 o2
    have hn0 := kindAt_eq (kind_of hK r2 hn) (kind_of hK r0 rfl)
    subst hn0
    cases y <;> simp only [kindD] at hn <;> try (cases hn; done)
    rfl
  | .obj C ns xs, y, v, r, r2, o1, o2 => by
    have r0 := r
    obtain ⟨a, dx, vs, z, _⟩ := r
    subst z
    obtain ⟨n, hn⟩ := kind_ref r2 o2
    have hn0 := kindAt_eq (kind_of hK r2 hn) (kind_of hK r0 rfl)
    subst hn0
    cases y <;> simp only [kindD] at hn <;> try (cases hn; done)
    rfl
  | .non, y, v, r, r2, o1, o2 => by have r' : v = _ := r; subst r'; exact size_leaf r2 o2 (fun a z => nomatch z)
  | .bl b, y, v, r, r2, o1, o2 => by have r' : v = _ := r; subst r'; exact size_leaf r2 o2 (fun a z => nomatch z)
  | .int b, y, v, r, r2, o1, o2 => by have r' : v = _ := r; subst r'; exact size_leaf r2 o2 (fun a z => nomatch z)
  | .str b, y, v, r, r2, o1, o2 => by have r' : v = _ := r; subst r'; exact size_leaf r2 o2 (fun a z => nomatch z)
theorem sizes_eq (hK : ∀ a o, K.lookup a = some o -> H a = none) : ∀ (xs ys : List D) {vs : List V}, RDs K H T xs vs -> RDs K H T ys vs -> okRs xs = true -> okRs ys = true -> sizeDs xs = sizeDs ys
  | [], ys, vs, r, r2, _, _ => by
    have r' : vs = [] := r
    subst r'
    have := RDs.length r2
    cases ys with
    | nil => rfl
    | cons y ys => simp at this
  | x :: xs, ys, vs, r, r2, o1, o2 => by
    obtain ⟨v, ws, z, h1, h2⟩ := r
    subst z
    cases ys with
    | nil => have r' : (v :: ws) = [] := r2; cases r'
    | cons y ys =>
      obtain ⟨v2, ws2, z, h3, h4⟩ := r2
      cases z
      have o1' := Bool.and_eq_true_iff.mp (show (okR x && okRs xs) = true from o1)
      have o2' := Bool.and_eq_true_iff.mp (show (okR y && okRs ys) = true from o2)
      unfold sizeDs
      rw [size_eq hK x y h1 h3 o1'.1 o2'.1, sizes_eq hK xs ys h2 h4 o1'.2 o2'.2]
theorem size_leaf {y : D} {v : V} (r2 : RD K H T y v) (o2 : okR y = true) (h : ∀ a, v ≠ .ref a) : 0 = sizeD y := by
  cases y <;> first
    | rfl
    | (cases o2; done)
    | (obtain ⟨a, vs, z, _⟩ := r2; exact absurd z (h a))
    | (obtain ⟨a, od, vs, z, _⟩ := r2; exact absurd z (h a))
end
end
end DL
namespace DL
open PySem PySem.Spec PyProof.Rows L2 VX
def keyText : Key -> Option Str
  | .inl i => if i.natAbs.log2 < 1920 then some (toString i) else none
  | .inr x => if (reprText x).length <= sizeLine then some (reprText x) else none
def leafText : D -> Option Str
  | .non => some "None"
  | .bl b => some (if b then "True" else "False")
  | .int i => if i.natAbs.log2 < 1920 then some (toString i) else none
  | .str x => if (reprText x).length <= sizeLine then some (reprText x) else none
  | _ => none
def entTexts : List Key -> List D -> Option (List Str)
  | [], [] => some []
  | k :: ks, x :: xs => match keyText k, leafText x, entTexts ks xs with
    | some a, some b, some r => some ((a ++ ": " ++ b) :: r)
    | _, _, _ => none
  | _, _ => none
mutual
def reprD (own : Addr -> Option (List Str) -> List D -> Option Str) : D -> Option Str
  | .non => some "None"
  | .bl b => some (if b then "True" else "False")
  | .int i => if i.natAbs.log2 < 1920 then some (toString i) else none
  | .str x => if (reprText x).length <= sizeLine then some (reprText x) else none
  | .tup xs => match reprDs own xs with
    | some ts => if (tupleText ts).length <= sizeLine then some (tupleText ts) else none
    | none => none
  | .lst xs => match reprDs own xs with
    | some ts => if (listText ts).length <= sizeLine then some (listText ts) else none
    | none => none
  | .dct ks xs => match entTexts ks xs with
    | some ts => if (dictText ts).length <= sizeLine then some (dictText ts) else none
    | none => none
  | .slo C xs => match own C none xs with
    | some t => if t.length <= sizeLine then some t else none
    | none => none
  | .obj C ns xs => match own C (some ns) xs with
    | some t => if t.length <= sizeLine then some t else none
    | none => none
  | _ => none
def reprDs (own : Addr -> Option (List Str) -> List D -> Option Str) : List D -> Option (List Str)
  | [] => some []
  | x :: xs => match reprD own x with
    | some t => match reprDs own xs with
      | some ts => some (t :: ts)
      | none => none
    | none => none
end
theorem ents_ok : ∀ {ks : List Key} {xs : List D} {ts : List Str}, entTexts ks xs = some ts -> okRs xs = true
  | [], [], _, _ => rfl
  | [], _ :: _, _, h => by cases h
  | _ :: _, [], _, h => by cases h
  | k :: ks, x :: xs, _, h => by
    unfold entTexts at h
    split at h
    . rename_i a b r e1 e2 e3
      refine Bool.and_eq_true_iff.mpr ⟨?_, ents_ok e3⟩
      cases x <;> first | rfl | (cases e2; done)
    . cases h
mutual
theorem repr_ok {own : Addr -> Option (List Str) -> List D -> Option Str} : ∀ (x : D) {t : Str}, reprD own x = some t -> okR x = true
  | .non, _, _ => rfl
  | .bl _, _, _ => rfl
  | .int _, _, _ => rfl
  | .str _, _, _ => rfl
  | .tup xs, _, h => by
    unfold reprD at h
    split at h
    . rename_i ts e; exact reprs_ok xs e
    . cases h
  | .lst xs, _, h => by
    unfold reprD at h
    split at h
    . rename_i ts e; exact reprs_ok xs e
    . cases h
  | .slo _ _, _, _ => rfl
  | .val _, _, h => by cases h
  | .ref _, _, h => by cases h
  | .dct ks xs, _, h => by
    unfold reprD at h
    split at h
    . rename_i ts e; exact ents_ok e
    . cases h
  | .obj _ _ _, _, _ => rfl
  | .exc _ _ _, _, h => by cases h
  | .fn _ _ _ _ _, _, h => by cases h
theorem reprs_ok {own : Addr -> Option (List Str) -> List D -> Option Str} : ∀ (xs : List D) {ts : List Str}, reprDs own xs = some ts -> okRs xs = true
  | [], _, _ => rfl
  | x :: xs, _, h => by
    unfold reprDs at h
    split at h
    . rename_i t e
      split at h
      . rename_i ts e2
        exact Bool.and_eq_true_iff.mpr ⟨repr_ok x e, reprs_ok xs e2⟩
      . cases h
    . cases h
end
mutual
def depthD : D -> Nat
  | .tup xs => depthDs xs + 2
  | .lst xs => depthDs xs + 2
  | .dct _ _ => 3
  | _ => 0
def depthDs : List D -> Nat
  | [] => 0
  | x :: xs => max (depthD x) (depthDs xs)
end
def GC (K : PySem.W.Frag) (H : Hp) (T : Td) (n : Nat) (g : List Code) : Prop := ∀ id u rest kw, Code.builtin id ⟨u :: rest, kw⟩ ∈ g -> ∃ b y, u = .ref b /\ RD K H T y (.ref b) /\ okR y = true /\ n < sizeD y
theorem GC.mono {K : PySem.W.Frag} {H H' : Hp} {T T' : Td} {m n : Nat} {g : List Code} (h : GC K H T n g) (f : Fr H T H' T') (le : m <= n) : GC K H' T' m g := fun id u rest kw z =>
  let ⟨b, y, e, r, o, l⟩ := h id u rest kw z
  ⟨b, y, e, RD.mono f y r, o, by omega⟩
theorem GC.nil {K : PySem.W.Frag} {H : Hp} {T : Td} {n : Nat} : GC K H T n [] := fun _ _ _ _ z => nomatch z
theorem GC.cons {K : PySem.W.Frag} {H : Hp} {T : Td} {n : Nat} {g : List Code} (h : GC K H T n g) {id : String} {b : Addr} {rest : List Value} {kw : List (Str × Value)} {y : D} (r : RD K H T y (.ref b)) (o : okR y = true) (l : n < sizeD y) :
    GC K H T n (.builtin id ⟨.ref b :: rest, kw⟩ :: g) := fun id' u rest' kw' z => by
  rcases List.mem_cons.mp z with e | z
  . cases e
    exact ⟨b, y, rfl, r, o, l⟩
  . exact h id' u rest' kw' z
theorem GC.clear {K : PySem.W.Frag} {H : Hp} {T : Td} {g : List Code} {x : D} {a : Addr} (hK : ∀ a o, K.lookup a = some o -> H a = none) (h : GC K H T (sizeD x) g) (r : RD K H T x (.ref a)) (o : okR x = true) : Clear g a := fun id v rest kw z e => by
  obtain ⟨b, y, e2, r2, o2, l⟩ := h id v rest kw z
  rw [e2] at e
  cases e
  have := size_eq hK x y r r2 o o2
  omega
section
variable {X : Cx}
theorem kfree {pins : List (Addr × Obj)} {σ : L2.St} {H : Hp} {s : Shared} (I : Inv X pins σ H s) : ∀ a o, X.K.lookup a = some o -> H a = none := fun a o e => (I.bs a o (I.ok.mod.kin a o e)).2
theorem room_und {k : Nat} {A : Around} {c : Code} (r : Room (k + 1) A) (hd : (A.under c).depth <= A.depth + 1) (hu : (A.under c).units <= A.units + 1) (hh : (A.under c).handled = A.handled) : Room k (A.under c) :=
  ⟨hh.trans r.hd, by have := r.dp; omega, by have := r.un; omega⟩
theorem env0_A {A : Around} {pins : List (Addr × Obj)} {σ : L2.St} {H : Hp} {s : Shared} (I : Inv X pins σ H s) (h : A.frames = some X.stack) : Env0 X.prog X.w X.K X.mg X.base A X.stack s H :=
  ⟨h, I.env0.mod, I.env0.bs, I.env0.bsz, I.env0.funs, I.env0.frf, I.env0.hok, I.env0.bare⟩
def ReprX (X : Cx) (k : Nat) (x : D) (t : Str) : Prop :=
  ∀ (base : Nat), base + t.length <= sizeLine -> ∀ (A : Around) (g : List Code) (pins : List (Addr × Obj)) (s : Shared) (σ : L2.St) (H : Hp) (T : Td) (vx : V) (v : Value) (E : Value -> Shared -> Prop) (Q : Str -> Shared -> Prop), Room (k + depthD x) A -> A.guards = some g -> GC X.K H T (sizeD x) g -> A.frames = some X.stack ->
    Inv X pins σ H s -> DOk X.K H T -> RD X.K H T x vx -> L2.RelV vx v -> (∀ s' H', Inv X pins σ H' s' -> DOk X.K H' T -> Fr H T H' T -> Q t s') -> wpAny (model X.prog X.w) A (pyReprUnder base v) Q E s
def ReprXs (X : Cx) (k : Nat) : List D -> List Str -> Prop
  | [], ts => ts = []
  | x :: xs, ts => ∃ t r, ts = t :: r /\ ReprX X k x t /\ ReprXs X k xs r
theorem ReprXs.len {k : Nat} : ∀ {xs : List D} {ts : List Str}, ReprXs X k xs ts -> ts.length = xs.length
  | [], _, h => by have h' : _ = [] := h; rw [h'] <;> rfl
  | x :: xs, _, h => by obtain ⟨t, r, e, _, h2⟩ := h; rw [e, List.length_cons, List.length_cons, h2.len]
theorem ReprXs.get {k : Nat} : ∀ {xs : List D} {ts : List Str} {i : Nat} {x : D}, ReprXs X k xs ts -> xs[i]? = some x -> ∃ t, ts[i]? = some t /\ ReprX X k x t
  | [], _, _, _, _, e => by simp at e
  | x :: xs, _, 0, y, h, e => by
    obtain ⟨t, r, rfl, h1, h2⟩ := h
    simp at e
    subst e
    exact ⟨t, rfl, h1⟩
  | x :: xs, _, i + 1, y, h, e => by
    obtain ⟨t, r, rfl, h1, h2⟩ := h
    obtain ⟨u, q1, q2⟩ := ReprXs.get (i := i) h2 (by simpa using e)
    exact ⟨u, by simpa using q1, q2⟩
theorem reprX_leaf {k : Nat} {x : D} {t : Str} (h : ∀ (vx : V) (v : Value) H T, RD X.K H T x vx -> L2.RelV vx v -> ReprIs X.prog X.w v t) : ReprX X k x t :=
  fun base hb A g pins s σ H T vx v E Q hr hg hc hf I o rd rv q => h vx v H T rd rv base hb A E s Q fun tk => q _ H (I.tok tk) o Fr.refl
theorem depth_mem : ∀ {xs : List D} {x : D}, x ∈ xs -> depthD x <= depthDs xs
  | y :: ys, x, h => by
    unfold depthDs
    rcases List.mem_cons.mp h with rfl | h
    . exact Nat.le_max_left _ _
    . exact Nat.le_trans (depth_mem h) (Nat.le_max_right _ _)
theorem foldX {A : Around} {g : List Code} {k n0 d0 : Nat} {T : Td} {E : Value -> Shared -> Prop} {pins : List (Addr × Obj)} {σ : L2.St} (hr : Room (k + d0) A) (hg : A.guards = some g) (hf : A.frames = some X.stack) :
    ∀ (ds : List D) (l : List Value) (vs : List V) (ts : List Str) (acc : Array Str) (n : Nat) (s : Shared) (H : Hp) (Q : (Array Str × Nat) -> Shared -> Prop), (∀ x ∈ ds, depthD x <= d0 /\ sizeD x <= n0) -> GC X.K H T n0 g -> Inv X pins σ H s -> DOk X.K H T -> RDs X.K H T ds vs -> Vals vs l -> ReprXs X k ds ts -> n + piled ts <= sizeLine ->
      (∀ s' H', Inv X pins σ H' s' -> DOk X.K H' T -> Fr H T H' T -> Q ⟨acc ++ ts.toArray, n + piled ts⟩ s') -> wpAny (model X.prog X.w) A (forIn l (⟨acc, n⟩ : (Array Str × Nat)) tupBody) Q E s
  | [], l, vs, ts, acc, n, s, H, Q, hd, hc, I, o, rs, rv, hx, hn, h => by
    have hx' : ts = [] := hx
    have rs' : vs = [] := rs
    subst hx' rs'
    cases rv
    have h0 := h s H I o Fr.refl
    simp only [List.forIn_nil]
    exact wpAny_pure (by simpa [piled] using h0)
  | x :: ds, l, vs, ts, acc, n, s, H, Q, hd, hc, I, o, rs, rv, hx, hn, h => by
    obtain ⟨t, ts', rfl, hx1, hx2⟩ := hx
    obtain ⟨v, vs', rfl, r1, r2⟩ := rs
    cases rv with
    | @cons _ u _ us k1 k2 =>
      rw [piled_cons] at hn
      rw [List.forIn_cons]
      obtain ⟨d1, d2⟩ := hd x List.mem_cons_self
      refine wpAny_bind (wpAny_bind (hx1 (n + 1) (by omega) A g pins s σ H T v u E _ (hr.mono (by omega)) hg (hc.mono Fr.refl d2) hf I o r1 k1 fun s' H' I' o' f' => wpAny_pure ?_))
      refine foldX hr hg hf ds us vs' ts' (acc.push t) (n + (t.length + 2)) s' H' Q (fun y hy => hd y (List.mem_cons_of_mem _ hy)) (hc.mono f' (Nat.le_refl _)) I' o' (RDs.mono f' ds r2) k2 hx2 (by omega) fun s'' H'' I'' o'' f'' => ?_
      have h1 := h s'' H'' I'' o'' (f'.trans f'')
      have e : n + piled (t :: ts') = n + (t.length + 2) + piled ts' := by rw [piled_cons]; omega
      rw [e] at h1
      simpa using h1
theorem tup_obj {pins : List (Addr × Obj)} {σ : L2.St} {H : Hp} {s : Shared} {T : Td} {a : Addr} {vs : List V} (I : Inv X pins σ H s) (t : TupAt X.K H T a vs) : ∃ (o : Obj) (its : Array Value) (n : Nat), s.heap.get? a = some o /\ o.cls = .type "tuple" /\ o.data = .seq its n /\ Vals vs its.toList := by
  rcases t with ⟨_, q⟩ | ⟨o, its, n, l, c, d, _, r⟩
  . obtain ⟨_, its, rv, o, h1, h2, n, h3⟩ := q.ok I.hok
    exact ⟨o, its.toArray, n, h1, h2, h3, by simpa using rv⟩
  . exact ⟨o, its, n, I.kIn a o l, c, d, r⟩
theorem tup_core {A : Around} {g : List Code} {k : Nat} {T : Td} {pins : List (Addr × Obj)} {σ : L2.St} {H : Hp} {s : Shared} {xs : List D} {ts : List Str} {a : Addr} {base : Nat} {id : String} {rest : List Value} {R : Result -> Shared -> Prop} (hcg : (Code.builtin id ⟨.ref a :: rest, []⟩).isGuard = true)
    (hr : Room (k + depthDs xs + 1) A) (hg : A.guards = some g) (hc : GC X.K H T (sizeD (.tup xs)) g) (hf : A.frames = some X.stack) (I : Inv X pins σ H s) (o : DOk X.K H T) (rd : RD X.K H T (.tup xs) (.ref a)) (ok : okR (.tup xs) = true) (hx : ReprXs X k xs ts)
    (hU : (A.under (.builtin id ⟨.ref a :: rest, []⟩)).depth <= A.depth + 1 /\ (A.under (.builtin id ⟨.ref a :: rest, []⟩)).units <= A.units + 1 /\ (A.under (.builtin id ⟨.ref a :: rest, []⟩)).handled = A.handled /\ (A.under (.builtin id ⟨.ref a :: rest, []⟩)).frames = A.frames)
    (hsz : base + (tupleText ts).length <= sizeLine) (hR : ∀ s' H' u, Inv X pins σ H' s' -> DOk X.K H' T -> Fr H T H' T -> R (.ok (.ret (.str (tupleText ts) u))) s') :
    wpOwn (model X.prog X.w) A (.builtin id ⟨.ref a :: rest, []⟩) (Builtin.tupleReprAt base ⟨[.ref a], []⟩) (fun fin s' => match fin with | .done f => R (.ok f) s' | .again c' => c'.quiet = true /\ codeAny (model X.prog X.w) A c' R s') (fun e s' => R (.error e) s') s := by
  have hca : Clear g a := hc.clear (kfree I) rd ok
  have rd0 := rd
  obtain ⟨a', vs, z, t, rs⟩ := rd0
  cases z
  obtain ⟨ob, its, n, ha, hcl, hdt, rv⟩ := tup_obj I t
  have hlen : ts.length = its.size := by rw [hx.len, rs.length, rv.length]; simp
  have hp := piled_le_tupleText ts
  have hsz0 : (tupleText ts).length <= sizeLine := by omega
  rw [tuple_repr_tree, tupleReprUnderWay_eq]
  refine wpOwn_bind (wpOwn_stackTailAny hg (tupGuardF_off _) (tupGuardF_pos _) ?_)
  have hn : (g.any fun c => tupGuardF (.ref a) (c, default)) = false := by
    rw [List.any_eq_false]
    intro c hcm
    rw [tupGuardF_of_clear hca c hcm]
    exact Bool.false_ne_true
  rw [hn]
  refine wpOwn_of_wpAny ?_
  show wpAny _ _ (tupleReprRest base (.ref a)) _ _ s
  unfold tupleReprRest Builtin.Tuple.tupleItemsOf
  refine wpAny_bind (wpAny_bind (wpAny_seqItems ha hdt (wpAny_pure ?_)))
  rw [<- Array.forIn_toList]
  have sz : ∀ x ∈ xs, sizeD x < sizeD (.tup xs) := fun x hx => by
    have := size_mem hx
    show _ < sizeDs xs + 1
    omega
  refine wpAny_bind (foldX (k := k) (d0 := depthDs xs) (n0 := sizeDs xs) (room_und hr hU.1 hU.2.1 hU.2.2.1) (guards_under_guard hcg hg) (hU.2.2.2.trans hf) xs its.toList vs ts _ _ s H _ (fun x hx => ⟨depth_mem hx, Nat.le_of_lt (size_mem hx)⟩)
    ((hc.mono Fr.refl (by show sizeDs xs <= sizeDs xs + 1; omega)).cons rd ok (by show sizeDs xs < sizeDs xs + 1; omega)) I o rs rv hx (by omega) fun s' H' I' o' f' => ?_)
  refine wpAny_bind (wpAny_mkStr (wpAny_pure ?_) (by simpa [tupleText, hlen] using hsz0))
  have h1 := hR { s' with toks := s'.toks + 1 } H' s'.toks (I'.tok _) o' f'
  simpa [tupleText, hlen] using h1
end
end DL
namespace DL
open PySem PySem.Spec PyProof.Rows L2 VX
section
variable {X : Cx}
theorem strs_of : ∀ {ts : List Str} {its : List Value}, Vals (ts.map V.str) its -> ∃ done : List (Str × Tok), its = strValues done /\ done.map (·.1) = ts
  | [], _, h => by
    cases h
    exact ⟨[], rfl, rfl⟩
  | t :: ts, _, h => by
    cases h with
    | cons r q =>
      obtain ⟨u, rfl⟩ := (show ∃ u, _ = Value.str t u from r)
      obtain ⟨done, e1, e2⟩ := strs_of q
      exact ⟨(t, u) :: done, by rw [e1]; rfl, by rw [List.map_cons, e2]⟩
theorem lst_obj {pins : List (Addr × Obj)} {σ : L2.St} {H : Hp} {s : Shared} {T : Td} {a : Addr} {vs : List V} (I : Inv X pins σ H s) (t : LstAt X.K H T a vs) : ∃ (o : Obj) (its : Array Value) (n : Nat), s.heap.get? a = some o /\ o.cls = .type "list" /\ o.data = .seq its n /\ Vals vs its.toList := by
  rcases t with ⟨_, q⟩ | ⟨o, its, n, l, c, _, d, _, r⟩
  . obtain ⟨_, its, n, rv, h1⟩ := q.ok I.hok
    exact ⟨_, its.toArray, n, h1, rfl, rfl, by simpa using rv⟩
  . exact ⟨o, its, n, I.kIn a o l, c, d, r⟩
theorem und_loop (A : Around) (args : Args) : (A.under (.builtin "list.__repr__.loop" args)).depth <= A.depth + 1 /\ (A.under (.builtin "list.__repr__.loop" args)).units <= A.units + 1 /\ (A.under (.builtin "list.__repr__.loop" args)).handled = A.handled /\ (A.under (.builtin "list.__repr__.loop" args)).frames = A.frames := by
  refine ⟨?_, Nat.le_of_eq (units_under_list_loop A args), ?_, ?_⟩
  . show A.depth + (Code.builtin "list.__repr__.loop" args).weight <= A.depth + 1
    have : (Code.builtin "list.__repr__.loop" args).weight <= 1 := by
      have h1 := isGuard_list_loop args
      unfold Code.weight
      rw [h1]
      have h2 : (Code.builtin "list.__repr__.loop" args).isCreation = false := by
        first | rfl | (simp [Code.isCreation]; done) | (obtain ⟨p, k⟩ := args; cases p <;> rfl)
      have h3 : (Code.builtin "list.__repr__.loop" args).isCaller = false := by
        first | rfl | (simp [Code.isCaller]; done) | (obtain ⟨p, k⟩ := args; cases p <;> rfl)
      rw [h2, h3]
      show (Code.builtin "list.__repr__.loop" args).frames + 0 + 1 + 0 <= 1
      have h4 : (Code.builtin "list.__repr__.loop" args).frames = 0 := by first | rfl | simp [Code.frames, Code.isFrame]
      omega
    omega
  . first | rfl | simp [Around.under]
  . first | rfl | simp [Around.under, Code.envs, Code.isFrame, pushEnvs] | (unfold Around.under; cases A.frames <;> simp [Code.envs, Code.env?, Code.isFrame, pushEnvs])
theorem strs_RD {K : PySem.W.Frag} {H : Hp} {T : Td} : ∀ l : List Str, RDs K H T (l.map D.str) (l.map V.str)
  | [] => rfl
  | x :: l => RDs.cons rfl (strs_RD l)
theorem strs_eq {K : PySem.W.Frag} {H : Hp} {T : Td} : ∀ {l : List Str} {vs : List V}, RDs K H T (l.map D.str) vs -> vs = l.map V.str
  | [], _, h => h
  | x :: l, _, h => by
    obtain ⟨v, r, e, h1, h2⟩ := h
    have h1' : v = .str x := h1
    rw [e, h1', strs_eq h2]
    rfl
theorem str_lst {K : PySem.W.Frag} {H : Hp} {T : Td} {P : Addr} {l : List Str} (o : DOk K H (tput T P (.lst (l.map D.str)))) : H P = some (.lst (l.map V.str)) := by
  obtain ⟨vs, h, r⟩ := o P _ tput_same
  rw [h, strs_eq r]
theorem lst_loop {A : Around} {g : List Code} {k : Nat} {T : Td} {pins : List (Addr × Obj)} {σ : L2.St} {H0 : Hp} {xs : List D} {ts : List Str} {a P : Addr} {vs : List V} {base : Nat} {R : Result -> Shared -> Prop}
    (hr : Room (k + depthDs xs + 1) A) (hg : A.guards = some g) (hf : A.frames = some X.stack) (nP : H0 P = none) (nT : T P = none) (hc : GC X.K H0 T (sizeD (.lst xs)) g) (t0 : LstAt X.K H0 T a vs) (rs0 : RDs X.K H0 T xs vs) (ok : okR (.lst xs) = true) (hx : ReprXs X k xs ts)
    (hsz : base + (listText ts).length <= sizeLine) (hR : ∀ s' H' u, Inv X pins σ H' s' -> DOk X.K H' T -> Fr H0 T H' T -> R (.ok (.ret (.str (listText ts) u))) s') :
    ∀ (m i : Nat) (s : Shared) (H : Hp), xs.length - i = m -> i <= xs.length -> Inv X pins σ H s -> DOk X.K H (tput T P (.lst ((ts.take i).map D.str))) -> Fr H0 T H (tput T P (.lst ((ts.take i).map D.str))) ->
      codeAny (model X.prog X.w) A (.builtin "list.__repr__.loop" ⟨[.ref a, rawInt i, .ref P, rawInt ((base + piled (ts.take i) : Nat) : Int)], []⟩) R s := by
  have hX : (listText ts).length = (textFrom 0 "[" ts).length + 1 := by
    show (textFrom 0 "[" ts ++ "]").length = _
    rw [strLen_append]; rfl
  have hL := textFrom_len ts 0 "["
  have hlen := hx.len
  have hsz1 : ts.length <= sizeLine := by
    have h1 := hL.1
    rw [if_neg (Nat.lt_irrefl 0)] at h1
    omega
  have hsz2 : ∀ t ∈ ts, t.length <= sizeLine := fun t ht => by
    have h2 := hL.2.1 t ht
    omega
  have hsz3 : (listText ts).length <= sizeLine := by omega
  have hp3 := piled_le_listText ts
  intro m
  induction m with
  | zero =>
    intro i s H hk hi I o f
    have hP := str_lst o
    have hin : i = xs.length := by omega
    obtain ⟨ob, its, n, ha, hcl, hdt, rv⟩ := lst_obj I (t0.mono f)
    have hil : its.size = xs.length := by
      have e1 := rv.length
      have e2 := rs0.length
      simp at e1
      omega
    obtain ⟨pits, pn, prv, hPo, _⟩ := I.lst hP
    obtain ⟨done, ed, ed2⟩ := strs_of prv
    refine codeAny_builtin F.entry_list_repr_loop ?_
    show wpAny _ _ (Builtin.«list.__repr__.loop» ⟨[.ref a, .int i 0, .ref P, .int ((base + piled (ts.take i) : Nat) : Int) 0], []⟩) _ _ s
    rw [repr_loop_tree]
    refine wpAny_bind (wpAny_listItems ha hdt ?_)
    have hnone : its[(i : Int).toNat]? = none := by simp [hin, hil]
    simp only [hnone]
    unfold reprEnd
    refine wpAny_bind (wpAny_listItems hPo rfl ?_)
    rw [List.toList_toArray, ed, repr_fold]
    refine wpAny_bind (wpAny_pure ?_)
    have hall : done.map (·.1) = ts := by rw [ed2, hin, <- hlen, List.take_length]
    rw [hall]
    exact wpAny_bind (wpAny_mkStr (wpAny_pure (hR _ H _ (I.tok _) (by have q := o.free (p := P); rw [tdel_tput nT] at q; exact q) (by have q := f.trans (Fr.free (p := P)); rw [tdel_tput nT] at q; exact q))) hsz3)
  | succ m ih =>
    intro i s H hk hi I o f
    have hP := str_lst o
    have hlt : i < xs.length := by omega
    obtain ⟨t, ht, hrep⟩ := hx.get (List.getElem?_eq_getElem hlt)
    obtain ⟨ob, its, n, ha, hcl, hdt, rv⟩ := lst_obj I (t0.mono f)
    have rs := RDs.mono f xs rs0
    obtain ⟨v, hv, rd⟩ := rs.get (List.getElem?_eq_getElem hlt)
    obtain ⟨u, hu, ru⟩ := rv.get hv
    have hu2 : its[i]? = some u := by simpa using hu
    obtain ⟨pits, pn, prv, hPo, _⟩ := I.lst hP
    have hp1 := piled_take_succ ht
    have hp2 := piled_take_le ts (i + 1)
    have hx0 : xs[i] ∈ xs := List.getElem_mem hlt
    refine codeAny_builtin F.entry_list_repr_loop ?_
    show wpAny _ _ (Builtin.«list.__repr__.loop» ⟨[.ref a, .int i 0, .ref P, .int ((base + piled (ts.take i) : Nat) : Int) 0], []⟩) _ _ s
    rw [repr_loop_tree]
    refine wpAny_bind (wpAny_listItems ha hdt ?_)
    have hsome : its[(i : Int).toNat]? = some u := by rw [Int.toNat_natCast]; exact hu2
    simp only [hsome]
    rw [Int.toNat_natCast]
    have hU := und_loop A ⟨[.ref a, .int i 0, .ref P, .int ((base + piled (ts.take i) : Nat) : Int) 0], []⟩
    have dm := depth_mem hx0
    have sm := size_mem hx0
    have rdl : RD X.K H (tput T P (.lst ((ts.take i).map D.str))) (.lst xs) (.ref a) := ⟨a, vs, rfl, t0.mono f, rs⟩
    refine wpAny_bind (wpAny_holding (hrep (base + piled (ts.take i) + 1) (by omega) _ _ pins s σ H (tput T P (.lst ((ts.take i).map D.str))) v u _ _ ((room_und hr hU.1 hU.2.1 hU.2.2.1).mono (by omega)) (guards_under_guard (isGuard_list_loop _) hg)
      ((hc.mono f (by show sizeD xs[i] <= sizeDs xs + 1; omega)).cons rdl ok (by show sizeD xs[i] < sizeDs xs + 1; omega)) (hU.2.2.2.trans hf) I o rd ru fun s' H' I' o' f' => ?_))
    refine wpAny_bind (wpAny_mkStr ?_ (hsz2 t (List.mem_of_getElem? ht)))
    refine wpAny_bind ?_
    show wpAny _ _ (updateSeq P _) _ _ _
    have hP' := str_lst o'
    obtain ⟨qits, qn, qrv, hQo, qz⟩ := I'.lst hP'
    have hql : qits.length <= sizeLine := by rw [<- qrv.length]; exact qz
    have htake : (ts.take (i + 1)).map V.str = (ts.take i).map V.str ++ [.str t] := by
      rw [List.take_add_one, ht]
      simp
    have hz' : ((ts.take (i + 1)).map V.str).length <= sizeLine := by
      rw [List.length_map, List.length_take]
      omega
    have I2 := (I'.tok (s'.toks + 1)).lset (its' := qits ++ [.str t s'.toks]) (ys := (ts.take (i + 1)).map V.str) (f := fun xs => xs.push (.str t s'.toks)) (t' := s'.toks + 1) hP' hQo (by simp) (by rw [htake]; exact qrv.append (.cons ⟨_, rfl⟩ .nil)) hz'
    refine wpAny_updateSeq hQo rfl (wpAny_pure ⟨F.quiet_list_repr_loop _, ?_⟩) (by simpa using hql)
    have e1 : ((i : Int) + 1) = ((i + 1 : Nat) : Int) := by omega
    have e2 : base + piled (ts.take i) + (t.length + 2) = base + piled (ts.take (i + 1)) := by omega
    rw [e1, e2]
    have ht : tput T P (.lst ((ts.take i).map D.str)) P = some (.lst ((ts.take i).map D.str)) := tput_same
    have fw : Fr H' (tput T P (.lst ((ts.take i).map D.str))) (upd H' P (.lst ((ts.take (i + 1)).map V.str))) (tput (tput T P (.lst ((ts.take i).map D.str))) P (.lst ((ts.take (i + 1)).map D.str))) := Fr.write ht
    have ow := o'.write (o := .lst ((ts.take (i + 1)).map V.str)) (u := .lst ((ts.take (i + 1)).map D.str)) ht ⟨_, upd_same, strs_RD _⟩
    rw [tput_tput] at fw ow
    exact ih (i + 1) _ _ (by omega) hlt I2 ow ((f.trans f').trans fw)
end
end DL
namespace DL
open PySem PySem.Spec PyProof.Rows L2 VX
def ownD (C : Addr) (n : Option (List Str)) (xs : List D) : D := match n with
  | none => .slo C xs
  | some ns => .obj C ns xs
structure OwnR (X : Cx) (k : Nat) (own : Addr -> Option (List Str) -> List D -> Option Str) : Prop where
  ex : ∀ C n xs t, own C n xs = some t -> ∃ f, PySem.W.findIn X.K (.ref C) "__repr__" = some (some (.ref f)) /\ PySem.W.isFn X.K (.ref f) = true /\
    FnR X.prog X.w X.K X.mg X.base (L2.CX X.prog X.w) k f (liftSp X.K fun ds T Q _ => ds = [ownD C n xs] /\ Q (.str t) T)
section
variable {X : Cx} {own : Addr -> Option (List Str) -> List D -> Option Str} {k : Nat}
theorem leaf_is {x : D} {t : Str} {K : PySem.W.Frag} {H : Hp} {T : Td} {P : Program} {w : World} {vx : V} {v : Value} (e : leafText x = some t) (rd : RD K H T x vx) (rv : L2.RelV vx v) : ReprIs P w v t := by
  cases x <;> simp only [leafText] at e <;> first | (cases e; done) | skip
  . cases e
    have r : vx = _ := rd
    subst r
    cases (show v = Value.none from rv)
    exact ReprIs.none
  . rename_i b
    cases e
    have r : vx = _ := rd
    subst r
    cases (show v = Value.bool b from rv)
    exact ReprIs.bool b
  . rename_i i
    split at e
    . rename_i hz
      cases e
      have r : vx = _ := rd
      subst r
      obtain ⟨u, rfl⟩ := (show ∃ u, v = Value.int i u from rv)
      exact ReprIs.int u hz
    . cases e
  . rename_i y
    split at e
    . rename_i hz
      cases e
      have r : vx = _ := rd
      subst r
      obtain ⟨u, rfl⟩ := (show ∃ u, v = Value.str y u from rv)
      exact ReprIs.str y u hz
    . cases e
theorem key_is {P : Program} {w : World} {q : Key} {t : Str} {v : Value} (e : keyText q = some t) (h : keyIs q v = true) : ReprIs P w v t := by
  rcases keyIs_shape h with ⟨i, u, rfl, rfl⟩ | ⟨x, u, rfl, rfl⟩
  . simp only [keyText] at e
    split at e
    . rename_i hz
      cases e
      exact ReprIs.int u hz
    . cases e
  . simp only [keyText] at e
    split at e
    . rename_i hz
      cases e
      exact ReprIs.str x u hz
    . cases e
theorem ents_K {P : Program} {w : World} {K : PySem.W.Frag} {H : Hp} {T : Td} {as : List Addr} {h : Heap} {d : Nat} : ∀ {ks : List Key} {xs : List D} {ts : List Str} {vs : List V} {kvs : List (Key × Value)} {es : List DictEntry}, entTexts ks xs = some ts -> RDs K H T xs vs -> ks.length = vs.length ->
    KV (ks.zip vs) kvs -> Pairs (mixKind P w) es kvs -> ReprEntriesK P w as h d es ts
  | [], [], _, _, _, _, e, rs, _, rk, hP => by
    cases e
    have rs' : _ = [] := rs
    subst rs'
    cases rk
    cases hP
    exact .nil
  | [], _ :: _, _, _, _, _, e, _, _, _, _ => by cases e
  | _ :: _, [], _, _, _, _, e, _, _, _, _ => by cases e
  | q :: ks, x :: xs, _, _, _, _, e, rs, hl, rk, hP => by
    unfold entTexts at e
    split at e
    . rename_i a b r e1 e2 e3
      cases e
      obtain ⟨v, ws, rfl, r1, r2⟩ := rs
      rw [List.zip_cons_cons] at rk
      cases rk with
      | @cons _ kv _ kvs rr rt =>
        obtain ⟨k0, v0⟩ := kv
        obtain ⟨rr1, rr2⟩ := rr
        have rr1' : q = k0 := rr1
        subst rr1'
        cases hP with
        | cons p1 p2 p3 => exact .cons (ReprK.of_is (key_is e1 p1) _ _ _) (ReprK.of_is (leaf_is e2 r1 (by first | (rw [p2]; exact rr2) | (rw [<- p2]; exact rr2))) _ _ _) (ents_K e3 r2 (by simpa using hl) rt p3)
    . cases e
theorem inst_of {C : Addr} {n : Option (List Str)} {xs : List D} {H : Hp} {T : Td} {a : Addr} {pins : List (Addr × Obj)} {σ : L2.St} {s : Shared} (I : Inv X pins σ H s) (rd : RD X.K H T (ownD C n xs) (.ref a)) : ∃ ox od, PySem.W.InstAt s.heap a ox C (some od) := by
  cases n with
  | none =>
    obtain ⟨b, dx, vs, z, _, _, h2, h1, _⟩ := rd
    cases z
    obtain ⟨sl, od, _, J, _⟩ := SlX.slt_inst I (.inr ⟨h1, h2⟩ : SlX.Slt H a C dx (vs.map some))
    exact ⟨_, od, J⟩
  | some ns =>
    obtain ⟨b, dx, vs, z, _, _, h2, h1, _⟩ := rd
    cases z
    obtain ⟨mA, O, _⟩ := ins_get I.hok h1
    obtain ⟨od, J, _⟩ := O.look
    exact ⟨_, _, J⟩
theorem own_call (O : OwnR X k own) {C : Addr} {n : Option (List Str)} {xs : List D} {t : Str} (e : own C n xs = some t) {A : Around} {pins : List (Addr × Obj)} {σ : L2.St} {H : Hp} {s : Shared} {T : Td} {a : Addr} {E : Value -> Shared -> Prop} {Q : Value -> Shared -> Prop} (hr : Room k A) (hf : A.frames = some X.stack) (I : Inv X pins σ H s) (o : DOk X.K H T)
    (rd : RD X.K H T (ownD C n xs) (.ref a)) (q : ∀ s' H' u, Inv X pins σ H' s' -> DOk X.K H' T -> Fr H T H' T -> Q (.str t u) s') :
    ∃ f, PySem.W.findIn X.K (.ref C) "__repr__" = some (some (.ref f)) /\ PySem.W.isFn X.K (.ref f) = true /\ wpAny (model X.prog X.w) A (call (.ref f) [.ref a]) Q E s := by
  obtain ⟨f, h1, h2, F⟩ := O.ex C n xs t e
  refine ⟨f, h1, h2, wpAny_call (codeAny_mono (F A X.stack s H [.ref a] [.ref a] (fun v H' => v = .str t /\ DOk X.K H' T /\ Fr H T H' T) (fun _ _ _ => False) hr (env0_A I hf) (.cons rfl .nil)
    ⟨[ownD C n xs], T, fun x T' => x = .str t /\ T' = T, fun _ _ => False, RDs.cons rd RDs.nil, o, ⟨rfl, rfl, rfl⟩, fun x T' v H' hx r o' f' => by
      obtain ⟨rfl, rfl⟩ := hx
      exact ⟨r, o', f'⟩, fun _ _ _ _ _ z => z.elim⟩) fun r s' hq => ?_)⟩
  cases r with
  | error er => exact (cx_none hq).elim
  | ok fl =>
    cases fl with
    | ret u =>
      obtain ⟨v, H', I2, rv, ev, o', f'⟩ := I.after hq
      subst ev
      obtain ⟨tk, rfl⟩ := (show ∃ tk, u = Value.str t tk from rv)
      exact q s' H' tk I2 o' f'
    | next => exact False.elim hq
    | brk => exact False.elim hq
    | cont => exact False.elim hq
theorem under_own {M : Model} {A : Around} {E : Value -> Shared -> Prop} {s : Shared} {K : PySem.W.Frag} {x C f : Addr} {ox : Obj} {od : Option Obj} {base : Nat} {Q : Value -> Shared -> Prop} (hu : A.units < cLine) (Xk : K.In s.heap) (I : PySem.W.InstAt s.heap x ox C od) (hs : PySem.W.findIn K (.ref C) "__repr__" = some (some (.ref f))) (hf : PySem.W.isFn K (.ref f) = true)
    (h : wpAny M A (call (.ref f) [.ref x]) (fun v s' => (∃ y u, v = .str y u) /\ Q v s') E s) : wpAny M A (pyReprObjUnder base (.ref x)) Q E s := by
  unfold pyReprObjUnder pyReprObjBy
  refine wpAny_bind (wpAny_cRoomFor hu ?_)
  refine wpAny_bind (wpAny_bind (I.type.here ((PySem.W.looks_findIn Xk hs).here ?_)))
  show wpAny _ _ (if (some (Value.ref f)).isNone = true then _ else _) _ _ _
  rw [if_neg (by simp)]
  refine wpAny_bind ?_
  simp only [callSpecialIfBoundBy?, bindSpecialIfBound?]
  refine wpAny_holding (wpAny_bind (wpAny_bind (wpAny_bind (I.type.here ((PySem.W.looks_findIn Xk hs).here ?_)))))
  refine wpAny_bind (wpAny_askSetting (wpAny_ite ?_))
  have fin : wpAny M A (call (.ref f) ([.ref x] ++ []) >>= fun v => pure (some v)) (fun r s' => wpAny M A (match r with
      | some r => do if <- isInstance r (.type "str") then pure r else raiseError "TypeError" s!"__repr__ returned non-string (type {← typeNameOf r})"
      | none => unsupported "repr:special-get-raises") Q E s') E s := wpAny_bind (wpAny_mono h (fun v s' h' => wpAny_pure (by
        obtain ⟨⟨y, u, rfl⟩, q⟩ := h'
        refine wpAny_bind (wpAny_isInstance (T := "str") (b := true) (typeIs_str _ _ _) isSubtype_str_str ?_)
        first
          | exact wpAny_pure q
          | (rw [if_pos rfl]; exact wpAny_pure q))) fun _ _ h' => h')
  split
  . exact wpAny_bind ((PySem.W.bind_fn Xk _ (beq_iff_eq.mp hf)).here (wpAny_pure (by exact fin)))
  . exact wpAny_tryCatch (wpAny_bind ((PySem.W.bind_fn Xk _ (beq_iff_eq.mp hf)).here (wpAny_pure (by exact fin))))
def UndP (A : Around) (c : Code) : Prop := (A.under c).depth <= A.depth + 1 /\ (A.under c).units <= A.units + 1 /\ (A.under c).handled = A.handled /\ (A.under c).frames = A.frames
theorem und_gen (A : Around) (id : String) (args : Args) (h1 : (Code.builtin id args).isGuard = true) (h2 : (Code.builtin id args).isCreation = false) (h3 : (Code.builtin id args).isCaller = false) (h4 : (Code.builtin id args).frames = 0) (hu : (A.under (.builtin id args)).units = A.units + 1) :
    UndP A (.builtin id args) := by
  refine ⟨?_, Nat.le_of_eq hu, ?_, ?_⟩
  . show A.depth + (Code.builtin id args).weight <= A.depth + 1
    have : (Code.builtin id args).weight <= 1 := by
      unfold Code.weight
      rw [h1, h2, h3, h4]
      decide
    omega
  . first | rfl | simp [Around.under]
  . first | rfl | simp [Around.under, Code.envs, Code.isFrame, pushEnvs] | (unfold Around.under; cases A.frames <;> simp [Code.envs, Code.env?, Code.isFrame, pushEnvs])
theorem und_tup (A : Around) (args : Args) : UndP A (.builtin "tuple.__repr__" args) := und_gen A "tuple.__repr__" args (isGuard_tuple_repr args) (by first | rfl | (simp [Code.isCreation]; done) | (obtain ⟨p, k⟩ := args; cases p <;> rfl)) (by first | rfl | (simp [Code.isCaller]; done)) (by first | rfl | (simp [Code.frames, Code.isFrame]; done)) (units_under_tuple_repr A args)
theorem und_tupU (A : Around) (args : Args) : UndP A (.builtin "tuple.__repr__.under" args) := und_gen A "tuple.__repr__.under" args (by show guardIds.contains "tuple.__repr__.under" = true; decide +kernel) (by first | rfl | (simp [Code.isCreation]; done) | (obtain ⟨p, k⟩ := args; cases p <;> rfl)) (by first | rfl | (simp [Code.isCaller]; done)) (by first | rfl | (simp [Code.frames, Code.isFrame]; done)) (by first | rfl | simp [Around.under, Code.cUnits, Code.frames, Code.isFrame])
theorem lst_core {A : Around} {g : List Code} {T : Td} {pins : List (Addr × Obj)} {σ : L2.St} {H : Hp} {s : Shared} {xs : List D} {ts : List Str} {a : Addr} {base : Nat} {R : Result -> Shared -> Prop}
    (hr : Room (k + depthDs xs + 1) A) (hg : A.guards = some g) (hc : GC X.K H T (sizeD (.lst xs)) g) (hf : A.frames = some X.stack) (I : Inv X pins σ H s) (o : DOk X.K H T) (rd : RD X.K H T (.lst xs) (.ref a)) (ok : okR (.lst xs) = true) (hx : ReprXs X k xs ts)
    (hsz : base + (listText ts).length <= sizeLine) (hR : ∀ s' H' u, Inv X pins σ H' s' -> DOk X.K H' T -> Fr H T H' T -> R (.ok (.ret (.str (listText ts) u))) s') :
    wpAny (model X.prog X.w) A.in1 (Builtin.listReprAt base ⟨[.ref a], []⟩) (fun fin s' => match fin with | .done f => R (.ok f) s' | .again c' => c'.quiet = true /\ codeAny (model X.prog X.w) A c' R s') (fun e s' => R (.error e) s') s := by
  have hca : Clear g a := hc.clear (kfree I) rd ok
  have rd0 := rd
  obtain ⟨a', vs, z, t, rs⟩ := rd0
  cases z
  obtain ⟨ob, its, n, ha, hcl, hdt, rv⟩ := lst_obj I t
  have hlen := hx.len
  have hsz0 : (listText ts).length <= sizeLine := by omega
  obtain ⟨l⟩ := its
  cases l with
  | nil =>
    have e0 : vs = [] := by cases rv; rfl
    have e1 : ts = [] := by
      have := rs.length
      rw [e0] at this
      cases ts with
      | nil => rfl
      | cons t ts => rw [<- hlen] at this; simp at this
    subst e1
    refine wpAny_list_repr_empty ha hdt ?_
    have q := hR { s with toks := s.toks + 1 } H s.toks (I.tok _) o Fr.refl
    rw [listText_nil] at q
    exact q
  | cons x l =>
    refine wpAny_list_repr_head (A := A.in1) hg (fun v rest kw hm => listSameRef_of_ne (hca _ _ _ _ hm)) ha hdt ?_
    refine wpAny_bind (m := newList []) (wpAny_newObj_type ?_)
    refine wpAny_pure ⟨F.quiet_list_repr_loop _, ?_⟩
    have nP : H s.heap.objs.size = none := I.hok.fresh (Nat.le_refl _)
    have nT := o.fresh nP
    have I2 := I.lnew (ys := []) (its := []) (t' := s.toks) .nil (Nat.zero_le _)
    have o2 : DOk X.K (upd H s.heap.objs.size (.lst [])) (tput T s.heap.objs.size (.lst (([] : List Str).map D.str))) := o.laidT nP ⟨[], upd_same, rfl⟩
    have q := lst_loop (R := R) (base := base) hr hg hf nP nT hc t rs ok hx hsz hR _ 0 _ _ rfl (Nat.zero_le _) I2 (by rw [List.take_zero]; exact o2) (by rw [List.take_zero]; exact Fr.laidT nP)
    exact q
mutual
theorem reprX_all (O : OwnR X k own) : ∀ (x : D) {t : Str}, reprD own x = some t -> ReprX X k x t
  | .non, t, e => reprX_leaf fun vx v H T rd rv => leaf_is (x := .non) e rd rv
  | .bl b, t, e => reprX_leaf fun vx v H T rd rv => leaf_is (x := .bl b) e rd rv
  | .int i, t, e => reprX_leaf fun vx v H T rd rv => leaf_is (x := .int i) e rd rv
  | .str y, t, e => reprX_leaf fun vx v H T rd rv => leaf_is (x := .str y) e rd rv
  | .tup xs, t, e => by
    have ok := repr_ok (.tup xs) e
    unfold reprD at e
    split at e
    . rename_i ts es
      split at e
      . cases e
        have hx := reprXs_all O xs es
        intro base hb A g pins s σ H T vx v E Q hr hg hc hf I o rd rv q
        have rd0 := rd
        obtain ⟨a, vs, z, tt, rs⟩ := rd0
        subst z
        obtain rfl : v = Value.ref a := rv
        obtain ⟨ob, its, n, ha, hcl, hdt, _⟩ := tup_obj I tt
        have hr' : Room (k + depthDs xs + 1) A := hr.mono (by show k + depthDs xs + 1 <= k + (depthDs xs + 2); omega)
        refine wpAny_pyReprUnder_ref (by omega) (wpAny_pyReprObjUnder_twin (twin := "tuple.__repr__.under") ⟨ob, ha, hcl⟩ F.slot_tuple_repr rfl (by have := hr.un; omega) ?_)
        exact call_twin_own (F.quiet_tuple_repr_under _) F.entry_tuple_repr_under F.check_tuple_repr_under ⟨ob, ha, hcl⟩ F.slot_tuple_repr (F.args_tuple_repr_1 _)
          (tup_core (R := callEnd _ E) (by show guardIds.contains "tuple.__repr__.under" = true; decide +kernel) hr' hg hc hf I o rd ok hx (und_tupU A _) hb fun s' H' u I' o' f' => ⟨⟨_, _, rfl⟩, _, _, rfl, q s' H' I' o' f'⟩)
      . cases e
    . cases e
  | .lst xs, t, e => by
    have ok := repr_ok (.lst xs) e
    unfold reprD at e
    split at e
    . rename_i ts es
      split at e
      . cases e
        have hx := reprXs_all O xs es
        intro base hb A g pins s σ H T vx v E Q hr hg hc hf I o rd rv q
        have rd0 := rd
        obtain ⟨a, vs, z, tt, rs⟩ := rd0
        subst z
        obtain rfl : v = Value.ref a := rv
        obtain ⟨ob, its, n, ha, hcl, hdt, _⟩ := lst_obj I tt
        have hr' : Room (k + depthDs xs + 1) A := hr.mono (by show k + depthDs xs + 1 <= k + (depthDs xs + 2); omega)
        refine wpAny_pyReprUnder_ref (by omega) (wpAny_pyReprObjUnder_twin (twin := "list.__repr__.under") ⟨ob, ha, hcl⟩ F.slot_list_repr.toG rfl (by have := hr.un; omega) ?_)
        exact call_twin_plain F.plain_list_repr_under F.entry_list_repr_under F.check_list_repr_under ⟨ob, ha, hcl⟩ F.slot_list_repr.toG (F.args_list_repr_1 _)
          (lst_core (R := callEnd _ E) hr' hg hc hf I o rd ok hx hb fun s' H' u I' o' f' => ⟨⟨_, _, rfl⟩, _, _, rfl, q s' H' I' o' f'⟩)
      . cases e
    . cases e
  | .dct ks xs, t, e => by
    have ok := repr_ok (.dct ks xs) e
    unfold reprD at e
    split at e
    . rename_i ts es
      split at e
      . cases e
        intro base hb A g pins s σ H T vx v E Q hr hg hc hf I o rd rv q
        have rd0 := rd
        obtain ⟨a, od0, vs, z, tt, hh, hl, rs⟩ := rd0
        subst z
        obtain rfl : v = Value.ref a := rv
        obtain ⟨_, hsys, kvs, rk, ob, es0, ep, ha, hE, hdt, _, hP, _⟩ := (show ObjOk X.prog X.w H s.heap a (.frz od0 (.dK (ks.zip vs))) from I.hok a _ hh).2
        have hca : Clear g a := hc.clear (kfree I) rd ok
        exact (ReprK.dict (as := []) (h₀ := s.heap) (d := 0) ha hE.1 hdt hsys (by simp) (ents_K es rs hl rk hP)) base hb A g E s Q hg (fun b hb => by
          have hb' : b = a := by simpa using hb
          rw [hb']
          exact hca) (by have := hr.un; omega) (fun _ _ z => z) fun h' tk kp => q _ H (I.kept kp) o Fr.refl
      . cases e
    . cases e
  | .slo C xs, t, e => by
    unfold reprD at e
    split at e
    . rename_i t' et
      split at e
      . cases e
        intro base hb A g pins s σ H T vx v E Q hr hg hc hf I o rd rv q
        have rd0 := rd
        obtain ⟨a, dx, vs, z, _⟩ := rd0
        subst z
        obtain rfl : v = Value.ref a := rv
        obtain ⟨ox, od, J⟩ := inst_of (n := none) I rd
        obtain ⟨f, h1, h2, hcall⟩ := own_call (E := E) (Q := fun v s' => (∃ y u, v = .str y u) /\ ∃ y u, v = .str y u /\ Q y s') O et (hr.mono (Nat.le_add_right _ _)) hf I o rd fun s' H' u I' o' f' => ⟨⟨_, _, rfl⟩, _, _, rfl, q s' H' I' o' f'⟩
        exact wpAny_pyReprUnder_ref (by omega) (under_own (by have := hr.un; omega) I.kIn J h1 h2 hcall)
      . cases e
    . cases e
  | .obj C ns xs, t, e => by
    unfold reprD at e
    split at e
    . rename_i t' et
      split at e
      . cases e
        intro base hb A g pins s σ H T vx v E Q hr hg hc hf I o rd rv q
        have rd0 := rd
        obtain ⟨a, dx, vs, z, _⟩ := rd0
        subst z
        obtain rfl : v = Value.ref a := rv
        obtain ⟨ox, od, J⟩ := inst_of (n := some ns) I rd
        obtain ⟨f, h1, h2, hcall⟩ := own_call (E := E) (Q := fun v s' => (∃ y u, v = .str y u) /\ ∃ y u, v = .str y u /\ Q y s') O et (hr.mono (Nat.le_add_right _ _)) hf I o rd fun s' H' u I' o' f' => ⟨⟨_, _, rfl⟩, _, _, rfl, q s' H' I' o' f'⟩
        exact wpAny_pyReprUnder_ref (by omega) (under_own (by have := hr.un; omega) I.kIn J h1 h2 hcall)
      . cases e
    . cases e
  | .val _, t, e => by cases e
  | .ref _, t, e => by cases e
  | .exc _ _ _, t, e => by cases e
  | .fn _ _ _ _ _, t, e => by cases e
theorem reprXs_all (O : OwnR X k own) : ∀ (xs : List D) {ts : List Str}, reprDs own xs = some ts -> ReprXs X k xs ts
  | [], ts, e => by cases e; rfl
  | x :: xs, ts, e => by
    unfold reprDs at e
    split at e
    . rename_i t et
      split at e
      . rename_i r er
        cases e
        exact ⟨t, r, rfl, reprX_all O x et, reprXs_all O xs er⟩
      . cases e
    . cases e
end
end
end DL
namespace DL
open PySem PySem.Spec PyProof.Rows L2 VX
def rRepr (own : Addr -> Option (List Str) -> List D -> Option Str) (n : Nat) : RAD := fun xs T Q _ => match xs with
  | [x] => depthD x <= n /\ match reprD own x with
    | some t => Q (.str t) T
    | none => False
  | _ => False
section
variable {X : Cx} {W : WX} {own : Addr -> Option (List Str) -> List D -> Option Str} {k n : Nat}
theorem cd_repr [Gd] [GdN] (b : Bd (k + n + 4) X W) (O : OwnR X k own) : CallD X W (.builtin "repr") (rRepr own n) := by
  intro pins s σ H Q sd T QD ED xs vs us I L rs rv q
  match xs, q, rs with
  | [x], q, rs =>
  obtain ⟨vx, rfl, rd⟩ := rds1 rs
  cases rv with
  | @cons _ v _ _ k1 k2 =>
  cases k2
  obtain ⟨hd, q⟩ := q
  split at q
  case h_2 => exact q.elim
  rename_i t e
  have fin : ∀ (u : Tok), EP X pins σ Q (.str t u) { s with toks := s.toks + 1 } := fun u => L.here (x := .str t) (vx := .str t) (I.tok _) rfl ⟨u, rfl⟩ q
  have fin2 : ∀ s' H' u, Inv X pins σ H' s' -> DOk X.K H' T -> Fr H T H' T -> EP X pins σ Q (.str t u) s' := fun s' H' u I' o' f' => L.ep (x := .str t) (vx := .str t) I' rfl ⟨u, rfl⟩ o' f' q
  cases x with
  | non =>
    cases e
    have r : vx = _ := rd
    subst r
    cases (show v = Value.none from k1)
    exact PySem.P.repr_of_none (fin _)
  | bl y =>
    cases e
    have r : vx = _ := rd
    subst r
    cases (show v = Value.bool y from k1)
    exact PySem.P.repr_of_bool (fin _)
  | int i =>
    unfold reprD at e
    split at e
    . rename_i hz
      cases e
      have r : vx = _ := rd
      subst r
      obtain ⟨u, rfl⟩ := (show ∃ u, v = Value.int i u from k1)
      exact PySem.P.repr_of_int hz (fin _)
    . cases e
  | str y =>
    unfold reprD at e
    split at e
    . rename_i hz
      cases e
      have r : vx = _ := rd
      subst r
      obtain ⟨u, rfl⟩ := (show ∃ u, v = Value.str y u from k1)
      exact PySem.P.repr_of_str (fin _) hz
    . cases e
  | tup xs =>
    have ok := repr_ok (.tup xs) e
    unfold reprD at e
    split at e
    . rename_i ts es
      split at e
      . rename_i hz
        cases e
        have hx := reprXs_all O xs es
        have rd0 := rd
        obtain ⟨a, vs, z, tt, rs⟩ := rd0
        subst z
        obtain rfl : v = Value.ref a := k1
        obtain ⟨ob, its, m, ha, hcl, hdt, _⟩ := tup_obj I tt
        have hr' : Room (k + depthDs xs + 1) X.A.in1 := (Room.in1 (b.hr.mono (by have : depthDs xs + 2 <= n := hd; omega) : Room (k + depthDs xs + 1 + 1) X.A))
        refine call_repr_slot (by have := b.hr.un; omega) ⟨ob, ha, hcl⟩ F.slot_tuple_repr (wpAny_call (codeAny_call_builtin_own (Code.quiet_builtin _ (by decide +kernel)) F.entry_tuple_repr (F.slot_tuple_repr.check _ _ _ _ _ _ _ _ ⟨ob, ha, hcl⟩ (F.args_tuple_repr_1 _)
          (tup_core (base := 0) (R := callEnd (fun r s₁ => ∃ x t, r = .str x t /\ EP X pins σ Q r s₁) X.xe) (isGuard_tuple_repr _) hr' (show X.A.guards = some [] from GdN.nil _ b.hg) GC.nil I.ok.frames I L.ok rd ok hx (und_tup _ _) (by omega) fun s' H' u I' o' f' => ⟨_, _, rfl, fin2 s' H' u I' o' f'⟩))))
      . cases e
    . cases e
  | lst xs =>
    have ok := repr_ok (.lst xs) e
    unfold reprD at e
    split at e
    . rename_i ts es
      split at e
      . rename_i hz
        cases e
        have hx := reprXs_all O xs es
        have rd0 := rd
        obtain ⟨a, vs, z, tt, rs⟩ := rd0
        subst z
        obtain rfl : v = Value.ref a := k1
        obtain ⟨ob, its, m, ha, hcl, hdt, _⟩ := lst_obj I tt
        have hr' : Room (k + depthDs xs + 1) X.A.in1 := (Room.in1 (b.hr.mono (by have : depthDs xs + 2 <= n := hd; omega) : Room (k + depthDs xs + 1 + 1) X.A))
        refine call_repr_slot (by have := b.hr.un; omega) ⟨ob, ha, hcl⟩ F.slot_list_repr.toG (wpAny_call (codeAny_call_builtin F.slot_list_repr.plain F.entry_list_repr (F.slot_list_repr.check _ _ _ _ _ _ _ _ ⟨ob, ha, hcl⟩ (F.args_list_repr_1 _)
          (lst_core (base := 0) (R := callEnd (fun r s₁ => ∃ x t, r = .str x t /\ EP X pins σ Q r s₁) X.xe) hr' (show X.A.guards = some [] from GdN.nil _ b.hg) GC.nil I.ok.frames I L.ok rd ok hx (by omega) fun s' H' u I' o' f' => ⟨_, _, rfl, fin2 s' H' u I' o' f'⟩))))
      . cases e
    . cases e
  | dct ks xs =>
    unfold reprD at e
    split at e
    . rename_i ts es
      split at e
      . rename_i hz
        cases e
        have rd0 := rd
        obtain ⟨a, od0, vs, z, tt, hh, hl, rs2⟩ := rd0
        subst z
        obtain rfl : v = Value.ref a := k1
        obtain ⟨_, hsys, kvs, rk, ob, es0, ep, ha, hE, hdt, _, hP, _⟩ := (show ObjOk X.prog X.w H s.heap a (.frz od0 (.dK (ks.zip vs))) from I.hok a _ hh).2
        exact call_repr_slot (by have := b.hr.un; omega) ⟨ob, ha, hE.1⟩ F.slot_dict_repr (call_dict_reprK (as := []) (d := 0) ha hE.1 hdt hsys (by simp) (ents_K es rs2 hl rk hP) (show X.A.guards = some [] from GdN.nil _ b.hg) (fun b _ => Clear.nil b) (by have := b.hr.un; show X.A.units + 1 + (0 + 1) < cLine; omega) (fun _ _ z => z)
          (fun h' u tk kp => ⟨_, _, rfl, fin2 _ H u (I.kept kp) L.ok Fr.refl⟩) hz)
      . cases e
    . cases e
  | slo C xs =>
    unfold reprD at e
    split at e
    . rename_i t' et
      split at e
      . cases e
        have rd0 := rd
        obtain ⟨a, dx, vs, z, _⟩ := rd0
        subst z
        obtain rfl : v = Value.ref a := k1
        obtain ⟨ox, od, J⟩ := inst_of (n := none) I rd
        obtain ⟨f, h1, h2, hcall⟩ := own_call (E := X.xe) (Q := PySem.W.StrBack (EP X pins σ Q)) (A := X.A.in1) O et (Room.in1 (b.hr.mono (by omega))) I.ok.frames I L.ok rd fun s' H' u I' o' f' => fin2 s' H' u I' o' f'
        obtain ⟨m, Fm⟩ := I.fr
        exact PySem.W.repr_K (by have := b.hr.un; show X.A.units + 1 < cLine; omega) Fm I.ok.mod.kin J h1 h2 hcall
      . cases e
    . cases e
  | obj C ns xs =>
    unfold reprD at e
    split at e
    . rename_i t' et
      split at e
      . cases e
        have rd0 := rd
        obtain ⟨a, dx, vs, z, _⟩ := rd0
        subst z
        obtain rfl : v = Value.ref a := k1
        obtain ⟨ox, od, J⟩ := inst_of (n := some ns) I rd
        obtain ⟨f, h1, h2, hcall⟩ := own_call (E := X.xe) (Q := PySem.W.StrBack (EP X pins σ Q)) (A := X.A.in1) O et (Room.in1 (b.hr.mono (by omega))) I.ok.frames I L.ok rd fun s' H' u I' o' f' => fin2 s' H' u I' o' f'
        obtain ⟨m, Fm⟩ := I.fr
        exact PySem.W.repr_K (by have := b.hr.un; show X.A.units + 1 < cLine; omega) Fm I.ok.mod.kin J h1 h2 hcall
      . cases e
    . cases e
  | val _ => cases e
  | ref _ => cases e
  | exc _ _ _ => cases e
  | fn _ _ _ _ _ => cases e
end
end DL
namespace DL
open PySem PySem.Spec PyProof.Rows L2 VX
instance gdNil : Gd := ⟨fun g => g = some []⟩
instance gdN : GdN := ⟨fun _ h => h⟩
def H0 (K : PySem.W.Frag) (a : Addr) (o : Obj) (xs : List V) (ts : List Addr) : Hp := fun b => if b = a then (if (K.lookup a).isSome then none else some (.frz o (.lst xs))) else if b ∈ ts then some (.tbl #[]) else none
def T0 (cs : List (Addr × Addr × Str)) : Td := fun b => (cs.find? fun p => p.2.1 == b).map fun p => .tbl p.2.2
theorem law_end {P : Program} {w : World} {K : PySem.W.Frag} {mg mb : Str -> Option Value} {k : Nat} {fa a : Addr} {cs : List (Addr × Addr × Str)} {sp : SpD} {s₁ : Shared} {vs : List Value} {ns : List Int}
    (KX : K.In s₁.heap) (hns : s₁.heap.Ns mainGlobals mg) (hb : s₁.heap.Ns builtinsNs mb) (hbb : ∀ x : Str, x ≠ "__name__" -> mb x = bootBuiltins x) (hlim : s₁.heap.NoLimit) (hg : s₁.gens = #[])
    (hT : ∀ p ∈ cs, s₁.heap.get? p.2.1 = some { cls := .none, data := .fields #[] }) (nT : ∀ p ∈ cs, K.lookup p.2.1 = none) (C : ∀ p ∈ cs, PySem.W.CodeHd s₁.heap p.1 p.2.1)
    (hbm : ∃ (bm : Addr) (ob : Obj), mg "__builtins__" = some (.ref bm) /\ bm ≠ builtinsNs /\ s₁.heap.get? bm = some ob /\ ob.cls = .type "module" /\ ob.dict = some builtinsNs /\ ob.data = .plain)
    (ha : s₁.heap.get? a = some { cls := .type "list", data := .seq vs.toArray }) (hi : IntsAre vs ns) (hl : ns.length <= sizeLine) (hr : Room k callerA)
    (F : ∀ base : Heap, K.In base -> base.Ns mainGlobals mg -> (∀ p ∈ cs, LamX.TabB base mg p.1 p.2.1) -> GR P w K mg base fa k sp)
    (hsp : sp [.lst (ns.map D.int)] (T0 cs) (fun x _ => x = .bl true) fun _ _ => False) :
    codeAny (model P w) callerA (.call (.ref fa) ⟨[.ref a], []⟩) (fun r s' => r = .ok (.ret (.bool true)) /\ OldK s₁.heap s'.heap /\ s'.os = s₁.os /\ AllBare s'.gens) s₁ := by
  have rv := vals_ints hi
  have lenV := hi.length
  obtain ⟨ts, ets⟩ : ∃ ts, ts = cs.map fun p => p.2.1 := ⟨_, rfl⟩
  have isT : ∀ b : Addr, b ∈ ts -> s₁.heap.get? b = some { cls := .none, data := .fields #[] } := fun b hb => by
    rw [ets] at hb
    obtain ⟨p, hp, e⟩ := List.mem_map.mp hb
    rw [<- e]
    exact hT p hp
  have noT : ∀ b : Addr, b ∈ ts -> K.lookup b = none := fun b hb => by
    rw [ets] at hb
    obtain ⟨p, hp, e⟩ := List.mem_map.mp hb
    rw [<- e]
    exact nT p hp
  have aT : a ∉ ts := fun z => by
    have q := isT a z
    rw [ha] at q
    have z' : Data.seq vs.toArray _ = Data.fields #[] := congrArg Obj.data (Option.some.inj q)
    cases z'
  have memT : ∀ p ∈ cs, p.2.1 ∈ ts := fun p hp => by rw [ets]; exact List.mem_map.mpr ⟨p, hp, rfl⟩
  obtain ⟨H, eH⟩ : ∃ H, H = H0 K a { cls := .type "list", data := .seq vs.toArray } (ns.map V.int) ts := ⟨_, rfl⟩
  have h_tab : ∀ b ∈ ts, H b = some (.tbl #[]) := fun b hb => by
    rw [eH]
    unfold H0
    rw [if_neg (fun z => aT (by rw [<- z]; exact hb)), if_pos hb]
  have h_a : H a = if (K.lookup a).isSome then none else some (.frz { cls := .type "list", data := .seq vs.toArray } (.lst (ns.map V.int))) := by
    rw [eH]
    unfold H0
    rw [if_pos rfl]
  have h_no : ∀ b, b ≠ a -> b ∉ ts -> H b = none := fun b h1 h2 => by
    rw [eH]
    unfold H0
    rw [if_neg h1, if_neg h2]
  have hok : HOk P w H s₁.heap := fun b u z => by
    by_cases h1 : b = a
    . subst h1
      rw [h_a] at z
      split at z
      . cases z
      . cases z
        exact ⟨ha, by rw [List.length_map]; exact hl, vs, _, rv, ha⟩
    . by_cases h2 : b ∈ ts
      . rw [h_tab b h2] at z
        cases z
        exact isT b h2
      . rw [h_no b h1 h2] at z
        cases z
  have free : ∀ {b : Addr} {o : Obj}, s₁.heap.get? b = some o -> (∀ vs n, o.data ≠ .seq vs n) -> o.data ≠ .fields #[] -> H b = none := fun {b o} e h1 h2 => by
    refine h_no b (fun z => ?_) fun z => ?_
    . rw [z, ha] at e
      cases e
      exact (h1 _ _ rfl).elim
    . rw [isT b z] at e
      cases e
      exact (h2 rfl).elim
  have freeD : ∀ {b : Addr} {o : Obj} {es : Array DictEntry} {ep : Nat}, s₁.heap.get? b = some o -> o.data = .dict es ep -> H b = none := fun {b o es ep} e d =>
    free e (fun vs n z => by rw [d] at z; cases z) fun z => by rw [d] at z; cases z
  have nsK : ∀ {b : Addr} {m : Str -> Option Value}, s₁.heap.Ns b m -> (hidT s₁.heap H).Ns b m := fun {b m} ⟨o, es, ep, e, d, r⟩ => ⟨o, es, ep, hidT_get e (freeD e d), d, r⟩
  have hKb : K.In (hidT s₁.heap H) := fun b o e => hidT_get (KX b o e) (by
    by_cases h1 : b = a
    . subst h1
      rw [h_a, if_pos (by rw [e]; rfl)]
    . by_cases h2 : b ∈ ts
      . rw [noT b h2] at e
        cases e
      . exact h_no b h1 h2)
  have hM : L2.Mod K mg (hidT s₁.heap H) := ⟨hKb, nsK hns, ⟨mb, nsK hb, hbb⟩, let ⟨mc, h1, h2⟩ := hlim; ⟨mc, nsK h1, h2⟩⟩
  have TB : ∀ p ∈ cs, LamX.TabB (hidT s₁.heap H) mg p.1 p.2.1 := fun p hp => by
    refine ⟨?_, ?_, fun z => ?_⟩
    . obtain ⟨o, us, file, tf, flags, tg, inF, text, tt, e1, r1, r2, r3, r4, r5, r6, r7, r8, hne⟩ := C p hp
      refine ⟨o, us, file, tf, flags, tg, inF, text, tt, hidT_get e1 (free e1 (fun vs n z => by rw [r2] at z; cases z) fun z => ?_), r1, r2, r3, r4, r5, r6, r7, r8, hne⟩
      rw [r2] at z
      cases z
      simp at r3
    . obtain ⟨bm, ob, b1, b2, b3, b4, b5, b6⟩ := hbm
      have nG : bm ≠ mainGlobals := fun q => by
        obtain ⟨o, es, ep, e, hd, _⟩ := hns
        rw [q, e] at b3
        cases b3
        rw [hd] at b6
        cases b6
      have nP : bm ≠ p.2.1 := fun q => by
        rw [q, hT p hp] at b3
        cases b3
        cases b6
      exact ⟨bm, ob, b1, b2, nG, nP, hidT_get b3 (free b3 (fun vs n z => by rw [b6] at z; cases z) fun z => by rw [b6] at z; cases z), b4, b5, b6⟩
    . obtain ⟨o, es, ep, e, hd, _⟩ := hns
      rw [z, hT p hp] at e
      cases e
      cases hd
  have e0 : Env0 P w K mg (hidT s₁.heap H) callerA [] s₁ H := ⟨rfl, hM, fun b o e => of_hidT e, Nat.le_of_eq (hidT_size _ _), trivial, fun b hb => absurd (show b ∈ ([] : List Addr) from hb) (by simp), hok, .of_eq hg⟩
  have t_a : T0 cs a = none := by
    unfold T0
    rw [List.find?_eq_none.mpr fun p hp => ?_]
    . rfl
    . intro z
      have z' : p.2.1 = a := by simpa using z
      exact aT (by rw [<- z']; exact memT p hp)
  have rdA : RD K H (T0 cs) (.lst (ns.map D.int)) (.ref a) := by
    refine ⟨a, ns.map V.int, rfl, ?_, ints_RD ns⟩
    cases hk : K.lookup a with
    | some o =>
      have e := KX a o hk
      rw [ha] at e
      cases e
      exact .inr ⟨_, vs.toArray, _, hk, rfl, rfl, rfl, by rw [List.size_toArray, lenV]; exact hl, by simpa using rv⟩
    | none => exact .inl ⟨t_a, .inr ⟨_, by rw [h_a, hk]; rfl⟩⟩
  have dok : DOk K H (T0 cs) := fun b u e => by
    unfold T0 at e
    cases q : cs.find? fun p => p.2.1 == b with
    | none => rw [q] at e; cases e
    | some p =>
      rw [q] at e
      cases e
      have hp := List.mem_of_find?_eq_some q
      have hb : p.2.1 = b := by simpa using List.find?_some q
      refine ⟨#[], h_tab b (by rw [<- hb]; exact memT p hp), True.intro, fun pos cv hc => ?_⟩
      have z : codeAmong pos [] = some cv := hc
      simp [codeAmong] at z
  refine codeAny_mono (F _ hKb (nsK hns) TB callerA [] s₁ H [.ref a] [.ref a] (fun v _ => v = .bl true) (fun _ _ _ => False) hr rfl e0 (.cons rfl .nil) ⟨_, _, _, _, RDs.cons rdA RDs.nil, dok, hsp, fun x T' v H' hx r _ _ => by
    rw [hx] at r
    exact r, fun _ _ _ _ _ z => z.elim⟩) fun r s' h => ?_
  cases r with
  | error e => exact (cx_none h).elim
  | ok fl =>
    cases fl with
    | next => exact False.elim h
    | brk => exact False.elim h
    | cont => exact False.elim h
    | ret u =>
      obtain ⟨v, H', os, bare, un, hok', r', q⟩ := h
      subst q
      obtain rfl : u = Value.bool true := r'
      have nil : ∀ b : Addr, b ∉ ([] : List Addr) := fun b z => nomatch z
      have key : ∀ b o, b ∉ ts -> s₁.heap.get? b = some o -> s'.heap.get? b = some o := fun b o nb e => by
        by_cases h1 : b = a
        . subst h1
          cases hk : (K.lookup b).isSome with
          | true => exact un.keep b o e (by rw [h_a, hk]; rfl) (nil b) (nil b)
          | false =>
            have z : H b = some (.frz { cls := .type "list", data := .seq vs.toArray } (.lst (ns.map V.int))) := by rw [h_a, hk]; rfl
            obtain ⟨e2, _⟩ := hok' b _ (un.frzs b _ _ z)
            rw [ha] at e
            cases e
            exact e2
        . exact un.keep b o e (h_no b h1 nb) (nil b) (nil b)
      have grown : ∀ p ∈ cs, ∃ more : Array Value, s'.heap.get? p.2.1 = some { cls := .none, data := .fields more } := fun p hp => by
        obtain ⟨more, z⟩ := un.tbls p.2.1 #[] (h_tab _ (memT p hp))
        exact ⟨_, hok' _ _ z⟩
      have tabOf : ∀ b, b ∈ ts -> ∃ p ∈ cs, p.2.1 = b := fun b hb => by
        rw [ets] at hb
        exact List.mem_map.mp hb
      refine ⟨rfl, ⟨fun b o e => ?_, fun b o e => ?_⟩, os, bare⟩
      . by_cases hb : b ∈ ts
        . obtain ⟨p, hp, ep⟩ := tabOf b hb
          obtain ⟨more, hm⟩ := grown p hp
          rw [<- ep] at e ⊢
          rw [hT p hp] at e
          cases e
          exact .inr (.inl ⟨((C p hp).tab (hT p hp)).isCodeTable, rfl, #[], more, rfl, by rw [Array.empty_append]; exact hm⟩)
        . exact .inl (key b o hb e)
      . by_cases hb : b ∈ ts
        . obtain ⟨p, hp, ep⟩ := tabOf b hb
          obtain ⟨more, hm⟩ := grown p hp
          rw [<- ep]
          exact ⟨_, hm⟩
        . exact ⟨o, key b o hb e⟩
where
  ints_RD {K : PySem.W.Frag} {H : Hp} {T : Td} : ∀ l : List Int, RDs K H T (l.map D.int) (l.map V.int)
    | [] => rfl
    | x :: l => RDs.cons rfl (ints_RD l)
end DL
namespace DL
open PySem PySem.Spec PyProof.Rows L2 VX LamX
theorem run_def [Gd] {P : Program} {w : World} {K : PySem.W.Frag} {mg : Str -> Option Value} {base : Heap} {k : Nat} {f : Addr} {name qual : Str} {params : Arguments} {body : List Stmt} {scope : Scope} {dV kV doc pm cdv ct oc : Value} {an od : Option Addr} {osl : Array (Option Value)} {N ps : List Str} {d : TDS}
    {A : Around} {outer : List Env} {s : Shared} {H : Hp} {T : Td} {args : Args} {us : List Value} {vs : List V} {ds : List D} {Q : VK} {E : XK} {QD : KD} {ED : XD} (lk : K.lookup f = some ⟨oc, od, .func (PySem.W.fnOf name qual params body scope dV kV doc pm an cdv ct), osl⟩) (hcd : PySem.W.codeIn K cdv qual = true) (S : FnScope N ps scope)
    (hr : Room (k + 1) A) (hgd : Gd.ok A.guards) (e0 : Env0 P w K mg base A outer s H) (hb : BindsTo s (PySem.W.fnOf name qual params body scope dV kV doc pm an cdv ct) args (ps.zip us)) (r : Vals vs us) (rd : RDs K H T ds vs) (o : DOk K H T) (hl : vs.length = ps.length)
    (hq : ∀ x T' v H', QD x T' -> RD K H' T' x v -> DOk K H' T' -> Fr H T H' T' -> Q v H') (hx : ∀ ex T' c da H', ED ex T' -> XR K H' T' ex c da -> DOk K H' T' -> Fr H T H' T' -> E c da H')
    (hbody : Bd k (cxOf (L2.CX P w) P w K mg base N qual scope f cdv A outer s H E) (WE0 E) -> DSs (cxOf (L2.CX P w) P w K mg base N qual scope f cdv A outer s H E) (WE0 E) body d) (hp : d (endsD QD ED) (startD N ds) T) :
    codeAny (model P w) A (.call (.ref f) args) (CR (L2.CX P w) outer P w H s Q E) s := by
  have KX : K.In s.heap := e0.mod.kin.keeps fun b o e => (e0.bs b o e).1
  have lim : s.heap.NoLimit := e0.mod.nolimit.keeps fun b o e => (e0.bs b o e).1
  have hkind : ∀ y ∈ ps.zip us, scope.names.lookup y.1 = some .local \/ (scope.names.lookup y.1 = some .cell /\ ((cellsFrom (s.heap.objs.size + 1) scope.names []).lookup y.1).isSome = true) := fun ⟨n, v⟩ hy => by
    rcases S.par n (List.of_mem_zip hy).1 with q | q
    . exact .inl q
    . exact .inr ⟨q, PySem.W.cellsFrom_some _ _ _ (.inl q)⟩
  refine codeAny_call_function hr.depth (KX _ _ lk) rfl S.co S.gen rfl (PySem.W.codeRec_of KX hcd) (hb _ _ _ _ ?_)
  refine wpAny_newFunctionEnv_cells S.kind hkind fun env he s1 x => ?_
  subst he
  refine ⟨lim.keeps x.toInCall.keep, codeAny_func ?_⟩
  have I : Inv (cxOf (L2.CX P w) P w K mg base N qual scope f cdv A outer s H E) [] (L2.start N vs) H s1 := inv_start S hr.hd e0 hl r x
  refine wpAny_mono ((hbody ⟨L2.takes_of rfl rfl rfl rfl, hr.deeper _, hgd⟩).run [] s1 (L2.start N vs) H { nx := fun _ H' => Q .non H', rt := Q } I ⟨startD N ds, T, endsD QD ED, startD_ok rd, o, ⟨fun sd' T' σ' H' n st o f => hq .non T' .non H' n rfl o f, fun x T' v H' n r o f => hq x T' v H' n r o f, fun sd' T' σ' H' n => n.elim, fun sd' T' σ' H' n => n.elim,
    fun ex sd' T' c da σ' H' n xr st o f => hx ex T' c da H' n xr o f⟩, hp⟩) (fun fl s' hs => ?_) fun e s' hs => hs
  have fin : ∀ {σ' : L2.St} {H' : Hp} {v : V} {u : Value}, Inv (cxOf (L2.CX P w) P w K mg base N qual scope f cdv A outer s H E) [] σ' H' s' -> L2.RelV v u -> Q v H' -> CE outer P w H s Q u s' :=
    fun {σ' H' v u} J rv q => ⟨v, H', J.os, J.bare, J.base, J.hok, rv, q⟩
  cases fl with
  | ret u =>
    obtain ⟨v, σ', H', J, rv, q⟩ := hs
    exact fin J rv q
  | next =>
    obtain ⟨σ', H', J, q⟩ := hs
    exact fin (v := V.non) (u := Value.none) J rfl q
  | brk =>
    obtain ⟨_, _, _, q⟩ := hs
    exact False.elim q
  | cont =>
    obtain ⟨_, _, _, q⟩ := hs
    exact False.elim q
end DL
namespace DL
open PySem PySem.Spec PyProof.Rows L2 VX
section
variable {X : Cx} {W : WX} {C f : Addr} {k : Nat} {sp : SpD}
def rEqO (C : Addr) (sp : SpD) (g : Bool -> Bool) : R2D := fun x y T Q E => isIn C T x = true /\ isIn C T y = true /\ sp [x, y] T (fun r T1 => match r with
  | .bl b => Q (.bl (g b)) T1
  | _ => False) E
end
def blsD : List D -> Option (List Bool)
  | [] => some []
  | .bl b :: xs => (blsD xs).map (b :: ·)
  | _ => none
def isTupD : D -> Bool
  | .tup _ => true
  | _ => false
def rAllD (f : List Bool -> Bool) : RAD := fun xs T Q _ => match xs with
  | [x] => match itemsD T x with
    | some ds => isTupD x = false /\ match blsD ds with
      | some bs => Q (.bl (f bs)) T
      | none => False
    | none => False
  | _ => False
theorem bls_V {K : PySem.W.Frag} {H : Hp} {T : Td} : ∀ {ds : List D} {bs : List Bool} {vs : List V}, blsD ds = some bs -> RDs K H T ds vs -> vs = bs.map V.bl
  | [], _, _, e, r => by
    cases e
    exact r
  | d :: ds, _, _, e, r => by
    cases d <;> simp only [blsD] at e <;> try (cases e; done)
    rename_i b
    cases q : blsD ds with
    | none => rw [q] at e; cases e
    | some bs =>
      rw [q] at e
      cases e
      obtain ⟨v, ws, rfl, h1, h2⟩ := r
      have h1' : v = .bl b := h1
      rw [h1', bls_V q h2]
      rfl
section
variable {X : Cx} {W : WX}
theorem items_SqL {H : Hp} {T : Td} {x : D} {vx : V} {ds : List D} (o : DOk X.K H T) (r : RD X.K H T x vx) (e : itemsD T x = some ds) (n : isTupD x = false) : ∃ a vs, vx = .ref a /\ SqL X.K H a vs /\ RDs X.K H T ds vs := by
  cases x <;> simp only [itemsD] at e <;> try (cases e; done)
  . rename_i a
    split at e
    . rename_i xs ht
      cases e
      obtain ⟨vs, h, rs⟩ := o a _ ht
      exact ⟨a, vs, r, SqL.of h, rs⟩
    . cases e
  . cases n
  . cases e
    obtain ⟨a, vs, e, t, rs⟩ := r
    exact ⟨a, vs, e, t.sq, rs⟩
theorem cd_all (hc : X.calm = true) : CallD X W (.builtin "all") (rAllD (·.all id)) := CallD.of (cr_all hc) fun σ H Q sd T QD ED xs vs L rs h => by
  match xs, h, rs with
  | [x], h, rs =>
  simp only [rAllD] at h
  split at h
  . rename_i ds e
    obtain ⟨hn, h⟩ := h
    split at h
    . rename_i bs eb
      obtain ⟨v, rfl, r⟩ := rds1 rs
      obtain ⟨a, ws, rfl, hs, rws⟩ := items_SqL L.ok r e hn
      exact ⟨a, bs, rfl, by rw [<- bls_V eb rws]; exact hs, L.q _ T _ H h rfl L.ok Fr.refl⟩
    . exact h.elim
  . exact h.elim
end
end DL
namespace DL
open PySem PySem.Spec PyProof.Rows L2 VX
section
variable {X : Cx} {W : WX} {e : Expr} {te : TDE} {pos : Pos}
def dFmt (te : TDE) : TDE := fun sd T Q E => te sd T (fun x T1 => match x with
  | .str y => y.length <= sizeLine /\ Q (.str y) T1
  | .int i => i.natAbs.log2 < 1920 /\ Q (.str (toString i)) T1
  | _ => False) E
theorem de_fmt (he : DE X W e te) : DE X W (.FormattedValue e (-1) none pos) (dFmt te) :=
  PE.imp (pe_fmt he) fun σ H Q ⟨sd, T, QD, ED, L, q⟩ => ⟨sd, T, _, ED, ⟨L.st, L.ok, fun x T1 v H1 k r o f => by
    cases x <;> try exact k.elim
    . have r' : v = _ := r
      subst r'
      exact .inr ⟨_, rfl, k.1, L.q _ T1 _ H1 k.2 rfl o f⟩
    . have r' : v = _ := r
      subst r'
      exact .inl ⟨_, rfl, k.1, L.q _ T1 _ H1 k.2 rfl o f⟩, L.x⟩, q⟩
inductive DJ (X : Cx) (W : WX) : List Expr -> List TDE -> Prop where
  | nil : DJ X W [] []
  | cons {e : Expr} {t : TDE} {es : List Expr} {ts : List TDE} (h : DE X W e t) (r : DJ X W es ts) : DJ X W (e :: es) (t :: ts)
theorem DJ.pj {es : List Expr} {ts : List TDE} (h : DJ X W es ts) : PJ X es (ts.map (liftE X.K W)) := by
  induction h with
  | nil => exact .nil
  | cons h r ih => exact .cons h ih
def dJs (sd : SD) : List TDE -> Str -> Td -> (Str -> Td -> Prop) -> XD -> Prop
  | [], acc, T, Q, _ => Q acc T
  | t :: ts, acc, T, Q, E => t sd T (fun x T1 => match x with
    | .str y => (acc ++ y).length <= sizeLine /\ dJs sd ts (acc ++ y) T1 Q E
    | _ => False) E
def dJoin (ts : List TDE) : TDE := fun sd T Q E => dJs sd ts Str.empty T (fun out T1 => Q (.str out) T1) E
theorem tjs_of {σ : L2.St} : ∀ (ts : List TDE) (acc : Str) (H : Hp) (sd : SD) (T : Td) (Q : Str -> Hp -> Prop) (QD : Str -> Td -> Prop) (ED : XD), StOk X.K H T sd σ -> DOk X.K H T -> (∀ out T' H', QD out T' -> DOk X.K H' T' -> Fr H T H' T' -> Q out H') -> (∀ ex T' c da H', ED ex T' -> XR X.K H' T' ex c da -> DOk X.K H' T' -> Fr H T H' T' -> W c da σ H') -> dJs sd ts acc T QD ED ->
    tJs (ts.map (liftE X.K W)) acc σ H Q
  | [], acc, H, sd, T, Q, QD, ED, st, o, hq, hx, h => hq acc T H h o Fr.refl
  | t :: ts, acc, H, sd, T, Q, QD, ED, st, o, hq, hx, h => ⟨sd, T, _, ED, ⟨st, o, fun x T1 v H1 k r o1 f1 => by
      cases x <;> try exact k.elim
      rename_i y
      have r' : v = .str y := r
      exact ⟨y, r', k.1, tjs_of ts (acc ++ y) H1 sd T1 Q QD ED (st.mono f1) o1 (fun out T' H' a b c => hq out T' H' a b (f1.trans c)) (fun ex T' c da H' a b o f => hx ex T' c da H' a b o (f1.trans f)) k.2⟩, hx⟩, h⟩
theorem de_joined {v1 v2 : Expr} {rest : List Expr} {ts : List TDE} (h : DJ X W (v1 :: v2 :: rest) ts) : DE X W (.JoinedStr (v1 :: v2 :: rest) pos) (dJoin ts) :=
  PE.imp (pe_joined h.pj) fun σ H Q ⟨sd, T, QD, ED, L, q⟩ => tjs_of ts Str.empty H sd T _ _ ED L.st L.ok (fun out T' H' a b c => L.q (.str out) T' (.str out) H' a rfl b c) L.x q
def rStr : RAD := fun xs T Q _ => match xs with
  | [.int i] => i.natAbs.log2 < 1920 /\ Q (.str (toString i)) T
  | [.str y] => Q (.str y) T
  | _ => False
theorem cd_str : CallD X W (.type "str") rStr := by
  refine fun pins s σ H Q sd T QD ED xs vs us I L rs rv q => ?_
  unfold rStr at q
  split at q
  . rename_i i
    obtain ⟨v, rfl, r⟩ := rds1 rs
    have r' : v = .int i := r
    exact call_str_int pins s σ H _ us Q I rv ⟨i, by rw [r'], q.1, L.q _ T _ H q.2 rfl L.ok Fr.refl⟩
  . rename_i y
    obtain ⟨v, rfl, r⟩ := rds1 rs
    have r' : v = .str y := r
    exact SkE.call_str_str pins s σ H _ us Q I rv ⟨y, by rw [r'], L.q _ T _ H q rfl L.ok Fr.refl⟩
  . exact q.elim
theorem dt_chain {a b c : Expr} {ta tb tc : TDE} {r r' : R2D} {op op' : CmpOp} (ho : OpD X W (compareOp op) r) (ho' : OpD X W (compareOp op') r') (ha : DE X W a ta) (hb : DE X W b tb) (hc : DE X W c tc) (hm : lastMarks [op, op'] [b, c] = false := by with_unfolding_all rfl) :
    DT X W (.Compare a [op, op'] [b, c] pos) (dTst (dChain r r' ta tb tc)) :=
  DT.mk fun pins s σ H Q sd T QD ED I L h => by
    have fin : ∀ (x : D) (v : Value) (vx : V) H1 T1 s1, Inv X pins σ H1 s1 -> RD X.K H1 T1 x vx -> L2.RelV vx v -> DOk X.K H1 T1 -> Fr H T H1 T1 -> (match x with | .bl b => QD b T1 | _ => False) -> wpAny (model X.prog X.w) X.A (truthy v) (TP X pins σ Q) X.xe s1 := by
      intro x v vx H1 T1 s1 I1 rd rv ok fr k
      cases x <;> try exact k.elim
      rename_i b
      have rd' : vx = .bl b := rd
      subst rd'
      obtain rfl : v = Value.bool b := rv
      exact wpAny_truthy_bool (L.tp I1 ok fr k)
    refine isTrue_chain (thn (ha.one I L.st L.ok L.x h) fun v s1 ⟨x, vx, H1, T1, B⟩ => test_link (thn (hb.one B.I (L.st.mono B.fr) B.ok (EXok.go L.x B.fr) B.k) fun u s2 ⟨y, vy, H2, T2, C⟩ => ?_)) hm
    have F2 := B.fr.trans C.fr
    refine thn (ho pins s2 σ H2 (fun vz H3 => ∃ z T3, RD X.K H3 T3 z vz /\ DOk X.K H3 T3 /\ Fr H2 T2 H3 T3 /\ (match z with
      | .bl true => tc sd T3 (fun w T4 => O2 r' y w T4 (fun x T5 => match x with | .bl b => QD b T5 | _ => False) ED) ED
      | .bl false => QD false T3
      | _ => False)) sd T2 (fun z T3 => match z with
      | .bl true => tc sd T3 (fun w T4 => O2 r' y w T4 (fun x T5 => match x with | .bl b => QD b T5 | _ => False) ED) ED
      | .bl false => QD false T3
      | _ => False) ED x y vx vy v u C.I ⟨L.st.mono F2, C.ok, fun z T3 vz H3 k r o f => ⟨z, T3, r, o, f, k⟩, EXok.go L.x F2⟩ (RD.mono C.fr x B.rd) B.rv C.rd C.rv C.k.h) fun d s3 ⟨vz, H3, I3, r3, z, T3, rz, oz, fz, kz⟩ => ?_
    cases z <;> try exact kz.elim
    rename_i b
    have rz' : vz = .bl b := rz
    subst rz'
    obtain rfl : d = Value.bool b := r3
    refine wpAny_truthy_bool ?_
    have F3 := F2.trans fz
    cases b with
    | false => exact ite_ff (L.tp I3 oz F3 kz)
    | true =>
      refine ite_tt (test_last (thn (hc.one I3 (L.st.mono F3) oz (EXok.go L.x F3) kz) fun w' s4 ⟨w, vw, H4, T4, D⟩ => ?_))
      refine thn (ho' pins s4 σ H4 (fun vz H5 => ∃ z T5, RD X.K H5 T5 z vz /\ DOk X.K H5 T5 /\ Fr H4 T4 H5 T5 /\ (match z with | .bl b => QD b T5 | _ => False)) sd T4 (fun x T5 => match x with | .bl b => QD b T5 | _ => False) ED y w vy vw u w' D.I ⟨L.st.mono (F3.trans D.fr), D.ok, fun z T5 vz H5 k r o f => ⟨z, T5, r, o, f, k⟩, EXok.go L.x (F3.trans D.fr)⟩ (RD.mono (fz.trans D.fr) y C.rd) C.rv D.rd D.rv D.k.h) fun d2 s5 ⟨vz, H5, I5, r5, z, T5, rz5, oz5, fz5, kz5⟩ => ?_
      exact fin z d2 vz H5 T5 s5 I5 rz5 r5 oz5 ((F3.trans D.fr).trans fz5) kz5
end
end DL
namespace DL
open PySem PySem.Spec PyProof.Rows L2 VX
section
variable {X : Cx} {W : WX}
theorem dv (i : Nat) {x : Str} {pos : Pos} (hN : X.N[i]? = some x := by rfl) (hv : Vis X.env.scope x := by first | exact Or.inl rfl | exact Or.inr (Or.inl rfl) | exact Or.inr (Or.inr rfl)) (hd : (x == ("__debug__" : Str)) = false := by decide)
    (hcd : (x == ("__classdict__" : Str)) = false := by decide) : DE X W (.Name x pos) (dVar i) := de_var hN hv hd hcd
theorem Bd.blk [Gd] {k : Nat} (b : Bd k X W) (s : Shared) (H : Hp) (scope : Scope) (cenv : Env) (fp : List Addr) : Bd k (X.blk s H scope cenv fp) WN := ⟨LamX.takes0, b.hr, b.hg⟩
theorem Bd.tr [Gd] {k : Nat} (b : Bd k X W) {W' : WX} {pn : List (Addr × Obj)} {xe : Value -> Shared -> Prop} (tk : L2.Takes (X.tr pn xe) W') : Bd k (X.tr pn xe) W' := ⟨tk, b.hr, b.hg⟩
end
section
variable {P : Program} {w : World} {K : PySem.W.Frag} {mg : Str -> Option Value} {base : Heap} {k : Nat} {f : Addr} {name qual : Str} {params : Arguments} {body : List Stmt} {scope : Scope} {dV kV doc pm cdv ct oc : Value} {an od : Option Addr} {osl : Array (Option Value)} {N ps : List Str} {d : TDS} {sp : SpD}
theorem fn_okR [Gd] {dds : List D} {ds0 : List Value} {ws : List V} (lk : K.lookup f = some ⟨oc, od, .func (PySem.W.fnOf name qual params body scope dV kV doc pm an cdv ct), osl⟩) (hcd : PySem.W.codeIn K cdv qual = true) (S : FnScope N ps scope)
    (hbi : Binds K (PySem.W.fnOf name qual params body scope dV kV doc pm an cdv ct) ps ds0) (hv : Vals ws ds0) (hd : ∀ H T, RDs K H T dds ws) (len : ∀ ds T Q E, sp ds T Q E -> (ds ++ dds).length = ps.length)
    (hb : ∀ (A : Around) (outer : List Env) (s : Shared) (H : Hp) (E : XK), Bd k (cxOf (L2.CX P w) P w K mg base N qual scope f cdv A outer s H E) (WE0 E) -> DSs (cxOf (L2.CX P w) P w K mg base N qual scope f cdv A outer s H E) (WE0 E) body d)
    (hp : ∀ ds T Q E, sp ds T Q E -> d (endsD Q E) (startD N (ds ++ dds)) T) : GR P w K mg base f (k + 1) sp := by
  intro A outer s H us vs Q E hr hgd e0 r ⟨ds, T, QD, ED, rd, o, q, hq, hx⟩
  have KX : K.In s.heap := e0.mod.kin.keeps fun b o e => (e0.bs b o e).1
  have rd2 : RDs K H T (ds ++ dds) (vs ++ ws) := rd.append (hd H T)
  have r2 : Vals (vs ++ ws) (us ++ ds0) := r.append hv
  have hl : (vs ++ ws).length = ps.length := by rw [<- rd2.length]; exact len ds T QD ED q
  exact run_def lk hcd S hr hgd e0 (hbi s us KX (by rw [<- r2.length]; exact hl)) r2 rd2 o hl hq hx (hb A outer s H E) (hp ds T QD ED q)
theorem fn_ok0 [Gd] (lk : K.lookup f = some ⟨oc, od, .func (PySem.W.fnOf name qual params body scope dV kV doc pm an cdv ct), osl⟩) (hcd : PySem.W.codeIn K cdv qual = true) (S : FnScope N ps scope)
    (hbi : Binds K (PySem.W.fnOf name qual params body scope dV kV doc pm an cdv ct) ps []) (len : ∀ ds T Q E, sp ds T Q E -> ds.length = ps.length)
    (hb : ∀ (A : Around) (outer : List Env) (s : Shared) (H : Hp) (E : XK), Bd k (cxOf (L2.CX P w) P w K mg base N qual scope f cdv A outer s H E) (WE0 E) -> DSs (cxOf (L2.CX P w) P w K mg base N qual scope f cdv A outer s H E) (WE0 E) body d)
    (hp : ∀ ds T Q E, sp ds T Q E -> d (endsD Q E) (startD N ds) T) : GR P w K mg base f (k + 1) sp :=
  fn_okR (dds := []) (ws := []) lk hcd S hbi .nil (fun _ _ => rfl) (fun ds T Q E q => by rw [List.append_nil]; exact len ds T Q E q) hb (fun ds T Q E q => by rw [List.append_nil]; exact hp ds T Q E q)
theorem fn_ok1 (lk : K.lookup f = some ⟨oc, od, .func (PySem.W.fnOf name qual params body scope dV kV doc pm an cdv ct), osl⟩) (hcd : PySem.W.codeIn K cdv qual = true) (S : FnScope N ps scope)
    (hbi : Binds K (PySem.W.fnOf name qual params body scope dV kV doc pm an cdv ct) ps []) (len : ∀ ds T Q E, sp ds T Q E -> ds.length = ps.length)
    (hb : ∀ (A : Around) (outer : List Env) (s : Shared) (H : Hp) (E : XK), DSs (cxOf (L2.CX P w) P w K mg base N qual scope f cdv A outer s H E) (WE0 E) body d)
    (hp : ∀ ds T Q E, sp ds T Q E -> d (endsD Q E) (startD N ds) T) : FnR P w K mg base (L2.CX P w) (k + 1) f (liftSp K sp) := by
  have F : FnOk P w K mg base (L2.CX P w) (k + 1) f (PySem.W.fnOf name qual params body scope dV kV doc pm an cdv ct) ps (liftSp K sp) := by
    refine fn_of lk hcd S (fun vs H Q E ⟨ds, T, QD, ED, r, o, q, _⟩ => by rw [<- r.length]; exact len ds T QD ED q) ?_
    rintro A outer s H vs Q E hr ⟨ds, T, QD, ED, r, o, q, hq, hx⟩
    exact ⟨_, hb A outer s H E, startD N ds, T, endsD QD ED, startD_ok r, o, ⟨fun sd' T' σ' H' n st o f => hq .non T' .non H' n rfl o f, fun x T' v H' n r o f => hq x T' v H' n r o f, fun sd' T' σ' H' n => n.elim, fun sd' T' σ' H' n => n.elim, fun ex sd' T' c da σ' H' n xr st o f => hx ex T' c da H' n xr o f⟩, hp ds T QD ED q⟩
  refine (F.raw hbi .nil).imp fun vs H Q E q => ?_
  rw [List.append_nil]
  exact q
theorem GF.of [Gd] {x : Str} (hm : mg x = some (.ref f)) (hk : PySem.W.keepIn K (.ref f) = true) (F : GR P w K mg base f k sp) : GF P w K mg base x k sp := ⟨f, hm, hk, F⟩
end
end DL
namespace DL
open PySem PySem.Spec PyProof.Rows L2 VX
section
open SeqAt MeetsSeq AutoSeq1
variable (b : Int) (u : Tok) (l C dx : Addr) (sl : Array (Option Value))
abbrev SIn (l C dx : Addr) (sl : Array (Option Value)) : PySem.Spec := fun _ R s => s.heap.get? l = some { PySem.W.instObj C dx with slots := sl } /\ R (.ok (.ret .notImplemented)) s
theorem dec_eq : Meets (Builtin.«int.__eq__» ⟨[.int b u, .ref l], []⟩) (SIn l C dx sl) := .of_wp fun prog w A R s h => by obtain ⟨hp, g, d, tk, os⟩ := s; obtain ⟨hl, h⟩ := h; wp_walk using AutoSeq1.wpAny_loadPart' hl, wpAny_load hl; exact ⟨_, rfl, h⟩
end
section
variable {X : Cx} {W : WX} {C f : Addr} {k : Nat} {sp : SpD}
theorem op_run [Gd] (b : Bd (k + 1) X W) (F : GR X.prog X.w X.K X.mg X.base f k sp) {A : Around} (hA : A = X.A \/ A = X.A.in1) {pins : List (Addr × Obj)} {σ : L2.St} {H : Hp} {s : Shared} {Q : VK} {sd : SD} {T : Td} {QD : KD} {ED : XD} {xs : List D} {vs : List V} {us : List Value} (I : Inv X pins σ H s) (L : LE X.K W σ H Q sd T QD ED) (rs : RDs X.K H T xs vs) (rv : Vals vs us)
    (q : sp xs T QD ED) : wpAny (model X.prog X.w) A (call (.ref f) us) (EP X pins σ Q) X.xe s := by
  have hr : Room k A := by
    rcases hA with rfl | rfl
    . exact b.hr.mono (Nat.le_succ _)
    . exact b.hr.in1
  have hg : Gd.ok A.guards := by
    rcases hA with rfl | rfl
    . exact b.hg
    . exact b.hg
  have e0 : Env0 X.prog X.w X.K X.mg X.base A X.stack s H := by
    rcases hA with rfl | rfl
    . exact I.env0
    . exact I.env0.in1
  refine wpAny_call (codeAny_mono (run_at (us := us) b.tk F hr hg e0 I L rs rv q) fun r s' h => ?_)
  cases r with
  | error e => exact h
  | ok fl =>
    cases fl with
    | ret u => exact h
    | next => exact False.elim h
    | brk => exact False.elim h
    | cont => exact False.elim h
theorem cmpBackV {pins : List (Addr × Obj)} {σ : L2.St} {Q : VK} {v : Value} {s' : Shared} (h : EP X pins σ Q v s') : PySem.W.CmpBack (EP X pins σ Q) v s' := by
  obtain ⟨vx, H, I, r, q⟩ := h
  unfold PySem.W.CmpBack
  cases v <;> first | exact ⟨vx, H, I, r, q⟩ | (exfalso; cases vx <;> simp [L2.RelV] at r)
structure OwnC (K : PySem.W.Frag) (C : Addr) : Prop where
  sf : PySem.W.selfFirst K C = true
  ni : PySem.W.subIn K (.ref C) (.type "int") = some false
end
end DL
namespace DL
open PySem PySem.Spec PyProof.Rows L2 VX
section
variable {X : Cx} {W : WX} {C f : Addr} {k : Nat} {sp : SpD}
def rAbsO (C : Addr) (sp : SpD) : RAD := fun xs T Q E => match xs with
  | [x] => isIn C T x = true /\ sp [x] T Q E
  | _ => False
theorem cd_absO [Gd] (b : Bd (k + 1) X W) (hs : PySem.W.findIn X.K (.ref C) "__abs__" = some (some (.ref f))) (hf : PySem.W.isFn X.K (.ref f) = true) (F : GR X.prog X.w X.K X.mg X.base f k sp) : CallD X W (.builtin "abs") (rAbsO C sp) := by
  intro pins s σ H Q sd T QD ED xs vs us I L rs rv q
  match xs, q, rs with
  | [x], ⟨hx, q⟩, rs =>
  obtain ⟨vx, rfl, r1⟩ := rds1 rs
  obtain ⟨a, ox, od, rfl, J⟩ := slo_inst I L.ok r1 hx
  have run := op_run b F (A := X.A.in1) (.inr rfl) I L rs rv q
  cases rv with
  | @cons _ v _ _ k1 k2 =>
  cases k2
  cases (show v = Value.ref a from k1)
  refine Calls.call_function_entry kind_abs plain_abs entry_abs (args_abs _) ?_
  unfold Builtin.«abs»
  refine wpAny_bind (m := oneArg "abs" _) (wpAny_pure ?_)
  refine wpAny_bind (m := callSpecial? (.ref a) (Str.ofString "__abs__")) (PySem.W.special_fn I.kIn J hs (beq_iff_eq.mp hf) (wpAny_mono run (fun v s' z => ?_) fun _ _ e => e))
  exact wpAny_pure ⟨_, rfl, z⟩
end
end DL
namespace DL
open PySem PySem.Spec PyProof.Rows L2 VX
section
open PySem.W
variable {prog : Program} {w : World} {A : Around} {E : Value -> Shared -> Prop} {s : Shared} {K : Frag} {x C fL fR f : Addr} {ox : Obj} {od : Option Obj}
theorem cmp_refl {op : CmpOp} {idl : String} {i : Int} {t : Tok} {Q : Value -> Shared -> Prop} (hu : A.units < cLine) (X : K.In s.heap) (I : InstAt s.heap x ox C od) (O : OwnC K C)
    (hs : findIn K (.ref C) (cmpInfo op).2.2 = some (some (.ref fR))) (hf : isFn K (.ref fR) = true) (hl : Slot "int" (cmpInfo op).2.1 idl)
    (hd : ∀ Q' : Value -> Shared -> Prop, Q' .notImplemented s -> wpAny (model prog w) A (call (.builtin idl) [.int i t, .ref x]) Q' E s)
    (h : wpAny (model prog w) A (call (.ref fR) [.ref x, .int i t]) (W.CmpBack Q) E s) : wpAny (model prog w) A (richCompare op (.int i t) (.ref x)) Q E s := by
  have ha := typeIs_int s i t
  have two : wpAny (model prog w) A (tryCompare (.ref x) (cmpInfo op).2.2 (.int i t)) (fun r s' => ∃ v, r = some v /\ Q v s') E s := by
    unfold tryCompare
    refine wpAny_bind (ifBound_K X I hs hf (wpAny_mono h (fun v s' hv => ?_) fun _ _ e => e))
    cases v <;> first | exact hv.elim | exact wpAny_pure ⟨_, rfl, hv⟩
  rcases hi : cmpInfo op with ⟨sym, f1, r1⟩
  rw [hi] at hl two
  dsimp only at hl two
  simp only [richCompare, hi, ha.oneThing_none]
  refine wpAny_holding (wpAny_bind (wpAny_cRoomFor_or (.inr hu) ?_))
  refine wpAny_bind (wpAny_typeOf ha (wpAny_bind (I.type.here ?_)))
  have hne : (Value.type "int" != Value.ref C) = true := by
    rw [bne_iff_ne]
    exact fun z => nomatch z
  simp only [hne, if_true]
  refine wpAny_bind ((looks_subIn X O.ni).here ?_)
  simp only [Bool.false_eq_true, if_false, Bool.not_false, if_true]
  refine wpAny_bind (m := tryCompare (.int i t) _ (.ref x)) (wpAny_tryCompare_declines ha hl (hd _ ⟨rfl, ?_⟩))
  refine wpAny_bind (m := tryCompare (.ref x) _ (.int i t)) (wpAny_mono two (fun r s' z => ?_) fun _ _ e => e)
  obtain ⟨v, rfl, hq⟩ := z
  exact wpAny_pure hq
end
end DL
namespace DL
open PySem PySem.Spec PyProof.Rows L2 VX
section
variable {K : PySem.W.Frag} {C : Addr}
def nfT (C : Addr) : Value -> Bool
  | .ref D => decide (D = C)
  | .type n => (["NoneType", "bool", "int", "str", "tuple", "list", "dict"] : List String).contains n
  | _ => false
theorem nf_of {n : String} {m : List Value} (e : fastBuiltinMro n = some m) (h : m.all fun v => match v with | .type _ => true | _ => false) : PySem.W.notFirst K C (.type n) = true := by
  have e2 : PySem.W.subIn K (.type n) (.ref C) = some false := by
    show (fastBuiltinMro n).map (·.contains (Value.ref C)) = some false
    rw [e]
    show some (m.contains (Value.ref C)) = some false
    have : m.contains (Value.ref C) = false := by
      rw [Bool.eq_false_iff]
      intro z
      have z2 := List.all_eq_true.mp h (Value.ref C) (List.contains_iff_mem.mp z)
      cases z2
    rw [this]
  unfold PySem.W.notFirst
  rw [e2]
  simp
theorem nfT_ok {t : Value} (h : nfT C t = true) : PySem.W.notFirst K C t = true := by
  cases t with
  | ref D =>
    have e : D = C := of_decide_eq_true h
    subst e
    unfold PySem.W.notFirst
    simp
  | type n =>
    have h' : n ∈ (["NoneType", "bool", "int", "str", "tuple", "list", "dict"] : List String) := List.contains_iff_mem.mp h
    simp only [List.mem_cons, List.not_mem_nil, or_false] at h'
    rcases h' with rfl | rfl | rfl | rfl | rfl | rfl | rfl
    . exact nf_of (m := [.type "NoneType", .type "object"]) (by kernel_rfl) rfl
    . exact nf_of (m := [.type "bool", .type "int", .type "object"]) (by kernel_rfl) rfl
    . exact nf_of (m := [.type "int", .type "object"]) (by kernel_rfl) rfl
    . exact nf_of (m := [.type "str", .type "object"]) (by kernel_rfl) rfl
    . exact nf_of (m := [.type "tuple", .type "object"]) (by kernel_rfl) rfl
    . exact nf_of (m := [.type "list", .type "object"]) (by kernel_rfl) rfl
    . exact nf_of (m := [.type "dict", .type "object"]) (by kernel_rfl) rfl
  | _ => cases h
end
section
variable {X : Cx} {W : WX} {C f : Addr} {k : Nat} {sp : SpD} {inS inE inO : Addr -> Bool}
def rEqA (C : Addr) (inS inE inO : Addr -> Bool) (sp : SpD) : R2D := fun x y T Q E => match x with
  | .int _ => isIn C T y = true /\ sp [y, x] T Q E
  | _ => isIn C T x = true /\ (∃ t, tyD inS inE inO T y = some t /\ nfT C t = true) /\ sp [x, y] T Q E
theorem od_eqA [Gd] (b : Bd (k + 1) X W) (hS : ∀ C, inS C = true -> SlX.SCls X.K C /\ SlX.SIsi X.K C) (hE : ∀ C, inE C = true -> ExC X.K C) (hO : ∀ C, inO C = true -> OCls X.K C) (O : OwnC X.K C) (he : PySem.W.findIn X.K (.ref C) "__eq__" = some (some (.ref f))) (hf : PySem.W.isFn X.K (.ref f) = true) (F : GR X.prog X.w X.K X.mg X.base f k sp) : OpD X W (compareOp .Eq) (rEqA C inS inE inO sp) := by
  intro pins s σ H Q sd T QD ED x y vx vy v u I L r1 k1 r2 k2 q0
  obtain ⟨m, hF⟩ := I.fr
  show wpAny _ _ (richCompare .Eq v u) _ _ _
  have left : isIn C T x = true /\ (∃ t, tyD inS inE inO T y = some t /\ nfT C t = true) /\ sp [x, y] T QD ED -> wpAny (model X.prog X.w) X.A (richCompare .Eq v u) (EP X pins σ Q) X.xe s := by
    rintro ⟨hx, ⟨t, ht, hn⟩, q⟩
    obtain ⟨a, ox, od, rfl, J⟩ := slo_inst I L.ok r1 hx
    cases (show v = Value.ref a from k1)
    have run := wpAny_mono (op_run b F (A := X.A) (.inl rfl) I L (RDs.cons r1 (RDs.cons r2 RDs.nil)) (.cons k1 (.cons k2 .nil)) q) (fun w s' z => cmpBackV z) fun _ _ e => e
    obtain ⟨P, Z, hP, _⟩ := kit_D hS hE hO I L.ok r2 k2 ht
    exact PySem.W.cmp_K (tb := t) b.hr.units0 hF I.ok.mod.kin J (Z.ty _ _ I.kIn hP) (nfT_ok hn) he hf run
  cases x <;> try exact left q0
  . rename_i j
    obtain ⟨hy, q⟩ := q0
    obtain ⟨c, dx, sl, od', rfl, J'⟩ := any_inst I L.ok r2 hy
    cases (show u = Value.ref c from k2)
    have r1' : vx = .int j := r1
    subst r1'
    obtain ⟨t, rfl⟩ := (show ∃ t, v = Value.int j t from k1)
    exact cmp_refl (op := .Eq) b.hr.units0 I.kIn J' O he hf PySem.F.slot_int_eq (fun Q' hq => call_meets PySem.F.slot_int_eq (typeIs_int s j t) PySem.F.entry_int_eq (PySem.F.args_int_eq_2 _ _) (dec_eq j t c C dx sl) ⟨J'.1, hq⟩)
      (wpAny_mono (op_run b F (A := X.A) (.inl rfl) I L (RDs.cons r2 (RDs.cons r1 RDs.nil)) (.cons k2 (.cons k1 .nil)) q) (fun w s' z => cmpBackV z) fun _ _ e => e)
end
end DL
namespace DL
open PySem PySem.Spec PyProof.Rows L2 VX
def kOf : D -> Option Key
  | .int i => some (.inl i)
  | .str x => some (.inr x)
  | _ => none
theorem kOf_V {x : D} {k : Key} {K : PySem.W.Frag} {H : Hp} {T : Td} {vx : V} (e : kOf x = some k) (r : RD K H T x vx) : vx = kV k := by
  cases x <;> simp only [kOf] at e <;> first | (cases e; done) | (cases e; exact r)
def dLook : List Key -> List D -> Key -> Option D
  | a :: ks, d :: ds, k => if a = k then some d else dLook ks ds k
  | _, _, _ => none
theorem dLook_V {K : PySem.W.Frag} {H : Hp} {T : Td} : ∀ {ks : List Key} {ds : List D} {vs : List V} {k : Key}, RDs K H T ds vs -> ks.length = vs.length ->
    (∀ d, dLook ks ds k = some d -> ∃ v, valV (ks.zip vs) k = some v /\ RD K H T d v) /\ (dLook ks ds k = none -> valV (ks.zip vs) k = none)
  | [], ds, vs, k, r, l => ⟨fun d e => by simp [dLook] at e, fun _ => by simp [valV]⟩
  | a :: ks, [], vs, k, r, l => by
    have r' : vs = [] := r
    subst r'
    cases l
  | a :: ks, d :: ds, vs, k, r, l => by
    obtain ⟨v, ws, rfl, h1, h2⟩ := r
    obtain ⟨i1, i2⟩ := dLook_V (k := k) h2 (by simpa using l)
    unfold dLook
    by_cases e : a = k
    . rw [if_pos e]
      refine ⟨fun d' q => ?_, fun q => by cases q⟩
      cases q
      exact ⟨v, valV_pos e, h1⟩
    . rw [if_neg e]
      refine ⟨fun d' q => ?_, fun q => ?_⟩
      . obtain ⟨u, e1, e2⟩ := i1 d' q
        exact ⟨u, (valV_neg e).trans e1, e2⟩
      . exact (valV_neg e).trans (i2 q)
def dctD (T : Td) : D -> Option (List Key × List D)
  | .dct ks ds => some (ks, ds)
  | .ref a => match T a with
    | some (.dct ks ds) => some (ks, ds)
    | _ => none
  | _ => none
theorem dctD_V {K : PySem.W.Frag} {H : Hp} {T : Td} {x : D} {vx : V} {ks : List Key} {ds : List D} (o : DOk K H T) (r : RD K H T x vx) (e : dctD T x = some (ks, ds)) :
    ∃ a vs, vx = .ref a /\ Rd H a (.dK (ks.zip vs)) /\ ks.length = vs.length /\ RDs K H T ds vs := by
  cases x <;> simp only [dctD] at e <;> try (cases e; done)
  . rename_i a
    split at e
    . rename_i ks' ds' ht
      cases e
      obtain ⟨vs, h, l, rs⟩ := o a _ ht
      exact ⟨a, vs, r, .inl h, l, rs⟩
    . cases e
  . cases e
    obtain ⟨a, od, vs, e, _, h, l, rs⟩ := r
    exact ⟨a, vs, e, .inr ⟨od, h⟩, l, rs⟩
theorem dget_of {H : Hp} {a : Addr} {kvs : List (Key × V)} (k : Key) (h : Rd H a (.dK kvs)) : DGet H a (kV k) (valV kvs k) := .inl ⟨kvs, k, h, rfl, rfl⟩
section
variable {X : Cx} {W : WX} {j : Nat}
def rInD (neg : Bool) : R2D := fun x y T Q _ => match kOf x, dctD T y with
  | some k, some (ks, ds) => Q (.bl (if neg then !(dLook ks ds k).isSome else (dLook ks ds k).isSome)) T
  | _, _ => False
def rIxD : R2D := fun x y T Q _ => match kOf y, dctD T x with
  | some k, some (ks, ds) => match dLook ks ds k with
    | some d => Q d T
    | none => False
  | _, _ => False
theorem ixd_dict [Gd] (b : Bd j X W) : IxD X W rIxD := by
  intro value slice pins s σ H Q sd T QD ED x y vx vy v u I L r1 k1 r2 k2 q hs
  unfold rIxD at q
  split at q
  . rename_i k ks ds e1 e2
    split at q
    . rename_i d ed
      obtain ⟨a, vs, rfl, h, l, rs⟩ := dctD_V L.ok r1 e2
      have := kOf_V e1 r2
      subst this
      cases (show v = Value.ref a from k1)
      obtain ⟨w, ew, rw'⟩ := (dLook_V (k := k) rs l).1 d ed
      have g : DGet H a (kV k) (some w) := by rw [<- ew]; exact dget_of k h
      have hT : s.TypeIs (.ref a) "dict" := dict_typeIs I g
      have h₂ : wpAny (model X.prog X.w) X.A (getItem (.ref a) u) (EP X pins σ Q) X.xe s := d_getItem (by have := b.hr.un; omega) I g k2 fun w' s' I' rv => L.here I' rw' rv q
      unfold subscriptTail
      refine wpAny_bind ?_
      rw [getitemInPython_of_ne hT.not_modules]
      refine wpAny_bind (wpAny_specialOf hT PySem.F.slot_dict_getitem.lookup ?_)
      have fin : wpAny (model X.prog X.w) X.A (subscripted slice false (.ref a) u) (fun r s₃ => wpAny (model X.prog X.w) X.A (letTemporaryGo value (.ref a) r >>= fun _ => pure r) (EP X pins σ Q) X.xe s₃) X.xe s := by
        rw [hs]
        exact wpAny_operating (wpAny_mono h₂ (fun r s₃ h₃ => wpAny_bind (wpAny_letTemporaryGo (wpAny_pure h₃))) fun _ _ x => x)
      first
        | exact wpAny_pure (wpAny_bind fin)
        | exact wpAny_bind (wpAny_pure (wpAny_bind fin))
        | exact wpAny_bind fin
    . exact q.elim
  . exact q.elim
end
section
variable {K : PySem.W.Frag} {H : Hp} {T : Td} {p : Addr} {o : HO} {kvs : List (Key × V)}
theorem ne_dk {a : Addr} {u : HO} (hp : H p = some (.dK kvs)) (h : H a = some u) (hu : ∀ k, u ≠ .dK k) : a ≠ p := fun z => by
  rw [z, hp] at h
  cases h
  exact hu _ rfl
theorem over_at (hp : H p = some (.dK kvs)) {a : Addr} {u : HO} (h : H a = some u) (hu : ∀ k, u ≠ .dK k) : upd H p o a = some u := by
  rw [upd_ne (ne_dk hp h hu)]
  exact h
theorem over_rd (hp : H p = some (.dK kvs)) {a : Addr} {u : HO} (h : Rd H a u) (hu : ∀ k, u ≠ .dK k) : Rd (upd H p o) a u := by
  rcases h with h | ⟨x, h⟩
  . exact .inl (over_at hp h hu)
  . exact .inr ⟨x, over_at hp h fun _ z => (nomatch z)⟩
mutual
theorem RD.over (hp : H p = some (.dK kvs)) : ∀ (d : D) {v : V}, RD K H T d v -> RD K (upd H p o) T d v
  | .non, _, h => h
  | .bl _, _, h => h
  | .int _, _, h => h
  | .str _, _, h => h
  | .val _, _, h => h
  | .ref _, _, h => h
  | .tup ds, _, h => by
    obtain ⟨a, vs, e, t, r⟩ := h
    exact ⟨a, vs, e, t.elim (fun q => .inl ⟨q.1, over_rd hp q.2 fun _ z => (nomatch z)⟩) .inr, RDs.over hp ds r⟩
  | .lst ds, _, h => by
    obtain ⟨a, vs, e, t, r⟩ := h
    exact ⟨a, vs, e, t.elim (fun q => .inl ⟨q.1, over_rd hp q.2 fun _ z => (nomatch z)⟩) .inr, RDs.over hp ds r⟩
  | .dct ks ds, _, h => by
    obtain ⟨a, od, vs, e, t, h, l, r⟩ := h
    exact ⟨a, od, vs, e, t, over_at hp h fun _ z => (nomatch z), l, RDs.over hp ds r⟩
  | .slo C ds, _, h => by
    obtain ⟨a, dx, vs, e, t, t2, h2, h1, r⟩ := h
    exact ⟨a, dx, vs, e, t, t2, over_at hp h2 fun _ z => (nomatch z), over_at hp h1 fun _ z => (nomatch z), RDs.over hp ds r⟩
  | .obj C ns ds, _, h => by
    obtain ⟨a, dx, vs, e, t, t2, h2, h1, l, r⟩ := h
    exact ⟨a, dx, vs, e, t, t2, over_at hp h2 fun _ z => (nomatch z), over_at hp h1 fun _ z => (nomatch z), l, RDs.over hp ds r⟩
  | .fn g c q vs ds, _, h => by
    obtain ⟨e, t, h1, r⟩ := h
    exact ⟨e, t, over_at hp h1 fun _ z => (nomatch z), RDs.over hp ds r⟩
  | .exc c ns ds, _, h => by
    obtain ⟨a, d, vs, e, t, t2, h1, h2, l, r⟩ := h
    exact ⟨a, d, vs, e, t, t2, over_at hp h1 fun _ z => (nomatch z), over_at hp h2 fun _ z => (nomatch z), l, RDs.over hp ds r⟩
theorem RDs.over (hp : H p = some (.dK kvs)) : ∀ (ds : List D) {vs : List V}, RDs K H T ds vs -> RDs K (upd H p o) T ds vs
  | [], _, h => h
  | d :: ds, _, h => by
    obtain ⟨v, r, e, h1, h2⟩ := h
    exact ⟨v, r, e, RD.over hp d h1, RDs.over hp ds h2⟩
end
theorem DOk.over (hp : H p = some (.dK kvs)) (tp : T p = none) (h : DOk K H T) : DOk K (upd H p o) T := fun a u e => by
  have ne : a ≠ p := fun z => by rw [z, tp] at e; cases e
  have q := h a u e
  cases u with
  | lst ds => obtain ⟨vs, h, r⟩ := q; exact ⟨vs, by rw [upd_ne ne]; exact h, RDs.over hp ds r⟩
  | dct ks ds => obtain ⟨vs, h, l, r⟩ := q; exact ⟨vs, by rw [upd_ne ne]; exact h, l, RDs.over hp ds r⟩
  | ins C ns ds => obtain ⟨dx, vs, h, t, w, l, r⟩ := q; exact ⟨dx, vs, by rw [upd_ne ne]; exact h, t, over_at hp w fun _ z => (nomatch z), l, RDs.over hp ds r⟩
  | slo C ds =>
    obtain ⟨dx, vs, h1, h2, t, l, r⟩ := q
    refine ⟨dx, vs, by rw [upd_ne ne]; exact h1, over_at hp h2 fun _ z => (nomatch z), t, l, fun i d q => ?_⟩
    obtain ⟨v, q1, q2⟩ := r i d q
    exact ⟨v, q1, RD.over hp d q2⟩
  | tbl q' =>
    obtain ⟨ps, h, t, r⟩ := q
    refine ⟨ps, by rw [upd_ne ne]; exact h, t, fun pos cv z => ?_⟩
    obtain ⟨c, e1, e2, e3⟩ := r pos cv z
    exact ⟨c, e1, over_at hp e2 fun _ z => (nomatch z), e3⟩
  | raw o => show upd H p _ a = _; rw [upd_ne ne]; exact q
end
theorem upd_upd {H : Hp} {p : Addr} {a b : HO} : upd (upd H p a) p b = upd H p b := by
  funext c
  by_cases z : c = p
  . rw [z, upd_same, upd_same]
  . rw [upd_ne z, upd_ne z, upd_ne z]
theorem pe_frz {X : Cx} {e : Expr} {t : TE} (h : PE X e t) : PE X e (fun σ H Q => t σ H fun v H' => ∃ p u, v = .ref p /\ H' p = some (.dK u) /\ ∀ od, Q v (upd H' p (.frz od (.dK u)))) := by
  refine ⟨fun pins s σ H Q I hq => ?_⟩
  refine wpAny_mono (PE.run h pins s σ H _ I hq) (fun v s' z => ?_) fun _ _ e => e
  obtain ⟨vx, H', I', rv, p, u, ev, hp, q⟩ := z
  obtain ⟨od, I2⟩ := I'.lock hp (True.intro : Mut (some (.dK u)))
  exact ⟨vx, _, I2, rv, q od⟩
theorem dct_new {K : PySem.W.Frag} {W : WX} {σ : L2.St} {H H1 : Hp} {Q : VK} {sd : SD} {T T1 : Td} {QD : KD} {ED : XD} {p : Addr} {ks : List Key} {ds : List D} {vs : List V} {kvs : List (Key × V)} (L : LE K W σ H Q sd T QD ED) (o : DOk K H1 T1) (f : Fr H T H1 T1) (hp : H1 p = none) (e : kvs = ks.zip vs) (l : ks.length = vs.length) (r : RDs K H1 T1 ds vs) (q : QD (.dct ks ds) T1) :
    ∃ p' u, V.ref p = .ref p' /\ (upd H1 p (.dK kvs)) p' = some (.dK u) /\ ∀ od, Q (.ref p) (upd (upd H1 p (.dK kvs)) p' (.frz od (.dK u))) := by
  subst e
  refine ⟨p, _, rfl, upd_same, fun od => ?_⟩
  rw [upd_upd]
  exact L.q (.dct ks ds) T1 (.ref p) _ q ⟨p, od, vs, rfl, o.fresh hp, upd_same, l, RDs.mono (Fr.laid hp (o.fresh hp)) ds r⟩ (o.laid hp) (f.trans (Fr.laid hp (o.fresh hp)))
section
variable {X : Cx} {W : WX} {pos : Pos} {j : Nat}
theorem de_dict0 : DE X W (.Dict [] [] pos) (dC (.dct [] [])) := PE.imp (pe_frz pe_dnewK) fun σ H Q ⟨sd, T, QD, ED, L, q⟩ p hp =>
  dct_new L L.ok Fr.refl hp (ks := []) (vs := []) (ds := []) rfl rfl rfl q
def dDict1 (tk tv : TDE) : TDE := fun sd T Q E => tk sd T (fun k T1 => tv sd T1 (fun v T2 => match kOf k with
  | some k => Q (.dct [k] [v]) T2
  | none => False) E) E
theorem merge1 {k : Key} {v : V} : mergeK [] [(k, v)] = [k].zip [v] := rfl
theorem de_dict1 {a b : Expr} {tk tv : TDE} (ha : DE X W a tk) (hb : DE X W b tv) : DE X W (.Dict [some a] [b] pos) (dDict1 tk tv) := by
  refine PE.imp (pe_frz (pe_disp (pps_cons ha hb pps_nil) rfl rfl (by simp) (by show 1 <= 15; omega))) fun σ H Q ⟨sd, T, QD, ED, L, q⟩ p hp => ?_
  have f0 : Fr H T (upd H p (.dK [])) T := Fr.laid hp (L.ok.fresh hp)
  refine ⟨sd, T, _, ED, ⟨L.st.mono f0, L.ok.laid hp, fun k T1 vk H1 q1 r1 o1 f1 => ⟨sd, T1, _, ED, ⟨(L.st.mono f0).mono f1, o1, fun v T2 vv H2 q2 r2 o2 f2 => ?_, fun ex T' c da H' a b o f => L.x ex T' c da H' a b o (f0.trans (f1.trans f))⟩, q1⟩, fun ex T' c da H' a b o f => L.x ex T' c da H' a b o (f0.trans f)⟩, q⟩
  have q2' := q2
  split at q2'
  . rename_i k' ek
    have ev := kOf_V ek (RD.mono f2 k r1)
    subst ev
    have F := f0.trans (f1.trans f2)
    have hp2 := (f1.trans f2) p _ upd_same (L.ok.fresh hp)
    refine ⟨hp2.1, [(k', vv)], rfl, by show 1 <= 15; omega, p, _, rfl, upd_same, fun od => ?_⟩
    rw [upd_upd, merge1]
    have fw : Fr H T (upd H2 p (.frz od (.dK ([k'].zip [vv])))) T2 := fun c u e n => by
      have z := F c u e n
      have hc : c ≠ p := ne_of_none e hp
      exact ⟨by rw [upd_ne hc]; exact z.1, z.2⟩
    exact L.q (.dct [k'] [v]) T2 (.ref p) _ q2' ⟨p, od, [vv], rfl, hp2.2, upd_same, rfl, RDs.cons (RD.over hp2.1 v r2) RDs.nil⟩ (DOk.over hp2.1 hp2.2 o2) fw
  . exact q2'.elim
end
end DL
namespace DL
open PySem PySem.Spec PyProof.Rows L2 VX
def keyD : Key -> D
  | .inl i => .int i
  | .inr x => .str x
theorem keyD_RD {K : PySem.W.Frag} {H : Hp} {T : Td} (k : Key) : RD K H T (keyD k) (kV k) := by cases k <;> rfl
theorem zip_at {ks : List Key} {vs : List V} (l : ks.length = vs.length) {i : Nat} {k : Key} {v : V} (h : (ks.zip vs)[i]? = some (k, v)) : ks[i]? = some k /\ vs[i]? = some v := by
  rw [List.getElem?_zip_eq_some] at h
  exact h
section
variable {X : Cx} {W : WX} {tg e : Expr} {te : TDE} {apos cpos : Pos}
def diKeys (te : TDE) : TDI := fun sd T R E => te sd T (fun x T1 => match x with
  | .dct ks _ => R (ks.map keyD) (fun _ => True) T1
  | _ => False) E
theorem di_keys (he : DE X W e te) : DI X W tg e (diKeys te) :=
  PI.imp (pi_keys he) fun σ H R ⟨sd, T, RD', ED, st, ok, hx, hk, q⟩ => ⟨sd, T, _, ED, ⟨st, ok, fun x T1 v H1 k r o f => by
    cases x <;> try exact k.elim
    rename_i ks ds
    obtain ⟨a, od, vs, e, t, h, l, rs⟩ := r
    refine ⟨a, od, e, .inl ⟨_, h, hk _ _ T1 _ H1 k ?_ o f⟩⟩
    intro i H2 T2 f2 o2 _
    have h2 := (f2 a _ h t).1
    have hz : (ks.zip vs).length = ks.length := by rw [List.length_zip]; omega
    refine ⟨fun hi => ?_, fun hi => ⟨h2, by rw [hz]; simpa using hi⟩⟩
    rw [List.length_map] at hi
    refine ⟨⟨h2, by rw [hz]; exact hi⟩, fun x H3 ⟨e3, k, v, hkv, ex⟩ => ?_⟩
    subst e3 ex
    refine ⟨keyD k, ?_, keyD_RD k, o2, Fr.refl⟩
    rw [List.getElem?_map, (zip_at l hkv).1]
    rfl, hx⟩, q⟩
def itemsOf (ks : List Key) (ds : List D) : List D := (ks.zip ds).map fun p => .tup [keyD p.1, p.2]
def diItems (te : TDE) : TDI := fun sd T R E => te sd T (fun x T1 => match x with
  | .dct ks ds => R (itemsOf ks ds) (fun _ => True) T1
  | _ => False) E
theorem di_items {elts : List Expr} {kk : Nat} {tpos : Pos} (he : DE X W e te) (hbase : attributeBase e "items" X.env (eval e X.env) = eval e X.env := by rfl) (hline : (apos.endLine == cpos.line) = true := by rfl) :
    DI X W (.Tuple elts kk tpos) (.Call (.Attribute e "items" apos) [] [] cpos) (diItems te) :=
  PI.imp (pi_items he hbase hline) fun σ H R ⟨sd, T, RD', ED, st, ok, hx, hk, q⟩ => ⟨sd, T, _, ED, ⟨st, ok, fun x T1 v H1 k r o f => by
    cases x <;> try exact k.elim
    rename_i ks ds
    obtain ⟨a, od, vs, e, t, h, l, rs⟩ := r
    refine ⟨a, od, _, e, h, hk _ _ T1 _ H1 k ?_ o f⟩
    intro i H2 T2 f2 o2 _
    have h2 := (f2 a _ h t).1
    have rs2 := RDs.mono f2 ds rs
    have ld := rs2.length
    have hz : (ks.zip vs).length = ks.length := by rw [List.length_zip]; omega
    have hd : (ks.zip ds).length = ks.length := by rw [List.length_zip]; omega
    refine ⟨fun hi => ?_, fun hi => ⟨h2, by rw [hz]; simpa [itemsOf, hd] using hi⟩⟩
    rw [itemsOf, List.length_map, hd] at hi
    refine ⟨⟨h2, by rw [hz]; exact hi⟩, fun x H3 ⟨Ta, k, v, hkv, ex, hT, eH⟩ => ?_⟩
    subst ex eH
    obtain ⟨q1, q2⟩ := zip_at l hkv
    have hdi : ds[i]? = some (ds[i]'(by omega)) := List.getElem?_eq_getElem (by omega)
    obtain ⟨u, e1, e2⟩ := rs2.get hdi
    rw [q2] at e1
    cases e1
    have tn := o2.fresh hT
    refine ⟨.tup [keyD k, ds[i]'(by omega)], ?_, ⟨Ta, [kV k, v], rfl, .inl ⟨tn, .inl upd_same⟩, RDs.cons (keyD_RD k) (RDs.cons (RD.mono (Fr.laid hT tn) _ e2) RDs.nil)⟩, o2.laid hT, Fr.laid hT tn⟩
    rw [itemsOf, List.getElem?_map]
    have : (ks.zip ds)[i]? = some (k, ds[i]'(by omega)) := by rw [List.getElem?_zip_eq_some]; exact ⟨q1, hdi⟩
    rw [this]
    rfl, hx⟩, q⟩
end
instance memKey (k : Key) (ks : List Key) : Decidable (k ∈ ks) := @List.instDecidableMemOfLawfulBEq Key instBEqOfDecidableEq _ k ks
def kputK (ks : List Key) (k : Key) : List Key := if k ∈ ks then ks else ks ++ [k]
def kputD {α : Type} (ks : List Key) (ds : List α) (k : Key) (d : α) : List α := if k ∈ ks then List.zipWith (fun a x => if a = k then d else x) ks ds else ds ++ [d]
theorem kput_len {α : Type} {ks : List Key} {ds : List α} (l : ks.length = ds.length) (k : Key) (d : α) : (kputK ks k).length = (kputD ks ds k d).length := by
  unfold kputK kputD
  split
  . rw [List.length_zipWith]; omega
  . rw [List.length_append, List.length_append, l]; rfl
theorem any_mem {α : Type} : ∀ (ks : List Key) (vs : List α) (k : Key), ks.length = vs.length -> ((ks.zip vs).any fun p => decide (p.1 = k)) = decide (k ∈ ks)
  | [], _, k, _ => by simp
  | a :: ks, [], k, l => by cases l
  | a :: ks, v :: vs, k, l => by
    rw [List.zip_cons_cons, List.any_cons, any_mem ks vs k (by simpa using l)]
    by_cases h : a = k
    . simp [h]
    . have : ¬ k = a := fun z => h z.symm
      simp [h, this]
theorem put_zip {ks : List Key} {vs : List V} (l : ks.length = vs.length) (k : Key) (v : V) : putK (ks.zip vs) k v = (kputK ks k).zip (kputD ks vs k v) := by
  unfold putK kputK kputD
  rw [any_mem ks vs k l]
  by_cases h : k ∈ ks
  . rw [if_pos (decide_eq_true h), if_pos h, if_pos h]
    clear h
    induction ks generalizing vs with
    | nil => rfl
    | cons a ks ih =>
      cases vs with
      | nil => cases l
      | cons w vs =>
        rw [List.zip_cons_cons, List.map_cons, List.zipWith_cons_cons, List.zip_cons_cons, ih (by simpa using l)]
        by_cases e : a = k <;> simp [e]
  . rw [if_neg (by simpa using h), if_neg h, if_neg h, List.zip_append l]
    rfl
theorem kputD_RD {K : PySem.W.Frag} {H : Hp} {T : Td} {ks : List Key} {ds : List D} {vs : List V} {k : Key} {d : D} {v : V} (l : ks.length = vs.length) (r : RDs K H T ds vs) (rd : RD K H T d v) : RDs K H T (kputD ks ds k d) (kputD ks vs k v) := by
  unfold kputD
  split
  . rename_i h
    clear h
    induction ks generalizing ds vs with
    | nil => exact rfl
    | cons a ks ih =>
      cases ds with
      | nil =>
        have r' : vs = [] := r
        subst r'
        cases l
      | cons x ds =>
        obtain ⟨w, ws, rfl, h1, h2⟩ := r
        rw [List.zipWith_cons_cons, List.zipWith_cons_cons]
        refine RDs.cons ?_ (ih (by simpa using l) h2)
        split
        . exact rd
        . exact h1
  . exact r.append (RDs.cons rd RDs.nil)
end DL
namespace DL
open PySem PySem.Spec PyProof.Rows L2 VX
abbrev TDO := SD -> Td -> (Option Int -> Td -> Prop) -> XD -> Prop
structure LO (K : PySem.W.Frag) (W : WX) (σ : L2.St) (H : Hp) (Q : Option Int -> Hp -> Prop) (sd : SD) (T : Td) (QD : Option Int -> Td -> Prop) (ED : XD) : Prop where
  st : StOk K H T sd σ
  ok : DOk K H T
  q : ∀ x T' H', QD x T' -> DOk K H' T' -> Fr H T H' T' -> Q x H'
  x : ∀ ex T' c da H', ED ex T' -> XR K H' T' ex c da -> DOk K H' T' -> Fr H T H' T' -> W c da σ H'
def liftO (K : PySem.W.Frag) (W : WX) (d : TDO) : TO := fun σ H Q => ∃ sd T QD ED, LO K W σ H Q sd T QD ED /\ d sd T QD ED
def DPart (X : Cx) (W : WX) (e : Option Expr) (d : TDO) : Prop := PO X e (liftO X.K W d)
theorem _root_.L2.PO.imp {X : Cx} {e : Option Expr} {t t' : TO} (h : PO X e t) (i : ∀ σ H Q, t' σ H Q -> t σ H Q) : PO X e t' := ⟨fun pins s σ H Q I q => h.run pins s σ H Q I (i σ H Q q)⟩
def dNoPart : TDO := fun _ T Q _ => Q none T
def dPart (te : TDE) : TDO := fun sd T Q E => te sd T (fun x T1 => match x with
  | .int i => Q (some i) T1
  | _ => False) E
def cutD {α : Type} (xs : List α) (lo hi : Option Int) : List α := (xs.drop (HT.sIx xs.length 0 lo)).take (HT.sIx xs.length xs.length hi - HT.sIx xs.length 0 lo)
theorem cutD_V {K : PySem.W.Frag} {H : Hp} {T : Td} {ds : List D} {vs : List V} (lo hi : Option Int) (r : RDs K H T ds vs) : RDs K H T (cutD ds lo hi) (cutV vs lo hi) := by
  unfold cutD cutV
  rw [r.length]
  exact (r.drop _).take _
def rSl : D -> Option Int -> Option Int -> Td -> KD -> Prop := fun x lo hi T Q => match x with
  | .str z => z.length <= sizeLine /\ Q (.str (cutS z lo hi)) T
  | .tup xs => Q (.tup (cutD xs lo hi)) T
  | .lst xs => Q (.lst (cutD xs lo hi)) T
  | .ref a => match T a with
    | some (.lst xs) => Q (.lst (cutD xs lo hi)) T
    | _ => False
  | _ => False
def dSl (te : TDE) (tl th : TDO) : TDE := fun sd T Q E => te sd T (fun x T1 => tl sd T1 (fun l T2 => th sd T2 (fun u T3 => rSl x l u T3 Q) E) E) E
section
variable {X : Cx} {W : WX} {e : Expr} {te : TDE} {lo hi : Option Expr} {tl th : TDO} {pos p2 : Pos}
theorem dp_none : DPart X W none dNoPart := PO.imp po_none fun σ H Q ⟨sd, T, QD, ED, L, q⟩ => L.q none T H q L.ok Fr.refl
theorem dp_some (h : DE X W e te) : DPart X W (some e) (dPart te) := PO.imp (po_some h) fun σ H Q ⟨sd, T, QD, ED, L, q⟩ => ⟨sd, T, _, ED, ⟨L.st, L.ok, fun x T1 v H1 k r o f => by
  cases x <;> try exact k.elim
  rename_i i
  exact ⟨i, r, L.q (some i) T1 H1 k o f⟩, L.x⟩, q⟩
theorem de_slice (he : DE X W e te) (hl : DPart X W lo tl) (hu : DPart X W hi th) : DE X W (.Subscript e (.Slice lo hi none p2) pos) (dSl te tl th) :=
  PE.imp (pe_slice (SlR.or sl_str (SlR.or sl_tupA sl_list)) he hl hu) fun σ H Q ⟨sd, T, QD, ED, L, q⟩ => ⟨sd, T, _, ED, ⟨L.st, L.ok, fun x T1 v H1 k r o f => ⟨sd, T1, _, ED, ⟨L.st.mono f, o, fun l T2 H2 k2 o2 f2 => ⟨sd, T2, _, ED, ⟨(L.st.mono f).mono f2, o2, fun u T3 H3 k3 o3 f3 => by
    have r3 := RD.mono (f2.trans f3) x r
    have F := f.trans (f2.trans f3)
    cases x <;> try exact k3.elim
    . rename_i z
      exact .inl ⟨z, r3, k3.1, L.q _ T3 _ H3 k3.2 rfl o3 F⟩
    . rename_i a
      simp only [rSl] at k3
      split at k3
      . rename_i xs ht
        obtain ⟨vs, hv, rs⟩ := o3 a _ ht
        exact .inr (.inr ⟨a, vs, r3, SqL.of hv, fun p hp => L.q _ T3 (.ref p) _ k3 ⟨p, _, rfl, .inl ⟨o3.fresh hp, .inl upd_same⟩, RDs.mono (Fr.laid hp (o3.fresh hp)) _ (cutD_V l u rs)⟩ (o3.laid hp) (F.trans (Fr.laid hp (o3.fresh hp)))⟩)
      . exact k3.elim
    . rename_i xs
      obtain ⟨a, vs, e, t, rs⟩ := r3
      refine .inr (.inl ⟨a, vs, e, t.sq, fun hw => ?_, fun hw p hp => ?_⟩)
      . have ew : cutV vs l u = vs := by
          unfold cutV
          rw [hw.1, hw.2, List.drop_zero]
          simp
        refine L.q _ T3 (.ref a) H3 k3 ⟨a, vs, rfl, t, ?_⟩ o3 F
        have := cutD_V l u rs
        rwa [ew] at this
      . exact L.q _ T3 (.ref p) _ k3 ⟨p, _, rfl, .inl ⟨o3.fresh hp, .inl upd_same⟩, RDs.mono (Fr.laid hp (o3.fresh hp)) _ (cutD_V l u rs)⟩ (o3.laid hp) (F.trans (Fr.laid hp (o3.fresh hp)))
    . rename_i xs
      obtain ⟨a, vs, e, t, rs⟩ := r3
      exact .inr (.inr ⟨a, vs, e, t.sq, fun p hp => L.q _ T3 (.ref p) _ k3 ⟨p, _, rfl, .inl ⟨o3.fresh hp, .inl upd_same⟩, RDs.mono (Fr.laid hp (o3.fresh hp)) _ (cutD_V l u rs)⟩ (o3.laid hp) (F.trans (Fr.laid hp (o3.fresh hp)))⟩),
    fun ex T' c da H' a b o' f' => L.x ex T' c da H' a b o' (f.trans (f2.trans f'))⟩, k2⟩, fun ex T' c da H' a b o' f' => L.x ex T' c da H' a b o' (f.trans f')⟩, k⟩, L.x⟩, q⟩
end
section
variable {X : Cx} {W : WX} {o e : Expr} {to te : TDE} {apos pos : Pos}
theorem strs_lst {K : PySem.W.Frag} {H : Hp} {T : Td} {p : Addr} {ys : List Str} (o : DOk K H T) (hp : H p = none) : RD K (upd H p (.lst (ys.map V.str))) T (.lst (ys.map D.str)) (.ref p) :=
  ⟨p, _, rfl, .inl ⟨o.fresh hp, .inl upd_same⟩, strs_RD ys⟩
def dSplit (to te : TDE) : TDE := fun sd T Q E => to sd T (fun x T1 => te sd T1 (fun y T2 => match x, y with
  | .str a, .str b => (b.length == 0) = false /\ a.length + 2 <= sizeLine /\ Q (.lst ((Txt.split a b).map D.str)) T2
  | _, _ => False) E) E
def isS : D -> Bool
  | .str _ => true
  | _ => false
theorem items_Sq {H : Hp} {T : Td} {x : D} {vx : V} {ds : List D} (o : DOk X.K H T) (r : RD X.K H T x vx) (e : itemsD T x = some ds) : ∃ a vs, vx = .ref a /\ (SqL X.K H a vs \/ SqT X.K H a vs) /\ RDs X.K H T ds vs := by
  cases x <;> simp only [itemsD] at e <;> try (cases e; done)
  . rename_i a
    split at e
    . rename_i xs ht
      cases e
      obtain ⟨vs, h, rs⟩ := o a _ ht
      exact ⟨a, vs, r, .inl (SqL.of h), rs⟩
    . cases e
  . cases e
    obtain ⟨a, vs, e, t, rs⟩ := r
    exact ⟨a, vs, e, .inr t.sq, rs⟩
  . cases e
    obtain ⟨a, vs, e, t, rs⟩ := r
    exact ⟨a, vs, e, .inl t.sq, rs⟩
end
section
variable {X : Cx} {W : WX}
def rIntS : RAD := fun xs T Q _ => match xs with
  | [.str a] => match PySem.intText? a with
    | some n => a.length <= 640 /\ Q (.int n) T
    | none => False
  | [.int i] => Q (.int i) T
  | [.bl b] => Q (.int (if b then 1 else 0)) T
  | _ => False
theorem cd_intS : CallD X W (.type "int") rIntS := fun pins s σ H Q sd T QD ED xs vs us I L rs rv h => by
  unfold rIntS at h
  split at h
  . rename_i a
    split at h
    . rename_i n e
      obtain ⟨v, rfl, r⟩ := rds1 rs
      have r' : v = .str a := r
      subst r'
      exact call_int_str pins s σ H _ us Q I rv ⟨a, n, rfl, e, h.1, L.q _ T _ H h.2 rfl L.ok Fr.refl⟩
    . exact h.elim
  . rename_i i
    exact cd_int pins s σ H Q sd T QD ED _ vs us I L rs rv h
  . rename_i b
    exact cd_int pins s σ H Q sd T QD ED _ vs us I L rs rv h
  . exact h.elim
def rLenU : RAD := fun xs T Q E => match xs with
  | [.str a] => a.length <= sizeLine /\ Q (.int a.length) T
  | [x] => match dctD T x with
    | some (ks, ds) => Q (.int ks.length) T
    | none => rLenQ [x] T Q E
  | _ => False
theorem cd_lenU : CallD X W (.builtin "len") rLenU := fun pins s σ H Q sd T QD ED xs vs us I L rs rv h => by
  unfold rLenU at h
  split at h
  . rename_i a
    obtain ⟨v, rfl, r⟩ := rds1 rs
    have r' : v = .str a := r
    subst r'
    exact call_len_str pins s σ H _ us Q I rv ⟨a, rfl, h.1, L.q _ T _ H h.2 rfl L.ok Fr.refl⟩
  . rename_i x _
    split at h
    . rename_i ks ds e
      obtain ⟨v, rfl, r⟩ := rds1 rs
      obtain ⟨a, ws, rfl, hd, l, rw'⟩ := dctD_V L.ok r e
      cases rv with
      | @cons _ u _ _ k1 k2 =>
      cases k2
      cases (show u = Value.ref a from k1)
      refine d_len I hd fun t s' I' => ?_
      have : (ks.zip ws).length = ks.length := by rw [List.length_zip]; omega
      rw [this]
      exact L.here (x := .int _) (vx := .int _) I' rfl ⟨t, rfl⟩ h
    . exact cd_len pins s σ H Q sd T QD ED _ vs us I L rs rv h
  . exact h.elim
end
section
variable {X : Cx} {W : WX} {tg e : Expr} {te : TDE}
def diStr (te : TDE) : TDI := fun sd T R E => te sd T (fun x T1 => match x with
  | .str z => R (signsD z) (fun _ => True) T1
  | _ => False) E
theorem di_str (he : DE X W e te) : DI X W tg e (diStr te) :=
  PI.imp (pi_str he) fun σ H R ⟨sd, T, RD', ED, st, ok, hx, hk, q⟩ => ⟨sd, T, _, ED, ⟨st, ok, fun x T1 v H1 k r o f => by
    cases x <;> try exact k.elim
    rename_i z
    refine ⟨z, r, hk _ _ T1 _ H1 k ?_ o f⟩
    intro i H2 T2 f2 o2 _
    have hl : (signsD z).length = z.cps.size := by unfold signsD; rw [List.length_map, Array.length_toList]
    refine ⟨fun hi => ⟨by rw [hl] at hi; exact hi, fun x H3 ⟨e3, c, hc, ex⟩ => ?_⟩, fun hi => by rw [hl] at hi; exact hi⟩
    subst e3 ex
    refine ⟨.str ⟨#[c]⟩, ?_, rfl, o2, Fr.refl⟩
    unfold signsD
    rw [List.getElem?_map, Array.getElem?_toList, hc]
    rfl, hx⟩, q⟩
def rSign (neg : Bool) : R2D := fun x y T Q _ => match x, y with
  | .str a, .str z => ∃ c, a = ⟨#[c]⟩ /\ Q (.bl (if neg then !decide (c ∈ z.cps.toList) else decide (c ∈ z.cps.toList))) T
  | _, _ => False
theorem od_sign : OpD X W (compareOp .In) (rSign false) := OpD.of op_in_sign fun σ H Q sd T QD ED x y vx vy L r1 r2 h => by
  unfold rSign at h
  split at h
  . rename_i a z
    obtain ⟨c, rfl, q⟩ := h
    exact ⟨c, z, r1, r2, L.q _ T _ H q rfl L.ok Fr.refl⟩
  . exact h.elim
def flatD : D -> Option V
  | .non => some .non
  | .bl b => some (.bl b)
  | .int i => some (.int i)
  | .str x => some (.str x)
  | _ => none
def flatDs : List D -> Option (List V)
  | [] => some []
  | x :: xs => match flatD x, flatDs xs with
    | some v, some vs => some (v :: vs)
    | _, _ => none
theorem flatD_V {K : PySem.W.Frag} {H : Hp} {T : Td} {x : D} {v vx : V} (e : flatD x = some v) (r : RD K H T x vx) : vx = v /\ flatV v = true := by
  cases x <;> simp only [flatD] at e <;> first | (cases e; done) | (cases e; exact ⟨r, rfl⟩)
theorem flatDs_V {K : PySem.W.Frag} {H : Hp} {T : Td} : ∀ {xs : List D} {vs ws : List V}, flatDs xs = some vs -> RDs K H T xs ws -> ws = vs /\ vs.all flatV = true
  | [], _, _, e, r => by
    cases e
    exact ⟨r, rfl⟩
  | x :: xs, _, _, e, r => by
    unfold flatDs at e
    split at e
    . rename_i v vs e1 e2
      cases e
      obtain ⟨w, ws, rfl, h1, h2⟩ := r
      obtain ⟨a1, a2⟩ := flatD_V e1 h1
      obtain ⟨b1, b2⟩ := flatDs_V e2 h2
      subst a1 b1
      exact ⟨rfl, by rw [List.all_cons, a2, b2]; rfl⟩
    . cases e
def rInF (neg : Bool) : R2D := fun x y T Q _ => match flatD x, itemsD T y with
  | some v, some ys => match flatDs ys with
    | some ws => Q (.bl (if neg then !inV v ws else inV v ws)) T
    | none => False
  | _, _ => False
theorem rInF_of {H : Hp} {Q : VK} {W : WX} {σ : L2.St} {sd : SD} {T : Td} {QD : KD} {ED : XD} {x y : D} {vx vy : V} {neg : Bool} (L : LE X.K W σ H Q sd T QD ED) (r1 : RD X.K H T x vx) (r2 : RD X.K H T y vy) (h : rInF neg x y T QD ED) : rIn X.K neg vx vy H Q := by
  unfold rInF at h
  split at h
  . rename_i v ys e1 e2
    split at h
    . rename_i ws e3
      obtain ⟨p, vs, rfl, hq, rs⟩ := items_Sq L.ok r2 e2
      obtain ⟨a1, a2⟩ := flatD_V e1 r1
      obtain ⟨b1, b2⟩ := flatDs_V e3 rs
      subst a1 b1
      exact ⟨p, vs, rfl, hq, a2, b2, L.q _ T _ H h rfl L.ok Fr.refl⟩
    . exact h.elim
  . exact h.elim
theorem od_inF : OpD X W (compareOp .In) (rInF false) := OpD.of op_in_seq fun σ H Q sd T QD ED x y vx vy L r1 r2 h => rInF_of L r1 r2 h
theorem od_notInF : OpD X W (compareOp .NotIn) (rInF true) := OpD.of op_notIn_seq fun σ H Q sd T QD ED x y vx vy L r1 r2 h => rInF_of L r1 r2 h
end
end DL
namespace DL
open PySem PySem.Spec PyProof.Rows L2 VX
mutual
def pyD (T : Td) : D -> Option PyData
  | .non => some .none
  | .bl b => some (.bool b)
  | .int i => some (.int i)
  | .str x => some (.str x)
  | .tup xs => (pyDs T xs).map .tuple
  | .lst xs => (pyDs T xs).map .list
  | _ => none
def pyDs (T : Td) : List D -> Option (List PyData)
  | [] => some []
  | x :: xs => match pyD T x, pyDs T xs with
    | some d, some ds => some (d :: ds)
    | _, _ => none
end
mutual
theorem pyD_V {K : PySem.W.Frag} {H : Hp} {T : Td} : ∀ {x : D} {d : PyData} {v : V}, pyD T x = some d -> RD K H T x v -> Dp K H v d
  | .non, _, _, e, r => by cases e; have r' : _ = V.non := r; subst r'; exact .non
  | .bl b, _, _, e, r => by cases e; have r' : _ = V.bl b := r; subst r'; exact .bl b
  | .int i, _, _, e, r => by cases e; have r' : _ = V.int i := r; subst r'; exact .int i
  | .str x, _, _, e, r => by cases e; have r' : _ = V.str x := r; subst r'; exact .str x
  | .tup xs, _, _, e, r => by
    obtain ⟨a, vs, rfl, t, rs⟩ := r
    unfold pyD at e
    cases q : pyDs T xs with
    | none => rw [q] at e; cases e
    | some ds =>
      rw [q] at e
      cases e
      exact .tup t.sq (pyDs_V q rs)
  | .lst xs, _, _, e, r => by
    obtain ⟨a, vs, rfl, t, rs⟩ := r
    unfold pyD at e
    cases q : pyDs T xs with
    | none => rw [q] at e; cases e
    | some ds =>
      rw [q] at e
      cases e
      exact .lst t.sq (pyDs_V q rs)
  | .val _, _, _, e, _ => by cases e
  | .ref _, _, _, e, _ => by cases e
  | .dct _ _, _, _, e, _ => by cases e
  | .slo _ _, _, _, e, _ => by cases e
  | .obj _ _ _, _, _, e, _ => by cases e
  | .exc _ _ _, _, _, e, _ => by cases e
  | .fn _ _ _ _ _, _, _, e, _ => by cases e
theorem pyDs_V {K : PySem.W.Frag} {H : Hp} {T : Td} : ∀ {xs : List D} {ds : List PyData} {vs : List V}, pyDs T xs = some ds -> RDs K H T xs vs -> DpAll K H vs ds
  | [], _, _, e, r => by
    cases e
    have r' : _ = ([] : List V) := r
    subst r'
    exact .nil
  | x :: xs, _, _, e, r => by
    obtain ⟨v, ws, rfl, h1, h2⟩ := r
    unfold pyDs at e
    split at e
    . rename_i d ds e1 e2
      cases e
      exact .cons (pyD_V e1 h1) (pyDs_V e2 h2)
    . cases e
end
section
variable {X : Cx} {W : WX} {k : Nat}
def rEqN (g : Bool -> Bool) : R2D := fun x y T Q _ => match pyD T x, pyD T y with
  | some d, some e => SeqAt.shaped d = true /\ SeqAt.shaped e = true /\ Q (.bl (g (PyData.eqv d e))) T
  | _, _ => False
theorem od_eqN [Gd] (b : Bd k X W) : OpD X W (compareOp .Eq) (rEqN id) := OpD.of (op_eqD b.hr.units) fun σ H Q sd T QD ED x y vx vy L r1 r2 h => by
  unfold rEqN at h
  split at h
  . rename_i d e e1 e2
    exact ⟨d, e, pyD_V e1 r1, pyD_V e2 r2, h.1, h.2.1, L.q _ T _ H h.2.2 rfl L.ok Fr.refl⟩
  . exact h.elim
theorem od_neN [Gd] (b : Bd k X W) : OpD X W (compareOp .NotEq) (rEqN (!·)) := OpD.of (op_neD b.hr.units) fun σ H Q sd T QD ED x y vx vy L r1 r2 h => by
  unfold rEqN at h
  split at h
  . rename_i d e e1 e2
    exact ⟨d, e, pyD_V e1 r1, pyD_V e2 r2, h.1, h.2.1, L.q _ T _ H h.2.2 rfl L.ok Fr.refl⟩
  . exact h.elim
end
end DL
namespace DL
open PySem PySem.Spec PyProof.Rows L2 VX
section
variable {X : Cx} {W : WX}
theorem de_globS {x : Str} {z : Str} {pos : Pos} (hg : Gl X x) (hm : ∃ t, X.mg x = some (.str z t)) (hd : (x == ("__debug__" : Str)) = false := by decide) : DE X W (.Name x pos) (dC (.str z)) := by
  obtain ⟨t, hm⟩ := hm
  exact de_c (pe_glob (v := .str z) hg hm ⟨t, rfl⟩ hd) fun _ _ => rfl
theorem de_globI {x : Str} {z : Int} {pos : Pos} (hg : Gl X x) (hm : ∃ t, X.mg x = some (.int z t)) (hd : (x == ("__debug__" : Str)) = false := by decide) : DE X W (.Name x pos) (dC (.int z)) := by
  obtain ⟨t, hm⟩ := hm
  exact de_c (pe_glob (v := .int z) hg hm ⟨t, rfl⟩ hd) fun _ _ => rfl
end
end DL
namespace DL
open PySem PySem.Spec PyProof.Rows L2 VX P
section
variable {X : Cx} {W : WX}
theorem op_catL {X : Cx} : OpR X (binaryOp .Add) (fun x y H Q => ∃ l b xs zs, x = .ref l /\ y = .ref b /\ SqL X.K H l xs /\ SqL X.K H b zs /\ xs.length + zs.length <= sizeLine /\ ∀ p, H p = none -> Q (.ref p) (upd H p (.lst (xs ++ zs)))) := by
  intro pins s σ H x y v u Q I rx ry h
  obtain ⟨l, b, xs, zs, rfl, rfl, hH, hB, hz, q⟩ := h
  cases rx
  cases ry
  obtain ⟨its, r, pl, _⟩ := I.list hH
  obtain ⟨its2, r2, pl2, _⟩ := I.list hB
  obtain ⟨⟨cls, dd, data, sl⟩, n, ho, hc, hd, hs⟩ := pl
  obtain ⟨⟨cls2, dd2, data2, sl2⟩, n2, ho2, hc2, hd2, hs2⟩ := pl2
  simp only at hc hd hc2 hd2 hs hs2
  subst hc hd hc2 hd2 hs hs2
  have ea : its.toArray ++ its2.toArray = (its ++ its2).toArray := by simp
  have l1 := r.length
  have l2 := r2.length
  refine concat_meets ⟨_, ho, rfl⟩ ⟨_, ho2, rfl⟩ noFill_list_add seq_list_add F.slot_list_add F.entry_list_add (F.args_list_add_2 _ _) (PyProof.Rows.list_addW l b its.toArray its2.toArray n n2 _ _ _ _ (by simp; omega)) ⟨ho, ho2, ?_⟩
  rw [ea]
  exact ⟨.ref _, _, I.lnew (t' := s.toks) (r.append r2) (by rw [List.length_append]; omega), rfl, q _ I.fresh⟩
def rLL : R2D := fun x y T Q _ => isTupD x = false /\ isTupD y = false /\ match itemsD T x, itemsD T y with
  | some xs, some ys => xs.length + ys.length <= sizeLine /\ Q (.lst (xs ++ ys)) T
  | _, _ => False
theorem od_addL : OpD X W (binaryOp .Add) rLL := OpD.of op_catL fun σ H Q sd T QD ED x y vx vy L r1 r2 h => by
  obtain ⟨t1, t2, h⟩ := h
  split at h
  . rename_i xs ys e1 e2
    obtain ⟨a, vs, rfl, h1, rs1⟩ := items_SqL L.ok r1 e1 t1
    obtain ⟨b, ws, rfl, h2, rs2⟩ := items_SqL L.ok r2 e2 t2
    refine ⟨a, b, vs, ws, rfl, rfl, h1, h2, by rw [<- rs1.length, <- rs2.length]; exact h.1, fun p hp => ?_⟩
    have f := Fr.laid (o := .lst (vs ++ ws)) hp (L.ok.fresh hp)
    exact L.q (.lst (xs ++ ys)) T (.ref p) _ h.2 ⟨p, _, rfl, .inl ⟨L.ok.fresh hp, .inl upd_same⟩, RDs.mono f _ (rs1.append rs2)⟩ (L.ok.laid hp) f
  . exact h.elim
end
structure Cut (t : Td -> KD -> XD -> Prop) (T : Td) (Q : KD) (E : XD) : Prop where
  h : t T Q E
def dCut (t : TDE) : TDE := fun sd T Q E => Cut (t sd) T Q E
theorem cut_by {t : Td -> KD -> XD -> Prop} {T : Td} {Q : KD} {E : XD} (R : D -> Td -> Prop) (g : ∀ Q : KD, (∀ x T', R x T' -> Q x T') -> t T Q E) (h : ∀ x T', R x T' -> Q x T') : Cut t T Q E := ⟨g Q h⟩
structure CutS (t : TDS) (D : DEnds) (sd : SD) (T : Td) : Prop where
  h : t D sd T
def dCutS (t : TDS) : TDS := fun D sd T => CutS t D sd T
section
variable {X : Cx} {W : WX}
theorem de_cut {e : Expr} {t : TDE} (h : DE X W e t) : DE X W e (dCut t) := PE.imp h fun σ H Q ⟨sd, T, QD, ED, L, q⟩ => ⟨sd, T, QD, ED, L, q.h⟩
theorem ds_cut {e : Stmt} {t : TDS} (h : DS X W e t) : DS X W e (dCutS t) := PS.imp h fun De σ H ⟨sd, T, DD, st, o, L, q⟩ => ⟨sd, T, DD, st, o, L, q.h⟩
end
end DL
namespace RQ
def wG (i j : Int) : Int := if j < 0 then -(Nat.gcd i.natAbs j.natAbs : Int) else (Nat.gcd i.natAbs j.natAbs : Int)
def wN (i j : Int) : Int := i.fdiv (wG i j)
def wD (i j : Int) : Int := j.fdiv (wG i j)
theorem gcd_ne {i j : Int} (hj : j ≠ 0) : Nat.gcd i.natAbs j.natAbs ≠ 0 := fun z => hj (by have := Nat.eq_zero_of_gcd_eq_zero_right z; omega)
theorem w_q (a b : Int) (hb : b ≠ 0) : wN a b = (Rat.divInt a b).num /\ wD a b = ((Rat.divInt a b).den : Int) := by
  have hg := gcd_ne (i := a) hb
  obtain ⟨k1, h1⟩ : (Nat.gcd a.natAbs b.natAbs : Int) ∣ a := Int.ofNat_dvd_left.2 (Nat.gcd_dvd_left _ _)
  obtain ⟨k2, h2⟩ : (Nat.gcd a.natAbs b.natAbs : Int) ∣ b := Int.ofNat_dvd_left.2 (Nat.gcd_dvd_right _ _)
  have eg : Int.gcd b a = Nat.gcd a.natAbs b.natAbs := by rw [Int.gcd, Nat.gcd_comm]
  have e1 : b.natAbs = Nat.gcd a.natAbs b.natAbs * k2.natAbs := by
    have := congrArg Int.natAbs h2
    rwa [Int.natAbs_mul, Int.natAbs_natCast] at this
  unfold wN wD wG
  rw [Rat.num_divInt, Rat.den_divInt, if_neg hb, eg]
  generalize Nat.gcd a.natAbs b.natAbs = g at *
  have hg' : (g : Int) ≠ 0 := by omega
  have dn : b.natAbs / g = k2.natAbs := by rw [e1]; exact Nat.mul_div_cancel_left _ (by omega)
  rw [dn]
  by_cases hneg : b < 0
  . rw [if_pos hneg]
    have hk2 : k2 < 0 := by
      have h : (g : Int) * k2 < 0 := by rw [<- h2]; exact hneg
      have hgp : (0 : Int) < g := by omega
      have h' : (g : Int) * k2 < g * 0 := by simpa using h
      exact Int.lt_of_mul_lt_mul_left h' (by omega)
    have es : b.sign = -1 := Int.sign_eq_neg_one_of_neg hneg
    rw [es]
    constructor
    . rw [h1, Int.fdiv_neg_eq hg']
      rw [show (-1 : Int) * (g * k1) = g * (-k1) by grind, Int.mul_ediv_cancel_left _ hg']
    . rw [h2, Int.fdiv_neg_eq hg']
      omega
  . rw [if_neg hneg]
    have hp : 0 < b := by omega
    have hk2 : 0 < k2 := by
      have h : (g : Int) * 0 < g * k2 := by rw [<- h2]; simpa using hp
      exact Int.lt_of_mul_lt_mul_left h (by omega)
    have es : b.sign = 1 := Int.sign_eq_one_of_pos hp
    rw [es, Int.one_mul]
    constructor
    . rw [h1, Int.mul_fdiv_cancel_left _ hg', Int.mul_ediv_cancel_left _ hg']
    . rw [h2, Int.mul_fdiv_cancel_left _ hg']
      omega
where
  Int.fdiv_neg_eq {g k : Int} (hg : g ≠ 0) : (g * k).fdiv (-g) = -k := by
    have : g * k = (-g) * (-k) := by grind
    rw [this, Int.mul_fdiv_cancel_left _ (by omega)]
theorem num0 {q : Rat} : q.num = 0 ↔ q = 0 := Rat.num_eq_zero
theorem q_self (q : Rat) : Rat.divInt q.num q.den = q := Rat.num_divInt_den q
theorem q_int (i : Int) : Rat.divInt i 1 = (i : Rat) := by
  have := Rat.num_divInt_den (i : Rat)
  simpa using this
theorem den0 (q : Rat) : (q.den : Int) ≠ 0 := by have := q.den_pos; omega
theorem q_ext {p q : Rat} (h1 : p.num = q.num) (h2 : (p.den : Int) = q.den) : p = q := Rat.ext h1 (by omega)
def sz (q : Rat) : Nat := max (q.num.natAbs.log2 + 1) (q.den.log2 + 1)
theorem lt_log (n : Nat) : n < 2 ^ (n.log2 + 1) := Nat.lt_log2_self
theorem sz_num (q : Rat) : q.num.natAbs < 2 ^ sz q := Nat.lt_of_lt_of_le (lt_log _) (Nat.pow_le_pow_right (by decide) (Nat.le_max_left _ _))
theorem sz_den (q : Rat) : q.den < 2 ^ sz q := Nat.lt_of_lt_of_le (lt_log _) (Nat.pow_le_pow_right (by decide) (Nat.le_max_right _ _))
theorem log_lt {n k : Nat} (h : n < 2 ^ k) (hk : 0 < k) : n.log2 + 1 <= k := by
  by_cases h0 : n = 0
  . subst h0; exact hk
  . exact (Nat.log2_lt h0).2 h
theorem sz_le {q : Rat} {k : Nat} (hk : 0 < k) (h1 : q.num.natAbs < 2 ^ k) (h2 : q.den < 2 ^ k) : sz q <= k := Nat.max_le.2 ⟨log_lt h1 hk, log_lt h2 hk⟩
theorem cden (q : Rat) : ((q.den : Int)).natAbs < 2 ^ sz q := by rw [Int.natAbs_natCast]; exact sz_den q
end RQ
namespace K1
open PySem PySem.Spec PyProof.Rows L2 VX DL RQ
abbrev rAdd : R2D := rII CAny fun i j => .int (i + j)
abbrev rMul : R2D := rII IntMulOk fun i j => .int (i * j)
abbrev rFdv : R2D := rII CDv fun i j => .int (i.fdiv j)
abbrev rMod : R2D := rII CMd fun i j => .int (i.fmod j)
abbrev rPow : R2D := rII CPw fun i j => .int (i ^ j.toNat)
abbrev rLt : R2D := rII CAny fun i j => .bl (decide (i < j))
abbrev rLe : R2D := rII CAny fun i j => .bl (decide (i <= j))
abbrev rGt : R2D := rII CAny fun i j => .bl (decide (j < i))
abbrev rGe : R2D := rII CAny fun i j => .bl (decide (j <= i))
abbrev rNeg : R1D := rU1 fun i => .int (-i)
abbrev rAbs : RAD := rI1 (fun _ => True) fun i => .int i.natAbs
structure Ad where
  inst : Value -> Value -> Option Bool
  own : Addr -> Option (List Str) -> List D -> Option Str
  exm : Addr -> Value -> Option Bool
  cls : List Addr
  obj : List Addr
  exs : List Addr
  at_ : Nat -> Addr
  fdS : FuncData
namespace Ad
abbrev slip (ad : Ad) : Addr := ad.at_ 0
abbrev SlipError (ad : Ad) : Addr := ad.at_ 1
abbrev Worth (ad : Ad) : Addr := ad.at_ 2
abbrev Form (ad : Ad) : Addr := ad.at_ 3
end Ad
def inS (ad : Ad) (C : Addr) : Bool := ad.cls.contains C
def inE (ad : Ad) (C : Addr) : Bool := ad.exs.contains C
def inO (ad : Ad) (C : Addr) : Bool := ad.obj.contains C
inductive Kd where
  | non | bl | int | str | tup | lst | dct | cls (C : Addr) | exc (C : Addr)
def Kd.ty : Kd -> Value
  | .non => .type "NoneType"
  | .bl => .type "bool"
  | .int => .type "int"
  | .str => .type "str"
  | .tup => .type "tuple"
  | .lst => .type "list"
  | .dct => .type "dict"
  | .cls C => .ref C
  | .exc C => .ref C
def kdD (ad : Ad) (T : Td) : D -> Option Kd
  | .non => some .non
  | .bl _ => some .bl
  | .int _ => some .int
  | .str _ => some .str
  | .tup _ => some .tup
  | .lst _ => some .lst
  | .dct _ _ => some .dct
  | .slo C _ => if inS ad C = true then some (.cls C) else none
  | .obj C _ _ => if inO ad C = true then some (.cls C) else none
  | .exc (.ref C) _ _ => if inE ad C = true then some (.exc C) else none
  | .ref a => match T a with
    | some (.lst _) => some .lst
    | some (.dct _ _) => some .dct
    | some (.ins C _ _) => if inO ad C = true then some (.cls C) else none
    | _ => none
  | _ => none
theorem ty_kd {ad : Ad} {T : Td} {x : D} {k : Kd} (h : kdD ad T x = some k) : tyD (inS ad) (inE ad) (inO ad) T x = some k.ty := by
  unfold kdD at h
  split at h
  all_goals try (cases h; done)
  all_goals try (cases h; rfl)
  all_goals try (split at h <;> first | (cases h; done) | (rename_i e; cases h; simp only [tyD]; rw [if_pos e]; rfl))
  rename_i a
  split at h
  . rename_i e
    cases h
    simp only [tyD, e]
    rfl
  . rename_i e
    cases h
    simp only [tyD, e]
    rfl
  . rename_i e
    split at h
    . rename_i c
      cases h
      simp only [tyD, e]
      rw [if_pos c]
      rfl
    . cases h
  . cases h
def names6 : List String := ["int", "bool", "str", "tuple", "list", "dict"]
def names7 : List String := ["NoneType", "bool", "int", "str", "tuple", "list", "dict"]
def Kd.is : Kd -> String -> Bool
  | .int, n => n == "int"
  | .bl, n => n == "int" || n == "bool"
  | .str, n => n == "str"
  | .tup, n => n == "tuple"
  | .lst, n => n == "list"
  | .dct, n => n == "dict"
  | _, _ => false
structure AdB (ad : Ad) : Prop where
  b : ∀ m n r, kitB m n = some r -> ad.inst (.type m) (.type n) = some r
  ct : ∀ C, (inS ad C || inO ad C) = true -> ∀ n ∈ names6, ad.inst (.ref C) (.type n) = some false
  cc : ∀ C, (inS ad C || inO ad C || inE ad C) = true -> ad.inst (.ref C) (.ref C) = some true
  nc : ∀ C, (inS ad C || inO ad C || inE ad C) = true -> ∀ n ∈ names7, ad.inst (.type n) (.ref C) = some false
  cd : ∀ C D, (inS ad C || inO ad C) = true -> (inS ad D || inO ad D) = true -> C ≠ D -> ad.inst (.ref C) (.ref D) = some false
theorem inst_n {ad : Ad} (o : AdB ad) {T : Td} {x : D} {k : Kd} (h : kdD ad T x = some k) (he : ∀ C, k ≠ .exc C) {n : String} (hn : n ∈ names6) : ad.inst k.ty (.type n) = some (k.is n) := by
  cases k with
  | cls C =>
    have hc : (inS ad C || inO ad C) = true := by
      unfold kdD at h
      split at h <;> try (cases h; done)
      . split at h
        . rename_i e; cases h; rw [e]; rfl
        . cases h
      . split at h
        . rename_i e; cases h; rw [e, Bool.or_true]
        . cases h
      . split at h <;> cases h
      . split at h <;> try (cases h; done)
        split at h
        . rename_i e; cases h; rw [e, Bool.or_true]
        . cases h
    exact o.ct C hc n hn
  | exc C => exact absurd rfl (he C)
  | _ =>
    refine o.b _ _ _ ?_
    unfold names6 at hn
    simp only [List.mem_cons, List.not_mem_nil, or_false] at hn
    rcases hn with rfl | rfl | rfl | rfl | rfl | rfl <;> decide +kernel
end K1
namespace K1
open PySem PySem.Spec PyProof.Rows L2 VX DL RQ
section
variable {ad : Ad} {T : Td} {Q : KD} {E : XD} {i j : Int} {x y : D}
theorem sz {n : Nat} (h : n <= 10000) : n <= sizeLine := by rw [sizeLine_eq]; omega
theorem sz_ {n : Nat} (h : n.ble 10000 = true) : n <= sizeLine := sz (Nat.le_of_ble_eq_true h)
theorem bi {x : Int} (h : x.natAbs < 2 ^ 64) : Builtin.Int.intBits x <= 64 := intBits_le_iff.2 h
theorem q_add (q : Q (.int (i + j)) T) : O2 rAdd (.int i) (.int j) T Q E := ⟨⟨trivial, q⟩⟩
theorem q_mulL (h : i.natAbs < 2 ^ 64) (q : Q (.int (i * j)) T) : O2 rMul (.int i) (.int j) T Q E := ⟨⟨.of_left (bi h), q⟩⟩
theorem q_mulR (h : j.natAbs < 2 ^ 64) (q : Q (.int (i * j)) T) : O2 rMul (.int i) (.int j) T Q E := ⟨⟨.of_right (bi h), q⟩⟩
theorem log2_lt {n k m : Nat} (h : n < 2 ^ k) (hm : k <= m) (h0 : 0 < m) : n.log2 < m := by
  by_cases e : n = 0
  . subst e; simpa using h0
  . exact Nat.lt_of_lt_of_le ((Nat.log2_lt e).2 h) hm
theorem q_fdv (h0 : j ≠ 0) (h : j.natAbs < 2 ^ 8999) (q : Q (.int (i.fdiv j)) T) : O2 rFdv (.int i) (.int j) T Q E := ⟨⟨⟨h0, log2_lt h (by decide) (by decide)⟩, q⟩⟩
theorem lt_8999 {n : Nat} (k : Nat) (h : n < 2 ^ k) (hk : k <= 8999) : n < 2 ^ 8999 := Nat.lt_of_lt_of_le h (Nat.pow_le_pow_right (by decide) hk)
theorem q_fdvS (h0 : j ≠ 0) (h : j.natAbs < 2 ^ 64) (q : Q (.int (i.fdiv j)) T) : O2 rFdv (.int i) (.int j) T Q E := q_fdv h0 (lt_8999 64 h (by decide)) q
theorem q_mod (h0 : j ≠ 0) (q : Q (.int (i.fmod j)) T) : O2 rMod (.int i) (.int j) T Q E := ⟨⟨h0, q⟩⟩
theorem q_pow (h : CPw i j) (q : Q (.int (i ^ j.toNat)) T) : O2 rPow (.int i) (.int j) T Q E := ⟨⟨h, q⟩⟩
theorem q_lt (q : Q (.bl (decide (i < j))) T) : O2 rLt (.int i) (.int j) T Q E := ⟨⟨trivial, q⟩⟩
theorem q_le (q : Q (.bl (decide (i <= j))) T) : O2 rLe (.int i) (.int j) T Q E := ⟨⟨trivial, q⟩⟩
theorem q_gt (q : Q (.bl (decide (j < i))) T) : O2 rGt (.int i) (.int j) T Q E := ⟨⟨trivial, q⟩⟩
theorem q_ge (q : Q (.bl (decide (j <= i))) T) : O2 rGe (.int i) (.int j) T Q E := ⟨⟨trivial, q⟩⟩
theorem q_neg (q : Q (.int (-i)) T) : O1 rNeg (.int i) T Q E := ⟨q⟩
theorem q_abs (q : Q (.int i.natAbs) T) : OL rAbs [.int i] T Q E := ⟨⟨trivial, q⟩⟩
theorem q_max (q : Q (.int (max i j)) T) : OL rMax [.int i, .int j] T Q E := ⟨q⟩
theorem q_min (q : Q (.int (min i j)) T) : OL rMin [.int i, .int j] T Q E := ⟨q⟩
theorem q_int (q : Q (.int i) T) : OL rIntS [.int i] T Q E := ⟨q⟩
theorem q_intb {b : Bool} (q : Q (.int (if b then 1 else 0)) T) : OL rIntS [.bl b] T Q E := ⟨q⟩
theorem q_eqI (q : Q (.bl (decide (i = j))) T) : O2 rEqS (.int i) (.int j) T Q E := ⟨q⟩
theorem q_neI (q : Q (.bl (!decide (i = j))) T) : O2 rNeS (.int i) (.int j) T Q E := ⟨q⟩
theorem q_eqT {s t : Str} (q : Q (.bl (decide (s = t))) T) : O2 rEqS (.str s) (.str t) T Q E := ⟨q⟩
theorem q_neT {s t : Str} (q : Q (.bl (!decide (s = t))) T) : O2 rNeS (.str s) (.str t) T Q E := ⟨q⟩
theorem q_eqN {g : Bool -> Bool} {d e : PyData} (hx : pyD T x = some d) (hy : pyD T y = some e) (s1 : SeqAt.shaped d = true) (s2 : SeqAt.shaped e = true) (q : Q (.bl (g (PyData.eqv d e))) T) : O2 (rEqN g) x y T Q E := ⟨by unfold rEqN; rw [hx, hy]; exact ⟨s1, s2, q⟩⟩
theorem q_addS {s t : Str} (h : s.length + t.length <= sizeLine) (q : Q (.str (s ++ t)) T) : O2 rSS (.str s) (.str t) T Q E := ⟨⟨h, q⟩⟩
theorem q_str (h : i.natAbs < 2 ^ 1919) (q : Q (.str (toString i)) T) : OL rStr [.int i] T Q E := ⟨⟨log2_lt h (by decide) (by decide), q⟩⟩
theorem q_strS {s : Str} (q : Q (.str s) T) : OL rStr [.str s] T Q E := ⟨q⟩
theorem q_sign {c : Nat} {z : Str} (q : Q (.bl (decide (c ∈ z.cps.toList))) T) : O2 (rSign false) (.str ⟨#[c]⟩) (.str z) T Q E := ⟨⟨c, rfl, q⟩⟩
theorem q_lenS {s : Str} (h : s.length <= sizeLine) (q : Q (.int s.length) T) : OL rLenU [.str s] T Q E := ⟨⟨h, q⟩⟩
theorem q_lenL {xs : List D} (q : Q (.int xs.length) T) : OL rLenU [.lst xs] T Q E := ⟨q⟩
theorem q_lenT {xs : List D} (q : Q (.int xs.length) T) : OL rLenU [.tup xs] T Q E := ⟨q⟩
theorem q_ix {xs : List D} {n : Nat} (hx : itemsD T x = some xs) (h : xs[n]? = some y) (q : Q y T) : O2 DL.rIx x (.int n) T Q E := ⟨by
  have hn : n < xs.length := (List.getElem?_eq_some_iff.1 h).1
  have e : atI xs (n : Int) = some y := by
    unfold atI ixN
    rw [if_pos (by omega), if_pos (by omega)]
    exact h
  simp only [DL.rIx, hx, e]
  exact q⟩
theorem q_ixI {xs : List D} (hx : itemsD T x = some xs) (h0 : 0 <= i) (h : xs[i.toNat]? = some y) (q : Q y T) : O2 DL.rIx x (.int i) T Q E := by
  have := q_ix (E := E) hx h q
  rwa [Int.toNat_of_nonneg h0] at this
theorem q_ix0 {xs : List D} (hx : itemsD T x = some (y :: xs)) (q : Q y T) : O2 DL.rIx x (.int 0) T Q E := q_ix (n := 0) hx rfl q
theorem q_ix1 {z : D} {xs : List D} (hx : itemsD T x = some (z :: y :: xs)) (q : Q y T) : O2 DL.rIx x (.int 1) T Q E := q_ix (n := 1) hx rfl q
theorem q_ix2 {z u : D} {xs : List D} (hx : itemsD T x = some (z :: u :: y :: xs)) (q : Q y T) : O2 DL.rIx x (.int 2) T Q E := q_ix (n := 2) hx rfl q
theorem bls_map : ∀ bs : List Bool, blsD (bs.map D.bl) = some bs
  | [] => rfl
  | b :: bs => by rw [List.map_cons, blsD, bls_map bs]; rfl
theorem q_allL {f : List Bool -> Bool} {bs : List Bool} (q : Q (.bl (f bs)) T) : OL (rAllD f) [.lst (bs.map D.bl)] T Q E := ⟨⟨rfl, by rw [bls_map]; exact q⟩⟩
theorem q_isi {k : Kd} {c : D} {u : Value} {b : Bool} (hk : kdD ad T x = some k) (hc : clsV c = some u) (hi : ad.inst k.ty u = some b) (q : Q (.bl b) T) : OL (rIsiD (inS ad) (inE ad) (inO ad) ad.inst) [x, c] T Q E := ⟨by
  simp only [rIsiD, ty_kd hk, hc, hi]
  exact q⟩
theorem q_isin (o : AdB ad) {k : Kd} {n : String} (hk : kdD ad T x = some k) (he : ∀ C, k ≠ .exc C) (hn : n ∈ names6) (q : Q (.bl (k.is n)) T) : OL (rIsiD (inS ad) (inE ad) (inO ad) ad.inst) [x, .val (.ty n)] T Q E :=
  q_isi hk rfl (inst_n o hk he hn) q
theorem n_int : "int" ∈ names6 := by simp [names6]
theorem n_bool : "bool" ∈ names6 := by simp [names6]
theorem n_str : "str" ∈ names6 := by simp [names6]
theorem n_tuple : "tuple" ∈ names6 := by simp [names6]
theorem q_repr {n : Nat} {t : Str} (h : reprD ad.own x = some t) (hd : depthD x <= n) (q : Q (.str t) T) : OL (rRepr ad.own n) [x] T Q E := ⟨⟨hd, by rw [h]; exact q⟩⟩
end
end K1
namespace K1
open PySem PySem.Spec PyProof.Rows L2 VX DL RQ TL
def isDig (c : Nat) : Bool := decide (c ∈ tl ("0123456789" : Str))
def qText (q : Rat) : Str := if q.den = 1 then Str.ofString (toString q.num) else (Str.ofString (toString q.num) ++ "/") ++ Str.ofString (toString (q.den : Int))
def rText (q : Rat) : Str := if q.den = 1 then ("Worth(" ++ Str.ofString (toString q.num)) ++ ")" else ((("Worth(" ++ Str.ofString (toString q.num)) ++ ", ") ++ Str.ofString (toString (q.den : Int))) ++ ")"
theorem eapp (s : Str) : Str.empty ++ s = s := ext_tl (by rw [tl_append]; rfl)
theorem slen {s t : Str} : (s ++ t).length = s.length + t.length := Str.length_append ..
theorem cut2 (s : Str) : tl (cutS s (some 1) none) = (tl s).drop 1 := by
  show ((tl s).drop (HT.sIx s.length 0 (some 1))).take (HT.sIx s.length s.length none - HT.sIx s.length 0 (some 1)) = _
  rw [show HT.sIx s.length 0 (some 1) = min 1 s.length from HT.sIx_nat _ _ 1, HT.sIx_none, len_tl]
  by_cases h : (tl s).length = 0
  . rw [List.length_eq_zero_iff.1 h]; rfl
  . rw [Nat.min_eq_left (by omega), List.take_of_length_le (by rw [List.length_drop]; omega)]
end K1
namespace K1
open PySem PySem.Spec PyProof.Rows L2 VX DL RQ
namespace Ad
abbrev BadWorth (ad : Ad) : Addr := ad.at_ 4
abbrev NoQuotient (ad : Ad) : Addr := ad.at_ 5
abbrev BadText (ad : Ad) : Addr := ad.at_ 6
abbrev p_above (ad : Ad) : Addr := ad.at_ 7
abbrev p_below (ad : Ad) : Addr := ad.at_ 8
abbrev m_Winit (ad : Ad) : Addr := ad.at_ 12
abbrev m_Wnumber (ad : Ad) : Addr := ad.at_ 13
abbrev m_Wunder (ad : Ad) : Addr := ad.at_ 14
abbrev m_Wtext (ad : Ad) : Addr := ad.at_ 15
abbrev m_Weq (ad : Ad) : Addr := ad.at_ 18
abbrev c_l_fine (ad : Ad) : Addr := ad.at_ 34
abbrev p_Wtext (ad : Ad) : Addr := ad.at_ 36
abbrev p_Wnumber (ad : Ad) : Addr := ad.at_ 38
abbrev p_Wunder (ad : Ad) : Addr := ad.at_ 39
abbrev BadForm (ad : Ad) : Addr := ad.at_ 40
abbrev NoUnknown (ad : Ad) : Addr := ad.at_ 41
abbrev m_Finit (ad : Ad) : Addr := ad.at_ 64
abbrev m_Wabs (ad : Ad) : Addr := ad.at_ 100
abbrev m_Frepr (ad : Ad) : Addr := ad.at_ 108
abbrev BadPoint (ad : Ad) : Addr := ad.at_ 145
abbrev Missing (ad : Ad) : Addr := ad.at_ 146
abbrev BadConditions (ad : Ad) : Addr := ad.at_ 159
abbrev TooMany (ad : Ad) : Addr := ad.at_ 160
abbrev BadProcedure (ad : Ad) : Addr := ad.at_ 161
abbrev Contrary (ad : Ad) : Addr := ad.at_ 162
abbrev NoLine (ad : Ad) : Addr := ad.at_ 163
abbrev NotFree (ad : Ad) : Addr := ad.at_ 164
abbrev BadBound (ad : Ad) : Addr := ad.at_ 165
abbrev Open (ad : Ad) : Addr := ad.at_ 166
abbrev BadThings (ad : Ad) : Addr := ad.at_ 167
abbrev BadErrors (ad : Ad) : Addr := ad.at_ 168
abbrev BadReadings (ad : Ad) : Addr := ad.at_ 169
abbrev NoWay (ad : Ad) : Addr := ad.at_ 170
abbrev BadWish (ad : Ad) : Addr := ad.at_ 171
abbrev NoThing (ad : Ad) : Addr := ad.at_ 172
abbrev BadWord (ad : Ad) : Addr := ad.at_ 173
abbrev Unlike (ad : Ad) : Addr := ad.at_ 174
abbrev BadWishes (ad : Ad) : Addr := ad.at_ 175
abbrev BadOffers (ad : Ad) : Addr := ad.at_ 176
abbrev Over (ad : Ad) : Addr := ad.at_ 177
abbrev NoVariable (ad : Ad) : Addr := ad.at_ 178
abbrev NotNext (ad : Ad) : Addr := ad.at_ 179
abbrev NothingToUndo (ad : Ad) : Addr := ad.at_ 180
abbrev NothingToRedo (ad : Ad) : Addr := ad.at_ 181
abbrev BadJournal (ad : Ad) : Addr := ad.at_ 182
abbrev BadLine (ad : Ad) : Addr := ad.at_ 183
abbrev Impossible (ad : Ad) : Addr := ad.at_ 184
abbrev im (ad : Ad) : Addr := ad.at_ 333
end Ad
end K1
namespace K1
open PySem PySem.Spec PyProof.Rows L2 VX DL RQ
structure OwnR0 (P : Program) (w : World) (K : PySem.W.Frag) (mg : Str -> Option Value) (base : Heap) (k : Nat) (own : Addr -> Option (List Str) -> List D -> Option Str) : Prop where
  ex : ∀ C n xs t, own C n xs = some t -> ∃ f, PySem.W.findIn K (.ref C) "__repr__" = some (some (.ref f)) /\ PySem.W.isFn K (.ref f) = true /\
    FnR P w K mg base (L2.CX P w) k f (liftSp K fun ds T Q _ => ds = [ownD C n xs] /\ Q (.str t) T)
def wq (ad : Ad) (q : Rat) : D := .slo ad.Worth [.int q.num, .int q.den]
def fq (q : Rat) : D := .tup [.int q.num, .int q.den]
inductive Num (ad : Ad) : D -> Rat -> Prop where
  | int (i : Int) : Num ad (.int i) (i : Rat)
  | w (q : Rat) : Num ad (wq ad q) q
def NoExc (k : Kd) : Prop := ∀ C, k ≠ .exc C
def TxtOk (q : Rat) : Prop := q.num.natAbs < 2 ^ 1919 /\ q.den < 2 ^ 1919
structure AdW (ad : Ad) : Prop extends AdB ad where
  ws : inS ad ad.Worth = true
  wo : ∀ q : Rat, TxtOk q -> ad.own ad.Worth none [.int q.num, .int q.den] = some (rText q)
structure sp_is_integer (ad : Ad) (xs : List D) (T : Td) (Q : KD) (E : XD) : Prop where
  h : ∃ x k, xs = [x] /\ kdD ad T x = some k /\ NoExc k /\ Q (.bl (k.is "int" && !k.is "bool")) T
structure sp_common_divisor (ad : Ad) (xs : List D) (T : Td) (Q : KD) (E : XD) : Prop where
  h : ∃ a b : Nat, xs = [.int a, .int b] /\ Q (.int (Nat.gcd a b)) T
def excD (C : Addr) (x : D) : Ex := ⟨.ref C, ["value"], [x]⟩
structure sp_Winit (ad : Ad) (xs : List D) (T : Td) (Q : KD) (E : XD) : Prop where
  h : ∃ a n u, xs = [.ref a, n, u] /\ T a = some (.slo ad.Worth []) /\
  ((∃ i j : Int, n = .int i /\ u = .int j /\ j ≠ 0 /\ j.natAbs < 2 ^ 8999 /\ Q .non (tput T a (.slo ad.Worth [some (.int (Rat.divInt i j).num), some (.int (Rat.divInt i j).den)]))) \/
   (∃ p q, kdD ad T n = some p /\ kdD ad T u = some q /\ NoExc p /\ NoExc q /\ (p ≠ .int \/ q ≠ .int \/ u = .int 0) /\ E (excD ad.BadWorth (.tup [n, u])) T))
structure sp1_Winit (ad : Ad) (xs : List D) (T : Td) (Q : KD) (E : XD) : Prop where
  h : sp_Winit ad (xs ++ [.int 1]) T Q E
structure sp_Wnumber (ad : Ad) (xs : List D) (T : Td) (Q : KD) (E : XD) : Prop where
  h : ∃ q, xs = [wq ad q] /\ Q (.int q.num) T
structure sp_Wunder (ad : Ad) (xs : List D) (T : Td) (Q : KD) (E : XD) : Prop where
  h : ∃ q : Rat, xs = [wq ad q] /\ Q (.int q.den) T
structure sp_Wtext (ad : Ad) (xs : List D) (T : Td) (Q : KD) (E : XD) : Prop where
  h : ∃ q, xs = [wq ad q] /\ TxtOk q /\ Q (.str (qText q)) T
structure sp_Wrepr (ad : Ad) (xs : List D) (T : Td) (Q : KD) (E : XD) : Prop where
  h : ∃ q, xs = [wq ad q] /\ TxtOk q /\ Q (.str (rText q)) T
structure sp_Weq (ad : Ad) (xs : List D) (T : Td) (Q : KD) (E : XD) : Prop where
  h : ∃ p y, xs = [wq ad p, y] /\ ((∃ q, y = wq ad q /\ Q (.bl (decide (p = q))) T) \/ (∃ k, kdD ad T y = some k /\ NoExc k /\ k ≠ .cls ad.Worth /\ Q (.bl false) T))
def JOk (n : Nat) (T : Td) (j : Addr) : Prop := ∃ a b c : Int, T j = some (.lst [.int a, .int b, .int c]) /\ 0 <= a /\ a.natAbs < 2 ^ 2000 /\ 0 <= b /\ b < 2 ^ 61 /\ 0 <= c /\ c <= n
def Ag (j : Addr) (T T' : Td) : Prop := ∀ b, b ≠ j -> T' b = T b
structure sp_l_jar (ad : Ad) (xs : List D) (T : Td) (Q : KD) (E : XD) : Prop where
  h : ∃ (zs : List Int) (k : Nat), xs = [.lst (zs.map D.int), .int k] /\ k <= 100 /\ (∀ z ∈ zs, Builtin.Int.intBits z <= 1048576) /\ ∀ j T', T j = none -> JOk 0 T' j -> Ag j T T' -> Q (.ref j) T'
structure sp_l_take (ad : Ad) (xs : List D) (T : Td) (Q : KD) (E : XD) : Prop where
  h : ∃ (j : Addr) (m : Int) (n : Nat), xs = [.ref j, .int m] /\ JOk n T j /\ n <= 2 ^ 40 /\ 1 <= m /\ m <= 10 ^ 8 /\ ∀ (r : Int) T', 0 <= r -> r < m -> JOk (n + 1) T' j -> Ag j T T' -> Q (.int r) T'
structure sp_l_of (ad : Ad) (xs : List D) (T : Td) (Q : KD) (E : XD) : Prop where
  h : ∃ (j : Addr) (ds : List D) (n : Nat), xs = [.ref j, .lst ds] /\ JOk n T j /\ n <= 2 ^ 40 /\ ds ≠ [] /\ ds.length <= 1000 /\ ∀ d T', d ∈ ds -> JOk (n + 1) T' j -> Ag j T T' -> Q d T'
end K1
namespace DL
open PySem PySem.Spec PyProof.Rows L2
section
variable {X : Cx} {W : WX} {pins : List (Addr × Obj)} {s : Shared} {σ : L2.St} {H : Hp} {sd : SD} {T : Td} {ED : XD} {C p g f : Addr} {fn : Str} {k : Nat} {sp : SpD} {e o value : Expr} {te ta tv : TDE} {pos pos' : Pos}
def rFldO (C : Addr) (fn : Str) : R1D := fun x T Q _ => ∃ ns xs d, insD C T x = some (ns, xs) /\ lookD fn ns xs = some d /\ Q d T
theorem ad_fldO (c : Cls X.K C) (n : NoAttr X.K C fn) : AttrD X W fn (rFldO C fn) := by
  intro pins s σ H Q sd T QD ED x vx v b I L r1 r2 ⟨ns, xs, d, e1, e2, h⟩
  obtain ⟨a, dx, vs, rfl, ea, l, rs⟩ := insD_V L.ok r1 e1
  obtain rfl : v = Value.ref a := r2
  obtain ⟨u, hu, ru⟩ := lookD_V rs e2
  exact getattr_ok I ea c n hu fun w s' I' rw' => L.here I' ru rw' h
def putNm (fn : Str) (ns : List Str) : List Str := if fn ∈ ns then ns else ns ++ [fn]
def putFs {α : Type} (fn : Str) (d : α) : List Str -> List α -> List α
  | n :: ns, x :: xs => if n = fn then d :: xs else x :: putFs fn d ns xs
  | _, _ => [d]
theorem putF_zip (fn : Str) (v : V) : ∀ {ns : List Str} {vs : List V}, ns.length = vs.length -> putF fn v (ns.zip vs) = (putNm fn ns).zip (putFs fn v ns vs) /\ (putNm fn ns).length = (putFs fn v ns vs).length
  | [], [], _ => ⟨rfl, rfl⟩
  | [], _ :: _, h => by cases h
  | _ :: _, [], h => by cases h
  | n :: ns, w :: vs, h => by
    obtain ⟨i1, i2⟩ := putF_zip fn v (ns := ns) (vs := vs) (by simpa using h)
    rw [List.zip_cons_cons]
    by_cases z : n = fn
    . subst z
      have e : putNm n (n :: ns) = n :: ns := by unfold putNm; rw [if_pos (by simp)]
      have e2 : putFs n v (n :: ns) (w :: vs) = v :: vs := by unfold putFs; rw [if_pos rfl]
      rw [e, e2, show putF n v ((n, w) :: ns.zip vs) = (n, v) :: ns.zip vs from if_pos rfl]
      exact ⟨rfl, by simpa using h⟩
    . have e2 : putFs fn v (n :: ns) (w :: vs) = w :: putFs fn v ns vs := by conv => lhs; unfold putFs; rw [if_neg z]
      have e : putNm fn (n :: ns) = n :: putNm fn ns := by
        unfold putNm
        by_cases y : fn ∈ ns
        . rw [if_pos (by simp [y]), if_pos y]
        . rw [if_neg (by simp [y, Ne.symm z]), if_neg y]; rfl
      rw [e, e2, show putF fn v ((n, w) :: ns.zip vs) = (n, w) :: putF fn v (ns.zip vs) from if_neg z, i1]
      exact ⟨rfl, by simpa using i2⟩
theorem putFs_RD {K : PySem.W.Frag} {d : D} {v : V} : ∀ {ns : List Str} {ds : List D} {vs : List V}, RDs K H T ds vs -> RD K H T d v -> RDs K H T (putFs fn d ns ds) (putFs fn v ns vs)
  | [], ds, vs, h, r => by
    have e1 : putFs fn d [] ds = [d] := by cases ds <;> rfl
    have e2 : putFs fn v [] vs = [v] := by cases vs <;> rfl
    rw [e1, e2]
    exact RDs.cons r RDs.nil
  | n :: ns, [], vs, h, r => by
    have h' : vs = [] := h
    subst h'
    exact RDs.cons r RDs.nil
  | n :: ns, x :: ds, vs, h, r => by
    obtain ⟨w, vs', rfl, h1, h2⟩ := h
    unfold putFs
    split
    . exact RDs.cons r h2
    . exact RDs.cons h1 (putFs_RD h2 r)
def dFld (C : Addr) (fn : Str) (ta tv : TDE) : TDS := fun Dn sd T => tv sd T (fun y T1 => ta sd T1 (fun x T2 => ∃ a ns xs, x = .ref a /\ T2 a = some (.ins C ns xs) /\ ns.length < 1000 /\ Dn.nx sd (tput T2 a (.ins C (putNm fn ns) (putFs fn y ns xs)))) (fun ex T1 => Dn.xe ex sd T1)) (fun ex T1 => Dn.xe ex sd T1)
theorem ds_fld (c : Cls X.K C) (n : NoAttr X.K C fn) (ha : DE X W o ta) (hv : DE X W value tv) (hs : swapsWith value (some (.Attribute o fn pos')) pos.line X.env = pure false := by rfl) : DS X W (.Assign [.Attribute o fn pos'] value pos) (dFld C fn ta tv) := by
  refine PS.imp (ps_fld ha hv hs) fun De σ H ⟨sd, T, DD, st, ok, L, q⟩ => ?_
  refine ⟨sd, T, _, _, ⟨st, ok, fun y T1 vy H1 k r o f1 => ?_, L.exok st⟩, q⟩
  refine ⟨sd, T1, _, _, ⟨st.mono f1, o, fun x T2 vx H2 k2 r2 o2 f2 => ?_, EXok.go (L.exok st) f1⟩, k⟩
  obtain ⟨a, ns, xs, rfl, ht, hl, k2⟩ := k2
  obtain ⟨dx, vs, h1, h2, h3, h4, h5⟩ := o2 a _ ht
  obtain ⟨ez, el⟩ := putF_zip fn vy h4
  refine ⟨a, C, dx, _, r2, h1, c, n, by rw [List.length_zip, <- h4]; omega, ?_⟩
  rw [ez]
  have ne : dx ≠ a := fun z => by rw [z, h1] at h3; cases h3
  have fw : Fr H2 T2 (upd H2 a (.ins C dx ((putNm fn ns).zip (putFs fn vy ns vs)))) (tput T2 a (.ins C (putNm fn ns) (putFs fn y ns xs))) := Fr.write ht
  refine L.nx sd _ _ _ k2 (((st.mono f1).mono f2).mono fw) (o2.write ht ?_) ((f1.trans f2).trans fw)
  exact ⟨dx, _, upd_same, by rw [tput_ne ne]; exact h2, by rw [upd_ne ne]; exact h3, el, RDs.mono fw _ (putFs_RD h5 (RD.mono f2 y r))⟩
def rMakeI (C : Addr) (sp : SpD) : RAD := fun xs T Q E => ∀ x, T x = none -> sp (.ref x :: xs) (tput T x (.ins C [] [])) (fun r T2 => r = .non /\ ∃ ns ys, T2 x = some (.ins C ns ys) /\ Q (.obj C ns ys) (tdel T2 x)) (fun ex T2 => E ex (tdel T2 x))
theorem make_go [Gd] {xs : List D} {vs : List V} {us : List Value} {Q : VK} {QD : D -> Td -> Prop} {R : Addr -> D -> Td -> Prop} (b : Bd (k + 1) X W) (M : Mk X.K C f) (F : GR X.prog X.w X.K X.mg X.base f k sp)
    (I : Inv X pins σ H s) (L : LE X.K W σ H Q sd T QD ED) (rs : RDs X.K H T xs vs) (r : Vals vs us)
    (h : ∀ x, T x = none -> sp (.ref x :: xs) (tput T x (.ins C [] [])) (fun r T2 => r = .non /\ R x .non T2) (fun ex T2 => ED ex (tdel T2 x)))
    (hR : ∀ x T2 H', H x = none -> R x .non T2 -> DOk X.K H' T2 -> (∀ a o, H a = some o -> T a = none -> H' a = some o /\ T2 a = none) -> Q (.ref x) H') : wpAny (model X.prog X.w) X.A (call (.ref C) us) (EP X pins σ Q) X.xe s := by
  have n1 : H (s.heap.objs.size + 1) = none := I.hok.fresh (Nat.le_succ _)
  have n0 : H s.heap.objs.size = none := I.hok.fresh (Nat.le_refl _)
  have ne : s.heap.objs.size ≠ s.heap.objs.size + 1 := Nat.ne_of_lt (Nat.lt_succ_self _)
  have I1 := Inv.made (C := C) I
  generalize hH1 : upd (upd H s.heap.objs.size (.own (s.heap.objs.size + 1))) (s.heap.objs.size + 1) (.ins C s.heap.objs.size []) = H1 at I1
  have same : ∀ c, c ≠ s.heap.objs.size + 1 -> c ≠ s.heap.objs.size -> H1 c = H c := fun c h1 h2 => by rw [<- hH1, upd_ne h1, upd_ne h2]
  obtain ⟨fr, ok⟩ := laid2 (u := .ins C [] []) L.ok n1 n0 same ⟨s.heap.objs.size, [], by rw [<- hH1]; exact upd_same, by rw [tput_ne ne]; exact L.ok.fresh n0, by rw [<- hH1, upd_ne ne]; exact upd_same, rfl, RDs.nil⟩
  have hq := h _ (L.ok.fresh n1)
  have L2' : LE X.K W σ H1 (fun v H' => v = .non /\ Q (.ref (s.heap.objs.size + 1)) H') sd (tput T (s.heap.objs.size + 1) (.ins C [] [])) (fun r T2 => r = .non /\ R (s.heap.objs.size + 1) .non T2) (fun ex T2 => ED ex (tdel T2 (s.heap.objs.size + 1))) := by
    refine ⟨L.st.mono fr, ok, ?_, fun ex T' c da H' a b c' d => L.x ex _ c da H' a (b.mono Fr.free) c'.free ((fr.trans d).trans Fr.free)⟩
    rintro d T2 v H' ⟨ed, hQ⟩ rd o2 f2
    subst ed
    exact ⟨rd, hR _ T2 H' n1 hQ o2 (fr.trans f2)⟩
  refine wpAny_call (make_map (f := f) I.kIn M.makes M.init (beq_iff_eq.mp M.fn) (codeAny_mono (F _ X.stack _ _ (Value.ref (s.heap.objs.size + 1) :: us) (V.ref (s.heap.objs.size + 1) :: vs) _ (WE W σ) (b.hr.make C us []) (make_guards b.hg) (I1.env0.make C us []) (.cons rfl r)
    (sp_of L2' (RDs.cons (d := .ref (s.heap.objs.size + 1)) rfl (RDs.mono fr xs rs)) L2'.ok Fr.refl hq)) fun r s' hq' => ?_))
  cases r with
  | error e => exact passAt b.tk σ pins _ _ e s' I1 hq'
  | ok fl =>
    cases fl with
    | ret u =>
      obtain ⟨v, H', I3, rv, ev, q3⟩ := I1.after hq'
      subst ev
      exact ⟨rv, ⟨V.ref (s.heap.objs.size + 1), H', I3, rfl, q3⟩⟩
    | next => exact False.elim hq'
    | brk => exact False.elim hq'
    | cont => exact False.elim hq'
theorem cd_makeI [Gd] (b : Bd (k + 1) X W) (M : Mk X.K C f) (F : GR X.prog X.w X.K X.mg X.base f k sp) : CallD X W (.ref C) (rMakeI C sp) := by
  intro pins s σ H Q sd T QD ED xs vs us I L rs r h
  refine make_go b M F I L rs r (R := fun x _ T2 => ∃ ns ys, T2 x = some (.ins C ns ys) /\ QD (.obj C ns ys) (tdel T2 x)) h fun x T2 H' n0 ⟨ns, ys, e, q⟩ o2 f2 => ?_
  obtain ⟨dx, vs, h1, h2, h3, l, rs'⟩ := o2 x _ e
  exact L.q _ _ _ _ q ⟨x, dx, vs, rfl, tdel_same, tdel_none h2, h3, h1, l, RDs.mono Fr.free ys rs'⟩ o2.free (Fr.trans f2 Fr.free)
end
end DL
namespace DL
open PySem PySem.Spec PyProof.Rows L2
theorem frz_ok {K : PySem.W.Frag} {H : Hp} {T : Td} {a : Addr} {od : Obj} {ks : List Key} {ds : List D} {u : List (Key × V)} (ok : DOk K H T) (ht : T a = some (.dct ks ds)) : Fr H T (upd H a (.frz od (.dK u))) (tdel T a) /\ DOk K (upd H a (.frz od (.dK u))) (tdel T a) := by
  have fr : Fr H T (upd H a (.frz od (.dK u))) (tdel T a) := fun b w eb nb => by
    have z : b ≠ a := fun z => by rw [z, ht] at nb; cases nb
    exact ⟨by rw [upd_ne z]; exact eb, by rw [tdel_ne z]; exact nb⟩
  refine ⟨fr, fun b w eb => ?_⟩
  have z : b ≠ a := fun z => by rw [z, tdel_same] at eb; cases eb
  rw [tdel_ne z] at eb
  exact (ok b w eb).mono fr (upd_ne z)
def dDcL (g : TDG) (tt : TDT) (tk tv : TDE) (gd : Td -> Prop) (P : Addr) (k : Td -> Prop) (sd : SD) : List D -> Td -> Prop
  | [], T => gd T /\ k T
  | x :: xs, T => gd T /\ g x sd T fun sd2 T2 => tt sd2 T2 (fun b T3 => IfP b (tk sd2 T3 (fun y T4 => tv sd2 T4 (fun z T5 => ∃ q ks ds, kOf y = some q /\ T5 P = some (.dct ks ds) /\ ks.length < sizeLine /\
      dDcL g tt tk tv gd P k sd xs (tput T5 P (.dct (kputK ks q) (kputD ks ds q z)))) (fun _ _ => False)) (fun _ _ => False)) (dDcL g tt tk tv gd P k sd xs T3)) (fun _ _ => False)
def dDc (wi : TDI) (g : TDG) (tt : TDT) (tk tv : TDE) (vs : List Nat) : TDE := fun sd T Q E => wi sd T (fun items gd T1 => ∀ P, T1 P = none -> dDcL g tt tk tv gd P (fun T' => ∃ ks ds, T' P = some (.dct ks ds) /\ Q (.dct ks ds) (tdel T' P)) (wipeD sd vs) items (tput T1 P (.dct [] []))) E
section
variable {X : Cx} {W : WX} {vs : List Nat}
theorem dc_lift {wi : TDI} {g : TDG} {tt : TDT} {tk tv : TDE} {sd : SD} {T : Td} {σ : L2.St} {H : Hp} {Q : VK} {ED : XD} {kD : Addr -> Td -> Prop} (st : StOk X.K H T sd σ) (ok : DOk X.K H T) (hx : EXok X W σ H T ED)
    (hk : ∀ P T' H', kD P T' -> DOk X.K H' T' -> Fr H T H' T' -> Q (.ref P) H')
    (q : wi sd T (fun items gd T1 => ∀ P, T1 P = none -> dDcL g tt tk tv gd P (kD P) (wipeD sd vs) items (tput T1 P (.dct [] []))) ED) :
    tDc (liftI X.K W wi) (liftGw X.K vs g) (liftT X.K WN tt) (liftE X.K WN tk) (liftE X.K WN tv) vs σ H Q := by
  refine ⟨sd, T, _, ED, st, ok, hx, fun items gd T1 J H1 k it o1 f1 P nP => ?_, q⟩
  have nT := o1.fresh nP
  have fP : Fr H1 T1 (upd H1 P (.dK [])) (tput T1 P (.dct [] [])) := Fr.laidT nP
  have oP : DOk X.K (upd H1 P (.dK [])) (tput T1 P (.dct [] [])) := o1.laidT nP ⟨[], upd_same, rfl, rfl⟩
  refine ⟨fun i m H2 => m = items.length - i /\ i <= items.length /\ ∃ T2, DOk X.K H2 T2 /\ Fr H1 T1 H2 T2 /\ dDcL g tt tk tv gd P (kD P) (wipeD sd vs) (items.drop i) T2, ⟨_, rfl, Nat.zero_le _, _, oP, fP, k P nT⟩, ?_⟩
  rintro i m H2 ⟨rfl, hi, T2, o2, f2, q2⟩
  by_cases hlt : i < items.length
  . rw [List.drop_eq_getElem_cons hlt] at q2
    obtain ⟨gd2, q2⟩ := q2
    obtain ⟨go, yl⟩ := (it i H2 T2 f2 o2 gd2).1 hlt
    refine .inr ⟨go, fun H3 => ∃ T3, DOk X.K H3 T3 /\ Fr H1 T1 H3 T3 /\ dDcL g tt tk tv gd P (kD P) (wipeD sd vs) (items.drop (i + 1)) T3, fun H' w => ⟨items.length - (i + 1), by omega, rfl, hlt, w⟩, fun x H3 y => ?_⟩
    obtain ⟨d, hd, rd, o3, f3⟩ := yl x H3 y
    rw [List.getElem?_eq_getElem hlt] at hd
    cases hd
    have F3 := f2.trans f3
    refine ⟨_, wipeD sd vs, T2, _, (st.mono (f1.trans F3)).wipe vs, o3, rd, fun sd4 T4 σ4 H4 n4 s4 o4 f4 w4 => ⟨?_, ?_⟩, q2⟩
    . rw [w4]
      refine List.ext_getElem? fun j => ?_
      by_cases hm : j ∈ vs
      . rw [wipe_set.wiped hm, wipe_set.wiped hm, wipe_length]
      . rw [wipe_out hm, wipe_out hm]
    . have F4 := F3.trans f4
      refine ⟨sd4, T4, _, _, ⟨s4, o4, fun b T5 H5 k5 o5 f5 => ?_, fun _ _ _ _ _ z => z.elim⟩, n4⟩
      by_cases z : b = true
      . rw [if_pos z]
        replace k5 := k5.yes z
        refine ⟨sd4, T5, _, _, ⟨s4.mono f5, o5, fun y T6 vy H6 k6 r6 o6 f6 => ?_, fun _ _ _ _ _ z => z.elim⟩, k5⟩
        refine ⟨sd4, T6, _, _, ⟨(s4.mono f5).mono f6, o6, fun z T7 vz H7 k7 r7 o7 f7 => ?_, fun _ _ _ _ _ z => z.elim⟩, k6⟩
        obtain ⟨q, ks, ds, e1, ht, hs, k7⟩ := k7
        obtain ⟨av, ha, la, ra⟩ := o7 P _ ht
        have ey := kOf_V e1 r6
        subst ey
        have fw : Fr H7 T7 (upd H7 P (.dK ((kputK ks q).zip (kputD ks av q vz)))) (tput T7 P (.dct (kputK ks q) (kputD ks ds q z))) := Fr.write ht
        refine ⟨ks.zip av, q, rfl, ha, by rw [List.length_zip]; omega, ?_⟩
        rw [put_zip la]
        exact ⟨_, o7.write ht (show DObj X.K _ _ P (.dct _ _) from ⟨kputD ks av q vz, upd_same, kput_len la q vz, kputD_RD la (RDs.mono fw ds ra) (RD.mono fw z r7)⟩), (((F4.trans f5).trans f6).trans f7).trans fw, k7⟩
      . rw [if_neg z]
        replace k5 := k5.no z
        exact ⟨T5, o5, F4.trans f5, k5⟩
  . have e : i = items.length := by omega
    subst e
    rw [List.drop_length] at q2
    exact .inl ⟨(it _ H2 T2 f2 o2 q2.1).2 (Nat.le_refl _), hk P T2 H2 q2.2 o2 (f1.trans f2)⟩
end
section
variable {X : Cx} {W : WX} {kx vx tg iter : Expr} {ifs : List Expr} {scope : Scope} {own : List (Str × Nat)} {pos : Pos} {wi : TDI} {g : TDG} {tt : TDT} {tk tv : TDE}
theorem de_dc (hc : X.calm = true) (hN : X.N.Nodup) (hi : DI X W tg iter wi) (ok : BlkOk X.N X.env.scope scope own)
    (hg : ∀ (s : Shared) (H : Hp) (C : Addr) (cl : List (Str × Addr)) (fp : List Addr), DGw (X.blk s H scope (compEnvC scope cl C X.env) fp) (own.map (·.2)) tg g) (ht : ∀ (s : Shared) (H : Hp) (C : Addr) (cl : List (Str × Addr)) (fp : List Addr), DTs (X.blk s H scope (compEnvC scope cl C X.env) fp) WN ifs tt)
    (hk : ∀ (s : Shared) (H : Hp) (C : Addr) (cl : List (Str × Addr)) (fp : List Addr), DE (X.blk s H scope (compEnvC scope cl C X.env) fp) WN kx tk)
    (he : ∀ (s : Shared) (H : Hp) (C : Addr) (cl : List (Str × Addr)) (fp : List Addr), DE (X.blk s H scope (compEnvC scope cl C X.env) fp) WN vx tv) (hs : ∀ x, foldedSetIterable iter X.env x = pure x := by intro _; rfl) :
    DE X W (.DictComp kx vx [⟨tg, iter, ifs, 0⟩] scope pos) (dDc wi g tt tk tv (own.map (·.2))) :=
  PE.imp (pe_frz (pe_dc (g := liftGw X.K (own.map (fun x : Str × Nat => x.2)) g) (tt := liftT X.K WN tt) (tk := liftE X.K WN tk) (tv := liftE X.K WN tv) hc hN hi ok hg ht hk he hs)) fun σ H Q ⟨sd, T, QD, ED, L, q⟩ => by
    refine dc_lift L.st L.ok L.x (fun P T' H' k o f => ?_) q
    obtain ⟨ks, ds, ht, k⟩ := k
    obtain ⟨av, ha, la, ra⟩ := o P _ ht
    refine ⟨P, _, rfl, ha, fun od => ?_⟩
    obtain ⟨fr, ok2⟩ := frz_ok (od := od) (u := ks.zip av) o ht
    exact L.q (.dct ks ds) (tdel T' P) _ _ k ⟨P, od, av, rfl, tdel_same, upd_same, la, RDs.mono fr ds ra⟩ ok2 (f.trans fr)
end
end DL
namespace Srt
open PySem PySem.Spec PyProof.Rows
theorem lt_tri : ∀ a b : List Nat, ltCps a b = true \/ a = b \/ ltCps b a = true
  | [], [] => .inr (.inl rfl)
  | [], _ :: _ => .inl rfl
  | _ :: _, [] => .inr (.inr rfl)
  | x :: r, y :: t => by
    unfold ltCps
    rcases Nat.lt_trichotomy x y with h | h | h
    . left; simp [h]
    . subst h
      rcases lt_tri r t with q | q | q
      . left; simp [q]
      . right; left; rw [q]
      . right; right; simp [q]
    . right; right; simp [h]
theorem lt_irr : ∀ a : List Nat, ltCps a a = false
  | [] => rfl
  | x :: r => by unfold ltCps; simp [lt_irr r]
theorem lt_tr : ∀ a b c : List Nat, ltCps a b = true -> ltCps b c = true -> ltCps a c = true
  | [], [], _, h, _ => by simp [ltCps] at h
  | [], _ :: _, [], _, q => by simp [ltCps] at q
  | [], _ :: _, _ :: _, _, _ => rfl
  | _ :: _, [], _, h, _ => by simp [ltCps] at h
  | _ :: _, _ :: _, [], _, q => by simp [ltCps] at q
  | x :: r, y :: t, z :: u, h, q => by
    unfold ltCps at *
    simp only [Bool.or_eq_true, Bool.and_eq_true, decide_eq_true_eq, beq_iff_eq] at *
    rcases h with h | ⟨rfl, h⟩
    . rcases q with q | ⟨rfl, q⟩
      . exact .inl (Nat.lt_trans h q)
      . exact .inl h
    . rcases q with q | ⟨rfl, q⟩
      . exact .inl q
      . exact .inr ⟨rfl, lt_tr r t u h q⟩
def leS (a b : Str) : Bool := !ltCps b.cps.toList a.cps.toList
theorem leS_trans (a b c : Str) (h : leS a b = true) (q : leS b c = true) : leS a c = true := by
  unfold leS at *
  simp only [Bool.not_eq_true'] at *
  rcases lt_tri c.cps.toList a.cps.toList with w | w | w
  . exfalso
    rcases lt_tri b.cps.toList a.cps.toList with v | v | v
    . rw [v] at h; cases h
    . rw [v, w] at q; cases q
    . have := lt_tr _ _ _ w v
      rw [this] at q; cases q
  . rw [w]; exact lt_irr _
  . cases e : ltCps c.cps.toList a.cps.toList with
    | false => rfl
    | true => have := lt_tr _ _ _ w e; rw [lt_irr] at this; cases this
theorem leS_total (a b : Str) : (leS a b || leS b a) = true := by
  unfold leS
  cases e : ltCps b.cps.toList a.cps.toList with
  | false => rfl
  | true =>
    cases e2 : ltCps a.cps.toList b.cps.toList with
    | false => rfl
    | true => have := lt_tr _ _ _ e e2; rw [lt_irr] at this; cases this
theorem str_ext {a b : Str} (e : a.cps.toList = b.cps.toList) : a = b := by
  obtain ⟨⟨l⟩⟩ := a
  obtain ⟨⟨m⟩⟩ := b
  simpa using e
theorem leS_anti (a b : Str) (h : leS a b = true) (q : leS b a = true) : a = b := by
  unfold leS at *
  simp only [Bool.not_eq_true'] at *
  rcases lt_tri a.cps.toList b.cps.toList with w | w | w
  . rw [w] at q; cases q
  . exact str_ext w
  . rw [w] at h; cases h
def srtS (ss : List Str) : List Str := ss.mergeSort leS
theorem srt_perm (ss : List Str) : (srtS ss).Perm ss := List.mergeSort_perm ss leS
theorem srt_pw (ss : List Str) : (srtS ss).Pairwise fun a b => leS a b = true := List.pairwise_mergeSort leS_trans leS_total ss
theorem srt_len (ss : List Str) : (srtS ss).length = ss.length := (srt_perm ss).length_eq
theorem srt_eq {ys ss : List Str} (p : ys.Perm ss) (h : ys.Pairwise fun a b => leS a b = true) : ys = srtS ss :=
  List.Perm.eq_of_pairwise (fun a b _ _ => leS_anti a b) h (srt_pw ss) (p.trans (srt_perm ss).symm)
theorem srt_self {ss : List Str} (h : ss.Pairwise fun a b => leS a b = true) : srtS ss = ss := (srt_eq (List.Perm.refl ss) h).symm
theorem rise_pw : ∀ (p : Str) (xs : List Str), risingS p xs = true -> (p :: xs).Pairwise fun a b => leS a b = true
  | p, [], _ => by simp
  | p, x :: r, h => by
    unfold risingS at h
    rw [Bool.and_eq_true] at h
    have ih := rise_pw x r h.2
    refine List.pairwise_cons.2 ⟨fun y hy => ?_, ih⟩
    rcases List.mem_cons.1 hy with rfl | hy
    . exact h.1
    . exact leS_trans _ _ _ h.1 ((List.pairwise_cons.1 ih).1 y hy)
theorem sorted_pw : ∀ {xs : List Str}, sortedS xs = true -> xs.Pairwise fun a b => leS a b = true
  | [], _ => List.Pairwise.nil
  | x :: r, h => rise_pw x r h
theorem srt_of {ys ss : List Str} (p : ys.Perm ss) (h : sortedS ys = true) : ys = srtS ss := srt_eq p (sorted_pw h)
end Srt
namespace DL
open PySem PySem.Spec PyProof.Rows L2 Srt
section
variable {X : Cx} {W : WX} {a b o e f : Expr} {ta tb td ty tx : TDE} {pos apos cpos : Pos} {j : Nat}
def rIxStr : R2D := fun x y T Q _ => ∃ z i c, x = .str z /\ y = .int i /\ z.length <= sizeLine /\ atI z.cps.toList i = some c /\ Q (.str ⟨#[c]⟩) T
theorem ixd_str : IxD X W rIxStr := IxD.of ix_str fun σ H Q sd T QD ED x y vx vy L r1 r2 ⟨z, i, c, e1, e2, h1, h2, q⟩ => by
  subst e1 e2
  have r1' : vx = .str z := r1
  have r2' : vy = .int i := r2
  subst r1' r2'
  exact ⟨z, i, c, rfl, rfl, h1, h2, L.q (.str ⟨#[c]⟩) T _ H q rfl L.ok Fr.refl⟩
def GTup (K : PySem.W.Frag) (mg : Str -> Option Value) (x : Str) (ss : List Str) : Prop := ∃ a o its n, mg x = some (.ref a) /\ K.lookup a = some o /\ o.cls = .type "tuple" /\ o.data = .seq its n /\ its.size <= sizeLine /\ Vals (ss.map V.str) its.toList
theorem de_globT {x : Str} {ss : List Str} (hg : Gl X x) (hm : GTup X.K X.mg x ss) (hd : (x == ("__debug__" : Str)) = false := by decide) : DE X W (.Name x pos) (dC (.tup (ss.map D.str))) := by
  obtain ⟨a, o, its, n, h1, h2, h3, h4, h5, h6⟩ := hm
  exact de_c (pe_glob (v := .ref a) hg h1 rfl hd) fun H T => ⟨a, ss.map V.str, rfl, .inr ⟨o, its, n, h2, h3, h4, h5, h6⟩, strs_RD ss⟩
def rSorted : RAD := fun xs T Q _ => ∃ x ss, xs = [x] /\ itemsD T x = some (ss.map D.str) /\ isTupD x = false /\ ss.length < 64 /\ Q (.lst ((srtS ss).map D.str)) T
theorem cd_sorted : CallD X W (.builtin "sorted") rSorted := CallD.of cr_sortedS fun σ H Q sd T QD ED xs vs L rs ⟨x, ss, e, e1, e2, e3, q⟩ => by
  subst e
  obtain ⟨v, rfl, r⟩ := rds1 rs
  obtain ⟨a, ws, rfl, hs, rw⟩ := items_SqL L.ok r e1 e2
  obtain rfl : ws = ss.map V.str := strs_eq rw
  refine ⟨a, ss, rfl, hs, e3, fun ys p hp hs' np => ?_⟩
  obtain rfl := srt_of hp hs'
  exact L.q (.lst _) T (.ref p) _ q (strs_lst L.ok np) (L.ok.laid np) (Fr.laid np (L.ok.fresh np))
def diOr (t u : TDI) : TDI := fun sd T R E => t sd T R E \/ u sd T R E
theorem DI.or {tg : Expr} {t u : TDI} (h : DI X W tg e t) (h' : DI X W tg e u) : DI X W tg e (diOr t u) :=
  ⟨fun pins s σ H R I ⟨sd, T, RD', ED, st, ok, hx, hk, q⟩ => q.elim (fun q => PI.run h pins s σ H R I ⟨sd, T, RD', ED, st, ok, hx, hk, q⟩) (fun q => PI.run h' pins s σ H R I ⟨sd, T, RD', ED, st, ok, hx, hk, q⟩)⟩
end
end DL
namespace DL
open PySem PySem.Spec PyProof.Rows L2 Srt PpSet
section
variable {X : Cx}
def setGrow (P : Program) (w : World) (H : Hp) (D : Addr) (y : V) (Nx : Hp -> Prop) : Prop := ∃ (q : Key) (S : Key -> Bool) (n : Nat), y = kV q /\ H D = some (SetK P w D S n) /\ n + 1 < scanBound /\ Nx (upd H D (SetK P w D (fun r => S r || decide (r = q)) (if S q = true then n else n + 1)))
def tSck (P : Program) (w : World) (wi : TI) (g : TG) (te : TE) (vs : List Nat) : TE := fun σ H Q => wi σ H fun J H1 => ∀ D, H1 D = none -> ∃ G : Nat -> Nat -> Hp -> Prop, (∃ m, G 0 m (upd H1 D (SetK P w D (fun _ => false) 0))) /\ ∀ i m H, G i m H ->
  (J.stop i H /\ Q (.ref D) H) \/ (J.go i H /\ ∃ Nx : Hp -> Prop, (∀ H', Nx H' -> ∃ m', m' < m /\ G (i + 1) m' H') /\ ∀ x H', J.yld i H x H' -> g x (wipe σ vs) H' fun σ2 H2 => wipe σ2 vs = wipe σ vs /\ te σ2 H2 fun y H4 => setGrow P w H4 D y Nx)
theorem pe_sck {elt tg iter : Expr} {scope : Scope} {own : List (Str × Nat)} {pos : Pos} {wi : TI} {g : TG} {te : TE} (hc : X.calm = true) (hN : X.N.Nodup) (hi : PI X tg iter wi) (ok : BlkOk X.N X.env.scope scope own)
    (hg : ∀ (s : Shared) (H : Hp) (C : Addr) (cl : List (Str × Addr)) (fp : List Addr), PG (X.blk s H scope (compEnvC scope cl C X.env) fp) tg g)
    (he : ∀ (s : Shared) (H : Hp) (C : Addr) (cl : List (Str × Addr)) (fp : List Addr), PE (X.blk s H scope (compEnvC scope cl C X.env) fp) elt te) (hs : ∀ x, foldedSetIterable iter X.env x = pure x := by intro _; rfl) :
    PE X (.SetComp elt [⟨tg, iter, [], 0⟩] scope pos) (tSck X.prog X.w wi g te (own.map (·.2))) := by
  refine ⟨fun pins s σ H Q I h => ?_⟩
  rw [eval_SetComp]
  have free : ∀ y ∈ scope.names, y.2 = .free -> ∃ c, X.env.cells.lookup y.1 = some c := fun y hy e => (ok.free y hy e).elim (fun k => I.ok.has _ (.inl k)) (fun k => I.ok.has _ (.inr k))
  refine wpAny_comprehension_free rfl hs (closure_ok free) ok.kind (fun y hy e => by rw [ok.uniq y hy, e]) (thn (hi.run pins s σ H _ I h) fun xv sa hx => thn hx fun itv sb h2 => ?_)
  obtain ⟨it, fp, tn, J, Hb, e, Ib, T, stb, fb, q⟩ := h2; subst e
  refine newSet_ok (newEnv_comp ?_)
  generalize eD : sb.heap.objs.size = D
  obtain ⟨G, ⟨m0, g0⟩, turn⟩ := q D (Ib.hok.fresh (Nat.le_of_eq eD))
  generalize ec : ({ sb with heap := sb.heap.push { cls := .type "set", dict := none, data := .set #[] 0 (.fresh 0 0 (!X.w.params.followText "set-order")) } } : Shared) = sc
  have hph : sc.heap = sb.heap.push { cls := .type "set", dict := none, data := .set #[] 0 (.fresh 0 0 (!X.w.params.followText "set-order")) } := by rw [<- ec]
  have fresh : sc.heap.SetOf (mixKind X.prog X.w) D (fun _ => false) 0 := by
    rw [hph, <- eD]
    exact ⟨_, #[], 0, _, Heap.get?_push_size _ rfl, ⟨rfl, rfl, rfl⟩, rfl, fun e he => (by simp at he), fun k => (by simp), by decide, by rfl, rfl⟩
  have Ic : Inv X pins σ (upd Hb D (SetK X.prog X.w D (fun _ => false) 0)) sc := by
    have z := fresh
    rw [<- ec] at z ⊢
    exact Ib.laid (t' := sb.toks) (fun b o e => Heap.get?_push_of_some _ e) (Nat.le_of_eq eD) (setK_new z)
  generalize eH : upd Hb D (SetK X.prog X.w D (fun _ => false) 0) = Hc at Ic g0
  have fc : ∀ b ∈ fp, FpOk X pins Hc b /\ b < sc.heap.objs.size := fun b hb => by
    have lt : b < sb.heap.objs.size := let ⟨o, e, _⟩ := T.obj _ _ stb b hb; Heap.lt_size e
    exact ⟨⟨by rw [<- eH, upd_ne (by rw [<- eD]; exact Nat.ne_of_lt lt)]; exact (fb b hb).1, (fb b hb).2⟩, by rw [hph, Heap.size_push]; exact Nat.lt_succ_of_lt lt⟩
  have stc : tn 0 sc.heap := T.keep _ _ _ stb fun b _ o e => by rw [hph]; exact Heap.get?_push_of_some _ e
  have Id := block_start Ic ok hN fc
  have pg := hg sc Hc sc.heap.objs.size (cellsFrom (sc.heap.objs.size + 1) scope.names (cloFrom X.env.cells scope.names [])) fp
  have pe := he sc Hc sc.heap.objs.size (cellsFrom (sc.heap.objs.size + 1) scope.names (cloFrom X.env.cells scope.names [])) fp
  show codeAny _ _ (.compStart _ 0 (.ref it) (.ref D) (compEnvC scope (cellsFrom (sc.heap.objs.size + 1) scope.names (cloFrom X.env.cells scope.names [])) sc.heap.objs.size X.env)) (compPost _ _ _ none _ (.ref D) sc.heap.objs.size) { sc with heap := pushCells (sc.heap.push { cls := .type "dict", data := .dict #[] }) scope.names }
  generalize ez : compEnvC scope (cellsFrom (sc.heap.objs.size + 1) scope.names (cloFrom X.env.cells scope.names [])) sc.heap.objs.size X.env = ce at Id pg pe ⊢
  have eL : ce.locals = sc.heap.objs.size := by subst ez; rfl
  generalize ew : ({ sc with heap := pushCells (sc.heap.push { cls := .type "dict", data := .dict #[] }) scope.names } : Shared) = sd at Id ⊢
  have std : tn 0 sd.heap := T.keep _ _ _ stc fun b _ o e => by rw [<- ew]; exact pushCells_keeps _ _ _ _ (Heap.get?_push_of_some _ e)
  have stat : ∀ {τ : L2.St} {H' : Hp} {s' : Shared}, Inv (X.blk sc Hc scope ce fp) [] τ H' s' -> (∀ b ∈ fp, H' b = none) -> ∀ b ∈ fp, FpOk (X.blk sc Hc scope ce fp) [] H' b := fun I' hn b hb => ⟨hn b hb, (I'.ok.exf b hb).1, I'.ok.exfs b hb, .inl hb, fun x c e => (I'.ok.exf b hb).2 x c e, fun p hp => by simp at hp⟩
  refine (fun loop => codeAny_compStart_set loop (T.self X.A 0 _ _ _ std loop)) ?_
  refine compLoopS_any (fun n s' => ∃ i H', Inv (X.blk sc Hc scope ce fp) [] (wipe σ (own.map (·.2))) H' s' /\ tn i s'.heap /\ (∀ b ∈ fp, H' b = none) /\ G i n H') ?_ m0 ⟨0, Hc, Id, std, fun b hb => (fc b hb).1.1, g0⟩
  rintro n se ⟨i, He, Ie, ste, ne, ge⟩
  rcases turn i n He ge with ⟨stop, qq⟩ | ⟨go, Nx, hNx, step⟩
  . refine thnF (T.done (X.blk sc Hc scope ce fp) rfl rfl rfl hc i [] se _ He (fun _ _ => False) Ie (stat Ie ne) ste stop) fun r sf ⟨hr, If⟩ => ?_
    subst hr
    have Ig : Inv X pins σ He sf := Ic.call' (ch := fp) If.os If.base If.hok If.bare fun b hb => let z := (fc b hb).1.2; ⟨z.2.2.1, z.1, z.2.2.2.1, z.2.2.2.2⟩
    have nl : He sc.heap.objs.size = none := by rw [<- eL]; exact If.free
    obtain ⟨m, hn, _⟩ := If.loc
    have hn' : sf.heap.Ns sc.heap.objs.size m := by rw [<- eL]; exact hn
    obtain ⟨f0, f1, f2, f3, f4, f5⟩ := Ic.fpOk (Nat.le_refl _) nl
    exact ⟨m, hn', fun h'' sb' => ⟨.ref D, He, Ig.turned (t' := sf.toks) (fun b o hb e => (sb'.2 b hb).trans e) f0 f1 f3 f4 f5, rfl, qq⟩⟩
  . refine thnF (T.item (X.blk sc Hc scope ce fp) rfl rfl rfl hc i [] se _ He (fun _ _ => False) Ie (stat Ie ne) ste go) fun r sf ⟨u, hr, hf⟩ => ?_
    subst hr
    refine thnF hf fun _ sg ⟨x, Hg, Ig, rg, yg, stg, ng⟩ => ?_
    refine thnF (pg.run _ sg _ Hg x u _ (Ig.pinned (stat Ig ng) (T.obj _ _ stg)) rg (step x Hg yg)) fun _ sh ⟨τ, Hh, Ih, wh, qh⟩ => ?_
    refine wpAny_pure ?_
    rw [if_pos rfl]
    refine thnF (pe.run _ sh τ Hh _ Ih qh) fun z si ⟨yv, Hi, Ii, ri, k, S, m, ey, hD, room, nx⟩ => ?_
    subst ey
    have R := setK_get Ii hD
    refine call_set_add (kV_is ri) (key_scan ri) R room fun h' keep new => ?_
    have ex : ∃ u, h'.get? D = some u := let ⟨o, _, _, _, ho, _⟩ := new; ⟨o, ho⟩
    have Ij := Ii.write (e := D) (t' := si.toks + 1) (by rw [hD]; trivial) (.inl rfl) (fun b u hb hu => (keep.2 b hb).trans hu) ex (setK_new new)
    obtain ⟨m', lt, gn⟩ := hNx _ nx
    have pin : ∀ b ∈ fp, ∀ o, sg.heap.get? b = some o -> h'.get? b = some o /\ (upd Hi D (SetK X.prog X.w D (fun r => S r || decide (r = k)) (if S k = true then m else m + 1))) b = none := fun b hb o e =>
      let z := Ij.pin (b, o) (List.mem_append_right _ (List.mem_append_right _ (mem_pinsAt hb e))); ⟨z.1, z.2.1⟩
    refine ⟨m', lt, i + 1, _, (Ij.unpinned (pins := [])).weak (by rw [<- wh, wipe_length]) (fun j v e => ?_), T.keep _ _ _ stg fun b hb o e => (pin b hb o e).1, fun b hb => ?_, gn⟩
    . rw [<- wh] at e; exact (wipe_some e).1
    . obtain ⟨o, e, _⟩ := T.obj _ _ stg b hb; exact (pin b hb o e).2
end
end DL
namespace DL
open PySem PySem.Spec PyProof.Rows L2 Srt
section
variable {X : Cx} {W : WX}
theorem cr_lenK : CallR X (.builtin "len") (fun vs H Q => ∃ a S n, vs = [.ref a] /\ H a = some (SetK X.prog X.w a S n) /\ Q (.int n) H) := by
  intro pins s σ H vs us Q I rv ⟨a, S, n, e, ha, q⟩
  subst e
  cases rv with
  | cons k1 k2 =>
  cases k2
  cases k1
  obtain ⟨o, es, ep, t, ho, hex, hd, _, _, hs, hf, hn⟩ := setK_get I ha
  have small : es.size < 4096 := hs
  exact call_len_set ho hex hd hf (by omega) ⟨.int n, H, I.tok _, ⟨_, by rw [hn]⟩, q⟩
def insK (q : Key) (acc : List Key) : List Key := if q ∈ acc then acc else acc ++ [q]
def dScL (g : TDG) (te : TDE) (gd : Td -> Prop) (P : Addr) (k : List Key -> Td -> Prop) (sd : SD) : List D -> List Key -> HO -> Td -> Prop
  | [], acc, o, T => gd T /\ T P = some (.raw o) /\ k acc (tdel T P)
  | x :: xs, acc, o, T => gd T /\ g x sd T fun sd2 T2 => te sd2 T2 (fun y T3 => ∃ q, kOf y = some q /\ acc.length + 1 < 4096 /\ T3 P = some (.raw o) /\ ∀ o', dScL g te gd P k sd xs (insK q acc) o' (tput T3 P (.raw o'))) (fun _ _ => False)
def dLenSc (wi : TDI) (g : TDG) (te : TDE) (vs : List Nat) : TDE := fun sd T Q E => wi sd T (fun items gd T1 => ∀ P o, T1 P = none -> dScL g te gd P (fun acc T' => Q (.int acc.length) T') (wipeD sd vs) items [] o (tput T1 P (.raw o))) E
theorem ins_mem {q r : Key} {acc : List Key} : r ∈ insK q acc ↔ r ∈ acc \/ r = q := by
  unfold insK
  split
  . rename_i h
    exact ⟨.inl, fun z => z.elim id fun z => z ▸ h⟩
  . simp
theorem ins_len {q : Key} {acc : List Key} : (insK q acc).length = if q ∈ acc then acc.length else acc.length + 1 := by
  unfold insK
  split <;> simp
section
variable {elt tg iter : Expr} {scope : Scope} {own : List (Str × Nat)} {pos pos2 p : Pos} {wi : TDI} {g : TDG} {te : TDE}
theorem de_lenSc (hc : X.calm = true) (hN : X.N.Nodup) (hl : Gl X "len") (hm : X.mg "len" = none) (hi : DI X W tg iter wi) (ok : BlkOk X.N X.env.scope scope own)
    (hg : ∀ (s : Shared) (H : Hp) (C : Addr) (cl : List (Str × Addr)) (fp : List Addr), DGw (X.blk s H scope (compEnvC scope cl C X.env) fp) (own.map (·.2)) tg g)
    (he : ∀ (s : Shared) (H : Hp) (C : Addr) (cl : List (Str × Addr)) (fp : List Addr), DE (X.blk s H scope (compEnvC scope cl C X.env) fp) WN elt te) (hs : ∀ x, foldedSetIterable iter X.env x = pure x := by intro _; rfl)
    (hst : starEach [.SetComp elt [⟨tg, iter, [], 0⟩] scope pos] X.env = (false, eval (.SetComp elt [⟨tg, iter, [], 0⟩] scope pos) X.env) :: starEach [] X.env := by rfl) :
    DE X W (.Call (.Name "len" p) [.SetComp elt [⟨tg, iter, [], 0⟩] scope pos] [] pos2) (dLenSc wi g te (own.map (·.2))) := by
  refine PE.imp (pe_callB cr_lenK hl hm boot_len (pa_cons (pe_sck (g := liftGw X.K (own.map (fun x : Str × Nat => x.2)) g) (te := liftE X.K WN te) hc hN hi ok hg he hs) pa_nil hst)) fun σ H Q ⟨sd, T, QD, ED, L, q⟩ => ?_
  refine ⟨sd, T, _, ED, L.st, L.ok, L.x, fun items gd T1 J H1 k it o1 f1 P nP => ?_, q⟩
  have nT := o1.fresh nP
  generalize hvs : (own.map fun x : Str × Nat => x.2) = vs at k ⊢
  refine ⟨fun i m H2 => m = items.length - i /\ i <= items.length /\ ∃ T2 acc S, DOk X.K H2 T2 /\ Fr H1 T1 H2 T2 /\ (∀ r, S r = true ↔ r ∈ acc) /\ T2 P = some (.raw (SetK X.prog X.w P S acc.length)) /\
      dScL g te gd P (fun acc T' => QD (.int acc.length) T') (wipeD sd vs) (items.drop i) acc (SetK X.prog X.w P S acc.length) T2,
    ⟨_, rfl, Nat.zero_le _, _, [], fun _ => false, o1.laidT nP (show DObj X.K _ _ P (.raw _) from upd_same), Fr.laidT nP, fun r => by simp, tput_same, k P _ nT⟩, ?_⟩
  rintro i m H2 ⟨rfl, hi', T2, acc, S, o2, f2, hS, tP, q2⟩
  by_cases hlt : i < items.length
  . rw [List.drop_eq_getElem_cons hlt] at q2
    obtain ⟨gd2, q2⟩ := q2
    obtain ⟨go, yl⟩ := (it i H2 T2 f2 o2 gd2).1 hlt
    refine .inr ⟨go, fun H3 => ∃ T3 acc' S', DOk X.K H3 T3 /\ Fr H1 T1 H3 T3 /\ (∀ r, S' r = true ↔ r ∈ acc') /\ T3 P = some (.raw (SetK X.prog X.w P S' acc'.length)) /\ dScL g te gd P (fun acc T' => QD (.int acc.length) T') (wipeD sd vs) (items.drop (i + 1)) acc' (SetK X.prog X.w P S' acc'.length) T3,
      fun H' w => ⟨items.length - (i + 1), by omega, rfl, hlt, w⟩, fun x H3 y => ?_⟩
    obtain ⟨d, hd, rd, o3, f3⟩ := yl x H3 y
    rw [List.getElem?_eq_getElem hlt] at hd
    cases hd
    have F3 := f2.trans f3
    refine ⟨_, wipeD sd vs, T2, _, (L.st.mono (f1.trans F3)).wipe vs, o3, rd, fun sd4 T4 σ4 H4 n4 s4 o4 f4 w4 => ⟨?_, ?_⟩, q2⟩
    . rw [w4]
      refine List.ext_getElem? fun j => ?_
      by_cases hm : j ∈ vs
      . rw [wipe_set.wiped hm, wipe_set.wiped hm, wipe_length]
      . rw [wipe_out hm, wipe_out hm]
    . have F4 := F3.trans f4
      refine ⟨sd4, T4, _, _, ⟨s4, o4, fun y T5 vy H5 k5 r5 o5 f5 => ?_, fun _ _ _ _ _ z => z.elim⟩, n4⟩
      obtain ⟨q, e1, room, tP5, k5⟩ := k5
      have ey := kOf_V e1 r5
      subst ey
      have hP : H5 P = some (SetK X.prog X.w P S acc.length) := o5 P _ tP5
      refine ⟨q, S, acc.length, rfl, hP, room, ?_⟩
      have en : (if S q = true then acc.length else acc.length + 1) = (insK q acc).length := by
        rw [ins_len]
        by_cases z : q ∈ acc
        . rw [if_pos z, if_pos ((hS q).2 z)]
        . rw [if_neg z, if_neg fun w => z ((hS q).1 w)]
      rw [en]
      refine ⟨_, insK q acc, _, o5.write tP5 (show DObj X.K _ _ P (.raw _) from upd_same), (F4.trans f5).trans (Fr.write tP5), fun r => ?_, tput_same, k5 _⟩
      rw [ins_mem, Bool.or_eq_true, hS r, decide_eq_true_eq]
  . have e : i = items.length := by omega
    subst e
    rw [List.drop_length] at q2
    obtain ⟨gdz, tz, qz⟩ := q2
    have hP : H2 P = some (SetK X.prog X.w P S acc.length) := o2 P _ tP
    exact .inl ⟨(it _ H2 T2 f2 o2 gdz).2 (Nat.le_refl _), P, S, acc.length, rfl, hP, L.q _ _ _ _ qz rfl o2.free ((f1.trans f2).trans Fr.free)⟩
end
end
end DL
namespace K1
open PySem PySem.Spec PyProof.Rows L2 VX DL RQ TL Srt
def isC0 (W : Addr) : Kd -> Bool
  | .cls C => decide (C = W)
  | _ => false
def numK (ad : Ad) (k : Kd) : Bool := (k.is "int" && !k.is "bool") || isC0 ad.Worth k
structure sp_is_number (ad : Ad) (xs : List D) (T : Td) (Q : KD) (E : XD) : Prop where
  h : ∃ x k, xs = [x] /\ kdD ad T x = some k /\ NoExc k /\ Q (.bl (numK ad k)) T
structure sp_worth_of (ad : Ad) (xs : List D) (T : Td) (Q : KD) (E : XD) : Prop where
  h : ∃ x q, xs = [x] /\ Num ad x q /\ Q (wq ad q) T
def SzOk (p q : Rat) : Prop := RQ.sz p + RQ.sz q <= 8000
def absQ (q : Rat) : Rat := Rat.divInt q.num.natAbs q.den
structure sp_Wabs (ad : Ad) (xs : List D) (T : Td) (Q : KD) (E : XD) : Prop where
  h : ∃ p, xs = [wq ad p] /\ RQ.sz p <= 8000 /\ Q (wq ad (absQ p)) T
def c_WORDS : List Str := ["thing", "fact", "free", "gauge", "part", "run", "read", "let", "call", "if", "else", "again", "accept", "reject", "tell", "give"]
def c_COUNTED : List Str := ["f", "l", "s"]
def isLet (c : Nat) : Bool := decide (c ∈ (("abcdefghijklmnopqrstuvwxyz" : Str)).cps.toList)
def nameS (s : Str) : Bool := decide (1 <= s.length) && decide (s.length <= 8) && !decide (s ∈ c_WORDS) && (tl s).all isLet
def cntL : List Nat -> Bool
  | c :: d :: r => decide (r.length <= 1) && decide ((⟨#[c]⟩ : Str) ∈ c_COUNTED) && (d :: r).all isDig && (decide (r = []) || decide ((⟨#[d]⟩ : Str) ≠ "0"))
  | _ => false
def unkS (s : Str) : Bool := nameS s || cntL (tl s)
def strB (f : Str -> Bool) : D -> Bool
  | .str s => f s
  | _ => false
structure sp_is_name (ad : Ad) (xs : List D) (T : Td) (Q : KD) (E : XD) : Prop where
  h : ∃ x k, xs = [x] /\ kdD ad T x = some k /\ NoExc k /\ (∀ s, x = .str s -> s.length <= 10000) /\ Q (.bl (strB nameS x)) T
structure sp_is_unknown (ad : Ad) (xs : List D) (T : Td) (Q : KD) (E : XD) : Prop where
  h : ∃ x k, xs = [x] /\ kdD ad T x = some k /\ NoExc k /\ (∀ s, x = .str s -> s.length <= 10000) /\ Q (.bl (strB unkS x)) T
structure sp_names_of (ad : Ad) (xs : List D) (T : Td) (Q : KD) (E : XD) : Prop where
  h : ∃ x ss, xs = [x] /\ (x = .lst (ss.map D.str) \/ ∃ ds, x = .dct (ss.map Sum.inr) ds) /\ ss.length < 64 /\ Q (.lst ((srtS ss).map D.str)) T
mutual
def Vl (ad : Ad) : D -> Prop
  | .non => True
  | .bl _ => True
  | .int _ => True
  | .str s => s.length <= 10000
  | .tup xs => xs.length <= 1000 /\ Vls ad xs
  | .lst xs => xs.length <= 1000 /\ Vls ad xs
  | .dct _ _ => True
  | .slo C _ => inS ad C = true
  | .obj C _ _ => inO ad C = true /\ C ≠ ad.Worth
  | _ => False
def Vls (ad : Ad) : List D -> Prop
  | [] => True
  | x :: xs => Vl ad x /\ Vls ad xs
end
def numD (ad : Ad) : D -> Bool
  | .int _ => true
  | .slo C _ => decide (C = ad.Worth)
  | _ => false
def pairD (ad : Ad) : D -> Bool
  | .tup [a, b] => strB unkS a && numD ad b
  | _ => false
def nmOf : D -> Str
  | .tup (.str s :: _) => s
  | _ => ""
def pointD (ad : Ad) : D -> Bool
  | .tup ps => ps.all (pairD ad) && decide (ps.map nmOf).Nodup
  | _ => false
def partsD (ad : Ad) : D -> Bool
  | .tup ps => pointD ad (.tup ps) && decide (ps.map nmOf = srtS (ps.map nmOf))
  | _ => false
structure sp_is_pair (ad : Ad) (xs : List D) (T : Td) (Q : KD) (E : XD) : Prop where
  h : ∃ x, xs = [x] /\ Vl ad x /\ Q (.bl (pairD ad x)) T
structure sp_is_point (ad : Ad) (xs : List D) (T : Td) (Q : KD) (E : XD) : Prop where
  h : ∃ x, xs = [x] /\ Vl ad x /\ Q (.bl (pointD ad x)) T
structure sp_is_parts (ad : Ad) (xs : List D) (T : Td) (Q : KD) (E : XD) : Prop where
  h : ∃ x, xs = [x] /\ Vl ad x /\ (∀ ps, x = .tup ps -> ps.length < 64) /\ Q (.bl (partsD ad x)) T
abbrev FT := List (Str × Rat)
def tbD (ad : Ad) (t : FT) : D := .dct (t.map fun p => Sum.inr p.1) (t.map fun p => wq ad p.2)
def fm (ad : Ad) (t : FT) (r : Rat) : D := .obj ad.Form ["table", "last"] [tbD ad t, wq ad r]
def nz (t : FT) : FT := t.filter fun p => decide (p.2 ≠ 0)
def keys (t : FT) : List Str := t.map (·.1)
structure TbOk (t : FT) : Prop where
  nd : (keys t).Nodup
  le : t.length < 64
structure sp_wnn (ad : Ad) (xs : List D) (T : Td) (Q : KD) (E : XD) : Prop where
  h : ∃ t, xs = [tbD ad t] /\ (keys t).Nodup /\ t.length <= 1000 /\ Q (tbD ad (nz t)) T
inductive Pts (ad : Ad) : List D -> FT -> Prop where
  | nil : Pts ad [] []
  | cons {s : Str} {y : D} {q : Rat} {ds : List D} {t : FT} (h : Num ad y q) (r : Pts ad ds t) : Pts ad (.tup [.str s, y] :: ds) ((s, q) :: t)
structure sp_Finit (ad : Ad) (xs : List D) (T : Td) (Q : KD) (E : XD) : Prop where
  h : ∃ a n u, xs = [.ref a, n, u] /\ T a = some (.ins ad.Form [] []) /\ Vl ad n /\ Vl ad u /\ (∀ ps, n = .tup ps -> ps.length < 64) /\
  ((∃ ds t r, n = .tup ds /\ Pts ad ds t /\ partsD ad n = true /\ Num ad u r /\ Q .non (tput T a (.ins ad.Form ["table", "last"] [tbD ad (nz t), wq ad r]))) \/
   ((partsD ad n = false \/ numD ad u = false) /\ E (excD ad.BadForm (.tup [n, u])) T))
def asc (t : FT) : FT := (srtS (keys t)).map fun s => (s, (t.lookup s).getD 0)
def pText (q : Rat) (n : Str) : Str := if q = 1 then n else (qText q ++ " ") ++ n
def sText (found : Str) (q : Rat) (text : Str) : Str := if found = "" then (if q.num < 0 then "-" ++ text else text) else (found ++ (if q.num < 0 then " - " else " + ")) ++ text
structure sp_part_text (ad : Ad) (xs : List D) (T : Td) (Q : KD) (E : XD) : Prop where
  h : ∃ q n, xs = [wq ad q, .str n] /\ TxtOk q /\ n.length <= 10000 /\ Q (.str (pText q n)) T
structure sp_signed_text (ad : Ad) (xs : List D) (T : Td) (Q : KD) (E : XD) : Prop where
  h : ∃ f q x, xs = [.str f, wq ad q, .str x] /\ f.length + x.length <= 2 ^ 22 /\ Q (.str (sText f q x)) T
def fText (t : FT) (r : Rat) : Str :=
  let f := (asc t).foldl (fun f p => sText f p.2 (pText (absQ p.2) p.1)) ""
  if f = "" \/ r ≠ 0 then sText f r (qText (absQ r)) else f
structure FmOk (t : FT) (r : Rat) : Prop extends TbOk t where
  tx : ∀ p ∈ t, TxtOk p.2
  nm : ∀ p ∈ t, p.1.length <= 100
  rx : TxtOk r
structure sp_text_of (ad : Ad) (xs : List D) (T : Td) (Q : KD) (E : XD) : Prop where
  h : ∃ t r, xs = [tbD ad t, wq ad r] /\ FmOk t r /\ Q (.str (fText t r)) T
structure sp_Frepr (ad : Ad) (xs : List D) (T : Td) (Q : KD) (E : XD) : Prop where
  h : ∃ t r, xs = [fm ad t r] /\ FmOk t r /\ Q (.str (("Form.of('" ++ fText t r) ++ "')")) T
structure AdF (ad : Ad) : Prop extends AdW ad where
  fo : inO ad ad.Form = true
  fw : ad.Form ≠ ad.Worth
end K1
namespace DL
open PySem PySem.Spec PyProof.Rows L2 Srt VX
section
variable {X : Cx} {W : WX} {elt tg iter : Expr} {ifs : List Expr} {scope : Scope} {own : List (Str × Nat)} {pos spos : Pos} {wi : TDI} {g : TDG} {tt : TDT} {te : TDE}
theorem ds_setLc {i : Nat} {y : Str} {py : Pos} (hc : X.calm = true) (hN : X.N.Nodup) (hy : X.N[i]? = some y) (hyl : X.env.scope.names.lookup y = some .local) (hi : DI X W tg iter wi) (ok : BlkOk X.N X.env.scope scope own)
    (hg : ∀ (s : Shared) (H : Hp) (C : Addr) (cl : List (Str × Addr)) (fp : List Addr), DGw (X.blk s H scope (compEnvC scope cl C X.env) fp) (own.map (·.2)) tg g) (ht : ∀ (s : Shared) (H : Hp) (C : Addr) (cl : List (Str × Addr)) (fp : List Addr), DTs (X.blk s H scope (compEnvC scope cl C X.env) fp) WN ifs tt)
    (he : ∀ (s : Shared) (H : Hp) (C : Addr) (cl : List (Str × Addr)) (fp : List Addr), DE (X.blk s H scope (compEnvC scope cl C X.env) fp) WN elt te) (hk : X.env.scope.kind = .function := by rfl) (hl : (py.line == pos.line) = true := by rfl)
    (ha : (scope.names.any fun (n, k) => n == y && (k == .local || k == .cell)) = false := by rfl) (hs : ∀ x, foldedSetIterable iter X.env x = pure x := by intro _; rfl) :
    DS X W (.Assign [.Name y py] (.ListComp elt [⟨tg, iter, ifs, 0⟩] scope pos) spos) (dSet i (dCut (dLc wi g tt te (own.map (·.2))))) :=
  PS.imp (ps_setLc (g := liftGw X.K (own.map (fun x : Str × Nat => x.2)) g) (tt := liftT X.K WN tt) (te := liftE X.K WN te) hc hN hy hyl (sw_true hk hyl hl ha) hi ok hg ht he hs) fun De σ H ⟨sd, T, DD, st, ok, L, q⟩ =>
    lc_lift (X := X) (W := W) ⟨st, ok, fun x T1 v H1 k r o f => L.nx _ T1 _ H1 k ((st.mono f).set i r) o f, L.exok st⟩ (fun P T' H' k o f => by
    split at k
    . rename_i acc ht
      obtain ⟨vs, h, rs⟩ := o P _ ht
      exact L.nx (sd.set i (some (.lst acc))) (tdel T' P) _ H' k ((st.mono (f.trans Fr.free)).set i ⟨P, vs, rfl, .inl ⟨tdel_same, .inl h⟩, RDs.mono Fr.free acc rs⟩) o.free (f.trans Fr.free)
    . exact k.elim) q.h
end
end DL
namespace K1
open PySem PySem.Spec PyProof.Rows L2 VX DL RQ TL Srt
def val (t : FT) (k : Str) : Rat := (t.lookup k).getD 0
def putT (t : FT) (k : Str) (q : Rat) : FT := if k ∈ keys t then t.map (fun p => if p.1 = k then (p.1, q) else p) else t ++ [(k, q)]
def szT (t : FT) (n : Nat) : Prop := ∀ p ∈ t, RQ.sz p.2 <= n
structure Due (u : FT) (n : Nat) : Prop where
  nd : (keys u).Nodup
  nz : ∀ p ∈ u, p.2 ≠ 0
  un : ∀ p ∈ u, p.1 = "" \/ (unkS p.1 = true /\ p.1.length <= 8)
  sz : szT u n
  le : u.length <= 20
structure DueW (u : FT) (n : Nat) : Prop where
  nd : (keys u).Nodup
  nz : ∀ p ∈ u, p.1 = "" \/ p.2 ≠ 0
  un : ∀ p ∈ u, p.1 = "" \/ (unkS p.1 = true /\ p.1.length <= 8)
  sz : szT u n
  le : u.length <= 20
theorem Due.w {u : FT} {n : Nat} (h : Due u n) : DueW u n := ⟨h.nd, fun p hp => .inr (h.nz p hp), h.un, h.sz, h.le⟩
def Kp (j : Addr) (T T' : Td) : Prop := ∀ b o, b ≠ j -> T b = some o -> T' b = some o
end K1
namespace K1
open PySem PySem.Spec PyProof.Rows L2 VX DL RQ TL Srt
abbrev N_is_number : List Str := ["value"]
def d_is_number (ad : Ad) : TDS := (dRet (dOrV (dCB (sp_is_integer ad) (dCons (dVar 0) dNil)) (dCL (rIsiD (inS ad) (inE ad) (inO ad) ad.inst) (dCons (dVar 0) (dCons (dC (.val (.ref ad.Worth))) dNil)))))
abbrev N_worth_of : List Str := ["number"]
def d_worth_of (ad : Ad) : TDS := (dRet (dIf (dTst (dCL (rIsiD (inS ad) (inE ad) (inO ad) ad.inst) (dCons (dVar 0) (dCons (dC (.val (.ty "int"))) dNil)))) (dCL (rMake ad.Worth (sp1_Winit ad)) (dCons (dVar 0) dNil)) (dVar 0)))
abbrev N_Wabs : List Str := ["self"]
def d_Wabs (ad : Ad) : TDS := (dRet (dCL (rMake ad.Worth (sp_Winit ad)) (dCons (dCL rAbs (dCons (dUn (rSlot ad.Worth 0) (dVar 0)) dNil)) (dCons (dUn (rSlot ad.Worth 1) (dVar 0)) dNil))))
abbrev N_is_name : List Str := ["value", "letter"]
def d_is_name (ad : Ad) : TDS := (dSeq (dIfS (dOr (dNot (dTst (dCL (rIsiD (inS ad) (inE ad) (inO ad) ad.inst) (dCons (dVar 0) (dCons (dC (.val (.ty "str"))) dNil))))) (dOr (dNot (dTst (dChain rLe rLe (dC (.int 1)) (dCL rLenU (dCons (dVar 0) dNil)) (dC (.int 8))))) (dTst (dBin (rInF false) (dVar 0) (dC (.tup (c_WORDS.map D.str))))))) (dRet (dC (.bl false))) dNext)
    (dRet (dCL (rAllD (·.all id)) (dCons (dCut (dLc (diStr (dVar 0)) (dgName 1) dYes (dBin (rSign false) (dVar 1) (dC (.str "abcdefghijklmnopqrstuvwxyz"))) [1])) dNil))))
abbrev N_is_unknown : List Str := ["value", "sign"]
def d_is_unknown (ad : Ad) : TDS := (dSeq (dIfS (dTst (dCB (sp_is_name ad) (dCons (dVar 0) dNil))) (dRet (dC (.bl true))) dNext)
    (dSeq (dIfS (dOr (dNot (dTst (dCL (rIsiD (inS ad) (inE ad) (inO ad) ad.inst) (dCons (dVar 0) (dCons (dC (.val (.ty "str"))) dNil))))) (dOr (dNot (dTst (dChain rLt rLe (dC (.int 1)) (dCL rLenU (dCons (dVar 0) dNil)) (dC (.int 3))))) (dTst (dBin (rInF true) (dBin rIxStr (dVar 0) (dC (.int 0))) (dC (.tup (c_COUNTED.map D.str))))))) (dRet (dC (.bl false))) dNext)
    (dRet (dAndV (dCL (rAllD (·.all id)) (dCons (dCut (dLc (diStr (dSl (dVar 0) (dPart (dC (.int 1))) dNoPart)) (dgName 1) dYes (dBin (rSign false) (dVar 1) (dC (.str "0123456789"))) [1])) dNil)) (dOrV (dBin rEqS (dCL rLenU (dCons (dVar 0) dNil)) (dC (.int 2))) (dBin rNeS (dBin rIxStr (dVar 0) (dC (.int 1))) (dC (.str "0"))))))))
abbrev N_names_of : List Str := ["some", "name"]
def d_names_of (ad : Ad) : TDS := (dRet (dCL rSorted (dCons (dCut (dLc (diOr (diSeqL (dVar 0)) (diKeys (dVar 0))) (dgName 1) dYes (dCL rStr (dCons (dVar 1) dNil)) [1])) dNil)))
abbrev N_is_pair : List Str := ["value"]
def d_is_pair (ad : Ad) : TDS := (dRet (dAndV (dCL (rIsiD (inS ad) (inE ad) (inO ad) ad.inst) (dCons (dVar 0) (dCons (dC (.val (.ty "tuple"))) dNil))) (dAndV (dBin rEqS (dCL rLenU (dCons (dVar 0) dNil)) (dC (.int 2))) (dAndV (dCB (sp_is_unknown ad) (dCons (dBin rIx (dVar 0) (dC (.int 0))) dNil)) (dCB (sp_is_number ad) (dCons (dBin rIx (dVar 0) (dC (.int 1))) dNil))))))
abbrev N_is_point : List Str := ["value", "pair"]
def d_is_point (ad : Ad) : TDS := (dSeq (dIfS (dOr (dNot (dTst (dCL (rIsiD (inS ad) (inE ad) (inO ad) ad.inst) (dCons (dVar 0) (dCons (dC (.val (.ty "tuple"))) dNil))))) (dNot (dTst (dCL (rAllD (·.all id)) (dCons (dCut (dLc (diSeqT (dVar 0)) (dgName 1) dYes (dCB (sp_is_pair ad) (dCons (dVar 1) dNil)) [1])) dNil))))) (dRet (dC (.bl false))) dNext)
    (dRet (dBin rEqS (dCut (dLenSc (diSeqT (dVar 0)) (dgName 1) (dBin rIx (dVar 1) (dC (.int 0))) [1])) (dCL rLenU (dCons (dVar 0) dNil)))))
abbrev N_is_parts : List Str := ["value", "names", "pair"]
def d_is_parts (ad : Ad) : TDS := (dSeq (dIfS (dNot (dTst (dCB (sp_is_point ad) (dCons (dVar 0) dNil)))) (dRet (dC (.bl false))) dNext)
    (dSeq (dSet 1 (dCut (dLc (diSeqT (dVar 0)) (dgName 2) dYes (dBin rIx (dVar 2) (dC (.int 0))) [2])))
    (dRet (dBin (rEqN id) (dVar 1) (dCB (sp_names_of ad) (dCons (dVar 1) dNil))))))
abbrev N_wnn : List Str := ["table", "name", "worth"]
def d_wnn (ad : Ad) : TDS := (dRet (dCut (dDc (diItems (dVar 0)) (dgTup 2 (dgCons (dgName 1) (dgCons (dgName 2) dgNil))) (dTst (dBin rNeS (dUn (rProp ad.Worth (sp_Wnumber ad)) (dVar 2)) (dC (.int 0)))) (dVar 1) (dVar 2) [1, 2])))
abbrev N_Finit : List Str := ["self", "parts", "rest", "name", "number"]
def d_Finit (ad : Ad) : TDS := (dSeq (dIfS (dOr (dNot (dTst (dCB (sp_is_parts ad) (dCons (dVar 1) dNil)))) (dNot (dTst (dCB (sp_is_number ad) (dCons (dVar 2) dNil))))) (dRaise (.ref ad.BadForm) (dTup (dCons (dVar 1) (dCons (dVar 2) dNil)))) dNext)
    (dSeq (dFld ad.Form "table" (dVar 0) (dCB (sp_wnn ad) (dCons (dCut (dDc (diSeqT (dVar 1)) (dgTup 2 (dgCons (dgName 3) (dgCons (dgName 4) dgNil))) dYes (dVar 3) (dCB (sp_worth_of ad) (dCons (dVar 4) dNil)) [3, 4])) dNil)))
    (dFld ad.Form "last" (dVar 0) (dCB (sp_worth_of ad) (dCons (dVar 2) dNil)))))
abbrev N_part_text : List Str := ["worth", "name"]
def d_part_text (ad : Ad) : TDS := (dRet (dIf (dTst (dBin (rEqA ad.Worth (inS ad) (inE ad) (inO ad) (sp_Weq ad)) (dVar 0) (dCL (rMake ad.Worth (sp1_Winit ad)) (dCons (dC (.int 1)) dNil)))) (dVar 1) (dJoin [(dFmt (dUn (rProp ad.Worth (sp_Wtext ad)) (dVar 0))), (dC (.str " ")), (dFmt (dVar 1))])))
abbrev N_signed_text : List Str := ["found", "worth", "text"]
def d_signed_text (ad : Ad) : TDS := (dSeq (dIfS (dTst (dBin rEqS (dVar 0) (dC (.str "")))) (dRet (dIf (dTst (dBin rLt (dUn (rProp ad.Worth (sp_Wnumber ad)) (dVar 1)) (dC (.int 0)))) (dBin rSS (dC (.str "-")) (dVar 2)) (dVar 2))) dNext)
    (dRet (dBin rSS (dBin rSS (dVar 0) (dCut (dIf (dTst (dBin rLt (dUn (rProp ad.Worth (sp_Wnumber ad)) (dVar 1)) (dC (.int 0)))) (dC (.str " - ")) (dC (.str " + "))))) (dVar 2))))
abbrev N_text_of : List Str := ["table", "rest", "found", "name"]
def d_text_of (ad : Ad) : TDS := (dSeq (dSet 2 (dC (.str "")))
    (dSeq (dCutS (dFor (diSeqL (dCB (sp_names_of ad) (dCons (dVar 0) dNil))) (dgName 3) (dSet 2 (dCB (sp_signed_text ad) (dCons (dVar 2) (dCons (dBin rIxD (dVar 0) (dVar 3)) (dCons (dCB (sp_part_text ad) (dCons (dCL (rAbsO ad.Worth (sp_Wabs ad)) (dCons (dBin rIxD (dVar 0) (dVar 3)) dNil)) (dCons (dVar 3) dNil))) dNil)))))))
    (dSeq (dIfS (dOr (dTst (dBin rEqS (dVar 2) (dC (.str "")))) (dTst (dBin rNeS (dUn (rProp ad.Worth (sp_Wnumber ad)) (dVar 1)) (dC (.int 0))))) (dSet 2 (dCB (sp_signed_text ad) (dCons (dVar 2) (dCons (dVar 1) (dCons (dUn (rProp ad.Worth (sp_Wtext ad)) (dCL (rAbsO ad.Worth (sp_Wabs ad)) (dCons (dVar 1) dNil))) dNil))))) dNext)
    (dRet (dVar 2)))))
end K1
namespace K1
open PySem PySem.Spec PyProof.Rows L2 VX DL RQ TL
abbrev N_is_integer : List Str := ["value"]
def d_is_integer (ad : Ad) : TDS := (dRet (dAndV (dCL (rIsiD (inS ad) (inE ad) (inO ad) ad.inst) (dCons (dVar 0) (dCons (dC (.val (.ty "int"))) dNil))) (dNotV (dCL (rIsiD (inS ad) (inE ad) (inO ad) ad.inst) (dCons (dVar 0) (dCons (dC (.val (.ty "bool"))) dNil))))))
abbrev N_common_divisor : List Str := ["one", "other"]
def d_common_divisor (ad : Ad) : TDS := (dSeq (dCutS (dWhile (dTst (dBin rGt (dVar 1) (dC (.int 0)))) (dPar 0 1 (dCons (dVar 1) (dCons (dBin rMod (dVar 0) (dVar 1)) dNil)))))
    (dRet (dVar 0)))
abbrev N_Winit : List Str := ["self", "number", "under", "common"]
def d_Winit (ad : Ad) : TDS := (dSeq (dIfS (dOr (dNot (dTst (dCB (sp_is_integer ad) (dCons (dVar 1) dNil)))) (dOr (dNot (dTst (dCB (sp_is_integer ad) (dCons (dVar 2) dNil)))) (dTst (dBin rEqS (dVar 2) (dC (.int 0)))))) (dRaise (.ref ad.BadWorth) (dTup (dCons (dVar 1) (dCons (dVar 2) dNil)))) dNext)
    (dSeq (dSet 3 (dCB (sp_common_divisor ad) (dCons (dCL rAbs (dCons (dVar 1) dNil)) (dCons (dCL rAbs (dCons (dVar 2) dNil)) dNil))))
    (dSeq (dIfS (dTst (dBin rLt (dVar 2) (dC (.int 0)))) (dSet 3 (dUn rNeg (dVar 3))) dNext)
    (dSeq (dSlot ad.Worth 0 (dVar 0) (dBin rFdv (dVar 1) (dVar 3)))
    (dSlot ad.Worth 1 (dVar 0) (dBin rFdv (dVar 2) (dVar 3)))))))
abbrev N_Wnumber : List Str := ["self"]
def d_Wnumber (ad : Ad) : TDS := (dRet (dUn (rSlot ad.Worth 0) (dVar 0)))
abbrev N_Wunder : List Str := ["self"]
def d_Wunder (ad : Ad) : TDS := (dRet (dUn (rSlot ad.Worth 1) (dVar 0)))
abbrev N_Wtext : List Str := ["self"]
def d_Wtext (ad : Ad) : TDS := (dRet (dIf (dTst (dBin rEqS (dUn (rSlot ad.Worth 1) (dVar 0)) (dC (.int 1)))) (dCL rStr (dCons (dUn (rSlot ad.Worth 0) (dVar 0)) dNil)) (dJoin [(dFmt (dUn (rSlot ad.Worth 0) (dVar 0))), (dC (.str "/")), (dFmt (dUn (rSlot ad.Worth 1) (dVar 0)))])))
abbrev N_Wrepr : List Str := ["self"]
def d_Wrepr (ad : Ad) : TDS := (dSeq (dIfS (dTst (dBin rEqS (dUn (rSlot ad.Worth 1) (dVar 0)) (dC (.int 1)))) (dRet (dJoin [(dC (.str "Worth(")), (dFmt (dUn (rSlot ad.Worth 0) (dVar 0))), (dC (.str ")"))])) dNext)
    (dRet (dJoin [(dC (.str "Worth(")), (dFmt (dUn (rSlot ad.Worth 0) (dVar 0))), (dC (.str ", ")), (dFmt (dUn (rSlot ad.Worth 1) (dVar 0))), (dC (.str ")"))])))
abbrev N_Weq : List Str := ["self", "other"]
def d_Weq (ad : Ad) : TDS := (dRet (dAndV (dCL (rIsiD (inS ad) (inE ad) (inO ad) ad.inst) (dCons (dVar 1) (dCons (dC (.val (.ref ad.Worth))) dNil))) (dAndV (dBin rEqS (dUn (rSlot ad.Worth 0) (dVar 0)) (dUn (rSlot ad.Worth 0) (dVar 1))) (dBin rEqS (dUn (rSlot ad.Worth 1) (dVar 0)) (dUn (rSlot ad.Worth 1) (dVar 1))))))
end K1
namespace K1
open PySem PySem.Spec PyProof.Rows L2 VX DL RQ TL
theorem tdel_put {T : Td} {P : Addr} {o : DO} (h : T P = none) : tdel (tput T P o) P = T := by
  funext b
  by_cases e : b = P
  . subst e; rw [tdel_same, h]
  . rw [tdel_ne e, tput_ne e]
theorem tput_put {T : Td} {P : Addr} {o o' : DO} : tput (tput T P o) P o' = tput T P o' := by
  funext b
  by_cases e : b = P
  . subst e; rw [tput_same, tput_same]
  . rw [tput_ne e, tput_ne e, tput_ne e]
section
variable {i : Nat} {te : TDE} {P : Addr} {k : Td -> Prop} {sd : SD} {T : Td} {Q : KD}
theorem lc_map (f : D -> D) : ∀ (items : List D) (acc : List D), (∀ x ∈ items, ∀ (T : Td) (Q : KD), Q (f x) T -> te (sd.set i (some x)) T Q (fun _ _ => False)) -> acc.length + items.length <= sizeLine ->
    k (tput T P (.lst (acc ++ items.map f))) -> dLcL (dgName i) dYes te (fun _ => True) P k sd items (tput T P (.lst acc))
  | [], acc, _, _, h => ⟨trivial, by rw [List.map_nil, List.append_nil] at h; exact h⟩
  | x :: xs, acc, ht, hl, h => by
    refine ⟨trivial, ?_⟩
    refine IfP.t rfl (ht x List.mem_cons_self _ _ ?_)
    rw [List.length_cons] at hl
    show match tput T P (.lst acc) P with | some (.lst acc) => _ | _ => False
    rw [tput_same]
    refine ⟨by omega, ?_⟩
    rw [tput_put]
    refine lc_map f xs (acc ++ [f x]) (fun y hy => ht y (List.mem_cons_of_mem _ hy)) (by rw [List.length_append]; simp; omega) ?_
    rw [List.append_assoc]
    exact h
theorem lcc_map {wi : TDI} {vs : List Nat} {E : XD} (f : D -> D) (items : List D) (hw : ∀ R E, R items (fun _ => True) T -> wi sd T R E) (ht : ∀ x ∈ items, ∀ (T : Td) (Q : KD), Q (f x) T -> te ((wipeD sd vs).set i (some x)) T Q (fun _ _ => False)) (hl : items.length <= sizeLine) (q : Q (.lst (items.map f)) T) :
    Cut (dLc wi (dgName i) dYes te vs sd) T Q E := ⟨hw _ _ fun P hP => by
  refine lc_map f items [] ht (by simpa using hl) ?_
  show match tput T P (.lst _) P with | some (.lst acc) => _ | _ => False
  rw [tput_same]
  show Q _ (tdel (tput T P _) P)
  rw [tdel_put hP]
  exact q⟩
theorem lc_inv (N : Nat) (p : D -> Prop) (Inv : Nat -> Td -> Prop) (hp : ∀ n T l, Inv n T -> Inv n (tput T P (.lst l))) : ∀ (items : List D) (acc : List D) (n : Nat) (T : Td), n + items.length <= N ->
    (∀ x ∈ items, ∀ (n : Nat) (T : Td) (l : List D) (Q : KD), n < N -> Inv n T -> T P = some (.lst l) -> (∀ y T', p y -> Inv (n + 1) T' -> T' P = some (.lst l) -> Q y T') -> te (sd.set i (some x)) T Q (fun _ _ => False)) ->
    T P = some (.lst acc) -> Inv n T -> acc.length + items.length <= sizeLine -> (∀ ys T', ys.length = items.length -> (∀ y ∈ ys, p y) -> Inv (n + items.length) T' -> T' P = some (.lst (acc ++ ys)) -> k T') ->
    dLcL (dgName i) dYes te (fun _ => True) P k sd items T
  | [], acc, n, T, _, _, hT, hI, _, h => ⟨trivial, h [] T rfl (fun _ z => nomatch z) hI (by rw [List.append_nil]; exact hT)⟩
  | x :: xs, acc, n, T, hN, ht, hT, hI, hl, h => by
    refine ⟨trivial, ?_⟩
    rw [List.length_cons] at hl
    refine IfP.t rfl (ht x List.mem_cons_self n T acc _ (by rw [List.length_cons] at hN; omega) hI hT fun y T' py I' hT' => ?_)
    show match T' P with | some (.lst acc) => _ | _ => False
    rw [hT']
    refine ⟨by omega, ?_⟩
    refine lc_inv N p Inv hp xs (acc ++ [y]) (n + 1) _ (by rw [List.length_cons] at hN; omega) (fun z hz => ht z (List.mem_cons_of_mem _ hz)) tput_same (hp _ _ _ I') (by rw [List.length_append]; simp; omega) fun ys T'' ly hy I'' e => ?_
    refine h (y :: ys) T'' (by rw [List.length_cons, List.length_cons, ly]) (fun z hz => ?_) (by rw [List.length_cons, show n + (xs.length + 1) = n + 1 + xs.length by omega]; exact I'') (by rw [e, List.append_assoc]; rfl)
    rcases List.mem_cons.1 hz with rfl | hz
    . exact py
    . exact hy z hz
theorem lcc_inv {wi : TDI} {vs : List Nat} {E : XD} (p : D -> Prop) (Inv : Nat -> Td -> Prop) (items : List D) (hw : ∀ R E, R items (fun _ => True) T -> wi sd T R E) (hp : ∀ (n : Nat) (T' : Td) (P : Addr) (o : DO), T P = none -> Inv n T' -> Inv n (tput T' P o)) (hd : ∀ (n : Nat) (T' : Td) (P : Addr), T P = none -> Inv n T' -> Inv n (tdel T' P))
    (n : Nat) (ht : ∀ x ∈ items, ∀ (P : Addr) (m : Nat) (T' : Td) (l : List D) (Q : KD), T P = none -> m < n + items.length -> Inv m T' -> T' P = some (.lst l) -> (∀ y T'', p y -> Inv (m + 1) T'' -> T'' P = some (.lst l) -> Q y T'') -> te ((wipeD sd vs).set i (some x)) T' Q (fun _ _ => False))
    (hI : Inv n T) (hl : items.length <= sizeLine) (q : ∀ ys T', ys.length = items.length -> (∀ y ∈ ys, p y) -> Inv (n + items.length) T' -> Q (.lst ys) T') :
    Cut (dLc wi (dgName i) dYes te vs sd) T Q E := ⟨hw _ _ fun P hP => by
  refine lc_inv (P := P) (n + items.length) p Inv (fun m T' l h => hp m T' P _ hP h) items [] n _ (Nat.le_refl _) (fun x hx m T' l Q hm h e k => ht x hx P m T' l Q hP hm h e k) tput_same (hp _ _ _ _ hP hI) (by simpa using hl) fun ys T' ly hy I' e => ?_
  show match T' P with | some (.lst acc) => _ | _ => False
  rw [e]
  exact q ys _ ly hy (hd _ _ P hP I')⟩
theorem all_true : ∀ ys : List D, (∀ y ∈ ys, y = .bl true) -> ys = (List.replicate ys.length true).map D.bl
  | [], _ => rfl
  | y :: ys, h => by
    rw [List.length_cons, List.replicate_succ, List.map_cons, <- all_true ys fun z hz => h z (List.mem_cons_of_mem _ hz), h y List.mem_cons_self]
theorem q_allT {ys : List D} {E : XD} (h : ∀ y ∈ ys, y = .bl true) (q : Q (.bl true) T) : OL (rAllD (·.all id)) [.lst ys] T Q E := by
  rw [all_true ys h]
  refine q_allL ?_
  have : (List.replicate ys.length true).all id = true := by simp
  rw [this]
  exact q
end
section
variable {T T' : Td} {j P : Addr} {n : Nat}
theorem JOk.ne (h : JOk n T j) (hP : T P = none) : j ≠ P := fun e => by
  obtain ⟨x, y, z, q, _⟩ := h
  rw [e, hP] at q
  cases q
theorem JOk.del (h : JOk n T j) (hP : j ≠ P) : JOk n (tdel T P) j := by
  obtain ⟨x, y, z, q, r⟩ := h
  exact ⟨x, y, z, by rw [tdel_ne hP]; exact q, r⟩
theorem Ag.tr {T1 T2 : Td} (a : Ag j T T1) (b : Ag j T1 T2) : Ag j T T2 := fun c h => (b c h).trans (a c h)
end
end K1
namespace K1
open PySem PySem.Spec PyProof.Rows L2 VX DL RQ TL
variable {ad : Ad} {ds : List D} {T : Td} {Q : KD} {E : XD}
theorem nx_non : NoExc .non := fun _ h => nomatch h
theorem nx_bl : NoExc .bl := fun _ h => nomatch h
theorem nx_int : NoExc .int := fun _ h => nomatch h
theorem nx_str : NoExc .str := fun _ h => nomatch h
theorem nx_tup : NoExc .tup := fun _ h => nomatch h
theorem nx_lst : NoExc .lst := fun _ h => nomatch h
theorem nx_dct : NoExc .dct := fun _ h => nomatch h
theorem nx_cls {C : Addr} : NoExc (.cls C) := fun _ h => nomatch h
theorem kd_w (o : AdW ad) (q : Rat) : kdD ad T (wq ad q) = some (.cls ad.Worth) := by
  show (if inS ad ad.Worth = true then some (Kd.cls ad.Worth) else none) = _
  rw [if_pos o.ws]
def isI : Kd -> Bool
  | .int => true
  | _ => false
theorem is_int (k : Kd) : (k.is "int" && !k.is "bool") = isI k := by cases k <;> rfl
theorem h_is_integer (o : AdW ad) (h : sp_is_integer ad ds T Q E) : d_is_integer ad (endsD Q E) (startD N_is_integer ds) T := by
  obtain ⟨x, k, rfl, hk, he, hq⟩ := h.h
  refine q_isin o.toAdB hk he n_int ?_
  cases h1 : k.is "int" with
  | true =>
    refine q_isin o.toAdB hk he n_bool ?_
    rw [h1, Bool.true_and] at hq
    exact hq
  | false =>
    rw [h1, Bool.false_and] at hq
    exact hq
theorem u_is_integer {x : D} {k : Kd} (hk : kdD ad T x = some k) (he : NoExc k) (hq : Q (.bl (isI k)) T) : sp_is_integer ad [x] T Q E := ⟨x, k, rfl, hk, he, by rw [is_int]; exact hq⟩
theorem fmod_nat (a b : Nat) : (a : Int).fmod (b : Int) = ((a % b : Nat) : Int) := by
  rw [Int.fmod_eq_emod_of_nonneg _ (by omega)]
  rfl
theorem gcd_step (a b : Nat) : Nat.gcd a b = Nat.gcd b (a % b) := by rw [Nat.gcd_comm a b, Nat.gcd_rec b a, Nat.gcd_comm (a % b) b]
theorem h_common_divisor (h : sp_common_divisor ad ds T Q E) : d_common_divisor ad (endsD Q E) (startD N_common_divisor ds) T := by
  obtain ⟨a, b, rfl, hq⟩ := h.h
  have key : ∀ (n a b : Nat) (D : DEnds) (T : Td), b < n -> D.nx [some (.int (Nat.gcd a b : Nat)), some (.int 0)] T ->
      dIter (dTst (dBin rGt (dVar 1) (dC (.int 0)))) (dPar 0 1 (dCons (dVar 1) (dCons (dBin rMod (dVar 0) (dVar 1)) dNil))) D n [some (.int a), some (.int b)] T := by
    intro n
    induction n with
    | zero => intro a b D T h; omega
    | succ n ih =>
      intro a b D T h hn
      unfold dIter
      refine q_gt (IfP.by (fun hc => ?_) (fun hc => ?_))
      . have hb : (0 : Int) < b := of_decide_eq_true hc
        refine q_mod (by omega) ?_
        have e := fmod_nat a b
        have hlt : a % b < b := Nat.mod_lt _ (by omega)
        have q := ih b (a % b) D T (by omega) (by rw [gcd_step] at hn; exact hn)
        rw [<- e] at q
        exact q
      . have hb : ¬ (0 : Int) < b := of_decide_eq_false hc
        have hb0 : b = 0 := by omega
        subst hb0
        rw [Nat.gcd_zero_right] at hn
        exact hn
  exact ⟨⟨b + 1, key (b + 1) a b _ T (by omega) hq⟩⟩
theorem u_gcd {a b : Nat} (hq : Q (.int (Nat.gcd a b)) T) : sp_common_divisor ad [.int a, .int b] T Q E := ⟨a, b, rfl, hq⟩
theorem sgn_mem {s : Str} {x : D} (h : x ∈ signsD s) : ∃ c, c ∈ tl s /\ x = .str ⟨#[c]⟩ := by
  unfold signsD at h
  obtain ⟨c, hc, e⟩ := List.mem_map.1 h
  exact ⟨c, hc, e.symm⟩
theorem sgn_len (s : Str) : (signsD s).length = s.length := by unfold signsD; rw [List.length_map]; exact (len_tl s).symm
theorem q_above {q : Rat} (hq : Q (.int q.num) T) : O1 (rSlot ad.Worth 0) (wq ad q) T Q E := ⟨by simp [rSlot, slotsD, wq]; exact hq⟩
theorem q_below {q : Rat} (hq : Q (.int q.den) T) : O1 (rSlot ad.Worth 1) (wq ad q) T Q E := ⟨by simp [rSlot, slotsD, wq]; exact hq⟩
theorem h_Winit (h : sp_Winit ad ds T Q E) : d_Winit ad (endsD Q E) (startD N_Winit ds) T := by
  obtain ⟨a, n, u, rfl, hT, h'⟩ := h.h
  rcases h' with ⟨i, j, rfl, rfl, hj, hz, hq⟩ | ⟨p, q, hp, hq1, np, nq, hbad, hE⟩
  . refine u_is_integer (k := .int) rfl nx_int (IfP.f rfl ?_)
    refine u_is_integer (k := .int) rfl nx_int (IfP.f rfl ?_)
    refine q_eqI (IfP.f (decide_eq_false hj) ?_)
    refine q_abs (q_abs (u_gcd (a := i.natAbs) (b := j.natAbs) ?_))
    have hg : Nat.gcd i.natAbs j.natAbs ≠ 0 := fun z => hj (by have := Nat.eq_zero_of_gcd_eq_zero_right z; omega)
    have hg1 : Nat.gcd i.natAbs j.natAbs <= j.natAbs := Nat.gcd_le_right _ (by omega)
    have ew := w_q i j hj
    rw [<- ew.1, <- ew.2] at hq
    have fin : ∀ g : Int, g = wG i j -> (dSeq (dSlot ad.Worth 0 (dVar 0) (dBin rFdv (dVar 1) (dVar 3))) (dSlot ad.Worth 1 (dVar 0) (dBin rFdv (dVar 2) (dVar 3)))) (endsD Q E) [some (.ref a), some (.int i), some (.int j), some (.int g)] T := by
      intro g eg
      have c1 : g ≠ 0 := by rw [eg]; unfold wG; split <;> omega
      have c2 : g.natAbs < 2 ^ 8999 := Nat.lt_of_le_of_lt (show g.natAbs <= j.natAbs by rw [eg]; unfold wG; split <;> omega) hz
      refine q_fdv c1 c2 ?_
      show match T a with
        | some (.slo C' ds) => C' = ad.Worth /\ _
        | _ => False
      rw [hT]
      refine ⟨rfl, q_fdv c1 c2 ?_⟩
      show match tput T a (.slo ad.Worth (putO 0 (.int (i.fdiv g)) [])) a with
        | some (.slo C' ds) => C' = ad.Worth /\ _
        | _ => False
      rw [tput_same]
      refine ⟨rfl, ?_⟩
      show Q .non (tput (tput T a _) a _)
      rw [tput_put, eg]
      exact hq
    refine q_lt (IfP.by (fun hc => ?_) (fun hc => ?_))
    . refine q_neg (fin _ ?_)
      unfold wG
      rw [if_pos (of_decide_eq_true hc)]
    . exact fin _ (by unfold wG; rw [if_neg (of_decide_eq_false hc)])
  . have bad : ∀ DD : DEnds, DD.xe = (endsD Q E).xe -> dRaise (.ref ad.BadWorth) (dTup (dCons (dVar 1) (dCons (dVar 2) dNil))) DD (startD N_Winit [.ref a, n, u]) T := fun DD e => ⟨sz_ rfl, by rw [e]; exact hE⟩
    refine u_is_integer hp np ?_
    refine IfP.by (fun h1 => IfP.t rfl (bad _ rfl)) (fun h1 => ?_)
    refine u_is_integer hq1 nq ?_
    refine IfP.by (fun h2 => IfP.t rfl (bad _ rfl)) (fun h2 => ?_)
    have k1 : p = .int := by cases p <;> first | rfl | cases h1
    have k2 : q = .int := by cases q <;> first | rfl | cases h2
    rcases hbad with h | h | h
    . exact absurd k1 h
    . exact absurd k2 h
    . subst h
      exact q_eqI (IfP.t rfl (bad _ rfl))
theorem mkW {i j : Int} (hj : j ≠ 0) (hz : j.natAbs < 2 ^ 8999) (hq : Q (wq ad (Rat.divInt i j)) T) : OL (rMake ad.Worth (sp_Winit ad)) [.int i, .int j] T Q E := ⟨by
  intro x hx
  refine ⟨x, _, _, rfl, tput_same, .inl ⟨i, j, rfl, rfl, hj, hz, ?_⟩⟩
  refine ⟨rfl, [.int (Rat.divInt i j).num, .int (Rat.divInt i j).den], tput_same, ?_⟩
  rw [tput_put, tdel_put hx]
  exact hq⟩
theorem mk1W {i : Int} (hq : Q (wq ad (i : Rat)) T) : OL (rMake ad.Worth (sp1_Winit ad)) [.int i] T Q E := ⟨by
  intro x hx
  refine ⟨⟨x, _, _, rfl, tput_same, .inl ⟨i, 1, rfl, rfl, by decide, lt_8999 64 (by decide) (by decide), ?_⟩⟩⟩
  refine ⟨rfl, [.int (Rat.divInt i 1).num, .int (Rat.divInt i 1).den], tput_same, ?_⟩
  rw [tput_put, tdel_put hx, RQ.q_int]
  exact hq⟩
theorem h_Wnumber (h : sp_Wnumber ad ds T Q E) : d_Wnumber ad (endsD Q E) (startD N_Wnumber ds) T := by
  obtain ⟨q, rfl, hq⟩ := h.h
  exact q_above hq
theorem h_Wunder (h : sp_Wunder ad ds T Q E) : d_Wunder ad (endsD Q E) (startD N_Wunder ds) T := by
  obtain ⟨q, rfl, hq⟩ := h.h
  exact q_below hq
theorem il {i : Int} (h : i.natAbs < 2 ^ 1919) : (Str.ofString (toString i)).length <= 1921 := int_text_len_1921 (log2_lt h (by decide) (by decide))
theorem dl {n : Nat} (h : n < 2 ^ 1919) : (Str.ofString (toString (n : Int))).length <= 1921 := il (by rw [Int.natAbs_natCast]; exact h)
theorem lgn {i : Int} (h : i.natAbs < 2 ^ 1919) : i.natAbs.log2 < 1920 := log2_lt h (by decide) (by decide)
theorem lgd {n : Nat} (h : n < 2 ^ 1919) : ((n : Int)).natAbs.log2 < 1920 := lgn (by rw [Int.natAbs_natCast]; exact h)
theorem len_lit {s : String} {n : Nat} (h : s.length = n) : (Str.ofString s).length = n := by
  rw [len_tl, tl_ofString, List.length_map]
  exact h
theorem e0 : (Str.empty).length = 0 := rfl
theorem h_Wtext (h : sp_Wtext ad ds T Q E) : d_Wtext ad (endsD Q E) (startD N_Wtext ds) T := by
  obtain ⟨q, rfl, ⟨h1, h2⟩, hq⟩ := h.h
  have l1 := il h1
  have l2 := dl h2
  have l3 : ("/" : Str).length = 1 := len_lit rfl
  unfold qText at hq
  refine q_below (q_eqI (IfP.by (fun hc => ?_) (fun hc => ?_)))
  . have hc' : q.den = 1 := by have := of_decide_eq_true hc; omega
    rw [if_pos hc'] at hq
    exact q_above (q_str h1 hq)
  . have hc' : q.den ≠ 1 := by have := of_decide_eq_false hc; omega
    rw [if_neg hc'] at hq
    refine q_above ⟨lgn h1, ⟨sz (by rw [slen, e0]; omega), ?_⟩⟩
    refine ⟨sz (by rw [slen, slen, e0, l3]; omega), ?_⟩
    refine q_below ⟨lgd h2, ⟨sz (by rw [slen, slen, slen, e0, l3]; omega), ?_⟩⟩
    rw [eapp]
    exact hq
theorem h_Wrepr (h : sp_Wrepr ad ds T Q E) : d_Wrepr ad (endsD Q E) (startD N_Wrepr ds) T := by
  obtain ⟨q, rfl, ⟨h1, h2⟩, hq⟩ := h.h
  have l1 := il h1
  have l2 := dl h2
  have l3 : ("Worth(" : Str).length = 6 := len_lit rfl
  have l4 : (")" : Str).length = 1 := len_lit rfl
  have l5 : (", " : Str).length = 2 := len_lit rfl
  unfold rText at hq
  refine q_below (q_eqI (IfP.by (fun hc => ?_) (fun hc => ?_)))
  . have hc' : q.den = 1 := by have := of_decide_eq_true hc; omega
    rw [if_pos hc'] at hq
    refine ⟨sz (by rw [slen, e0, l3]; omega), ?_⟩
    refine q_above ⟨lgn h1, ⟨sz (by rw [slen, slen, e0, l3]; omega), ?_⟩⟩
    refine ⟨sz (by rw [slen, slen, slen, e0, l3, l4]; omega), ?_⟩
    rw [eapp]
    exact hq
  . have hc' : q.den ≠ 1 := by have := of_decide_eq_false hc; omega
    rw [if_neg hc'] at hq
    refine ⟨sz (by rw [slen, e0, l3]; omega), ?_⟩
    refine q_above ⟨lgn h1, ⟨sz (by rw [slen, slen, e0, l3]; omega), ?_⟩⟩
    refine ⟨sz (by rw [slen, slen, slen, e0, l3, l5]; omega), ?_⟩
    refine q_below ⟨lgd h2, ⟨sz (by rw [slen, slen, slen, slen, e0, l3, l5]; omega), ?_⟩⟩
    refine ⟨sz (by rw [slen, slen, slen, slen, slen, e0, l3, l4, l5]; omega), ?_⟩
    rw [eapp]
    exact hq
def isC (D : Addr) : Kd -> Bool
  | .cls C => decide (C = D)
  | _ => false
theorem kd_known {ad : Ad} {T : Td} {x : D} {C : Addr} (h : kdD ad T x = some (.cls C)) : (inS ad C || inO ad C) = true := by
  unfold kdD at h
  split at h <;> try (cases h; done)
  . split at h
    . rename_i e; cases h; rw [e]; rfl
    . cases h
  . split at h
    . rename_i e; cases h; rw [e, Bool.or_true]
    . cases h
  . split at h <;> cases h
  . split at h <;> try (cases h; done)
    split at h
    . rename_i e; cases h; rw [e, Bool.or_true]
    . cases h
theorem q_isW (o : AdW ad) {x : D} {k : Kd} (hk : kdD ad T x = some k) (he : NoExc k) (hq : Q (.bl (isC ad.Worth k)) T) : OL (rIsiD (inS ad) (inE ad) (inO ad) ad.inst) [x, .val (.ref ad.Worth)] T Q E := by
  have hw : (inS ad ad.Worth || inO ad ad.Worth || inE ad ad.Worth) = true := by rw [o.ws]; rfl
  have hw2 : (inS ad ad.Worth || inO ad ad.Worth) = true := by rw [o.ws]; rfl
  refine q_isi hk rfl ?_ hq
  cases k with
  | cls C =>
    have hc := kd_known hk
    by_cases e : C = ad.Worth
    . subst e
      rw [show isC ad.Worth (.cls ad.Worth) = true from decide_eq_true rfl]
      exact o.cc _ hw
    . show ad.inst (.ref C) (.ref ad.Worth) = some (decide (C = ad.Worth))
      rw [decide_eq_false e]
      exact o.cd _ _ hc hw2 e
  | exc C => exact absurd rfl (he C)
  | non => exact o.nc _ hw _ (by simp [names7])
  | bl => exact o.nc _ hw _ (by simp [names7])
  | int => exact o.nc _ hw _ (by simp [names7])
  | str => exact o.nc _ hw _ (by simp [names7])
  | tup => exact o.nc _ hw _ (by simp [names7])
  | lst => exact o.nc _ hw _ (by simp [names7])
  | dct => exact o.nc _ hw _ (by simp [names7])
theorem h_Weq (o : AdW ad) (h : sp_Weq ad ds T Q E) : d_Weq ad (endsD Q E) (startD N_Weq ds) T := by
  obtain ⟨p, y, rfl, h'⟩ := h.h
  rcases h' with ⟨q, rfl, hq⟩ | ⟨k, hk, he, hne, hq⟩
  . refine q_isW o (kd_w o q) nx_cls ?_
    rw [show isC ad.Worth (.cls ad.Worth) = true from decide_eq_true rfl]
    refine q_above (q_above (q_eqI ?_))
    cases hc : decide (p.num = q.num) with
    | true =>
      refine q_below (q_below (q_eqI ?_))
      have e : decide ((p.den : Int) = q.den) = decide (p = q) := by
        rw [decide_eq_decide]
        exact ⟨fun h => q_ext (of_decide_eq_true hc) h, fun h => by rw [h]⟩
      rw [e]
      exact hq
    | false =>
      have : decide (p = q) = false := decide_eq_false fun e => of_decide_eq_false hc (by rw [e])
      rw [this] at hq
      exact hq
  . refine q_isW o hk he ?_
    have e : isC ad.Worth k = false := by
      cases k with
      | cls C => exact decide_eq_false fun e => hne (by rw [e])
      | _ => rfl
    rw [e]
    exact hq
end K1
namespace K1
open PySem PySem.Spec PyProof.Rows L2 VX DL RQ TL Srt
variable {ad : Ad} {ds : List D} {T : Td} {Q : KD} {E : XD}
theorem isC0_eq (W : Addr) (k : Kd) : isC0 W k = isC W k := by cases k <;> rfl
theorem num_kd (o : AdW ad) {x : D} {q : Rat} (h : Num ad x q) : ∃ k, kdD ad T x = some k /\ NoExc k /\ numK ad k = true := by
  cases h with
  | int i => exact ⟨.int, rfl, nx_int, rfl⟩
  | w q => exact ⟨_, kd_w o q, nx_cls, by show (false && !false || decide (ad.Worth = ad.Worth)) = true; simp⟩
theorem h_is_number (o : AdW ad) (h : sp_is_number ad ds T Q E) : d_is_number ad (endsD Q E) (startD N_is_number ds) T := by
  obtain ⟨x, k, rfl, hk, he, hq⟩ := h.h
  have e : numK ad k = (isI k || isC ad.Worth k) := by unfold numK; rw [is_int, isC0_eq]
  rw [e] at hq
  refine u_is_integer hk he ?_
  cases h1 : isI k with
  | true => rw [h1] at hq; exact hq
  | false => rw [h1, Bool.false_or] at hq; exact q_isW o hk he hq
theorem u_is_number {x : D} {k : Kd} (hk : kdD ad T x = some k) (he : NoExc k) (hq : Q (.bl (numK ad k)) T) : sp_is_number ad [x] T Q E := ⟨x, k, rfl, hk, he, hq⟩
theorem u_isnum (o : AdW ad) {x : D} {q : Rat} (h : Num ad x q) (hq : Q (.bl true) T) : sp_is_number ad [x] T Q E := by
  obtain ⟨k, hk, he, e⟩ := num_kd (T := T) o h
  exact u_is_number hk he (by rw [e]; exact hq)
theorem h_worth_of (o : AdW ad) (h : sp_worth_of ad ds T Q E) : d_worth_of ad (endsD Q E) (startD N_worth_of ds) T := by
  obtain ⟨x, q, rfl, hn, hq⟩ := h.h
  cases hn with
  | int i => exact q_isin o.toAdB (k := .int) rfl nx_int n_int (IfP.t rfl (mk1W hq))
  | w q => exact q_isin o.toAdB (kd_w o q) nx_cls n_int (IfP.f rfl hq)
theorem u_worth_of {x : D} {q : Rat} (h : Num ad x q) (hq : Q (wq ad q) T) : sp_worth_of ad [x] T Q E := ⟨x, q, rfl, h, hq⟩
theorem SzOk.symm {p q : Rat} (h : SzOk p q) : SzOk q p := by unfold SzOk at *; omega
theorem h_Wabs (h : sp_Wabs ad ds T Q E) : d_Wabs ad (endsD Q E) (startD N_Wabs ds) T := by
  obtain ⟨p, rfl, hz, hq⟩ := h.h
  exact q_above (q_abs (q_below (mkW (den0 p) (lt_8999 _ (cden p) (by omega)) hq)))
end K1
namespace K1
open PySem PySem.Spec PyProof.Rows L2 VX DL RQ TL Srt
variable {ad : Ad} {ds : List D} {T : Td} {Q : KD} {E : XD}
theorem kd_isstr {x : D} {k : Kd} (h : kdD ad T x = some k) (e : k.is "str" = true) : ∃ s, x = .str s := by
  unfold kdD at h
  split at h <;> first | exact ⟨_, rfl⟩ | skip
  all_goals exfalso
  all_goals first
    | (cases h; done)
    | (cases h; simp [Kd.is] at e; done)
    | (split at h <;> first | (cases h; simp [Kd.is] at e; done) | (cases h; done) | (split at h <;> first | (cases h; simp [Kd.is] at e; done) | (cases h; done)))
theorem kd_nostr {x : D} {k : Kd} {f : Str -> Bool} (h : kdD ad T x = some k) (e : k.is "str" = false) : strB f x = false := by
  cases x <;> first | rfl | (cases h; simp [Kd.is] at e)
theorem flat_strs : ∀ ss : List Str, flatDs (ss.map D.str) = some (ss.map V.str)
  | [] => rfl
  | s :: ss => by
    show (match flatD (D.str s), flatDs (ss.map D.str) with | some v, some vs => some (v :: vs) | _, _ => none) = _
    rw [flat_strs ss]
    rfl
theorem inV_strs (s : Str) (ss : List Str) : inV (.str s) (ss.map V.str) = decide (s ∈ ss) := by
  unfold inV
  rw [List.any_map]
  have e : (fun y => eqV y (V.str s)) ∘ V.str = fun t => t == s := by funext t; rfl
  rw [e]
  induction ss with
  | nil => rfl
  | cons t ss ih =>
    rw [List.any_cons, ih]
    by_cases h : t = s
    . subst h; simp
    . have : (t == s) = false := by simpa using h
      rw [this, Bool.false_or]
      exact decide_eq_decide.2 ⟨fun z => List.mem_cons_of_mem _ z, fun z => (List.mem_cons.1 z).elim (fun w => absurd w.symm h) id⟩
theorem q_inS {y : D} {s : Str} {ss : List Str} {neg : Bool} (hy : itemsD T y = some (ss.map D.str)) (hq : Q (.bl (if neg then !decide (s ∈ ss) else decide (s ∈ ss))) T) : O2 (rInF neg) (.str s) y T Q E := ⟨by
  unfold rInF
  rw [show flatD (.str s) = some (V.str s) from rfl, hy]
  show match flatDs (ss.map D.str) with | some ws => _ | none => False
  rw [flat_strs]
  show Q (.bl (if neg then !inV (V.str s) (ss.map V.str) else inV (V.str s) (ss.map V.str))) T
  rw [inV_strs]
  exact hq⟩
def letD : D -> D
  | .str z => .bl (z.cps.toList.all isLet)
  | x => x
theorem sgn_mapf (f : Nat -> Bool) (g : D -> D) (hg : ∀ c, g (.str ⟨#[c]⟩) = .bl (f c)) (s : Str) : (signsD s).map g = ((tl s).map f).map D.bl := by
  unfold signsD
  rw [List.map_map, List.map_map]
  exact List.map_congr_left fun c _ => hg c
theorem q_allS {te : TDE} {i : Nat} {vs : List Nat} {sd : SD} {wi : TDI} (f : Nat -> Bool) (s : Str) (hl : s.length <= 10000) (hw : ∀ R E, R (signsD s) (fun _ => True) T -> wi sd T R E)
    (ht : ∀ c ∈ tl s, ∀ (T : Td) (Q : KD), Q (.bl (f c)) T -> te ((wipeD sd vs).set i (some (.str ⟨#[c]⟩))) T Q (fun _ _ => False)) (hq : Q (.bl ((tl s).all f)) T) : Cut (dLc wi (dgName i) dYes te vs sd) T (fun x T1 => OL (rAllD (·.all id)) [x] T1 Q E) E := by
  let g : D -> D := fun x => match x with
    | .str z => .bl (z.cps.toList.all f)
    | x => x
  have hg : ∀ c, g (.str ⟨#[c]⟩) = .bl (f c) := fun c => by show D.bl (([c] : List Nat).all f) = _; simp
  refine lcc_map g (signsD s) hw (fun x hx T Q hq => ?_) (by rw [sgn_len]; exact sz hl) ?_
  . obtain ⟨c, hc, rfl⟩ := sgn_mem hx
    rw [hg] at hq
    exact ht c hc T Q hq
  . rw [sgn_mapf f g hg]
    refine q_allL ?_
    have e : ((tl s).map f).all id = (tl s).all f := by rw [List.all_map]; rfl
    rw [e]
    exact hq
theorem h_is_name (o : AdB ad) (h : sp_is_name ad ds T Q E) : d_is_name ad (endsD Q E) (startD N_is_name ds) T := by
  obtain ⟨x, k, rfl, hk, he, hl, hq⟩ := h.h
  refine q_isin o hk he n_str ?_
  cases e : k.is "str" with
  | false =>
    rw [kd_nostr hk e] at hq
    exact IfP.t rfl (IfP.t rfl hq)
  | true =>
    obtain ⟨s, rfl⟩ := kd_isstr hk e
    have hs := hl s rfl
    refine IfP.f rfl ?_
    refine q_lenS (sz hs) (q_le ?_)
    have eq : strB nameS (.str s) = nameS s := rfl
    rw [eq] at hq
    unfold nameS at hq
    have e1 : decide (1 <= (s.length : Int)) = decide (1 <= s.length) := decide_eq_decide.2 (by omega)
    have e2 : decide ((s.length : Int) <= 8) = decide (s.length <= 8) := decide_eq_decide.2 (by omega)
    rw [e1]
    cases h1 : decide (1 <= s.length) with
    | false => rw [h1] at hq; exact IfP.t rfl (IfP.t rfl hq)
    | true =>
      refine q_le ?_
      rw [e2]
      cases h2 : decide (s.length <= 8) with
      | false => rw [h1, h2] at hq; exact IfP.t rfl (IfP.t rfl hq)
      | true =>
        refine IfP.f rfl (q_inS rfl ?_)
        show IfP (if false = true then _ else decide (s ∈ c_WORDS)) _ _
        rw [if_neg (by decide)]
        cases h3 : decide (s ∈ c_WORDS) with
        | true => rw [h1, h2, h3] at hq; exact IfP.t rfl hq
        | false =>
          rw [h1, h2, h3] at hq
          refine IfP.f rfl ?_
          exact q_allS isLet s hs (fun R E h => h) (fun c _ T Q hq => q_sign hq) hq
theorem u_is_name {x : D} {k : Kd} (hk : kdD ad T x = some k) (he : NoExc k) (hl : ∀ s, x = .str s -> s.length <= 10000) (hq : Q (.bl (strB nameS x)) T) : sp_is_name ad [x] T Q E := ⟨x, k, rfl, hk, he, hl, hq⟩
theorem q_ixS {s : Str} {n : Nat} {c : Nat} (hl : s.length <= 10000) (h : (tl s)[n]? = some c) (hq : Q (.str ⟨#[c]⟩) T) : O2 rIxStr (.str s) (.int n) T Q E := ⟨⟨s, n, c, rfl, rfl, sz hl, atI_nat h, hq⟩⟩
theorem cut1_tl (s : Str) (hl : s.length <= 10000) : tl (cutS s (some 1) none) = (tl s).drop 1 := cut2 s
theorem h_is_unknown (o : AdB ad) (h : sp_is_unknown ad ds T Q E) : d_is_unknown ad (endsD Q E) (startD N_is_unknown ds) T := by
  obtain ⟨x, k, rfl, hk, he, hl, hq⟩ := h.h
  refine u_is_name hk he hl ?_
  cases e0 : strB nameS x with
  | true =>
    have ex : strB unkS x = true := by
      cases x with
      | str s =>
        have e1 : nameS s = true := e0
        show (nameS s || cntL (tl s)) = true
        rw [e1, Bool.true_or]
      | _ => cases e0
    rw [ex] at hq
    exact IfP.t rfl hq
  | false =>
    refine IfP.f rfl ?_
    refine q_isin o hk he n_str ?_
    cases e : k.is "str" with
    | false =>
      rw [kd_nostr hk e] at hq
      exact IfP.t rfl (IfP.t rfl hq)
    | true =>
      obtain ⟨s, rfl⟩ := kd_isstr hk e
      have hs := hl s rfl
      have e1 : nameS s = false := e0
      have eu : strB unkS (.str s) = cntL (tl s) := by show (nameS s || cntL (tl s)) = _; rw [e1, Bool.false_or]
      rw [eu] at hq
      have len : s.length = (tl s).length := len_tl s
      refine IfP.f rfl (q_lenS (sz hs) (q_lt ?_))
      generalize ht : tl s = l at hq len
      cases l with
      | nil =>
        have : decide ((1 : Int) < (s.length : Int)) = false := decide_eq_false (by rw [len]; simp)
        rw [this]
        exact IfP.t rfl (IfP.t rfl hq)
      | cons c l =>
      cases l with
      | nil =>
        have : decide ((1 : Int) < (s.length : Int)) = false := decide_eq_false (by rw [len]; simp)
        rw [this]
        exact IfP.t rfl (IfP.t rfl hq)
      | cons d r =>
        have h1 : decide ((1 : Int) < (s.length : Int)) = true := decide_eq_true (by rw [len]; simp; omega)
        rw [h1]
        refine q_le ?_
        have h2 : decide ((s.length : Int) <= 3) = decide (r.length <= 1) := decide_eq_decide.2 (by rw [len]; simp; omega)
        rw [h2]
        cases h3 : decide (r.length <= 1) with
        | false =>
          have : cntL (c :: d :: r) = false := by show (decide (r.length <= 1) && _ && _ && _) = false; rw [h3]; rfl
          rw [this] at hq
          exact IfP.t rfl (IfP.t rfl hq)
        | true =>
          refine IfP.f rfl (q_ixS (n := 0) hs (by rw [ht]; rfl) (q_inS rfl ?_))
          show IfP (if true = true then !decide ((⟨#[c]⟩ : Str) ∈ c_COUNTED) else _) _ _
          rw [if_pos rfl]
          cases h4 : decide ((⟨#[c]⟩ : Str) ∈ c_COUNTED) with
          | false =>
            have : cntL (c :: d :: r) = false := by show (decide (r.length <= 1) && decide ((⟨#[c]⟩ : Str) ∈ c_COUNTED) && _ && _) = false; rw [h3, h4]; rfl
            rw [this] at hq
            exact IfP.t rfl hq
          | true =>
            have ec : cntL (c :: d :: r) = ((d :: r).all isDig && (decide (r = []) || decide ((⟨#[d]⟩ : Str) ≠ "0"))) := by
              show (decide (r.length <= 1) && decide ((⟨#[c]⟩ : Str) ∈ c_COUNTED) && _ && _) = _
              rw [h3, h4]; rfl
            rw [ec] at hq
            refine IfP.f rfl ?_
            have ed : tl (cutS s (some 1) none) = d :: r := by rw [cut1_tl s hs, ht]; rfl
            have lc : (cutS s (some 1) none).length <= 10000 := by rw [len_tl, ed]; rw [len] at hs; simp at hs ⊢; omega
            refine q_allS isDig (cutS s (some 1) none) lc (fun R E h => ⟨sz hs, h⟩) (fun c' _ T Q hq => q_sign hq) ?_
            rw [ed]
            cases h5 : (d :: r).all isDig with
            | false => rw [h5] at hq; exact hq
            | true =>
              rw [h5, Bool.true_and] at hq
              refine q_lenS (sz hs) (q_eqI ?_)
              have h6 : decide ((s.length : Int) = 2) = decide (r = []) := decide_eq_decide.2 (by rw [len]; cases r <;> simp <;> omega)
              rw [h6]
              cases h7 : decide (r = []) with
              | true => rw [h7] at hq; exact hq
              | false =>
                rw [h7, Bool.false_or] at hq
                refine q_ixS (n := 1) hs (by rw [ht]; rfl) (q_neT ?_)
                have : (!decide ((⟨#[d]⟩ : Str) = "0")) = decide ((⟨#[d]⟩ : Str) ≠ "0") := by simp
                rw [this]
                exact hq
theorem u_is_unknown {x : D} {k : Kd} (hk : kdD ad T x = some k) (he : NoExc k) (hl : ∀ s, x = .str s -> s.length <= 10000) (hq : Q (.bl (strB unkS x)) T) : sp_is_unknown ad [x] T Q E := ⟨x, k, rfl, hk, he, hl, hq⟩
theorem h_names_of (h : sp_names_of ad ds T Q E) : d_names_of ad (endsD Q E) (startD N_names_of ds) T := by
  obtain ⟨x, ss, rfl, hx, hl, hq⟩ := h.h
  refine lcc_map id (ss.map D.str) (fun R E hR => ?_) (fun x hx T Q hq => ?_) (by rw [List.length_map]; exact sz (by omega)) ?_
  . rcases hx with rfl | ⟨ds, rfl⟩
    . exact .inl hR
    . refine .inr ?_
      have e : (ss.map Sum.inr).map keyD = ss.map D.str := by rw [List.map_map]; rfl
      show R ((ss.map Sum.inr).map keyD) _ _
      rw [e]
      exact hR
  . obtain ⟨s, _, rfl⟩ := List.mem_map.1 hx
    exact q_strS hq
  . rw [List.map_id]
    exact ⟨⟨_, ss, rfl, rfl, rfl, hl, hq⟩⟩
theorem u_names_l {ss : List Str} (hl : ss.length < 64) (hq : Q (.lst ((srtS ss).map D.str)) T) : sp_names_of ad [.lst (ss.map D.str)] T Q E := ⟨_, ss, rfl, .inl rfl, hl, hq⟩
theorem u_names_d {ss : List Str} {es : List D} (hl : ss.length < 64) (hq : Q (.lst ((srtS ss).map D.str)) T) : sp_names_of ad [.dct (ss.map Sum.inr) es] T Q E := ⟨_, ss, rfl, .inr ⟨es, rfl⟩, hl, hq⟩
end K1
namespace K1
open PySem PySem.Spec PyProof.Rows L2 VX DL RQ TL Srt
section
variable {α β : Type}
def tks (t : List (Str × α)) : List Key := t.map fun p => Sum.inr p.1
theorem tks_len (t : List (Str × α)) : (tks t).length = t.length := by unfold tks; rw [List.length_map]
theorem tks_mem {t : List (Str × α)} {s : Str} : (Sum.inr s : Key) ∈ tks t ↔ s ∈ t.map (·.1) := by
  unfold tks
  rw [List.mem_map, List.mem_map]
  exact ⟨fun ⟨p, h, e⟩ => ⟨p, h, by cases e; rfl⟩, fun ⟨p, h, e⟩ => ⟨p, h, by rw [<- e]⟩⟩
theorem look_tab (w : α -> D) : ∀ (t : List (Str × α)) (s : Str), dLook (tks t) (t.map fun p => w p.2) (Sum.inr s) = (t.lookup s).map w
  | [], s => rfl
  | p :: t, s => by
    show (if (Sum.inr p.1 : Key) = Sum.inr s then some (w p.2) else dLook (tks t) (t.map fun p => w p.2) (Sum.inr s)) = _
    rw [List.lookup_cons]
    by_cases h : p.1 = s
    . have h' : (s == p.1) = true := by simp [h]
      rw [if_pos (by rw [h]), h']
      rfl
    . have h' : (s == p.1) = false := by simpa using fun z => h z.symm
      rw [if_neg (fun z => h (by cases z; rfl)), h']
      exact look_tab w t s
theorem lk_some {t : List (Str × α)} : ∀ {s : Str}, s ∈ t.map (·.1) -> ∃ x, t.lookup s = some x := by
  induction t with
  | nil => intro s h; cases h
  | cons p t ih =>
    intro s h
    rw [List.lookup_cons]
    by_cases e : (s == p.1) = true
    . rw [e]; exact ⟨_, rfl⟩
    . have e' : (s == p.1) = false := by simpa using e
      rw [e']
      rcases List.mem_cons.1 h with h | h
      . exact absurd (by simpa using h) e
      . exact ih h
theorem lk_mem {t : List (Str × α)} {s : Str} {x : α} (h : t.lookup s = some x) : (s, x) ∈ t := by
  induction t with
  | nil => cases h
  | cons p t ih =>
    rw [List.lookup_cons] at h
    by_cases e : (s == p.1) = true
    . rw [e] at h
      have : s = p.1 := by simpa using e
      cases h
      rw [this]
      exact List.mem_cons_self
    . have e' : (s == p.1) = false := by simpa using e
      rw [e'] at h
      exact List.mem_cons_of_mem _ (ih h)
end
theorem keys_put (t : FT) (s : Str) (q : Rat) : keys (putT t s q) = if s ∈ keys t then keys t else keys t ++ [s] := by
  unfold putT
  split
  . rename_i h
    unfold keys
    rw [List.map_map]
    refine List.map_congr_left fun p hp => ?_
    show (if p.1 = s then (p.1, q) else p).1 = p.1
    split <;> rfl
  . unfold keys; rw [List.map_append]; rfl
theorem kputK_tab (t : FT) (s : Str) (q : Rat) : kputK (tks t) (.inr s) = tks (putT t s q) := by
  have e : tks (putT t s q) = (keys (putT t s q)).map (Sum.inr : Str -> Key) := by unfold tks keys; rw [List.map_map]; rfl
  have e2 : tks t = (keys t).map (Sum.inr : Str -> Key) := by unfold tks keys; rw [List.map_map]; rfl
  rw [e, keys_put]
  unfold kputK
  by_cases h : s ∈ keys t
  . rw [if_pos h, if_pos (tks_mem.2 h), e2]
  . rw [if_neg h, if_neg (fun z => h (tks_mem.1 z)), e2, List.map_append]; rfl
theorem kputD_tab (w : Rat -> D) (t : FT) (s : Str) (q : Rat) : kputD (tks t) (t.map fun p => w p.2) (.inr s) (w q) = (putT t s q).map fun p => w p.2 := by
  unfold kputD putT
  by_cases h : s ∈ keys t
  . rw [if_pos h, if_pos (tks_mem.2 h)]
    have z : ∀ u : FT, List.zipWith (fun a x => if a = (Sum.inr s : Key) then w q else x) (tks u) (u.map fun p => w p.2) = (u.map fun p => if p.1 = s then (p.1, q) else p).map fun p => w p.2 := by
      intro u
      induction u with
      | nil => rfl
      | cons p u ih =>
        show (if (Sum.inr p.1 : Key) = Sum.inr s then w q else w p.2) :: List.zipWith _ (tks u) _ = w (if p.1 = s then (p.1, q) else p).2 :: _
        rw [ih]
        by_cases e : p.1 = s
        . rw [if_pos (by rw [e]), if_pos e]
        . rw [if_neg (fun z => e (by cases z; rfl)), if_neg e]
    exact z t
  . rw [if_neg h, if_neg (fun z => h (tks_mem.1 z)), List.map_append]; rfl
theorem put_new {t : FT} {s : Str} {q : Rat} (h : s ∉ keys t) : putT t s q = t ++ [(s, q)] := if_neg h
section
variable {g : TDG} {tt : TDT} {te tk tv : TDE} {P : Addr} {k : Td -> Prop} {sd : SD} {T : Td} {Q : KD} {E : XD}
def tabO (w : Rat -> D) (t : FT) : DO := .dct (tks t) (t.map fun p => w p.2)
theorem dc_tab (w : Rat -> D) : ∀ (items : List (D × Option (Str × Rat))) (acc : FT), (keys (acc ++ items.filterMap (·.2))).Nodup ->
    (∀ p ∈ items, ∀ (T : Td) (A : D -> D -> Td -> Prop) (B : Td -> Prop), (∀ s q, p.2 = some (s, q) -> A (.str s) (w q) T) -> (p.2 = none -> B T) ->
      g p.1 sd T fun sd2 T2 => tt sd2 T2 (fun b T3 => IfP b (tk sd2 T3 (fun y T4 => tv sd2 T4 (fun z T5 => A y z T5) (fun _ _ => False)) (fun _ _ => False)) (B T3)) (fun _ _ => False)) ->
    acc.length + items.length < sizeLine -> k (tput T P (tabO w (acc ++ items.filterMap (·.2)))) -> dDcL g tt tk tv (fun _ => True) P k sd (items.map (·.1)) (tput T P (tabO w acc))
  | [], acc, _, _, _, h => ⟨trivial, by rw [List.filterMap_nil, List.append_nil] at h; exact h⟩
  | p :: xs, acc, nd, ht, hl, h => by
    rw [List.length_cons] at hl
    refine ⟨trivial, ht p List.mem_cons_self _ (fun y z T5 => ∃ q ks ds, kOf y = some q /\ T5 P = some (.dct ks ds) /\ ks.length < sizeLine /\ _) _ (fun s q e => ?_) (fun e => ?_)⟩
    . rw [List.filterMap_cons, e] at h nd
      simp only at h nd
      have nin : s ∉ keys acc := by
        intro hs
        unfold keys at nd
        rw [List.map_append, List.nodup_append] at nd
        exact nd.2.2 s hs s (by rw [List.map_cons]; exact List.mem_cons_self) rfl
      refine ⟨.inr s, _, _, rfl, tput_same, by rw [tks_len]; omega, ?_⟩
      rw [tput_put, kputK_tab acc s q, kputD_tab w acc s q, put_new nin]
      refine dc_tab w xs (acc ++ [(s, q)]) (by rw [List.append_assoc]; exact nd) (fun z hz => ht z (List.mem_cons_of_mem _ hz)) (by rw [List.length_append]; simp; omega) ?_
      rw [List.append_assoc]
      exact h
    . refine dc_tab w xs acc (by rw [List.filterMap_cons, e] at nd; exact nd) (fun z hz => ht z (List.mem_cons_of_mem _ hz)) (by omega) ?_
      rw [List.filterMap_cons, e] at h
      exact h
theorem dcc_tab {wi : TDI} {vs : List Nat} (w : Rat -> D) (items : List (D × Option (Str × Rat))) (hw : ∀ R E, R (items.map (·.1)) (fun _ => True) T -> wi sd T R E) (nd : (keys (items.filterMap (·.2))).Nodup)
    (ht : ∀ p ∈ items, ∀ (T : Td) (A : D -> D -> Td -> Prop) (B : Td -> Prop), (∀ s q, p.2 = some (s, q) -> A (.str s) (w q) T) -> (p.2 = none -> B T) ->
      g p.1 (wipeD sd vs) T fun sd2 T2 => tt sd2 T2 (fun b T3 => IfP b (tk sd2 T3 (fun y T4 => tv sd2 T4 (fun z T5 => A y z T5) (fun _ _ => False)) (fun _ _ => False)) (B T3)) (fun _ _ => False))
    (hl : items.length < sizeLine) (q : Q (.dct (tks (items.filterMap (·.2))) ((items.filterMap (·.2)).map fun p => w p.2)) T) : Cut (dDc wi g tt tk tv vs sd) T Q E := ⟨hw _ _ fun P hP => by
  refine dc_tab w items [] nd ht (by simpa using hl) ?_
  refine ⟨_, _, tput_same, ?_⟩
  rw [tdel_put hP]
  exact q⟩
theorem ins_fold : ∀ (ss : List Str) (acc : List Str), acc.Nodup -> (ss.foldl (fun (a : List Key) s => insK (.inr s) a) (acc.map Sum.inr)).length = acc.length + ss.length /\ (acc ++ ss).Nodup \/
    (ss.foldl (fun (a : List Key) s => insK (.inr s) a) (acc.map Sum.inr)).length < acc.length + ss.length /\ ¬ (acc ++ ss).Nodup
  | [], acc, h => .inl ⟨by simp, by rw [List.append_nil]; exact h⟩
  | s :: ss, acc, h => by
    rw [List.foldl_cons]
    by_cases e : s ∈ acc
    . have hk : (Sum.inr s : Key) ∈ acc.map (Sum.inr : Str -> Key) := List.mem_map.2 ⟨s, e, rfl⟩
      rw [show insK (Sum.inr s) (acc.map Sum.inr) = acc.map Sum.inr from if_pos hk]
      right
      refine ⟨?_, fun nd => ?_⟩
      . rcases ins_fold ss acc h with z | z <;> rw [List.length_cons] <;> omega
      . rw [List.nodup_append] at nd
        exact nd.2.2 s e s List.mem_cons_self rfl
    . have hk : (Sum.inr s : Key) ∉ acc.map (Sum.inr : Str -> Key) := fun z => by
        obtain ⟨x, hx, ex⟩ := List.mem_map.1 z
        cases ex
        exact e hx
      rw [show insK (Sum.inr s) (acc.map Sum.inr) = (acc ++ [s]).map Sum.inr by unfold insK; rw [if_neg hk, List.map_append]; rfl]
      have h' : (acc ++ [s]).Nodup := by
        rw [List.nodup_append]
        exact ⟨h, by simp, fun a ha b hb => fun z => by rw [List.mem_singleton] at hb; rw [z, hb] at ha; exact e ha⟩
      have := ins_fold ss (acc ++ [s]) h'
      rw [List.append_assoc, List.length_append, List.length_singleton] at this
      rw [List.length_cons]
      have e2 : [s] ++ ss = s :: ss := rfl
      rw [e2] at this
      rcases this with ⟨a, b⟩ | ⟨a, b⟩
      . exact .inl ⟨by omega, b⟩
      . exact .inr ⟨by omega, b⟩
theorem sc_map {i : Nat} {kk : List Key -> Td -> Prop} : ∀ (items : List (D × Str)) (acc : List Key) (o : HO) (T : Td), (∀ p ∈ items, ∀ (T : Td) (Q : KD), Q (.str p.2) T -> te (sd.set i (some p.1)) T Q (fun _ _ => False)) -> T P = none -> acc.length + items.length < 4096 ->
    kk ((items.map (·.2)).foldl (fun (a : List Key) s => insK (.inr s) a) acc) T -> dScL (dgName i) te (fun _ => True) P kk sd (items.map (·.1)) acc o (tput T P (.raw o))
  | [], acc, o, T, _, hP, _, h => ⟨trivial, tput_same, by rw [tdel_put hP]; exact h⟩
  | p :: xs, acc, o, T, ht, hP, hl, h => by
    rw [List.length_cons] at hl
    refine ⟨trivial, ht p List.mem_cons_self _ _ ⟨.inr p.2, rfl, by omega, tput_same, fun o' => ?_⟩⟩
    rw [tput_put]
    exact sc_map xs _ o' T (fun z hz => ht z (List.mem_cons_of_mem _ hz)) hP (by have := ins_len (q := .inr p.2) (acc := acc); split at this <;> omega) h
theorem scc_len {i : Nat} {wi : TDI} {vs : List Nat} (items : List (D × Str)) (hw : ∀ R E, R (items.map (·.1)) (fun _ => True) T -> wi sd T R E) (ht : ∀ p ∈ items, ∀ (T : Td) (Q : KD), Q (.str p.2) T -> te ((wipeD sd vs).set i (some p.1)) T Q (fun _ _ => False)) (hl : items.length < 4096)
    (q : ∀ n : Nat, decide ((n : Int) = (items.length : Int)) = decide (items.map (·.2)).Nodup -> Q (.int n) T) : Cut (dLenSc wi (dgName i) te vs sd) T Q E := ⟨hw _ _ fun P o hP => by
  refine sc_map items [] o T ht hP (by simpa using hl) ?_
  refine q _ ?_
  have := ins_fold (items.map (·.2)) [] List.nodup_nil
  rw [List.nil_append, List.length_map, List.length_nil, Nat.zero_add, List.map_nil] at this
  rcases this with ⟨a, b⟩ | ⟨a, b⟩
  . rw [a, decide_eq_true b]; simp
  . rw [decide_eq_false b]; exact decide_eq_false (by omega)⟩
end
theorem py_strs (T : Td) : ∀ ss : List Str, pyDs T (ss.map D.str) = some (ss.map PyData.str)
  | [] => rfl
  | s :: ss => by
    show (match pyD T (.str s), pyDs T (ss.map D.str) with | some v, some vs => some (v :: vs) | _, _ => none) = _
    rw [py_strs T ss]
    rfl
theorem py_lst (T : Td) (ss : List Str) : pyD T (.lst (ss.map D.str)) = some (.list (ss.map PyData.str)) := by
  show (pyDs T (ss.map D.str)).map PyData.list = _
  rw [py_strs]
  rfl
theorem eqv_strs : ∀ ss tt : List Str, PyData.eqvAll (ss.map PyData.str) (tt.map PyData.str) = decide (ss = tt)
  | [], [] => rfl
  | [], _ :: _ => rfl
  | _ :: _, [] => rfl
  | s :: ss, t :: tt => by
    show PyData.eqvAll (.str s :: ss.map PyData.str) (.str t :: tt.map PyData.str) = _
    rw [PyData.eqvAll, eqv_strs ss tt]
    rw [PyData.eqv]
    by_cases h : s = t
    . subst h; simp
    . simp [h]
theorem eqv_lst (ss tt : List Str) : PyData.eqv (.list (ss.map PyData.str)) (.list (tt.map PyData.str)) = decide (ss = tt) := by
  rw [PyData.eqv]
  exact eqv_strs ss tt
theorem sok_of {s : Str} (h : ∀ c ∈ tl s, c < 128) : PyData.canLay0 (.str s) = true := by
  unfold PyData.canLay0 PyData.strOk
  rw [Array.all_eq_true']
  intro c hc
  have := h c (Array.mem_toList_iff.2 hc)
  simp
  omega
theorem let_lt {c : Nat} (h : isLet c = true) : c < 128 := by
  have h' : c ∈ (("abcdefghijklmnopqrstuvwxyz" : Str)).cps.toList := of_decide_eq_true h
  have e : ∀ c ∈ (("abcdefghijklmnopqrstuvwxyz" : Str)).cps.toList, c < 128 := by decide +kernel
  exact e c h'
theorem dig_lt {c : Nat} (h : isDig c = true) : c < 128 := by
  have h' : c ∈ tl ("0123456789" : Str) := of_decide_eq_true h
  have e : ∀ c ∈ tl ("0123456789" : Str), c < 128 := by decide +kernel
  exact e c h'
theorem unk_ok {s : Str} (h : unkS s = true) : PyData.canLay0 (.str s) = true := by
  refine sok_of fun c hc => ?_
  unfold unkS at h
  rw [Bool.or_eq_true] at h
  rcases h with h | h
  . unfold nameS at h
    rw [Bool.and_eq_true] at h
    exact let_lt (List.all_eq_true.1 h.2 c hc)
  . generalize tl s = l at h hc
    match l, h with
    | a :: d :: r, h =>
      unfold cntL at h
      simp only [Bool.and_eq_true] at h
      rcases List.mem_cons.1 hc with e | hc
      . have h2 : (⟨#[a]⟩ : Str) ∈ c_COUNTED := of_decide_eq_true h.1.1.2
        have : a = 102 \/ a = 108 \/ a = 115 := by
          have e3 : ∀ s ∈ c_COUNTED, s = (⟨#[102]⟩ : Str) \/ s = (⟨#[108]⟩ : Str) \/ s = (⟨#[115]⟩ : Str) := by decide +kernel
          rcases e3 _ h2 with z | z | z <;> (injection z with z; simp at z; omega)
        omega
      . exact dig_lt (List.all_eq_true.1 h.1.2 c hc)
theorem sh_strs {ss : List Str} (h : ∀ s ∈ ss, PyData.canLay0 (.str s) = true) : SeqAt.shaped (.list (ss.map PyData.str)) = true := by
  have h1 : PyData.canLayAll0 (ss.map PyData.str) = true := by
    induction ss with
    | nil => rfl
    | cons s ss ih =>
      show (PyData.canLay0 (.str s) && PyData.canLayAll0 (ss.map PyData.str)) = true
      rw [h s List.mem_cons_self, ih fun t ht => h t (List.mem_cons_of_mem _ ht)]
      rfl
  have h2 : PyData.depthAll (ss.map PyData.str) = 0 := by
    clear h h1
    induction ss with
    | nil => rfl
    | cons s ss ih =>
      show max (PyData.depth (.str s)) (PyData.depthAll (ss.map PyData.str)) = 0
      rw [ih]
      rfl
  unfold SeqAt.shaped
  rw [Bool.and_eq_true]
  refine ⟨h1, decide_eq_true ?_⟩
  show PyData.depthAll (ss.map PyData.str) + 1 <= 64
  omega
end K1
namespace K1
open PySem PySem.Spec PyProof.Rows L2 VX DL RQ TL Srt
variable {ad : Ad} {ds : List D} {T : Td} {Q : KD} {E : XD}
def tupB : D -> Bool
  | .tup _ => true
  | _ => false
theorem vl_kd (T : Td) {x : D} (h : Vl ad x) : ∃ k, kdD ad T x = some k /\ NoExc k /\ numK ad k = numD ad x /\ k.is "tuple" = tupB x := by
  cases x with
  | non => exact ⟨_, rfl, nx_non, rfl, rfl⟩
  | bl b => exact ⟨_, rfl, nx_bl, rfl, rfl⟩
  | int i => exact ⟨_, rfl, nx_int, rfl, rfl⟩
  | str s => exact ⟨_, rfl, nx_str, rfl, rfl⟩
  | tup xs => exact ⟨_, rfl, nx_tup, rfl, rfl⟩
  | lst xs => exact ⟨_, rfl, nx_lst, rfl, rfl⟩
  | dct ks xs => exact ⟨_, rfl, nx_dct, rfl, rfl⟩
  | slo C xs =>
    have h' : inS ad C = true := h
    refine ⟨.cls C, by show (if inS ad C = true then some (Kd.cls C) else none) = _; rw [if_pos h'], nx_cls, ?_, rfl⟩
    show (false && !false || decide (C = ad.Worth)) = decide (C = ad.Worth)
    simp
  | obj C ns xs =>
    have h' : inO ad C = true /\ C ≠ ad.Worth := h
    refine ⟨.cls C, by show (if inO ad C = true then some (Kd.cls C) else none) = _; rw [if_pos h'.1], nx_cls, ?_, rfl⟩
    show (false && !false || decide (C = ad.Worth)) = false
    rw [decide_eq_false h'.2]
    rfl
  | _ => exact h.elim
theorem vl_str {s : Str} {x : D} (h : Vl ad x) (e : x = .str s) : s.length <= 10000 := by subst e; exact h
theorem h_is_pair (o : AdW ad) (h : sp_is_pair ad ds T Q E) : d_is_pair ad (endsD Q E) (startD N_is_pair ds) T := by
  obtain ⟨x, rfl, hv, hq⟩ := h.h
  obtain ⟨k, hk, he, hn, ht⟩ := vl_kd T hv
  refine q_isin o.toAdB hk he n_tuple ?_
  rw [ht]
  cases x with
  | tup xs =>
    have hv' : xs.length <= 1000 /\ Vls ad xs := hv
    refine q_lenT (q_eqI ?_)
    match xs, hv', hq with
    | [], _, hq => exact hq
    | [a], _, hq => exact hq
    | a :: b :: c :: r, _, hq =>
      have e : decide ((((a :: b :: c :: r).length : Nat) : Int) = 2) = false := decide_eq_false (by rw [List.length_cons, List.length_cons, List.length_cons]; omega)
      rw [e]
      exact hq
    | [a, b], hv', hq =>
      have hq' : Q (.bl (strB unkS a && numD ad b)) T := hq
      obtain ⟨ka, hka, hea, _, _⟩ := vl_kd T hv'.2.1
      obtain ⟨kb, hkb, heb, hnb, _⟩ := vl_kd T hv'.2.2.1
      refine q_ix0 rfl (u_is_unknown hka hea (fun s e => vl_str hv'.2.1 e) ?_)
      cases e1 : strB unkS a with
      | false => rw [e1] at hq'; exact hq'
      | true =>
        rw [e1, Bool.true_and] at hq'
        refine q_ix1 rfl (u_is_number hkb heb ?_)
        rw [hnb]
        exact hq'
  | _ => exact hq
theorem u_is_pair {x : D} (h : Vl ad x) (hq : Q (.bl (pairD ad x)) T) : sp_is_pair ad [x] T Q E := ⟨x, rfl, h, hq⟩
theorem vls_mem : ∀ {xs : List D}, Vls ad xs -> ∀ x ∈ xs, Vl ad x
  | [], _, x, hx => nomatch hx
  | y :: ys, h, x, hx => by
    rcases List.mem_cons.1 hx with rfl | hx
    . exact h.1
    . exact vls_mem h.2 x hx
theorem pair_shape {y : D} (h : pairD ad y = true) : ∃ s b, y = .tup [.str s, b] /\ unkS s = true /\ numD ad b = true := by
  unfold pairD at h
  split at h
  . rename_i a b
    rw [Bool.and_eq_true] at h
    cases a with
    | str s => exact ⟨s, b, rfl, h.1, h.2⟩
    | _ => exact absurd (show false = true from h.1) (by decide)
  . cases h
theorem h_is_point (o : AdW ad) (h : sp_is_point ad ds T Q E) : d_is_point ad (endsD Q E) (startD N_is_point ds) T := by
  obtain ⟨x, rfl, hv, hq⟩ := h.h
  obtain ⟨k, hk, he, hn, ht⟩ := vl_kd T hv
  refine q_isin o.toAdB hk he n_tuple ?_
  rw [ht]
  cases x with
  | tup xs =>
    have hv' : xs.length <= 1000 /\ Vls ad xs := hv
    refine IfP.f rfl ?_
    refine lcc_map (fun y => .bl (pairD ad y)) xs (fun R E h => h) (fun y hy T Q hq => u_is_pair (vls_mem hv'.2 y hy) hq) (sz (by omega)) ?_
    have em : xs.map (fun y => D.bl (pairD ad y)) = (xs.map (pairD ad)).map D.bl := by rw [List.map_map]; rfl
    rw [em]
    refine q_allL ?_
    have ea : (xs.map (pairD ad)).all id = xs.all (pairD ad) := by rw [List.all_map]; rfl
    rw [ea]
    have hq' : Q (.bl (xs.all (pairD ad) && decide (xs.map nmOf).Nodup)) T := hq
    cases e1 : xs.all (pairD ad) with
    | false => rw [e1] at hq'; exact IfP.t rfl hq'
    | true =>
      rw [e1, Bool.true_and] at hq'
      refine IfP.f rfl ?_
      have e2 : (xs.map fun y => (y, nmOf y)).map (·.1) = xs := by rw [List.map_map]; exact List.map_id xs
      have e3 : (xs.map fun y => (y, nmOf y)).map (·.2) = xs.map nmOf := by rw [List.map_map]; rfl
      refine scc_len (xs.map fun y => (y, nmOf y)) (fun R E h => by rw [e2] at h; exact h) (fun p hp T Q hq => ?_) (by rw [List.length_map]; omega) fun n hn => ?_
      . obtain ⟨y, hy, rfl⟩ := List.mem_map.1 hp
        obtain ⟨s, b, rfl, _, _⟩ := pair_shape (List.all_eq_true.1 e1 y hy)
        exact q_ix0 rfl hq
      . rw [e3, List.length_map] at hn
        refine q_lenT (q_eqI ?_)
        rw [hn]
        exact hq'
  | _ => exact IfP.t rfl (IfP.t rfl hq)
theorem u_is_point {x : D} (h : Vl ad x) (hq : Q (.bl (pointD ad x)) T) : sp_is_point ad [x] T Q E := ⟨x, rfl, h, hq⟩
theorem h_is_parts (h : sp_is_parts ad ds T Q E) : d_is_parts ad (endsD Q E) (startD N_is_parts ds) T := by
  obtain ⟨x, rfl, hv, hl, hq⟩ := h.h
  refine u_is_point hv ?_
  cases x with
  | tup xs =>
    have hl' := hl xs rfl
    have hq' : Q (.bl (pointD ad (.tup xs) && decide (xs.map nmOf = srtS (xs.map nmOf)))) T := hq
    cases e1 : pointD ad (.tup xs) with
    | false => rw [e1] at hq'; exact IfP.t rfl hq'
    | true =>
      rw [e1, Bool.true_and] at hq'
      have hp : ∀ y ∈ xs, pairD ad y = true := by
        have : (xs.all (pairD ad) && decide (xs.map nmOf).Nodup) = true := e1
        rw [Bool.and_eq_true] at this
        exact List.all_eq_true.1 this.1
      refine IfP.f rfl ?_
      refine lcc_map (fun y => .str (nmOf y)) xs (fun R E h => h) (fun y hy T Q hq => ?_) (sz (by omega)) ?_
      . obtain ⟨s, b, rfl, _, _⟩ := pair_shape (hp y hy)
        exact q_ix0 rfl hq
      . have em : xs.map (fun y => D.str (nmOf y)) = (xs.map nmOf).map D.str := by rw [List.map_map]; rfl
        rw [em]
        have ok : ∀ s ∈ xs.map nmOf, PyData.canLay0 (.str s) = true := fun s hs => by
          obtain ⟨y, hy, rfl⟩ := List.mem_map.1 hs
          obtain ⟨s, b, rfl, hu, _⟩ := pair_shape (hp y hy)
          exact unk_ok hu
        refine u_names_l (by rw [List.length_map]; exact hl') ?_
        refine q_eqN (py_lst T _) (py_lst T _) (sh_strs ok) (sh_strs fun s hs => ok s ((srt_perm _).mem_iff.1 hs)) ?_
        rw [eqv_lst]
        exact hq'
  | _ => exact IfP.t rfl hq
theorem u_is_parts {x : D} (h : Vl ad x) (hl : ∀ ps, x = .tup ps -> ps.length < 64) (hq : Q (.bl (partsD ad x)) T) : sp_is_parts ad [x] T Q E := ⟨x, rfl, h, hl, hq⟩
theorem q_Wnum {q : Rat} (hq : Q (.int q.num) T) : O1 (rProp ad.Worth (sp_Wnumber ad)) (wq ad q) T Q E := ⟨⟨by simp [slotsD, wq], ⟨q, rfl, hq⟩⟩⟩
theorem fm_fm {t : FT} {f : Str × Rat -> Bool} : (t.map fun p => (D.tup [.str p.1, wq ad p.2], if f p = true then some p else none)).filterMap (·.2) = t.filter f := by
  rw [List.filterMap_map]
  induction t with
  | nil => rfl
  | cons p t ih =>
    rw [List.filterMap_cons, List.filter_cons]
    by_cases h : f p = true
    . rw [if_pos h]
      simp only [Function.comp_apply, if_pos h]
      rw [ih]
    . rw [if_neg h]
      simp only [Function.comp_apply, if_neg h]
      exact ih
theorem items_tab {t : FT} : itemsOf (tks t) (t.map fun p => wq ad p.2) = t.map fun p => D.tup [.str p.1, wq ad p.2] := by
  unfold itemsOf
  induction t with
  | nil => rfl
  | cons p t ih => exact congrArg (D.tup [.str p.1, wq ad p.2] :: ·) ih
theorem filt_nd {t : FT} {f : Str × Rat -> Bool} (h : (keys t).Nodup) : (keys (t.filter f)).Nodup := h.sublist (List.filter_sublist.map _)
theorem h_wnn (h : sp_wnn ad ds T Q E) : d_wnn ad (endsD Q E) (startD N_wnn ds) T := by
  obtain ⟨t, rfl, nd, hl, hq⟩ := h.h
  have e1 : (t.map fun p => (D.tup [.str p.1, wq ad p.2], if (!decide (p.2.num = 0)) = true then some p else none)).map (·.1) = t.map fun p => D.tup [.str p.1, wq ad p.2] := by rw [List.map_map]; rfl
  have e2 : t.filter (fun p => !decide (p.2.num = 0)) = nz t := by
    unfold nz
    refine List.filter_congr fun p _ => ?_
    by_cases z : p.2 = 0
    . have z' : p.2.num = 0 := num0.2 z
      simp [z]
    . have z' : p.2.num ≠ 0 := fun w => z (num0.1 w)
      simp [z, z']
  refine dcc_tab (fun q => wq ad q) (t.map fun p => (D.tup [.str p.1, wq ad p.2], if (!decide (p.2.num = 0)) = true then some p else none)) (fun R E h => ?_) ?_ (fun x hx T A B hA hB => ?_) ?_ ?_
  . rw [e1] at h
    show R (itemsOf _ _) _ _
    rw [show itemsOf (t.map fun p => (Sum.inr p.1 : Key)) (t.map fun p => wq ad p.2) = _ from items_tab]
    exact h
  . rw [fm_fm]; exact filt_nd nd
  . obtain ⟨p, hp, rfl⟩ := List.mem_map.1 hx
    refine ⟨rfl, rfl, ?_⟩
    refine q_Wnum ?_
    refine q_neI ?_
    cases e : (!decide (p.2.num = 0)) with
    | true => exact IfP.t rfl (hA p.1 p.2 (by show (if (!decide (p.2.num = 0)) = true then some p else none) = some (p.1, p.2); rw [e]; rfl))
    | false => exact IfP.f rfl (hB (by show (if (!decide (p.2.num = 0)) = true then some p else none) = none; rw [e]; rfl))
  . rw [List.length_map]; rw [sizeLine_eq]; omega
  . rw [fm_fm, e2]
    exact hq
theorem u_wnn {t : FT} (nd : (keys t).Nodup) (hl : t.length <= 1000) (hq : Q (tbD ad (nz t)) T) : sp_wnn ad [tbD ad t] T Q E := ⟨t, rfl, nd, hl, hq⟩
theorem pts_items {ds : List D} {t : FT} (h : Pts ad ds t) : ∃ items : List (D × Option (Str × Rat)), items.map (·.1) = ds /\ items.filterMap (·.2) = t /\ items.length = t.length /\ ∀ p ∈ items, ∃ s y q, p = (.tup [.str s, y], some (s, q)) /\ Num ad y q := by
  induction h with
  | nil => exact ⟨[], rfl, rfl, rfl, fun p hp => nomatch hp⟩
  | @cons s y q ds t hn r ih =>
    obtain ⟨items, e1, e2, e3, e4⟩ := ih
    refine ⟨(.tup [.str s, y], some (s, q)) :: items, by rw [List.map_cons, e1], by rw [List.filterMap_cons]; simp only; rw [e2], by rw [List.length_cons, List.length_cons, e3], fun p hp => ?_⟩
    rcases List.mem_cons.1 hp with rfl | hp
    . exact ⟨s, y, q, rfl, hn⟩
    . exact e4 p hp
theorem pts_nm {ds : List D} {t : FT} (h : Pts ad ds t) : ds.map nmOf = keys t := by
  induction h with
  | nil => rfl
  | @cons s y q ds t hn r ih => exact congrArg (s :: ·) ih
theorem pts_len {ds : List D} {t : FT} (h : Pts ad ds t) : ds.length = t.length := by
  induction h with
  | nil => rfl
  | @cons s y q ds t hn r ih => rw [List.length_cons, List.length_cons, ih]
theorem pt_nd {ps : List D} (h : partsD ad (.tup ps) = true) : (ps.map nmOf).Nodup := by
  have h' : (ps.all (pairD ad) && decide (ps.map nmOf).Nodup && decide (ps.map nmOf = srtS (ps.map nmOf))) = true := h
  rw [Bool.and_eq_true, Bool.and_eq_true] at h'
  exact of_decide_eq_true h'.1.2
theorem fld_ins {C a : Addr} {ns : List Str} {xs : List D} {fn : Str} {y : D} {Dn : DEnds} {sd : SD} (hT : T a = some (.ins C ns xs)) (hl : ns.length < 1000) (h : Dn.nx sd (tput T a (.ins C (putNm fn ns) (putFs fn y ns xs)))) :
    ∃ a' ns' xs', D.ref a = .ref a' /\ T a' = some (.ins C ns' xs') /\ ns'.length < 1000 /\ Dn.nx sd (tput T a' (.ins C (putNm fn ns') (putFs fn y ns' xs'))) := ⟨a, ns, xs, rfl, hT, hl, h⟩
theorem h_Finit (o : AdF ad) (h : sp_Finit ad ds T Q E) : d_Finit ad (endsD Q E) (startD N_Finit ds) T := by
  obtain ⟨a, n, u, rfl, hT, hn, hu, hl, h'⟩ := h.h
  refine u_is_parts hn hl ?_
  have bad : ∀ DD : DEnds, DD.xe = (endsD Q E).xe -> E (excD ad.BadForm (.tup [n, u])) T -> dRaise (.ref ad.BadForm) (dTup (dCons (dVar 1) (dCons (dVar 2) dNil))) DD (startD N_Finit [.ref a, n, u]) T := fun DD e hE => ⟨sz_ rfl, by rw [e]; exact hE⟩
  rcases h' with ⟨ds, t, r, rfl, hp, hg, hr, hq⟩ | ⟨hb, hE⟩
  . rw [hg]
    refine IfP.f rfl ?_
    refine u_isnum o.toAdW hr (IfP.f rfl ?_)
    obtain ⟨items, e1, e2, e3, e4⟩ := pts_items hp
    have nd : (keys t).Nodup := by rw [<- pts_nm hp]; exact pt_nd hg
    have lt : t.length < 64 := by rw [<- pts_len hp]; exact hl ds rfl
    refine dcc_tab (fun q => wq ad q) items (fun R E h => by rw [e1] at h; exact h) (by rw [e2]; exact nd) (fun x hx T A B hA hB => ?_) (by rw [sizeLine_eq]; omega) ?_
    . obtain ⟨s, y, q, rfl, hy⟩ := e4 x hx
      refine ⟨rfl, rfl, ?_⟩
      refine IfP.t rfl ?_
      exact u_worth_of hy (hA s q rfl)
    . rw [e2]
      refine u_wnn nd (by omega) ?_
      refine fld_ins hT (by decide) ?_
      refine u_worth_of hr ?_
      refine fld_ins tput_same (by decide +kernel) ?_
      show Q .non (tput (tput T a _) a _)
      rw [tput_put]
      have e5 : putNm "last" (putNm "table" ([] : List Str)) = (["table", "last"] : List Str) := by decide +kernel
      have e6 : putNm "table" ([] : List Str) = (["table"] : List Str) := by decide +kernel
      have e7 : putFs "table" (tbD ad (nz t)) ([] : List Str) ([] : List D) = [tbD ad (nz t)] := rfl
      have e8 : ("table" : Str) ≠ "last" := by decide +kernel
      have e9 : putFs "last" (wq ad r) ["table"] [tbD ad (nz t)] = [tbD ad (nz t), wq ad r] := by
        unfold putFs
        rw [if_neg e8]
        rfl
      rw [e5, e6, e7, e9]
      exact hq
  . cases e1 : partsD ad n with
    | false => exact IfP.t rfl (IfP.t rfl (bad _ rfl hE))
    | true =>
      have hb' : numD ad u = false := hb.elim (fun z => by rw [e1] at z; cases z) id
      obtain ⟨k, hk, he, hnk, _⟩ := vl_kd T hu
      refine IfP.f rfl (u_is_number hk he ?_)
      rw [hnk, hb']
      exact IfP.t rfl (bad _ rfl hE)
theorem q_tab {t : FT} {r : Rat} (hq : Q (tbD ad t) T) : O1 (rFldO ad.Form "table") (fm ad t r) T Q E := ⟨["table", "last"], [tbD ad t, wq ad r], tbD ad t, by show (if ad.Form = ad.Form then some _ else none) = _; rw [if_pos rfl], by simp [lookD], hq⟩
theorem q_last {t : FT} {r : Rat} (hq : Q (wq ad r) T) : O1 (rFldO ad.Form "last") (fm ad t r) T Q E := ⟨["table", "last"], [tbD ad t, wq ad r], wq ad r, by show (if ad.Form = ad.Form then some _ else none) = _; rw [if_pos rfl], by
  have e8 : ("last" : Str) ≠ "table" := by decide +kernel
  simp [lookD, e8], hq⟩
theorem q_ixT (w : Rat -> D) {t : FT} {s : Str} {q : Rat} (h : t.lookup s = some q) (hq : Q (w q) T) : O2 rIxD (.dct (tks t) (t.map fun p => w p.2)) (.str s) T Q E := ⟨by
  show match dLook (tks t) (t.map fun p => w p.2) (Sum.inr s) with | some d => Q d T | none => False
  rw [look_tab, h]
  exact hq⟩
theorem asc_mem {t : FT} (nd : (keys t).Nodup) {p : Str × Rat} (h : p ∈ asc t) : t.lookup p.1 = some p.2 := by
  obtain ⟨s, hs, rfl⟩ := List.mem_map.1 h
  obtain ⟨x, hx⟩ := lk_some ((srt_perm _).mem_iff.1 hs)
  show t.lookup s = some ((t.lookup s).getD 0)
  rw [hx]
  rfl
theorem asc_keys (t : FT) : keys (asc t) = srtS (keys t) := by unfold asc keys; rw [List.map_map]; exact List.map_id _
theorem asc_len (t : FT) : (asc t).length = t.length := by unfold asc; rw [List.length_map, srt_len]; unfold keys; rw [List.length_map]
theorem tks_keys (t : FT) : tks t = (keys t).map (Sum.inr : Str -> Key) := by unfold tks keys; rw [List.map_map]; rfl
end K1
namespace K1
open PySem PySem.Spec PyProof.Rows L2 VX DL RQ TL Srt
theorem asc_of {t : FT} (nd : (keys t).Nodup) {p : Str × Rat} (h : p ∈ asc t) : p ∈ t := lk_mem (asc_mem nd h)
end K1
namespace K1
open PySem PySem.Spec PyProof.Rows L2 VX DL RQ TL Srt
variable {ad : Ad} {ds : List D} {T : Td} {Q : KD} {E : XD}
theorem in_w (q : Rat) : isIn ad.Worth T (wq ad q) = true := isIn_s (by simp [slotsD, wq])
theorem q_eqW (o : AdW ad) {p q : Rat} (hq : Q (.bl (decide (p = q))) T) : O2 (rEqA ad.Worth (inS ad) (inE ad) (inO ad) (sp_Weq ad)) (wq ad p) (wq ad q) T Q E :=
  ⟨⟨in_w p, ⟨_, ty_kd (kd_w o q), by simp [nfT, Kd.ty]⟩, ⟨p, _, rfl, .inl ⟨q, rfl, hq⟩⟩⟩⟩
section
variable {g : TDG} {tb : TDS} {D : DEnds}
theorem loop_go (Inv : List DL.D -> SD -> Td -> Prop) (ht : ∀ x xs sd T (D' : DEnds), Inv (x :: xs) sd T -> D'.rt = D.rt -> D'.xe = D.xe -> (∀ sd' T', Inv xs sd' T' -> D'.nx sd' T') -> (∀ sd' T', Inv xs sd' T' -> D'.ct sd' T') -> g x sd T fun sd2 T2 => tb D' sd2 T2) (h : ∀ sd T, Inv [] sd T -> D.nx sd T) :
    ∀ (items : List DL.D) (sd : SD) (T : Td), Inv items sd T -> dLoop g tb (fun _ => True) D items sd T
  | [], sd, T, hI => ⟨trivial, h sd T hI⟩
  | x :: xs, sd, T, hI => ⟨trivial, ht x xs sd T _ hI rfl rfl (fun sd' T' I' => loop_go Inv ht h xs sd' T' I') (fun sd' T' I' => loop_go Inv ht h xs sd' T' I')⟩
end
theorem vl_num (o : AdW ad) {y : D} {q : Rat} (h : Num ad y q) : Vl ad y := by
  cases h with
  | int i => trivial
  | w q => exact o.ws
end K1
namespace K1
open PySem PySem.Spec PyProof.Rows L2 VX DL RQ TL Srt
variable {ad : Ad} {ds : List D} {T : Td} {Q : KD} {E : XD}
theorem qT_len {q : Rat} (h : TxtOk q) : (qText q).length <= 3900 := by
  have l1 := il h.1
  have l2 := dl h.2
  have l3 : ("/" : Str).length = 1 := len_lit rfl
  unfold qText
  split
  . omega
  . rw [slen, slen, l3]; omega
theorem q_Wtext2 {q : Rat} (h : TxtOk q) (hq : Q (.str (qText q)) T) : O1 (rProp ad.Worth (sp_Wtext ad)) (wq ad q) T Q E := ⟨⟨by simp [slotsD, wq], ⟨q, rfl, h, hq⟩⟩⟩
theorem h_part_text (o : AdW ad) (h : sp_part_text ad ds T Q E) : d_part_text ad (endsD Q E) (startD N_part_text ds) T := by
  obtain ⟨q, n, rfl, ht, hn, hq⟩ := h.h
  have l1 := qT_len ht
  have l2 : (" " : Str).length = 1 := len_lit rfl
  refine mk1W (q_eqW o ?_)
  unfold pText at hq
  refine IfP.by (fun hc => ?_) (fun hc => ?_)
  . have hc' : q = 1 := of_decide_eq_true hc
    rw [if_pos hc'] at hq
    exact hq
  . have hc' : q ≠ 1 := of_decide_eq_false hc
    rw [if_neg hc'] at hq
    refine q_Wtext2 ht ⟨sz (by omega), ⟨sz (by rw [slen, e0]; omega), ?_⟩⟩
    refine ⟨sz (by rw [slen, slen, e0, l2]; omega), ?_⟩
    refine ⟨sz (by omega), ⟨?_, ?_⟩⟩
    . rw [slen, slen, slen, e0, l2, sizeLine_eq]; omega
    . rw [eapp]
      exact hq
theorem u_part_text {q : Rat} {n : Str} (ht : TxtOk q) (hn : n.length <= 10000) (hq : Q (.str (pText q n)) T) : sp_part_text ad [wq ad q, .str n] T Q E := ⟨q, n, rfl, ht, hn, hq⟩
theorem h_signed_text (h : sp_signed_text ad ds T Q E) : d_signed_text ad (endsD Q E) (startD N_signed_text ds) T := by
  obtain ⟨f, q, x, rfl, hl, hq⟩ := h.h
  have l1 : ("-" : Str).length = 1 := len_lit rfl
  have l2 : (" - " : Str).length = 3 := len_lit rfl
  have l3 : (" + " : Str).length = 3 := len_lit rfl
  unfold sText at hq
  refine q_eqT (IfP.by (fun hc => ?_) (fun hc => ?_))
  . have hc' : f = "" := of_decide_eq_true hc
    rw [if_pos hc'] at hq
    refine q_Wnum (q_lt (IfP.by (fun hn => ?_) (fun hn => ?_)))
    . have hn' : q.num < 0 := of_decide_eq_true hn
      rw [if_pos hn'] at hq
      exact q_addS (by rw [l1, sizeLine_eq]; omega) hq
    . have hn' : ¬ q.num < 0 := of_decide_eq_false hn
      rw [if_neg hn'] at hq
      exact hq
  . have hc' : f ≠ "" := of_decide_eq_false hc
    rw [if_neg hc'] at hq
    refine ⟨?_⟩
    refine q_Wnum (q_lt (IfP.by (fun hn => ?_) (fun hn => ?_)))
    . have hn' : q.num < 0 := of_decide_eq_true hn
      rw [if_pos hn'] at hq
      exact q_addS (by rw [l2, sizeLine_eq]; omega) (q_addS (by rw [slen, l2, sizeLine_eq]; omega) hq)
    . have hn' : ¬ q.num < 0 := of_decide_eq_false hn
      rw [if_neg hn'] at hq
      exact q_addS (by rw [l3, sizeLine_eq]; omega) (q_addS (by rw [slen, l3, sizeLine_eq]; omega) hq)
theorem u_signed {f x : Str} {q : Rat} (hl : f.length + x.length <= 2 ^ 22) (hq : Q (.str (sText f q x)) T) : sp_signed_text ad [.str f, wq ad q, .str x] T Q E := ⟨f, q, x, rfl, hl, hq⟩
theorem sT_len (f : Str) (q : Rat) (x : Str) : (sText f q x).length <= f.length + x.length + 3 := by
  have l1 : ("-" : Str).length = 1 := len_lit rfl
  have l2 : (" - " : Str).length = 3 := len_lit rfl
  have l3 : (" + " : Str).length = 3 := len_lit rfl
  unfold sText
  split
  . split
    . rw [slen, l1]; omega
    . omega
  . split
    . rw [slen, slen, l2]; omega
    . rw [slen, slen, l3]; omega
theorem abs_nd (q : Rat) : (absQ q).num = q.num.natAbs /\ (absQ q).den = q.den := by
  unfold absQ
  have hc : Nat.Coprime q.num.natAbs q.den := q.reduced
  rw [Rat.num_divInt, Rat.den_divInt, if_neg (den0 q)]
  have hg : Int.gcd ((q.num.natAbs : Nat) : Int) (q.den : Int) = 1 := by
    rw [Int.gcd_natCast_natCast]
    exact hc
  have hg2 : Int.gcd (q.den : Int) ((q.num.natAbs : Nat) : Int) = 1 := by rw [Int.gcd_comm]; exact hg
  have hs : (q.den : Int).sign = 1 := Int.sign_eq_one_of_pos (by have := q.den_pos; omega)
  constructor
  . rw [hs, Int.one_mul]
    first
      | rw [hg2]; simp
      | rw [hg]; simp
  . first
      | rw [hg]; simp
      | rw [hg2]; simp
theorem abs_tx {q : Rat} (h : TxtOk q) : TxtOk (absQ q) := by
  obtain ⟨e1, e2⟩ := abs_nd q
  refine ⟨?_, ?_⟩
  . rw [e1, Int.natAbs_natCast]; exact h.1
  . rw [e2]; exact h.2
theorem tx_sz {q : Rat} (h : TxtOk q) : RQ.sz q <= 1919 := sz_le (by decide) h.1 h.2
theorem q_absW {q : Rat} (h : RQ.sz q <= 8000) (hq : Q (wq ad (absQ q)) T) : OL (rAbsO ad.Worth (sp_Wabs ad)) [wq ad q] T Q E := ⟨⟨in_w q, ⟨q, rfl, h, hq⟩⟩⟩
def stT (f : Str) (p : Str × Rat) : Str := sText f p.2 (pText (absQ p.2) p.1)
theorem pT_len {q : Rat} {n : Str} (h : TxtOk q) (hn : n.length <= 100) : (pText q n).length <= 4010 := by
  have l1 := qT_len h
  have l2 : (" " : Str).length = 1 := len_lit rfl
  unfold pText
  split
  . omega
  . rw [slen, slen, l2]; omega
theorem fold_len (t : FT) (h : ∀ p ∈ t, TxtOk p.2 /\ p.1.length <= 100) : ∀ f : Str, (t.foldl stT f).length <= f.length + 4020 * t.length := by
  induction t with
  | nil => intro f; simp
  | cons p t ih =>
    intro f
    rw [List.foldl_cons, List.length_cons]
    have h1 := ih (fun q hq => h q (List.mem_cons_of_mem _ hq)) (stT f p)
    have hp := h p List.mem_cons_self
    have h2 := sT_len f p.2 (pText (absQ p.2) p.1)
    have h3 := pT_len (n := p.1) (abs_tx hp.1) hp.2
    unfold stT at h1
    unfold stT
    omega
theorem fText_eq (t : FT) (r : Rat) : fText t r = if (asc t).foldl stT "" = "" \/ r ≠ 0 then sText ((asc t).foldl stT "") r (qText (absQ r)) else (asc t).foldl stT "" := rfl
theorem h_text_of (h : sp_text_of ad ds T Q E) : d_text_of ad (endsD Q E) (startD N_text_of ds) T := by
  obtain ⟨t, r, rfl, hf, hq⟩ := h.h
  have la := asc_len t
  have lt := hf.le
  have pok : ∀ p ∈ asc t, TxtOk p.2 /\ p.1.length <= 100 := fun p hp => ⟨hf.tx p (asc_of hf.nd hp), hf.nm p (asc_of hf.nd hp)⟩
  refine ⟨?_⟩
  show sp_names_of ad [.dct (tks t) _] T _ _
  rw [tks_keys]
  refine u_names_d (by unfold keys; rw [List.length_map]; exact hf.le) ?_
  rw [<- asc_keys]
  have em : (keys (asc t)).map D.str = (asc t).map fun p => D.str p.1 := by unfold keys; rw [List.map_map]; rfl
  rw [em]
  refine loop_go (fun xs sd T' => ∃ dn rs z, asc t = dn ++ rs /\ xs = rs.map (fun p => D.str p.1) /\ sd = [some (tbD ad t), some (wq ad r), some (.str (dn.foldl stT "")), z] /\ T' = T) ?_ ?_ _ _ T ⟨[], asc t, _, rfl, rfl, rfl, rfl⟩
  . rintro x xs sd T' D' ⟨dn, rs, z, eb, ex, rfl, rfl⟩ _ _ hnx _
    cases rs with
    | nil => cases ex
    | cons p rs =>
      rw [List.map_cons] at ex
      cases ex
      have hp : p ∈ asc t := by rw [eb]; exact List.mem_append_right _ List.mem_cons_self
      have lk := asc_mem hf.nd hp
      have ok := pok p hp
      have lf := fold_len dn (fun q hq => pok q (by rw [eb]; exact List.mem_append_left _ hq)) ""
      have ld : dn.length < 64 := by have := congrArg List.length eb; rw [List.length_append, List.length_cons] at this; omega
      have lp := pT_len (n := p.1) (abs_tx ok.1) ok.2
      have l0 : ("" : Str).length = 0 := rfl
      refine q_ixT (fun q => wq ad q) lk ?_
      refine q_ixT (fun q => wq ad q) lk ?_
      refine q_absW (Nat.le_trans (tx_sz ok.1) (by decide)) ?_
      refine u_part_text (abs_tx ok.1) (by omega) ?_
      refine u_signed (by omega) ?_
      refine hnx _ _ ⟨dn ++ [p], rs, some (.str p.1), by rw [eb, List.append_assoc]; rfl, rfl, ?_, rfl⟩
      rw [List.foldl_append]
      rfl
  . rintro sd T' ⟨dn, rs, z, eb, ex, rfl, rfl⟩
    have er : rs = [] := by cases rs with
      | nil => rfl
      | cons a b => cases ex
    subst er
    rw [List.append_nil] at eb
    subst eb
    have lf := fold_len (asc t) pok ""
    have l0 : ("" : Str).length = 0 := rfl
    have lr := qT_len (abs_tx hf.rx)
    rw [fText_eq] at hq
    have last : ((asc t).foldl stT "" = "" \/ r ≠ 0) -> dSet 2 (dCB (sp_signed_text ad) (dCons (dVar 2) (dCons (dVar 1) (dCons (dUn (rProp ad.Worth (sp_Wtext ad)) (dCL (rAbsO ad.Worth (sp_Wabs ad)) (dCons (dVar 1) dNil))) dNil)))) { nx := dRet (dVar 2) (endsD Q E), rt := (endsD Q E).rt, bk := (endsD Q E).bk, ct := (endsD Q E).ct, xe := (endsD Q E).xe } [some (tbD ad t), some (wq ad r), some (.str ((asc t).foldl stT "")), z] T' := fun hc => by
      rw [if_pos hc] at hq
      refine q_absW (Nat.le_trans (tx_sz hf.rx) (by decide)) ?_
      refine q_Wtext2 (abs_tx hf.rx) ?_
      exact u_signed (by omega) hq
    refine q_eqT (IfP.by (fun hc => ?_) (fun hc => ?_))
    . exact IfP.t rfl (last (.inl (of_decide_eq_true hc)))
    . refine q_Wnum (q_neI ?_)
      cases e : decide (r.num = 0) with
      | false => exact IfP.t rfl (last (.inr fun z => (of_decide_eq_false e) (num0.2 z)))
      | true =>
        have hr : r = 0 := num0.1 (of_decide_eq_true e)
        rw [if_neg (fun z => z.elim (of_decide_eq_false hc) fun z => z hr)] at hq
        exact IfP.f rfl hq
theorem u_text_of {t : FT} {r : Rat} (h : FmOk t r) (hq : Q (.str (fText t r)) T) : sp_text_of ad [tbD ad t, wq ad r] T Q E := ⟨t, r, rfl, h, hq⟩
end K1
namespace K1
open PySem PySem.Spec PyProof.Rows L2 VX DL RQ TL Srt
def AscS (s : Str) : Prop := ∀ c ∈ tl s, c < 128
def Kx (T T' : Td) : Prop := ∀ b o, T b = some o -> T' b = some o
end K1
namespace K1
open PySem PySem.Spec PyProof.Rows L2 VX DL RQ TL Srt
abbrev N_Frepr : List Str := ["self"]
def d_Frepr (ad : Ad) : TDS := (dRet (dJoin [(dC (.str "Form.of('")), (dFmt (dCB (sp_text_of ad) (dCons (dUn (rFldO ad.Form "table") (dVar 0)) (dCons (dUn (rFldO ad.Form "last") (dVar 0)) dNil)))), (dC (.str "')"))]))
end K1
namespace K1
open PySem PySem.Spec PyProof.Rows L2 VX DL RQ TL Srt
variable {ad : Ad} {ds : List D} {T : Td} {Q : KD} {E : XD}
theorem fT_len {t : FT} {r : Rat} (hf : FmOk t r) : (fText t r).length <= 300000 := by
  have la := asc_len t
  have lt := hf.le
  have pok : ∀ p ∈ asc t, TxtOk p.2 /\ p.1.length <= 100 := fun p hp => ⟨hf.tx p (asc_of hf.nd hp), hf.nm p (asc_of hf.nd hp)⟩
  have lf := fold_len (asc t) pok ""
  have l0 : ("" : Str).length = 0 := rfl
  have lr := qT_len (abs_tx hf.rx)
  rw [fText_eq]
  split
  . have := sT_len ((asc t).foldl stT "") r (qText (absQ r)); omega
  . omega
theorem h_Frepr (h : sp_Frepr ad ds T Q E) : d_Frepr ad (endsD Q E) (startD N_Frepr ds) T := by
  obtain ⟨t, r, rfl, hf, hq⟩ := h.h
  have lf := fT_len hf
  have l1 : ("Form.of('" : Str).length = 9 := len_lit rfl
  have l2 : ("')" : Str).length = 2 := len_lit rfl
  refine ⟨by rw [slen, e0, l1, sizeLine_eq]; omega, ?_⟩
  refine q_tab (q_last (u_text_of hf ⟨by rw [sizeLine_eq]; omega, ⟨by rw [slen, slen, e0, l1, sizeLine_eq]; omega, ?_⟩⟩))
  refine ⟨by rw [slen, slen, slen, e0, l1, l2, sizeLine_eq]; omega, ?_⟩
  rw [eapp]
  exact hq
end K1
namespace K1
open PySem PySem.Spec PyProof.Rows L2 VX DL RQ TL
abbrev N_l_jar : List Str := ["_law_script", "_law_k", "_law_cell", "_law_own", "_law_mixed"]
def d_l_jar (ad : Ad) : TDS := (dSeq (dSet 2 (dCut (dIf (dTst (dBin rLt (dVar 1) (dCL rLenU (dCons (dVar 0) dNil)))) (dBin rIx (dVar 0) (dVar 1)) (dBin rAdd (dBin rMul (dC (.int 41)) (dVar 1)) (dC (.int 29))))))
    (dSeq (dSet 3 (dBin rMul (dBin rMod (dCL rIntS (dCons (dCL rAbs (dCons (dVar 2) dNil)) dNil)) (dBin rPow (dBin rPow (dC (.int 10)) (dC (.int 60))) (dC (.int 5)))) (dCL rIntS (dCons (dBin rGe (dCL rAbs (dCons (dVar 2) dNil)) (dBin rPow (dC (.int 10)) (dC (.int 18)))) dNil))))
    (dSeq (dSet 4 (dBin rAdd (dBin rAdd (dBin rMul (dBin rMod (dCL rIntS (dCons (dVar 2) dNil)) (dC (.int 2305843009213693951))) (dC (.int 69991))) (dBin rMul (dBin rMul (dC (.int 8861)) (dVar 1)) (dVar 1))) (dC (.int 83))))
    (dRet (dLstM (dCons (dVar 3) (dCons (dBin rMod (dCL rIntS (dCons (dVar 4) dNil)) (dC (.int 2305843009213693921))) (dCons (dC (.int 0)) dNil))))))))
abbrev N_l_take : List Str := ["_law_jar_here", "_law_many", "_law_digit", "_law_big"]
def d_l_take (ad : Ad) : TDS := (dSeq (dIfS (dTst (dBin rGt (dBin rIx (dVar 0) (dC (.int 0))) (dC (.int 0)))) (dSeq (dSet 2 (dBin rMod (dCL rIntS (dCons (dBin rIx (dVar 0) (dC (.int 0))) dNil)) (dVar 1)))
    (dSeq (dSetIx (dVar 0) (dC (.int 0)) (dBin rFdv (dBin rIx (dVar 0) (dC (.int 0))) (dVar 1)))
    (dRet (dVar 2)))) dNext)
    (dSeq (dSetIx (dVar 0) (dC (.int 2)) (dBin rAdd (dBin rIx (dVar 0) (dC (.int 2))) (dC (.int 1))))
    (dSeq (dSet 3 (dBin rMod (dCL rIntS (dCons (dBin rMul (dBin rAdd (dBin rAdd (dBin rIx (dVar 0) (dC (.int 1))) (dBin rMul (dBin rMul (dC (.int 65521)) (dBin rIx (dVar 0) (dC (.int 2)))) (dBin rIx (dVar 0) (dC (.int 2))))) (dC (.int 53))) (dC (.int 48271))) dNil)) (dC (.int 2305843009213693921))))
    (dSeq (dSet 3 (dBin rMod (dCL rIntS (dCons (dBin rMul (dVar 3) (dBin rAdd (dBin rMod (dCL rIntS (dCons (dVar 3) dNil)) (dC (.int 1000003))) (dBin rMul (dC (.int 99991)) (dBin rIx (dVar 0) (dC (.int 2)))))) dNil)) (dC (.int 2305843009213693907))))
    (dRet (dBin rMod (dCL rIntS (dCons (dBin rAdd (dBin rFdv (dVar 3) (dC (.int 131))) (dBin rFdv (dVar 3) (dC (.int 1000037)))) dNil)) (dVar 1)))))))
abbrev N_l_of : List Str := ["_law_jar_here", "_law_some"]
def d_l_of (ad : Ad) : TDS := (dRet (dBin rIx (dVar 1) (dCB (sp_l_take ad) (dCons (dVar 0) (dCons (dCL rLenU (dCons (dVar 1) dNil)) dNil)))))
end K1
namespace K1
open PySem PySem.Spec PyProof.Rows L2 VX DL RQ TL
variable {ad : Ad} {ds : List D} {T : Td} {Q : KD} {E : XD}
theorem itR {j : Addr} {xs : List D} (h : T j = some (.lst xs)) : itemsD T (.ref j) = some xs := by simp [itemsD, h]
theorem h_l_take (h : sp_l_take ad ds T Q E) : d_l_take ad (endsD Q E) (startD N_l_take ds) T := by
  obtain ⟨j, m, n, rfl, ⟨a, b, c, hT, h0, h1, h2, h3, h4, h5⟩, hn, hm1, hm2, hq⟩ := h.h
  have hT2 : tput T j (.lst [.int a, .int b, .int (c + 1)]) j = some (.lst [.int a, .int b, .int (c + 1)]) := tput_same
  have m0 : m ≠ 0 := by omega
  have ms : m.natAbs < 2 ^ 64 := by omega
  refine q_ix0 (itR hT) (q_gt (IfP.by (fun hc => ?_) (fun hc => ?_)))
  . refine q_ix0 (itR hT) (q_int (q_mod m0 ?_))
    refine q_ix0 (itR hT) (q_fdvS m0 ms ?_)
    show match T j with | some (.lst xs) => _ | _ => False
    rw [hT]
    refine hq _ _ (Int.fmod_nonneg_of_pos _ (by omega)) (Int.fmod_lt_of_pos _ (by omega)) ⟨_, _, _, tput_same, Int.fdiv_nonneg h0 (by omega), Nat.lt_of_le_of_lt (natAbs_fdiv_le a m) h1, h2, h3, h4, by omega⟩ fun b hb => tput_ne hb
  . refine q_ix2 (itR hT) (q_add ?_)
    show match T j with | some (.lst xs) => _ | _ => False
    rw [hT]
    have k0 : (((b + 65521 * (c + 1) * (c + 1) + 53) * 48271).fmod 2305843009213693921).natAbs < 2 ^ 64 := by
      have q1 := Int.fmod_nonneg_of_pos ((b + 65521 * (c + 1) * (c + 1) + 53) * 48271) (b := 2305843009213693921) (by decide)
      have q2 := Int.fmod_lt_of_pos ((b + 65521 * (c + 1) * (c + 1) + 53) * 48271) (b := 2305843009213693921) (by decide)
      generalize ((b + 65521 * (c + 1) * (c + 1) + 53) * 48271).fmod 2305843009213693921 = z at *
      omega
    refine q_ix1 (itR hT2) ?_
    refine q_ix2 (itR hT2) (q_mulL (by decide) ?_)
    refine q_ix2 (itR hT2) (q_mulR (by omega) ?_)
    refine q_add (q_add (q_mulR (by decide) (q_int (q_mod (by decide) ?_))))
    refine q_int (q_mod (by decide) ?_)
    refine q_ix2 (itR hT2) (q_mulL (by decide) ?_)
    refine q_add (q_mulL k0 (q_int (q_mod (by decide) ?_)))
    refine q_fdvS (by decide) (by decide) (q_fdvS (by decide) (by decide) ?_)
    refine q_add (q_int (q_mod m0 ?_))
    exact hq _ _ (Int.fmod_nonneg_of_pos _ (by omega)) (Int.fmod_lt_of_pos _ (by omega)) ⟨a, b, c + 1, tput_same, h0, h1, h2, h3, by omega, by omega⟩ fun b hb => tput_ne hb
theorem u_take {j : Addr} {m : Int} {n : Nat} (hj : JOk n T j) (hn : n <= 2 ^ 40) (h1 : 1 <= m) (h2 : m <= 10 ^ 8) (hq : ∀ (r : Int) T', 0 <= r -> r < m -> JOk (n + 1) T' j -> Ag j T T' -> Q (.int r) T') : sp_l_take ad [.ref j, .int m] T Q E := ⟨j, m, n, rfl, hj, hn, h1, h2, hq⟩
theorem h_l_of (h : sp_l_of ad ds T Q E) : d_l_of ad (endsD Q E) (startD N_l_of ds) T := by
  obtain ⟨j, ds, n, rfl, hj, hn, h0, h1, hq⟩ := h.h
  have hl : 0 < ds.length := List.length_pos_iff.2 h0
  refine q_lenL ?_
  refine u_take (m := ds.length) hj hn (by omega) (by omega) fun r T' r0 r1 hj' ha => ?_
  have hr : r.toNat < ds.length := by omega
  exact q_ixI (y := ds[r.toNat]) (xs := ds) rfl r0 (List.getElem?_eq_getElem hr) (hq _ _ (List.getElem_mem hr) hj' ha)
theorem u_of {j : Addr} {xs : List D} {n : Nat} (hj : JOk n T j) (hn : n <= 2 ^ 40) (h0 : xs ≠ []) (h1 : xs.length <= 1000) (hq : ∀ d T', d ∈ xs -> JOk (n + 1) T' j -> Ag j T T' -> Q d T') : sp_l_of ad [.ref j, .lst xs] T Q E := ⟨j, xs, n, rfl, hj, hn, h0, h1, hq⟩
theorem pw1 : CPw 10 60 := ⟨by decide, by decide +kernel⟩
theorem pw2 : CPw ((10 : Int) ^ (60 : Int).toNat) 5 := ⟨by decide, by decide +kernel⟩
theorem pw3 : CPw 10 18 := ⟨by decide, by decide +kernel⟩
theorem h_l_jar (h : sp_l_jar ad ds T Q E) : d_l_jar ad (endsD Q E) (startD N_l_jar ds) T := by
  obtain ⟨zs, k, rfl, hk, hz, hq⟩ := h.h
  refine cut_by (fun x T' => ∃ v : Int, x = .int v /\ T' = T) (fun Q hQ => ?_) ?_
  . refine q_lenL ?_
    refine q_lt (IfP.by (fun hc => ?_) (fun hc => ?_))
    . have hc' : (k : Int) < (zs.map D.int).length := of_decide_eq_true hc
      have h2 : k < (zs.map D.int).length := by omega
      rw [List.length_map] at h2
      exact q_ix (n := k) (xs := zs.map D.int) (y := .int zs[k]) rfl (by rw [List.getElem?_map, List.getElem?_eq_getElem h2]; rfl) (hQ _ _ ⟨_, rfl, rfl⟩)
    . exact q_mulL (by decide) (q_add (hQ _ _ ⟨_, rfl, rfl⟩))
  . rintro _ _ ⟨v, rfl, rfl⟩
    have hM : (0 : Int) < (10 ^ (60 : Int).toNat) ^ (5 : Int).toNat := by decide +kernel
    have f0 := Int.fmod_nonneg_of_pos (v.natAbs : Int) hM
    have f1 := Int.fmod_lt_of_pos (v.natAbs : Int) hM
    have hL : ((10 ^ (60 : Int).toNat) ^ (5 : Int).toNat : Int) < 2 ^ 2000 := by decide +kernel
    have g0 := Int.fmod_nonneg_of_pos (v.fmod 2305843009213693951 * 69991 + 8861 * k * k + 83) (b := 2305843009213693921) (by decide)
    have g1 := Int.fmod_lt_of_pos (v.fmod 2305843009213693951 * 69991 + 8861 * k * k + 83) (b := 2305843009213693921) (by decide)
    have b1 : (k : Int).natAbs < 2 ^ 64 := by omega
    have db : ∀ b : Bool, (if b = true then (1 : Int) else 0).natAbs < 2 ^ 64 := by intro b; cases b <;> decide
    refine q_abs (q_int (q_pow pw1 (q_pow pw2 (q_mod (Int.ne_of_gt hM) ?_))))
    refine q_abs (q_pow pw3 (q_ge (q_intb (q_mulR (db _) ?_))))
    refine q_int (q_mod (by decide) (q_mulR (by decide) ?_))
    refine q_mulL (by decide) (q_mulR b1 (q_add (q_add ?_)))
    refine q_int (q_mod (by decide) ⟨sz_ rfl, ?_⟩)
    intro p hp
    refine hq p _ hp ⟨_, _, _, tput_same, ?_, ?_, g0, by omega, by decide, by decide⟩ fun b hb => tput_ne hb
    . split <;> omega
    . generalize (v.natAbs : Int).fmod ((10 ^ (60 : Int).toNat) ^ (5 : Int).toNat) = m at *
      have : m.natAbs < 2 ^ 2000 := by omega
      split
      . rw [Int.mul_one]; exact this
      . rw [Int.mul_zero]; exact Nat.two_pow_pos _
end K1
namespace K1
open PySem PySem.Spec PyProof.Rows L2 VX DL RQ TL
theorem kit_sub {K : PySem.W.Frag} {C : Addr} {n : String} {r : Bool} (hn : PySem.W.kitMeta n = true) (h : PySem.W.subIn K (.ref C) (.type n) = some r) : PySem.W.kitOne K (.ref C) (.type n) = some r := by
  have e : (Value.ref C == Value.type n) = false := rfl
  show (if (Value.ref C == Value.type n) = true then some true else if PySem.W.kitMeta n = true then PySem.W.subIn K (.ref C) (.type n) else none) = some r
  rw [e, if_neg Bool.false_ne_true, if_pos hn, h]
theorem kit_self {K : PySem.W.Frag} {C : Addr} : PySem.W.kitOne K (.ref C) (.ref C) = some true := by
  unfold PySem.W.kitOne
  rw [if_pos (beq_self_eq_true _)]
theorem exm_of {K : PySem.W.Frag} {B S : Addr} (h1 : PySem.W.subIn K (.ref S) (.type "BaseException") = some true) (h2 : PySem.W.isClsIn K S = true) (h3 : PySem.W.typeIn K (.ref S) = some (.type "type")) (h4 : PySem.W.subIn K (.ref B) (.ref S) = some true) : PySem.W.exmOne K (.ref B) (.ref S) = some true := by
  have e1 : (PySem.W.subIn K (.ref S) (.type "BaseException") == some true) = true := by rw [h1] <;> rfl
  have e2 : ((PySem.W.clsIn K S).isSome && PySem.W.typeIn K (.ref S) == some (.type "type")) = true := by
    have h2' : (PySem.W.clsIn K S).isSome = true := h2
    rw [h2', h3] <;> rfl
  show (if (PySem.W.subIn K (.ref S) (.type "BaseException") == some true) = true then (if ((PySem.W.clsIn K S).isSome && PySem.W.typeIn K (.ref S) == some (.type "type")) = true then PySem.W.subIn K (.ref B) (.ref S) else none) else none) = some true
  rw [if_pos e1, if_pos e2]
  exact h4
theorem kit_nf {K : PySem.W.Frag} {C : Addr} {n : String} (hc : PySem.W.isClsIn K C = true) (ht : PySem.W.typeIn K (.ref C) = some (.type "type")) (h : nfT C (.type n) = true) : PySem.W.kitOne K (.type n) (.ref C) = some false := by
  have q := nfT_ok (K := K) h
  unfold PySem.W.notFirst at q
  have hne : (Value.type n == Value.ref C) = false := Bool.eq_false_iff.mpr fun q => by cases beq_iff_eq.mp q
  have e : PySem.W.subIn K (.type n) (.ref C) = some false := by
    rcases Bool.or_eq_true_iff.mp q with e | e
    . rw [hne] at e; cases e
    . exact beq_iff_eq.mp e
  have e2 : ((PySem.W.clsIn K C).isSome && PySem.W.typeIn K (.ref C) == some (.type "type")) = true := by
    have h2' : (PySem.W.clsIn K C).isSome = true := hc
    rw [h2', ht] <;> rfl
  show (if (Value.type n == Value.ref C) = true then some true else if ((PySem.W.clsIn K C).isSome && PySem.W.typeIn K (.ref C) == some (.type "type")) = true then PySem.W.subIn K (.type n) (.ref C) else none) = some false
  rw [hne, if_neg Bool.false_ne_true, if_pos e2, e]
theorem meta6 {n : String} (hn : n ∈ names6) : PySem.W.kitMeta n = true := by
  unfold names6 at hn
  simp only [List.mem_cons, List.not_mem_nil, or_false] at hn
  rcases hn with rfl | rfl | rfl | rfl | rfl | rfl <;> decide +kernel
def ownW (W : Addr) : Addr -> Option (List Str) -> List D -> Option Str
  | C, none, [.int a, .int b] => if C = W /\ (Rat.divInt a b).num = a /\ ((Rat.divInt a b).den : Int) = b /\ (Rat.divInt a b).num.natAbs < 2 ^ 1919 /\ (Rat.divInt a b).den < 2 ^ 1919 then some (rText (Rat.divInt a b)) else none
  | _, _, _ => none
theorem ownW_ok {W : Addr} {q : Rat} (h : TxtOk q) : ownW W W none [.int q.num, .int q.den] = some (rText q) := by
  show (if W = W /\ (Rat.divInt q.num q.den).num = q.num /\ ((Rat.divInt q.num q.den).den : Int) = q.den /\ (Rat.divInt q.num q.den).num.natAbs < 2 ^ 1919 /\ (Rat.divInt q.num q.den).den < 2 ^ 1919 then some (rText (Rat.divInt q.num q.den)) else none) = _
  rw [q_self]
  exact if_pos ⟨rfl, rfl, rfl, h.1, h.2⟩
theorem ownW_inv {W C : Addr} {n : Option (List Str)} {xs : List D} {t : Str} (h : ownW W C n xs = some t) : ∃ q : Rat, C = W /\ n = none /\ xs = [.int q.num, .int q.den] /\ t = rText q /\ TxtOk q := by
  unfold ownW at h
  split at h
  . split at h
    . rename_i e
      cases h
      exact ⟨_, e.1, rfl, by rw [e.2.1, e.2.2.1], rfl, e.2.2.2⟩
    . cases h
  . cases h
theorem len_Winit1 {ad : Ad} {ds : List D} {T : Td} {Q : KD} {E : XD} (q : sp1_Winit ad ds T Q E) : (ds ++ [D.int 1]).length = 3 := by
  obtain ⟨_, _, _, e, _⟩ := q.h.h
  rw [e]
  rfl
theorem six {p : String -> Prop} (h1 : p "int") (h2 : p "bool") (h3 : p "str") (h4 : p "tuple") (h5 : p "list") (h6 : p "dict") : ∀ n ∈ names6, p n := fun n hn => by
  unfold names6 at hn
  simp only [List.mem_cons, List.not_mem_nil, or_false] at hn
  rcases hn with rfl | rfl | rfl | rfl | rfl | rfl <;> assumption
end K1
namespace K1
open PySem PySem.Spec PyProof.Rows L2 VX DL RQ TL
theorem kit_cls {K : PySem.W.Frag} {C D : Addr} {r : Bool} (hd : PySem.W.isClsIn K D = true) (ht : PySem.W.typeIn K (.ref D) = some (.type "type")) (ne : C ≠ D) (h : PySem.W.subIn K (.ref C) (.ref D) = some r) : PySem.W.kitOne K (.ref C) (.ref D) = some r := by
  have hne : (Value.ref C == Value.ref D) = false := Bool.eq_false_iff.mpr fun q => ne (by cases beq_iff_eq.mp q; rfl)
  have e2 : ((PySem.W.clsIn K D).isSome && PySem.W.typeIn K (.ref D) == some (.type "type")) = true := by
    have h2' : (PySem.W.clsIn K D).isSome = true := hd
    rw [h2', ht] <;> rfl
  show (if (Value.ref C == Value.ref D) = true then some true else if ((PySem.W.clsIn K D).isSome && PySem.W.typeIn K (.ref D) == some (.type "type")) = true then PySem.W.subIn K (.ref C) (.ref D) else none) = some r
  rw [hne, if_neg Bool.false_ne_true, if_pos e2, h]
theorem adB_two {K : PySem.W.Frag} {ad : Ad} {W F : Addr} {es : List Addr} (hi : ad.inst = PySem.W.kitOne K) (hc : ad.cls = [W]) (ho : ad.obj = [F]) (he : ad.exs = es) (h6 : ∀ n ∈ names6, PySem.W.subIn K (.ref W) (.type n) = some false) (h6F : ∀ n ∈ names6, PySem.W.subIn K (.ref F) (.type n) = some false)
    (hw : PySem.W.isClsIn K W = true /\ PySem.W.typeIn K (.ref W) = some (.type "type")) (hf : PySem.W.isClsIn K F = true /\ PySem.W.typeIn K (.ref F) = some (.type "type")) (hes : ∀ C ∈ es, PySem.W.isClsIn K C = true /\ PySem.W.typeIn K (.ref C) = some (.type "type"))
    (sWF : PySem.W.subIn K (.ref W) (.ref F) = some false) (sFW : PySem.W.subIn K (.ref F) (.ref W) = some false) : AdB ad where
  b := fun m n r h => by rw [hi]; exact kit_ty h
  ct := fun C h n hn => by
    have : C = W \/ C = F := by simpa [inS, inO, hc, ho] using h
    rw [hi]
    rcases this with rfl | rfl
    . exact kit_sub (meta6 hn) (h6 n hn)
    . exact kit_sub (meta6 hn) (h6F n hn)
  cc := fun C _ => by rw [hi]; exact kit_self
  nc := fun C h n hn => by
    have hk : PySem.W.isClsIn K C = true /\ PySem.W.typeIn K (.ref C) = some (.type "type") := by
      rcases Bool.or_eq_true_iff.1 h with h | h
      . have : C = W \/ C = F := by simpa [inS, inO, hc, ho] using h
        rcases this with rfl | rfl
        . exact hw
        . exact hf
      . refine hes C ?_
        unfold inE at h
        rw [he] at h
        exact List.contains_iff_mem.1 h
    rw [hi]
    exact kit_nf hk.1 hk.2 (List.contains_iff_mem.2 hn)
  cd := fun C D h1 h2 hn => by
    have e1 : C = W \/ C = F := by simpa [inS, inO, hc, ho] using h1
    have e2 : D = W \/ D = F := by simpa [inS, inO, hc, ho] using h2
    rw [hi]
    rcases e1 with rfl | rfl <;> rcases e2 with rfl | rfl
    . exact absurd rfl hn
    . exact kit_cls hf.1 hf.2 hn sWF
    . exact kit_cls hw.1 hw.2 hn sFW
    . exact absurd rfl hn
end K1
namespace K1
open PySem PySem.Spec PyProof.Rows L2 VX DL RQ TL Srt
def wqW (W : Addr) (q : Rat) : D := .slo W [.int q.num, .int q.den]
def tbW (W : Addr) (t : FT) : D := .dct (t.map fun p => Sum.inr p.1) (t.map fun p => wqW W p.2)
def frText (t : FT) (r : Rat) : Str := ("Form.of('" ++ fText t r) ++ "')"
theorem wqW_inj {W : Addr} {q r : Rat} (h : wqW W q = wqW W r) : q = r := by
  unfold wqW at h
  injection h with _ h
  injection h with h1 h
  injection h with h2 _
  injection h1 with h1
  injection h2 with h2
  exact Rat.ext h1 (Int.ofNat.inj h2)
theorem tbW_inj {W : Addr} : ∀ {t u : FT}, tbW W t = tbW W u -> t = u := by
  intro t u h
  unfold tbW at h
  injection h with h1 h2
  induction t generalizing u with
  | nil =>
    cases u with
    | nil => rfl
    | cons p u => cases h1
  | cons p t ih =>
    cases u with
    | nil => cases h1
    | cons r u =>
      rw [List.map_cons, List.map_cons] at h1 h2
      injection h1 with a1 b1
      injection h2 with a2 b2
      rw [ih b1 b2]
      injection a1 with a1
      have e : p = r := Prod.ext a1 (wqW_inj a2)
      rw [e]
open Classical in
noncomputable def ownF1 (W : Addr) (xs : List D) : Option Str := if h : ∃ p : FT × Rat, xs = [tbW W p.1, wqW W p.2] /\ FmOk p.1 p.2 then some (frText h.choose.1 h.choose.2) else none
theorem ownF1_ok {W : Addr} {t : FT} {r : Rat} (h : FmOk t r) : ownF1 W [tbW W t, wqW W r] = some (frText t r) := by
  have hx : ∃ p : FT × Rat, [tbW W t, wqW W r] = [tbW W p.1, wqW W p.2] /\ FmOk p.1 p.2 := ⟨(t, r), rfl, h⟩
  unfold ownF1
  rw [dif_pos hx]
  have e := hx.choose_spec.1
  injection e with e1 e
  injection e with e2 _
  rw [<- tbW_inj e1, <- wqW_inj e2]
theorem ownF1_inv {W : Addr} {xs : List D} {t : Str} (h : ownF1 W xs = some t) : ∃ u r, xs = [tbW W u, wqW W r] /\ FmOk u r /\ t = frText u r := by
  unfold ownF1 at h
  split at h
  . rename_i hx
    injection h with h
    exact ⟨_, _, hx.choose_spec.1, hx.choose_spec.2, h.symm⟩
  . cases h
noncomputable def ownWF (W F : Addr) (C : Addr) (n : Option (List Str)) (xs : List D) : Option Str := match n with
  | none => ownW W C none xs
  | some ns => if C = F /\ ns = (["table", "last"] : List Str) then ownF1 W xs else none
theorem ownWF_w {W F : Addr} {q : Rat} (h : TxtOk q) : ownWF W F W none [.int q.num, .int q.den] = some (rText q) := ownW_ok h
theorem ownWF_f {W F : Addr} {t : FT} {r : Rat} (h : FmOk t r) : ownWF W F F (some (["table", "last"] : List Str)) [tbW W t, wqW W r] = some (frText t r) := by
  show (if F = F /\ (["table", "last"] : List Str) = (["table", "last"] : List Str) then ownF1 W [tbW W t, wqW W r] else none) = _
  rw [if_pos ⟨rfl, rfl⟩]
  exact ownF1_ok h
theorem ownWF_inv {W F C : Addr} {n : Option (List Str)} {xs : List D} {t : Str} (h : ownWF W F C n xs = some t) :
    (∃ q : Rat, C = W /\ n = none /\ xs = [.int q.num, .int q.den] /\ t = rText q /\ TxtOk q) \/ (∃ u r, C = F /\ n = some (["table", "last"] : List Str) /\ xs = [tbW W u, wqW W r] /\ t = frText u r /\ FmOk u r) := by
  cases n with
  | none => exact .inl (ownW_inv h)
  | some ns =>
    have h' : (if C = F /\ ns = (["table", "last"] : List Str) then ownF1 W xs else none) = some t := h
    split at h'
    . rename_i e
      obtain ⟨u, r, e1, e2, e3⟩ := ownF1_inv h'
      exact .inr ⟨u, r, e.1, by rw [e.2], e1, e3, e2⟩
    . cases h'
end K1
namespace K1
open PySem PySem.Spec PyProof.Rows L2 VX DL RQ TL Srt
def oddL : List D := [.non, .bl true, .bl false, .str "1", .str "", .tup [], .tup [.int 1], .lst [.int 1], .dct [] [], .dct [.inr "a"] [.int 1], .str "x", .tup [.tup []]]
structure sp_l_odd (ad : Ad) (xs : List D) (T : Td) (Q : KD) (E : XD) : Prop where
  h : ∃ (j : Addr) (n : Nat), xs = [.ref j] /\ JOk n T j /\ n <= 2 ^ 39 /\ ∀ d T', d ∈ oddL -> JOk (n + 1) T' j -> Ag j T T' -> Q d T'
end K1
namespace K1
open PySem PySem.Spec PyProof.Rows L2 VX DL RQ TL Srt
abbrev N_l_odd : List Str := ["_law_jar_here"]
def d_l_odd (ad : Ad) : TDS := (dRet (dCB (sp_l_of ad) (dCons (dVar 0) (dCons (dLst (dCons (dC .non) (dCons (dC (.bl true)) (dCons (dC (.bl false)) (dCons (dC (.str "1")) (dCons (dC (.str "")) (dCons (dTup dNil) (dCons (dTup (dCons (dC (.int 1)) dNil)) (dCons (dLst (dCons (dC (.int 1)) dNil)) (dCons (dC (.dct [] [])) (dCons (dC (.dct [.inr "a"] [.int 1])) (dCons (dC (.str "x")) (dCons (dTup (dCons (dTup dNil) dNil)) dNil))))))))))))) dNil))))
end K1
namespace K1
open PySem PySem.Spec PyProof.Rows L2 VX DL RQ TL Srt
variable {ad : Ad} {ds : List D} {T : Td} {Q : KD} {E : XD}
theorem f0 : fq 0 = .tup [.int 0, .int 1] := rfl
end K1
namespace K1
open PySem PySem.Spec PyProof.Rows L2 VX DL RQ TL Srt
variable {ad : Ad} {ds : List D} {T : Td} {Q : KD} {E : XD}
def sg (c : Nat) : Str := ⟨#[c]⟩
theorem rg_len {n : Nat} : (rangeD 0 n).length = n := by unfold rangeD; rw [List.length_map, List.length_range]
theorem Kp.tr {j : Addr} {T1 T2 : Td} (h : Kp j T T1) (a : Kp j T1 T2) : Kp j T T2 := fun b o hb e => a b o hb (h b o hb e)
theorem Ag.kp {j : Addr} {T1 T2 : Td} (a : Ag j T1 T2) : Kp j T1 T2 := fun b o hb e => by rw [a b hb]; exact e
theorem Kp.ag {j : Addr} {T1 T2 : Td} (h : Kp j T T1) (a : Ag j T1 T2) : Kp j T T2 := h.tr a.kp
theorem Kp.del {j P : Addr} {T0 T' : Td} (h : Kp j T T') (hP : T0 P = none) (h0 : Kp j T T0) : Kp j T (tdel T' P) := fun b o hb e => by
  rw [tdel_ne fun z => by have := h0 b o hb e; rw [z, hP] at this; cases this]
  exact h b o hb e
theorem JOk.kept {j : Addr} {n : Nat} (h : JOk n T j) {P : Addr} {o : DO} {T' : Td} (e : T P = some o) (hj : j ≠ P) (a : Ag j T T') : T' P = some o := (a P hj.symm).trans e
end K1
namespace K1
open PySem PySem.Spec PyProof.Rows L2 VX DL RQ TL Srt
variable {ad : Ad} {ds : List D} {T : Td} {Q : KD} {E : XD}
theorem kd_exc {C : Addr} (he : inE ad C = true) (ns : List Str) (xs : List D) : kdD ad T (.exc (.ref C) ns xs) = some (.exc C) := by
  show (if inE ad C = true then some (Kd.exc C) else none) = _
  rw [if_pos he]
theorem q_valE {C : Addr} {x : D} (he : inE ad C = true) (hq : Q x T) : O1 (rFld (inE ad) "value") (.exc (.ref C) ["value"] [x]) T Q E := ⟨by
  refine ⟨he, ?_⟩
  show match lookD "value" ["value"] [x] with | some d => _ | none => False
  have : lookD "value" ["value"] [x] = some x := by simp [lookD]
  rw [this]
  exact hq⟩
theorem q_isE (o : AdB ad) {C : Addr} (he : inE ad C = true) {ns : List Str} {xs : List D} (hq : Q (.bl true) T) : OL (rIsiD (inS ad) (inE ad) (inO ad) ad.inst) [.exc (.ref C) ns xs, .val (.ref C)] T Q E :=
  q_isi (kd_exc he ns xs) rfl (o.cc C (by rw [he, Bool.or_true])) hq
theorem cond_C {C S : Addr} {i : Nat} (hs : ad.exm S (.ref C) = some true) {ts : TDS} {D : DEnds} {sd : SD} {x : DL.D} (h : ts { nx := fun s2 T2 => D.nx (s2.set i none) T2, rt := D.rt, bk := fun s2 T2 => D.bk (s2.set i none) T2, ct := fun s2 T2 => D.ct (s2.set i none) T2, xe := fun _ _ _ => False } (sd.set i (some (.exc (.ref C) ["value"] [x]))) T) :
    hCond (ad.exm S) i ts D (excD C x) sd T := ⟨true, hs, fun _ => ⟨fun z => (nomatch z), h⟩, fun z => (nomatch z)⟩
structure OddP (ad : Ad) (d : D) : Prop where
  r : (reprD ad.own d).isSome = true
  dp : depthD d <= 8
  k : ∀ T, ∃ k, kdD ad T d = some k /\ NoExc k /\ ∀ C, k ≠ .cls C
  n : numD ad d = false
  v : Vl ad d
theorem odd_p {d : D} (h : d ∈ oddL) : OddP ad d := by
  unfold oddL at h
  simp only [List.mem_cons, List.not_mem_nil, or_false] at h
  rcases h with rfl | rfl | rfl | rfl | rfl | rfl | rfl | rfl | rfl | rfl | rfl | rfl
  . exact ⟨rfl, by decide, fun T => ⟨.non, rfl, nx_non, fun C z => nomatch z⟩, rfl, trivial⟩
  . exact ⟨rfl, by decide, fun T => ⟨.bl, rfl, nx_bl, fun C z => nomatch z⟩, rfl, trivial⟩
  . exact ⟨rfl, by decide, fun T => ⟨.bl, rfl, nx_bl, fun C z => nomatch z⟩, rfl, trivial⟩
  . exact ⟨by kernel_rfl, by decide, fun T => ⟨.str, rfl, nx_str, fun C z => nomatch z⟩, rfl, (show ("1" : Str).length <= 10000 by decide)⟩
  . exact ⟨by kernel_rfl, by decide, fun T => ⟨.str, rfl, nx_str, fun C z => nomatch z⟩, rfl, (show ("" : Str).length <= 10000 by decide)⟩
  . exact ⟨by kernel_rfl, by decide, fun T => ⟨.tup, rfl, nx_tup, fun C z => nomatch z⟩, rfl, ⟨Nat.le_of_ble_eq_true rfl, trivial⟩⟩
  . exact ⟨by kernel_rfl, by decide, fun T => ⟨.tup, rfl, nx_tup, fun C z => nomatch z⟩, rfl, ⟨Nat.le_of_ble_eq_true rfl, trivial, trivial⟩⟩
  . exact ⟨by kernel_rfl, by decide, fun T => ⟨.lst, rfl, nx_lst, fun C z => nomatch z⟩, rfl, ⟨Nat.le_of_ble_eq_true rfl, trivial, trivial⟩⟩
  . exact ⟨by kernel_rfl, by decide, fun T => ⟨.dct, rfl, nx_dct, fun C z => nomatch z⟩, rfl, trivial⟩
  . exact ⟨by kernel_rfl, by decide, fun T => ⟨.dct, rfl, nx_dct, fun C z => nomatch z⟩, rfl, trivial⟩
  . exact ⟨by kernel_rfl, by decide, fun T => ⟨.str, rfl, nx_str, fun C z => nomatch z⟩, rfl, (show ("x" : Str).length <= 10000 by decide)⟩
  . exact ⟨by kernel_rfl, by decide, fun T => ⟨.tup, rfl, nx_tup, fun C z => nomatch z⟩, rfl, ⟨Nat.le_of_ble_eq_true rfl, ⟨Nat.le_of_ble_eq_true rfl, trivial⟩, trivial⟩⟩
theorem h_l_odd (h : sp_l_odd ad ds T Q E) : d_l_odd ad (endsD Q E) (startD N_l_odd ds) T := by
  obtain ⟨j, n, rfl, hj, hn, hq⟩ := h.h
  refine ⟨sz_ rfl, sz_ rfl, sz_ rfl, sz_ rfl, sz_ rfl, sz_ rfl, ?_⟩
  exact u_of (xs := oddL) hj (by omega) (fun z => nomatch z) (Nat.le_of_ble_eq_true rfl) fun d T1 hd hj1 a1 => hq d T1 hd hj1 a1
theorem u_odd {j : Addr} {n : Nat} (hj : JOk n T j) (hn : n <= 2 ^ 39) (hq : ∀ d T', d ∈ oddL -> OddP ad d -> JOk (n + 1) T' j -> Ag j T T' -> Q d T') : sp_l_odd ad [.ref j] T Q E := ⟨j, n, rfl, hj, hn, fun d T' hd => hq d T' hd (odd_p hd)⟩
theorem u_l_jar {zs : List Int} {k : Nat} (hk : k <= 100) (hz : ∀ z ∈ zs, Builtin.Int.intBits z <= 1048576) (hq : ∀ j T', T j = none -> JOk 0 T' j -> Ag j T T' -> Q (.ref j) T') : sp_l_jar ad [.lst (zs.map D.int), .int k] T Q E := ⟨zs, k, rfl, hk, hz, hq⟩
end K1
namespace K1
open PySem PySem.Spec PyProof.Rows L2 VX DL RQ TL Srt
variable {ad : Ad} {ds : List D} {T : Td} {Q : KD} {E : XD}
structure AdV (ad : Ad) : Prop extends AdF ad where
  ro : ∀ (t : FT) (r : Rat), FmOk t r -> ad.own ad.Form (some (["table", "last"] : List Str)) [tbD ad t, wq ad r] = some (frText t r)
theorem tx_of {q : Rat} {n : Nat} (h : RQ.sz q <= n) (hn : n <= 1919) : TxtOk q :=
  ⟨Nat.lt_of_lt_of_le (RQ.sz_num q) (Nat.pow_le_pow_right (by decide) (by omega)), Nat.lt_of_lt_of_le (RQ.sz_den q) (Nat.pow_le_pow_right (by decide) (by omega))⟩
theorem asc_lit {s : String} (h : s.toList.all (fun c => decide (c.toNat < 128)) = true) : AscS (Str.ofString s) := fun c hc => by
  rw [tl_ofString] at hc
  obtain ⟨d, hd, rfl⟩ := List.mem_map.1 hc
  exact of_decide_eq_true (List.all_eq_true.1 h d hd)
theorem rp_strS {s : Str} (hl : s.length <= 500) (ha : AscS s) : reprD ad.own (.str s) = some (reprText s) := by
  have h := StrLaws.reprText_len s fun c hc => Nat.lt_trans (ha c hc) (by decide)
  unfold reprD
  rw [if_pos (sz (by omega))]
theorem rp_w (o : AdW ad) {q : Rat} (h : TxtOk q) (hl : (rText q).length <= 10000) : reprD ad.own (wq ad q) = some (rText q) := by
  unfold wq reprD
  rw [o.wo q h]
  show (if (rText q).length <= sizeLine then some (rText q) else none) = some (rText q)
  rw [if_pos (sz hl)]
theorem sl {n : Nat} (h : n <= 10000000) : n <= sizeLine := by
  rw [sizeLine_eq]
  omega
theorem from_len : ∀ (ts : List Str) (k : Nat) (acc : Str), (textFrom k acc ts).length <= acc.length + piled ts
  | [], k, acc => Nat.le_add_right _ _
  | t :: r, k, acc => by
    have h := from_len r (k + 1) (acc ++ (if k > 0 then ", " else "" : String) ++ t)
    rw [slen, slen] at h
    rw [piled_cons]
    have e : (Str.ofString (if k > 0 then ", " else "")).length <= 2 := by
      split
      . exact Nat.le_of_eq (len_lit rfl)
      . rw [len_lit (n := 0) rfl]
        exact Nat.zero_le _
    show (textFrom (k + 1) _ r).length <= _
    omega
theorem lst_len (ts : List Str) : (listText ts).length <= piled ts + 2 := by
  have h := from_len ts 0 "["
  unfold listText
  rw [slen, len_lit (n := 1) rfl]
  rw [len_lit (n := 1) rfl] at h
  omega
theorem tup_len (ts : List Str) : (tupleText ts).length <= piled ts + 3 := by
  have h : (Str.join ", " ts).length <= piled ts := by
    cases ts with
    | nil => exact Nat.zero_le _
    | cons t r =>
      have := join_length_add (t :: r) (List.cons_ne_nil _ _)
      omega
  have e : (Str.ofString (if ts.length == 1 then ",)" else ")")).length <= 2 := by
    split
    . exact Nat.le_of_eq (len_lit rfl)
    . rw [len_lit (n := 1) rfl]
      decide
  unfold tupleText
  rw [slen, slen, len_lit (n := 1) rfl]
  omega
structure Rv (ad : Ad) (d : D) (L k : Nat) : Prop where
  rp : ∃ t, reprD ad.own d = some t /\ t.length <= L
  dp : depthD d <= k
theorem Rv.mono {d : D} {L k L' k' : Nat} (h : Rv ad d L k) (h1 : L <= L') (h2 : k <= k') : Rv ad d L' k' := ⟨let ⟨t, e, l⟩ := h.rp; ⟨t, e, Nat.le_trans l h1⟩, Nat.le_trans h.dp h2⟩
theorem rvs {L k : Nat} : ∀ {ds : List D}, (∀ d ∈ ds, Rv ad d L k) -> depthDs ds <= k /\ ∃ ts, reprDs ad.own ds = some ts /\ piled ts <= ds.length * (L + 2)
  | [], _ => ⟨Nat.zero_le _, [], by unfold reprDs; rfl, Nat.zero_le _⟩
  | d :: ds, h => by
    obtain ⟨dp, ts, e, p⟩ := rvs fun x hx => h x (List.mem_cons_of_mem _ hx)
    have g := h d List.mem_cons_self
    obtain ⟨t, e1, l⟩ := g.rp
    refine ⟨Nat.max_le.2 ⟨g.dp, dp⟩, t :: ts, ?_, ?_⟩
    . unfold reprDs
      rw [e1, e]
    . rw [piled_cons, List.length_cons, Nat.succ_mul]
      omega
theorem rv_tup {L k : Nat} {ds : List D} (h : ∀ d ∈ ds, Rv ad d L k) (b : ds.length * (L + 2) <= 9000000) : Rv ad (.tup ds) (ds.length * (L + 2) + 3) (k + 2) := by
  obtain ⟨dp, ts, e, p⟩ := rvs h
  have tl := tup_len ts
  refine ⟨⟨tupleText ts, ?_, by omega⟩, ?_⟩
  . unfold reprD
    rw [e]
    show (if (tupleText ts).length <= sizeLine then some (tupleText ts) else none) = _
    rw [if_pos (sl (by omega))]
  . show depthDs ds + 2 <= k + 2
    omega
theorem rv_lst {L k : Nat} {ds : List D} (h : ∀ d ∈ ds, Rv ad d L k) (b : ds.length * (L + 2) <= 9000000) : Rv ad (.lst ds) (ds.length * (L + 2) + 3) (k + 2) := by
  obtain ⟨dp, ts, e, p⟩ := rvs h
  have tl := lst_len ts
  refine ⟨⟨listText ts, ?_, by omega⟩, ?_⟩
  . unfold reprD
    rw [e]
    show (if (listText ts).length <= sizeLine then some (listText ts) else none) = _
    rw [if_pos (sl (by omega))]
  . show depthDs ds + 2 <= k + 2
    omega
theorem rv_str {s : Str} (hl : s.length <= 50) (ha : AscS s) : Rv ad (.str s) 4000 0 := by
  have h := StrLaws.reprText_len s fun c hc => Nat.lt_trans (ha c hc) (by decide)
  exact ⟨⟨_, rp_strS (by omega) ha, by omega⟩, Nat.le_refl _⟩
theorem rv_int {i : Int} (h : i.natAbs < 2 ^ 1919) : Rv ad (.int i) 4000 0 := by
  refine ⟨⟨Str.ofString (toString i), ?_, Nat.le_trans (il h) (by decide)⟩, Nat.le_refl _⟩
  unfold reprD
  rw [if_pos (lgn h)]
theorem rv_non : Rv ad .non 4000 0 := ⟨⟨"None", by unfold reprD; rfl, by decide +kernel⟩, Nat.le_refl _⟩
theorem rv_bl (b : Bool) : Rv ad (.bl b) 4000 0 := ⟨⟨_, by unfold reprD; rfl, by cases b <;> decide +kernel⟩, Nat.le_refl _⟩
theorem rv_w (o : AdW ad) {q : Rat} (t : TxtOk q) : Rv ad (wq ad q) 4000 0 := by
  have l : (rText q).length <= 3900 := by
    have h1 := il t.1
    have h2 := dl t.2
    have e1 : ("Worth(" : Str).length = 6 := len_lit rfl
    have e2 : (")" : Str).length = 1 := len_lit rfl
    have e3 : (", " : Str).length = 2 := len_lit rfl
    unfold rText
    split
    . rw [slen, slen]
      omega
    . rw [slen, slen, slen, slen]
      omega
  exact ⟨⟨_, rp_w o t (by omega), by omega⟩, Nat.zero_le _⟩
theorem rv_fm (o : AdV ad) {t : FT} {r : Rat} (h : FmOk t r) : Rv ad (fm ad t r) 310000 0 := by
  have l := fT_len h
  have e1 : ("Form.of('" : Str).length = 9 := len_lit rfl
  have e2 : ("')" : Str).length = 2 := len_lit rfl
  have l2 : (frText t r).length <= 310000 := by
    unfold frText
    rw [slen, slen]
    omega
  refine ⟨⟨frText t r, ?_, l2⟩, Nat.zero_le _⟩
  show reprD ad.own (.obj ad.Form ["table", "last"] [tbD ad t, wq ad r]) = _
  unfold reprD
  rw [o.ro t r h]
  show (if (frText t r).length <= sizeLine then some (frText t r) else none) = _
  rw [if_pos (sl (by omega))]
theorem rv_dct0 : Rv ad (.dct [] []) 4000 3 := ⟨⟨_, rfl, by decide +kernel⟩, Nat.le_refl _⟩
theorem rv_dct1 {k : Str} {i : Int} {ts : List Str} (e : entTexts [.inr k] [.int i] = some ts) (l : (dictText ts).length <= 4000) : Rv ad (.dct [.inr k] [.int i]) 4000 3 := by
  refine ⟨⟨dictText ts, ?_, l⟩, Nat.le_refl _⟩
  unfold reprD
  rw [e]
  show (if (dictText ts).length <= sizeLine then some (dictText ts) else none) = _
  rw [if_pos (sl (by omega))]
theorem rv_a1 : Rv ad (.dct [.inr "a"] [.int 1]) 4000 3 := by
  have he : ∃ ts, entTexts [.inr "a"] [.int 1] = some ts /\ (dictText ts).length <= 4000 := ⟨(entTexts [.inr "a"] [.int 1]).getD [], by decide +kernel, by decide +kernel⟩
  obtain ⟨ts, e, l⟩ := he
  exact rv_dct1 e l
theorem rv_lit {s : String} (h : s.length <= 50) (ha : s.toList.all (fun c => decide (c.toNat < 128)) = true) : Rv ad (.str (Str.ofString s)) 4000 0 := rv_str (by rw [len_lit rfl]; exact h) (asc_lit ha)
theorem rv_odd {d : D} (hd : d ∈ oddL) : Rv ad d 9000 4 := by
  have i1 : ∀ d ∈ [D.int 1], Rv ad d 4000 0 := fun d h => by rw [List.mem_singleton.1 h]; exact rv_int (by decide)
  have e0 : ∀ d ∈ ([] : List D), Rv ad d 0 0 := fun d h => nomatch h
  have t0 : Rv ad (.tup []) 3 2 := rv_tup e0 (by decide)
  simp only [oddL, List.mem_cons, List.not_mem_nil, or_false] at hd
  rcases hd with rfl | rfl | rfl | rfl | rfl | rfl | rfl | rfl | rfl | rfl | rfl | rfl
  . exact rv_non.mono (by decide) (by decide)
  . exact (rv_bl true).mono (by decide) (by decide)
  . exact (rv_bl false).mono (by decide) (by decide)
  . exact (rv_lit (by decide) (by decide)).mono (by decide) (by decide)
  . exact (rv_lit (by decide) (by decide)).mono (by decide) (by decide)
  . exact t0.mono (by decide) (by decide)
  . exact (rv_tup i1 (by decide)).mono (by decide) (by decide)
  . exact (rv_lst i1 (by decide)).mono (by decide) (by decide)
  . exact rv_dct0.mono (by decide) (by decide)
  . exact rv_a1.mono (by decide) (by decide)
  . exact (rv_lit (by decide) (by decide)).mono (by decide) (by decide)
  . exact (rv_tup (L := 3) (k := 2) (fun d h => by rw [List.mem_singleton.1 h]; exact t0) (by decide)).mono (by decide) (by decide)
end K1
namespace DL
open PySem PySem.Spec PyProof.Rows L2 Srt VX
section
variable {X : Cx} {W : WX} {o e : Expr} {to te : TDE} {pos apos cpos : Pos}
def dExtend (to te : TDE) : TDS := fun D sd T => to sd T (fun x T1 => (∃ a xs, x = .ref a /\ T1 a = some (.lst xs)) /\ te sd T1 (fun y T2 => ∃ a b xs ys, x = .ref a /\ y = .ref b /\ T2 a = some (.lst xs) /\ T2 b = some (.lst ys) /\ xs.length + ys.length <= sizeLine /\ D.nx sd (tput T2 a (.lst (xs ++ ys)))) (fun ex T' => D.xe ex sd T')) (fun ex T' => D.xe ex sd T')
theorem ds_extend (ho : DE X W o to) (he : DE X W e te) (hbase : attributeBase o "extend" X.env (eval o X.env) = eval o X.env := by rfl)
    (hfew : ((backTo cpos (starEach [e] X.env)).all (fun x => !x.1) && (backToKw cpos (keywordEach [] X.env)).all (fun x => x.1.isSome)
      && decide (([e] : List Expr).length + ([] : List Keyword).length + (if ([] : List Keyword).isEmpty then 0 else 1) < 30)) = true := by rfl)
    (hline : (apos.endLine == cpos.line) = true := by rfl) (hs : starEach [e] X.env = (false, eval e X.env) :: starEach [] X.env := by rfl) (hsw : swapsWith (.Call (.Attribute o "extend" apos) [e] [] cpos) none pos.line X.env = pure false := by rfl) :
    DS X W (.Expr (.Call (.Attribute o "extend" apos) [e] [] cpos) pos) (dExtend to te) := by
  refine PS.imp (ps_expr (pe_bm PySem.F.plainAttrs_list PySem.F.slot_list_extend PySem.F.type_list_extend mt_extend ho (pa_cons he pa_nil hs) hbase hfew hline hs rfl) hsw) fun De σ H ⟨sd, T, DD, st, ok, L, q⟩ => ?_
  refine ⟨sd, T, _, _, ⟨st, ok, fun x T1 vx H1 k r o1 f1 => ?_, L.exok st⟩, q⟩
  obtain ⟨⟨a, xs, rfl, ht⟩, k⟩ := k
  have r' : vx = .ref a := r
  subst r'
  obtain ⟨vs1, hv1, _⟩ := o1 a _ ht
  refine ⟨.inl ⟨rfl, _, SqL.of hv1⟩, sd, T1, _, _, ⟨st.mono f1, o1, fun y T2 vy H2 k2 r2 o2 f2 => ?_, EXok.go (L.exok st) f1⟩, k⟩
  obtain ⟨a', b, xs', ys, e', ey, ht', hb, hz, k2⟩ := k2
  cases e'
  subst ey
  have r2' : vy = .ref b := r2
  subst r2'
  obtain ⟨vs, hv, rs⟩ := o2 a _ ht'
  obtain ⟨ws, hw, rw'⟩ := o2 b _ hb
  have fw : Fr H2 T2 (upd H2 a (.lst (vs ++ ws))) (tput T2 a (.lst (xs' ++ ys))) := Fr.write ht'
  exact ⟨a, b, vs, ws, rfl, rfl, hv, hw, by rw [<- rs.length, <- rw'.length]; exact hz, L.nx sd _ _ _ k2 (((st.mono f1).mono f2).mono fw) (o2.write ht' (show DObj X.K _ _ a (.lst _) from ⟨_, upd_same, (RDs.mono fw xs' rs).append (RDs.mono fw ys rw')⟩)) ((f1.trans f2).trans fw)⟩
end
end DL
namespace DL
open PySem PySem.Spec PyProof.Rows L2 VX
theorem new_enumT (l : Addr) (items : Array Value) : Meets (Builtin.«enumerate.__new__» ⟨[.type "enumerate", .ref l], []⟩) (fun _ R s => s.heap.IsTuple l items /\
      R (.ok (.ret (.ref (s.heap.objs.size + 1)))) { s with heap := (s.heap.push { cls := .type "tuple_iterator", data := .fields #[.ref l, .int 0 0] }).push { cls := .type "enumerate", data := .fields #[.none, .bool false, .ref s.heap.objs.size, rawInt 0, .none, .none] } }) :=
  .of_wp fun prog w A R ⟨hp, g, d, tk, os⟩ ⟨hl, h⟩ => by
    have sub := sub_enumerate
    have hz : (hp.push { cls := .type "tuple_iterator", data := .fields #[.ref l, .int 0 0] }).objs.size = hp.objs.size + 1 := Heap.size_push ..
    have it : ∀ {A1 : Around} {E : Value -> Shared -> Prop} {Q : Value -> Shared -> Prop}, Q (.ref hp.objs.size) ⟨hp.push { cls := .type "tuple_iterator", data := .fields #[.ref l, .int 0 0] }, g, d, tk, os⟩ -> wpAny (model prog w) A1 (pyIter (.ref l)) Q E ⟨hp, g, d, tk, os⟩ := fun q => wpAny_pyIter_tuple hl q
    wp_walk using it
    refine wpAny_stack_any fun st => wpAny_pure ?_
    have fin : R (.ok (.ret (.ref (hp.push { cls := .type "tuple_iterator", data := .fields #[.ref l, .int 0 0] }).objs.size))) { heap := (hp.push { cls := .type "tuple_iterator", data := .fields #[.ref l, .int 0 0] }).push { cls := .type "enumerate", data := .fields #[.none, .bool false, .ref hp.objs.size, rawInt 0, .none, .none] }, gens := g, drawn := d, toks := tk, os := os } := by rw [hz]; exact h
    split
    . rename_i c _ _ _ _ _
      cases (c == Value.type "enumerate") <;> (wp_walk using it; exact ⟨_, rfl, fin⟩)
    . wp_walk using it
      exact ⟨_, rfl, fin⟩
def IteT (K : PySem.W.Frag) (a : Addr) : It where
  go i H := ∃ (xs : List V) (x : V), SqT K H a xs /\ xs[i]? = some x
  yld i H v H' := ∃ T x, v = .ref T /\ H T = none /\ H' = upd H T (.tup [.int (i : Nat), x]) /\ ∀ xs, SqT K H a xs -> xs[i]? = some x
  stop i H := ∃ xs : List V, SqT K H a xs /\ xs.length <= i
theorem turn_enumT {P : Program} {w : World} {K : PySem.W.Frag} {elts : List Expr} {kk : Nat} {tpos : Pos} (a e it : Addr) :
    Turn P w K (.Tuple elts kk tpos) (IteT K a) [e, it] e (fun i h => (∃ old, IsEnum h e it ((i : Nat) : Int) old) /\ h.IsTupleIter it a i /\ e ≠ it) where
  mem := List.mem_cons_self
  obj i h st b hb := by
    obtain ⟨⟨old, he⟩, ⟨o, ho, _, hd⟩, _⟩ := st
    rcases List.mem_cons.1 hb with rfl | hb
    . exact ⟨_, he, fun v q => nomatch q⟩
    . obtain rfl := List.mem_singleton.1 hb
      exact ⟨o, ho, fun v q => by rw [hd] at q; cases q⟩
  keep i h h' st k := ⟨st.1.imp fun old he => k e (by simp) _ he, st.2.1.at fun o q => k it (by simp) o q, st.2.2⟩
  item X hP hw hK hc i pins s σ H E I hf st hg := by
    subst hP hw hK
    obtain ⟨⟨old, he⟩, hit, hne⟩ := st
    obtain ⟨xs, x, hq, hx⟩ := hg
    obtain ⟨its, rv, p, _⟩ := I.tuple hq
    obtain ⟨u, hu, ru⟩ := rv.get hx
    have hl : i < its.toArray.size := by
      rw [List.size_toArray]
      exact (List.getElem?_eq_some_iff.1 hu).1
    have lte : e < s.heap.objs.size := Heap.lt_size he
    have lti : it < s.heap.objs.size := let ⟨_, q, _⟩ := hit; Heap.lt_size q
    have nae : a ≠ e := fun z => by
      obtain ⟨o, ho, hc', _⟩ := p
      have he' : s.heap.get? e = some _ := he
      rw [z, he'] at ho
      cases ho
      exact absurd (Value.type.inj hc') (by decide)
    have nai : a ≠ it := fun z => by
      obtain ⟨o, ho, hc', _⟩ := p
      obtain ⟨o2, ho2, hc2, _⟩ := id hit
      rw [z, ho2] at ho
      cases ho
      rw [hc'] at hc2
      exact absurd (Value.type.inj hc2) (by decide)
    refine wpAny_pyNext_enum_itemD (Draws.tuple (A := X.A.in1) (show X.A.in1.handled = none from I.ok.hd hc) it a nai its.toArray) he ⟨hit, p⟩ hl hne (by simp [hne, nae.symm]) fun v h' tk hv ho st' hT hsz hk => ?_
    have ev : v = u := by
      rw [List.getElem?_toArray, hu] at hv
      exact (Option.some.inj hv).symm
    subst ev
    refine ⟨_, rfl, wpAny_letOwnedTupleGo_enum (s := { s with heap := h', toks := tk + 1 }) ho fun h2 he2 sb => ?_⟩
    have T2 := (sb.2 _ (Nat.ne_of_gt lte)).trans hT
    have J : Inv X pins σ (upd H s.heap.objs.size (.tup [.int (i : Nat), x])) { s with heap := h2, toks := tk + 1 } := by
      refine I.turnedNew (ch := [e, it]) (fun b ob hb q => ?_) hf (Nat.le_refl _) ⟨by show 2 <= sizeLine; decide, [.int i tk, v], .cons ⟨_, rfl⟩ (.cons ru .nil), ⟨_, T2, rfl, _, rfl⟩⟩
      have n1 : b ≠ e := fun z => hb (by simp [z])
      have n2 : b ≠ it := fun z => hb (by simp [z])
      exact (sb.2 b n1).trans (hk b ob n1 n2 q)
    refine ⟨.ref s.heap.objs.size, _, J, rfl, ⟨_, x, rfl, I.hok.fresh (Nat.le_refl _), rfl, fun ys hy => by rw [I.tuple_inj hy hq]; exact hx⟩, ⟨⟨v, ?_⟩, st'.1.at fun o q => (sb.2 it hne.symm).trans q, hne⟩, fun b hb => ?_⟩
    . rw [show ((i + 1 : Nat) : Int) = (i : Int) + 1 by omega]
      exact he2
    . have lt : b < s.heap.objs.size := by
        rcases List.mem_cons.1 hb with rfl | hb
        . exact lte
        . rw [List.mem_singleton.1 hb]; exact lti
      rw [upd_ne (Nat.ne_of_lt lt)]
      exact (hf b hb).1
  done X hP hw hK hc i pins s σ H E I hf st hg := by
    subst hP hw hK
    obtain ⟨⟨old, he⟩, hit, hne⟩ := st
    obtain ⟨xs, hq, hx⟩ := hg
    obtain ⟨its, rv, p, _⟩ := I.tuple hq
    obtain ⟨f0, f1, f2, f3, f4, f5⟩ := hf it (by simp)
    have hl := rv.length
    have D0 : Draws X.prog X.w X.A.in1 it [it, a] i (fun _ _ => True) (fun j h => j = i /\ h.IsTupleIter it a i /\ h.IsTuple a its.toArray) :=
      { live := fun _ _ st => let ⟨o, ho, _⟩ := st.2.1; ⟨o, ho⟩, frame := fun _ _ _ st hk => ⟨st.1, st.2.1.at fun o e => hk it (by simp) o e, st.2.2.at fun o e => hk a (by simp) o e⟩,
        item := fun j s Q E hj st => absurd st.1 (Nat.ne_of_lt hj), done := fun s Q E st hE => RZ.nextOf_tuple_end (show X.A.in1.handled = none from I.ok.hd hc) st.2.1 st.2.2 (by rw [List.getElem?_toArray]; exact List.getElem?_eq_none (by omega)) hE }
    refine wpAny_pyNext_enum_endD D0 he ⟨rfl, hit, p⟩ fun h' eb => ⟨rfl, I.turned (t' := s.toks) (fun b o hb q => eb b o hb q) f0 f1 f3 f4 f5⟩
  self A i s Q E st h := let ⟨⟨_, he⟩, _⟩ := st; wpAny_pyIter_enum he h
end DL
namespace DL
open PySem PySem.Spec PyProof.Rows L2 VX
def iEnum2 (K : PySem.W.Frag) (ta : TA) : TI := fun σ H R => ta σ H fun vs H1 => ∃ a xs, vs = [.ref a] /\ ((SqL K H1 a xs /\ R (Ite K a) H1) \/ (SqT K H1 a xs /\ R (IteT K a) H1))
theorem pi_enum2 {X : Cx} {e : Expr} {ta : TA} {p pos tpos : Pos} {elts : List Expr} {kk : Nat} (hg : Gl X "enumerate") (hm : X.mg "enumerate" = none) (ha : PA X [e] ta) (hs : starEach [e] X.env = [(false, eval e X.env)] := by rfl) :
    PI X (.Tuple elts kk tpos) (.Call (.Name "enumerate" p) [e] [] pos) (iEnum2 X.K ta) := ⟨fun pins s σ H R I h => by
  refine Call_ (ld_blt I hg hm boot_enumerate (PyProof.Rows.callWith_type1 (thn (ha.run pos pins s σ H _ I h) fun us s1 ⟨vs, H1, I1, r1, a, xs, ex, q⟩ => ?_) hs rfl))
  subst ex
  obtain ⟨u, rfl, r⟩ : ∃ u, us = [u] /\ RelV (.ref a) u := by
    cases r1 with
    | cons r rr => cases rr; exact ⟨_, rfl, r⟩
  obtain rfl : u = Value.ref a := r
  have fp : ∀ {h' : Heap} (I2 : Inv X pins σ H1 { s1 with heap := h' }) (b : Addr), b ∈ [s1.heap.objs.size + 1, s1.heap.objs.size] -> FpOk X pins H1 b := fun I2 b hb => by
    rcases List.mem_cons.1 hb with rfl | hb
    . exact I1.fpOk (Nat.le_succ _) (I1.hok.fresh (Nat.le_succ _))
    . rw [List.mem_singleton.1 hb]; exact I1.fpOk (Nat.le_refl _) (I1.hok.fresh (Nat.le_refl _))
  rcases q with ⟨hq, q⟩ | ⟨hq, q⟩
  . obtain ⟨its, rv, p', _⟩ := I1.list hq
    refine call_enumerate_list p'.isList fun h' he hit hsz hk => wpAny_pyIter_enum he ?_
    have I2 : Inv X pins σ H1 { s1 with heap := h' } := I1.kept (t' := s1.toks) hk
    exact ⟨_, [s1.heap.objs.size + 1, s1.heap.objs.size], _, _, H1, rfl, I2, turn_enum a (s1.heap.objs.size + 1) s1.heap.objs.size, ⟨⟨.none, he⟩, hit, Nat.succ_ne_self _⟩, fp I2, q⟩
  . obtain ⟨its, rv, p', _⟩ := I1.tuple hq
    refine callType_new F.called_enumerate (by decide) (F.typeCall_enumerate_1 _) (F.newCall_enumerate_1 _) (fun obj => F.args_object_init_2 obj _) F.entry_enumerate_new (new_enumT a its.toArray) ⟨p', ?_⟩
    have hz : (s1.heap.push { cls := .type "tuple_iterator", data := .fields #[.ref a, .int 0 0] }).objs.size = s1.heap.objs.size + 1 := Heap.size_push ..
    have he : IsEnum ((s1.heap.push { cls := .type "tuple_iterator", data := .fields #[.ref a, .int 0 0] }).push { cls := .type "enumerate", data := .fields #[.none, .bool false, .ref s1.heap.objs.size, rawInt 0, .none, .none] }) (s1.heap.objs.size + 1) s1.heap.objs.size 0 .none := by
      rw [<- hz]
      exact Heap.get?_push_size _ rfl
    refine ⟨⟨_, he, rfl⟩, wpAny_pyIter_enum he ?_⟩
    have I2 : Inv X pins σ H1 { s1 with heap := (s1.heap.push { cls := .type "tuple_iterator", data := .fields #[.ref a, .int 0 0] }).push { cls := .type "enumerate", data := .fields #[.none, .bool false, .ref s1.heap.objs.size, rawInt 0, .none, .none] } } := I1.kept (t' := s1.toks) fun b o e => Heap.get?_push_of_some _ (Heap.get?_push_of_some _ e)
    exact ⟨_, [s1.heap.objs.size + 1, s1.heap.objs.size], _, _, H1, rfl, I2, turn_enumT a (s1.heap.objs.size + 1) s1.heap.objs.size, ⟨⟨.none, he⟩, ⟨_, Heap.get?_push_of_some _ (Heap.get?_push_size _ rfl), rfl, rfl⟩, Nat.succ_ne_self _⟩, fp I2, q⟩⟩
def enumD (xs : List D) : List D := xs.zipIdx.map fun p => .tup [.int (p.2 : Nat), p.1]
theorem enumD_len (xs : List D) : (enumD xs).length = xs.length := by unfold enumD; rw [List.length_map, List.length_zipIdx]
theorem enumD_at {xs : List D} {i : Nat} {d : D} (h : xs[i]? = some d) : (enumD xs)[i]? = some (.tup [.int (i : Nat), d]) := by
  unfold enumD
  rw [List.getElem?_map, List.getElem?_zipIdx, h, Nat.zero_add]
  rfl
theorem pair_new {K : PySem.W.Frag} {H H3 : Hp} {T : Td} {t : Addr} {x y : V} {a b : D} (o : DOk K H T) (hn : H t = none) (e : H3 = upd H t (.tup [x, y])) (ra : RD K H T a x) (rb : RD K H T b y) : RD K H3 T (.tup [a, b]) (.ref t) /\ DOk K H3 T /\ Fr H T H3 T := by
  subst e
  have f : Fr H T (upd H t (.tup [x, y])) T := Fr.laid hn (o.fresh hn)
  exact ⟨⟨t, _, rfl, .inl ⟨o.fresh hn, .inl upd_same⟩, RDs.cons (RD.mono f a ra) (RDs.cons (RD.mono f b rb) RDs.nil)⟩, o.laid hn, f⟩
section
variable {X : Cx} {W : WX}
def diEnum (ta : TDA) : TDI := fun sd T R E => ta sd T (fun xs T1 => match xs with
  | [x] => ∃ ys, itemsD T1 x = some ys /\ R (enumD ys) (fun T2 => itemsD T2 x = some ys) T1
  | _ => False) E
theorem di_enum {e : Expr} {ta : TDA} {p pos tpos : Pos} {elts : List Expr} {kk : Nat} (hg : Gl X "enumerate") (hm : X.mg "enumerate" = none) (ha : DA X W [e] ta) (hs : starEach [e] X.env = [(false, eval e X.env)] := by rfl) :
    DI X W (.Tuple elts kk tpos) (.Call (.Name "enumerate" p) [e] [] pos) (diEnum ta) :=
  PI.imp (pi_enum2 hg hm ha hs) fun σ H R ⟨sd, T, RD', ED, st, ok, hx, hk, q⟩ => ⟨sd, T, _, ED, ⟨st, ok, fun xs T1 vs H1 k r o f => by
    match xs, k, r with
    | [x], ⟨ys, ey, k⟩, r =>
      obtain ⟨v, rfl, rx⟩ := rds1 r
      have isT : isTupD x = true \/ isTupD x = false := by cases isTupD x <;> simp
      rcases isT with tt | tf
      . obtain ⟨zs, rfl⟩ : ∃ zs, x = .tup zs := by cases x <;> first | exact ⟨_, rfl⟩ | cases tt
        obtain rfl : zs = ys := Option.some.inj ey
        obtain ⟨a, ws, rfl, t, rs⟩ := rx
        refine ⟨a, ws, rfl, .inr ⟨t.sq, hk _ _ T1 _ H1 k (fun i H2 T2 f2 o2 g2 => ⟨fun hi => ?_, fun hi => ⟨ws, (t.mono f2).sq, by rw [<- rs.length]; rw [enumD_len] at hi; exact hi⟩⟩) o f⟩⟩
        rw [enumD_len] at hi
        obtain ⟨u, hu, ru⟩ := (RDs.mono f2 zs rs).get (List.getElem?_eq_getElem hi)
        refine ⟨⟨ws, u, (t.mono f2).sq, hu⟩, fun x3 H3 ⟨p, y, e1, hn, e4, e5⟩ => ?_⟩
        have := e5 ws (t.mono f2).sq
        rw [hu] at this
        cases this
        obtain ⟨z1, z2, z3⟩ := pair_new (a := .int (i : Nat)) o2 hn e4 rfl ru
        exact ⟨_, enumD_at (List.getElem?_eq_getElem hi), by rw [e1]; exact z1, z2, z3⟩
      . obtain ⟨a, ws, rfl, hl, rs⟩ := items_SqL o rx ey tf
        refine ⟨a, ws, rfl, .inl ⟨hl, hk _ _ T1 _ H1 k (fun i H2 T2 f2 o2 g2 => ?_) o f⟩⟩
        obtain ⟨a3, ws3, e3, hl3, rs3⟩ := items_SqL o2 (RD.mono f2 x rx) g2 tf
        cases e3
        rw [enumD_len]
        refine ⟨fun hi => ?_, fun hi => ⟨ws3, hl3, by rw [<- rs3.length]; exact hi⟩⟩
        obtain ⟨u, hu, ru⟩ := rs3.get (List.getElem?_eq_getElem hi)
        refine ⟨⟨ws3, u, hl3, hu⟩, fun x3 H3 ⟨p, y, e1, hn, e4, e5⟩ => ?_⟩
        have := e5 ws3 hl3
        rw [hu] at this
        cases this
        obtain ⟨z1, z2, z3⟩ := pair_new (a := .int (i : Nat)) o2 hn e4 rfl ru
        exact ⟨_, enumD_at (List.getElem?_eq_getElem hi), by rw [e1]; exact z1, z2, z3⟩, hx⟩, q⟩
end
end DL
namespace DL
open PySem PySem.Spec PyProof.Rows L2 VX
section
variable {H : Hp} {T T0 : Td}
theorem Fr.sub (s : ∀ a o, T0 a = some o -> T a = some o) : Fr H T H T0 := fun a w e n => by
  refine ⟨e, ?_⟩
  cases q : T0 a with
  | none => rfl
  | some o => rw [s a o q] at n; cases n
theorem DOk.sub {K : PySem.W.Frag} (h : DOk K H T) (s : ∀ a o, T0 a = some o -> T a = some o) : DOk K H T0 := fun a q e => (h a q (s a q e)).mono (Fr.sub s) rfl
end
end DL
namespace DL
open PySem PySem.Spec PyProof.Rows L2 VX
structure Sd (sq : PySem.W.Frag -> Hp -> Addr -> List V -> Prop) (it : Heap -> Addr -> Addr -> Nat -> Prop) (co : Heap -> Addr -> Array Value -> Prop) (mk : Addr -> Obj) : Prop where
  get : ∀ {X : Cx} {pins : List (Addr × Obj)} {σ : L2.St} {H : Hp} {s : Shared} {a : Addr} {xs : List V}, Inv X pins σ H s -> sq X.K H a xs -> ∃ its : List Value, Vals xs its /\ co s.heap a its.toArray /\ a < s.heap.objs.size
  inj : ∀ {X : Cx} {pins : List (Addr × Obj)} {σ : L2.St} {H : Hp} {s : Shared} {a : Addr} {xs ys : List V}, Inv X pins σ H s -> sq X.K H a xs -> sq X.K H a ys -> xs = ys
  dr : ∀ {prog : Program} {w : World} {A : Around}, A.handled = none -> ∀ (i l : Addr), l ≠ i -> ∀ items : Array Value, Draws prog w A i [i, l] items.size (fun k v => items[k]? = some v) (fun k h => it h i l k /\ co h l items)
  ob : ∀ {h : Heap} {i l : Addr} {k : Nat}, it h i l k -> ∃ o xs, h.get? i = some o /\ o.data = .fields xs
  keep : ∀ {h h' : Heap} {i l : Addr} {k : Nat}, it h i l k -> (∀ o, h.get? i = some o -> h'.get? i = some o) -> it h' i l k
  fin : ∀ {prog : Program} {w : World} {A : Around} {E : Value -> Shared -> Prop} {s : Shared} {i l : Addr} {k : Nat} {items : Array Value} {Q : Value -> Shared -> Prop}, A.handled = none -> it s.heap i l k -> co s.heap l items -> items[k]? = none ->
    (∀ h' e, Heap.ExtBut i s.heap h' -> (∃ o, h'.get? e = some o /\ o.cls = .type "StopIteration") -> E (.ref e) { s with heap := h' }) -> wpAny (model prog w) A (Builtin.SmallTypes.nextOf (.ref i)) Q E s
  be : ∀ (l : Addr) (items : Array Value), Begins (.ref l) (mk l) fun h => co h l items
  it0 : ∀ {h : Heap} {i l : Addr}, h.get? i = some (mk l) -> it h i l 0
section
variable {sq1 sq2 : PySem.W.Frag -> Hp -> Addr -> List V -> Prop} {it1 it2 : Heap -> Addr -> Addr -> Nat -> Prop} {co1 co2 : Heap -> Addr -> Array Value -> Prop} {mk1 mk2 : Addr -> Obj}
theorem Sd.at_ (S : Sd sq1 it1 co1 mk1) {prog : Program} {w : World} {A : Around} (hh : A.handled = none) {i l : Addr} (hne : l ≠ i) {its : List Value} {k : Nat} {h : Heap} (h1 : it1 h i l k) (h2 : co1 h l its.toArray) :
    ∃ n P St, Draws prog w A i [i, l] n P St /\ St k h /\ k <= n /\ (its.length <= k -> n = k) := by
  by_cases c : k < its.length
  . exact ⟨its.toArray.size, _, _, S.dr hh i l hne its.toArray, ⟨h1, h2⟩, by simp; omega, fun z => by omega⟩
  . refine ⟨k, fun _ _ => True, fun j h => j = k /\ it1 h i l j /\ co1 h l its.toArray, ⟨fun j h st => ?_, fun j h h' st hk => ?_, fun j s Q E hj st hQ => ?_, fun s Q E st hE => ?_⟩, ⟨rfl, h1, h2⟩, Nat.le_refl k, fun _ => rfl⟩
    . obtain ⟨o, _, e, _⟩ := S.ob st.2.1
      exact ⟨o, e⟩
    . exact ⟨st.1, (S.dr (prog := prog) (w := w) hh i l hne its.toArray).frame j h h' st.2 hk⟩
    . exact absurd st.1 (by omega)
    . exact S.fin hh st.2.1 st.2.2 (by simp; omega) hE
end
end DL
namespace DL
open PySem PySem.Spec PyProof.Rows L2 Srt VX
section
variable {X : Cx} {W : WX} {k : Nat}
theorem vals_rep {vs : List V} {us : List Value} (h : Vals vs us) : ∀ n : Nat, Vals (List.replicate n vs).flatten (List.replicate n us).flatten
  | 0 => .nil
  | n + 1 => by
    rw [List.replicate_succ, List.replicate_succ, List.flatten_cons, List.flatten_cons]
    exact h.append (vals_rep h n)
theorem rep_len {α : Type} (vs : List α) (n : Nat) : (List.replicate n vs).flatten.length = n * vs.length := by
  rw [List.length_flatten, List.map_replicate, List.sum_replicate_nat]
theorem op_repL : OpR X (binaryOp .Mult) (fun x y H Q => ∃ l xs, ∃ n : Nat, x = .ref l /\ y = .int n /\ SqL X.K H l xs /\ xs.length <= 100 /\ n <= 100 /\ ∀ p, H p = none -> Q (.ref p) (upd H p (.lst (List.replicate n xs).flatten))) := by
  intro pins s σ H x y v u Q I rx ry h
  obtain ⟨l, xs, m, rfl, rfl, hH, hz, hm, q⟩ := h
  cases rx
  obtain ⟨t, rfl⟩ := (show ∃ t, u = Value.int m t from ry)
  obtain ⟨its, r, pl, _⟩ := I.list hH
  obtain ⟨⟨cls, dd, data, sl⟩, n, ho, hc, hd, hs⟩ := pl
  simp only at hc hd hs
  subst hc hd hs
  have l1 := r.length
  have ml : its.length * m <= 100 * 100 := Nat.mul_le_mul (by omega) hm
  have e : (m : Int).toNat = m := by omega
  have sb : ¬(!Builtin.List.listFitsIndex (m : Int)) = true := by simp [Builtin.List.listFitsIndex]; omega
  have zb : ¬ its.toArray.size * (m : Int).toNat > (2 ^ 63 - 1) / 8 := by
    rw [List.size_toArray, e, show (2 ^ 63 - 1) / 8 = 1152921504606846975 by decide]
    omega
  have lb : ¬Builtin.List.listTooLong (its.toArray.size * (m : Int).toNat) = true := by
    rw [List.size_toArray, e]
    simp [Builtin.List.listTooLong, sizeLine]
    omega
  generalize (m : Int) = z0 at e sb zb lb ⊢
  refine wpAny_binaryOp_repeat_ref (T := "list") (U := "int") (by decide) ⟨_, ho, rfl⟩ (fun s' => typeIs_int s' z0 t) noFill_list_mul F.fills_int_mul F.slot_int_rmul repeat_list F.slot_int_index.lookup
    (call_meets F.slot_int_rmul (typeIs_int s z0 t) F.entry_int_rmul (F.args_int_rmul_2 _ _) (lm_int_rmul_list_any z0 t l its.toArray n _ _)
      ⟨ho, rfl, ⟨_, ho, rfl⟩, call_meets F.slot_list_mul ⟨_, ho, rfl⟩ F.entry_list_mul (F.args_list_mul_2 _ _)
        (lm_list_mul_any l its.toArray n _ _ z0 t sb zb lb)
        ⟨ho, ?_⟩⟩)
  rw [listMul_foldl_if, e]
  exact ⟨.ref _, _, I.lnew (t' := s.toks) (vals_rep r m) (by rw [rep_len, l1, sizeLine_eq, Nat.mul_comm]; omega), rfl, q _ I.fresh⟩
theorem rds_rep {K : PySem.W.Frag} {H : Hp} {T : Td} {xs : List D} {vs : List V} (h : RDs K H T xs vs) : ∀ n : Nat, RDs K H T (List.replicate n xs).flatten (List.replicate n vs).flatten
  | 0 => RDs.nil
  | n + 1 => by
    rw [List.replicate_succ, List.replicate_succ, List.flatten_cons, List.flatten_cons]
    exact h.append (rds_rep h n)
def rRep : R2D := fun x y T Q _ => isTupD x = false /\ ∃ (xs : List D) (n : Nat), y = .int n /\ itemsD T x = some xs /\ xs.length <= 100 /\ n <= 100 /\ Q (.lst (List.replicate n xs).flatten) T
theorem od_repL : OpD X W (binaryOp .Mult) rRep := OpD.of op_repL fun σ H Q sd T QD ED x y vx vy L r1 r2 h => by
  obtain ⟨t1, xs, n, rfl, e1, hz, hn, q⟩ := h
  obtain ⟨a, vs, rfl, h1, rs1⟩ := items_SqL L.ok r1 e1 t1
  have r2' : vy = .int n := r2
  refine ⟨a, vs, n, rfl, r2', h1, by rw [<- rs1.length]; exact hz, hn, fun p hp => ?_⟩
  have f := Fr.laid (o := .lst (List.replicate n vs).flatten) hp (L.ok.fresh hp)
  exact L.q (.lst (List.replicate n xs).flatten) T (.ref p) _ q ⟨p, _, rfl, .inl ⟨L.ok.fresh hp, .inl upd_same⟩, RDs.mono f _ (rds_rep rs1 n)⟩ (L.ok.laid hp) f
end
end DL
namespace DL
open PySem PySem.Spec PyProof.Rows L2 VX
def rMkE (C : Addr) : RAD := fun xs T Q _ => ∃ y, xs = [y] /\ Q (.exc (.ref C) ["value"] [y]) T
section
variable {X : Cx} {W : WX} {C D0 fI : Addr} {k : Nat} {fd : FuncData}
theorem made_E {pins : List (Addr × Obj)} {σ : L2.St} {H H2 : Hp} {hp hp2 h2 : Heap} {g1 g2 : Array GenState} {d1 d2 : Drawn} {t1 t2 : Nat} {os1 os2 : OsState} {C d : Addr} {fs : List (Str × V)} (hex : X.ex = []) (I1 : Inv X pins σ H ⟨hp, g1, d1, t1, os1⟩)
    (k : ∀ b o, hp.get? b = some o -> hp2.get? b = some o) (un : Un (frs X.stack) [] (upd H (hp.objs.size + 1) (exo (hp.objs.size + 1) C none)) H2 hp2 h2) (hok : HOk X.prog X.w H2 h2) (ho : os2 = os1) (hb : AllBare g2)
    (ea : H2 (hp.objs.size + 1) = some (exo (hp.objs.size + 1) C (some d))) (ed : H2 d = some (exd d fs)) (hd1 : H d = none) :
    Inv X pins σ (upd (upd (L2.del H2 (hp.objs.size + 1)) d (.xd fs)) (hp.objs.size + 1) (EcO (hp.objs.size + 1) (.ref C) (some d))) ⟨h2, g2, d2, t2, os2⟩ /\ (upd (L2.del H2 (hp.objs.size + 1)) d (.xd fs)) (hp.objs.size + 1) = none := by
  obtain ⟨t0, G, J, kG, ge, hoe, na⟩ := mk_end0 (d2 := d2) (t2 := t2) I1 (Nat.le_succ _) k un hok ho hb ea ed hd1
  have J2 : Inv X pins σ (upd (L2.del H2 (hp.objs.size + 1)) d (.xd fs)) ⟨h2, g2, d2, t2, os2⟩ := J.kept (t' := t2) kG
  have far : ∀ {o : Obj}, hp.get? (hp.objs.size + 1) = some o -> False := fun {o} e => absurd (Heap.lt_size e) (Nat.not_lt_of_le (Nat.le_succ _))
  have n0 : X.s_0.heap.get? (hp.objs.size + 1) = none := by
    cases e : X.s_0.heap.get? (hp.objs.size + 1) with
    | none => rfl
    | some o =>
      obtain ⟨o', e'⟩ := I1.base.there _ o e (by rw [hex]; exact fun z => nomatch z)
      exact (far e').elim
  have nL : hp.objs.size + 1 ≠ X.env.locals := fun z => by
    obtain ⟨m, ⟨o, es, ep, e1, _⟩, _⟩ := I1.loc
    rw [<- z] at e1
    exact far e1
  have nC : ∀ x cc, X.env.cells.lookup x = some cc -> cc ≠ hp.objs.size + 1 := fun x cc e z => by
    obtain ⟨v, o, h1, _⟩ := I1.cell x cc e
    rw [z] at h1
    exact far h1
  have nP : ∀ p ∈ X.pn ++ pins, p.1 ≠ hp.objs.size + 1 := fun p hp' z => by
    obtain ⟨e, _⟩ := I1.pin p hp'
    rw [z] at e
    exact far e
  exact ⟨track J2 ⟨_, _, hoe, rfl, rfl, rfl⟩ na n0 nL nC nP, na⟩
theorem cd_mkE [Gd] (b : Bd (k + 1) X W) (hex : X.ex = []) (SC : SlC X.K D0 C) (iC : PySem.W.findIn X.K (.ref C) "__init__" = some (some (.ref fI))) (tI : PySem.W.typeIn X.K (.ref fI) = some (.type "function"))
    (F1 : FnOk X.prog X.w X.K X.mg X.base (L2.CX X.prog X.w) k fI fd ["self", "value"] (slSp X.K D0)) (hb : Binds X.K fd ["self", "value"] []) : CallD X W (.ref C) (rMkE C) := by
  intro pins s σ H Q sd T QD ED xs vs us I L rs r ⟨y, e, q⟩
  subst e
  obtain ⟨v, rfl, ry⟩ := rds1 rs
  obtain ⟨nm, qn, N, bs, bm, sn, sub, ab, col, dd, k0, k1, k2, k3, k5, hC, hbm⟩ := SC.o.cls
  obtain ⟨hp, g, dr, tk, os⟩ := s
  have hsz : hp.objs.size <= hp.objs.size + 1 := Nat.le_succ _
  have hn : H (hp.objs.size + 1) = none := I.hok.fresh hsz
  have kk : ∀ b o, hp.get? b = some o -> ((hp.push (PySem.W.kdv_tup us)).push (PySem.HandSPX.excO C hp.objs.size)).get? b = some o := fun b o e => Heap.get?_push_of_some _ (Heap.get?_push_of_some _ e)
  have hget : ((hp.push (PySem.W.kdv_tup us)).push (PySem.HandSPX.excO C hp.objs.size)).get? (hp.objs.size + 1) = some (PySem.HandSPX.excO C hp.objs.size) := by heap_get
  have I2 : Inv X pins σ (upd H (hp.objs.size + 1) (exo (hp.objs.size + 1) C none)) ⟨(hp.push (PySem.W.kdv_tup us)).push (PySem.HandSPX.excO C hp.objs.size), g, dr, tk, os⟩ :=
    I.laid (t' := tk) (a := hp.objs.size + 1) (o := exo (hp.objs.size + 1) C none) (h' := (hp.push (PySem.W.kdv_tup us)).push (PySem.HandSPX.excO C hp.objs.size)) kk hsz (exo_ok hget)
  have r2 : Vals (V.ref (hp.objs.size + 1) :: ([v] ++ [])) (Value.ref (hp.objs.size + 1) :: (us ++ [])) := .cons rfl (r.append .nil)
  have lu : us.length = 1 := by rw [<- Paired.length r]; rfl
  have hl : (Value.ref (hp.objs.size + 1) :: us ++ []).length = (["self", "value"] : List Str).length := by rw [List.append_nil, List.length_cons, lu]; rfl
  have hus : us.length <= sizeLine := by rw [lu, sizeLine_eq]; omega
  have hq : slSp X.K D0 (V.ref (hp.objs.size + 1) :: ([v] ++ [])) (upd H (hp.objs.size + 1) (exo (hp.objs.size + 1) C none)) (fun v0 H2 => v0 = .non /\ ∃ d, H2 (hp.objs.size + 1) = some (exo (hp.objs.size + 1) C (some d)) /\ H2 d = some (exd d [("value", v)]) /\ H d = none /\ ∀ b, b ≠ hp.objs.size + 1 -> b ≠ d -> H2 b = H b) (fun _ _ _ => False) :=
    ⟨hp.objs.size + 1, C, v, rfl, SC, upd_same, fun dx nd ne => ⟨rfl, dx, upd_same, by rw [upd_ne ne]; exact upd_same, by rw [upd_ne ne] at nd; exact nd, fun b h1 h2 => by rw [upd_ne h1, upd_ne h2, upd_ne h1]⟩⟩
  have hb2 := hb _ (Value.ref (hp.objs.size + 1) :: us) I2.kIn hl
  rw [List.cons_append] at hb2
  refine wpAny_call (PySem.HandSPX.call_own F.excBase_ValueError (fun Y => PySem.HandSPX.refsVE_contains Y bm hbm) (I.kIn _ _ hC) (PySem.W.looks_findIn I.kIn iC) (fun self => PySem.W.bind_fn I.kIn self tI) hus
    (codeAny_mono (F1.run _ X.stack _ _ ⟨Value.ref (hp.objs.size + 1) :: us, []⟩ (Value.ref (hp.objs.size + 1) :: (us ++ [])) _ _ (fun _ _ _ => False) (b.hr.make C us []) (I2.env0.make C us []) hb2 r2 hq) fun r s' hq' => ?_))
  cases r with
  | error er => exact (cx_none hq').elim
  | ok fl =>
    cases fl with
    | ret u =>
      obtain ⟨v0, H2, os2, bare2, un2, hok2, rv, ev, d, ea, ed, hd1, oth⟩ := hq'
      subst ev
      obtain ⟨h2, g2, d2, t2, os'⟩ := s'
      obtain ⟨J, na⟩ := made_E (d2 := d2) (t2 := t2) hex I kk un2 hok2 os2 bare2 ea ed hd1
      refine ⟨rv, V.ref (hp.objs.size + 1), _, J, rfl, ?_⟩
      have hda : d ≠ hp.objs.size + 1 := fun z => by
        rw [z, upd_same] at na
        cases na
      have eH : upd (L2.del H2 (hp.objs.size + 1)) d (.xd [("value", v)]) = upd H d (.xd [("value", v)]) := by
        funext c
        by_cases z : c = d
        . rw [z, upd_same, upd_same]
        . rw [upd_ne z, upd_ne z]
          by_cases w : c = hp.objs.size + 1
          . rw [w, L2.del_same, hn]
          . rw [L2.del_ne w, oth c w z]
      rw [eH]
      have f1 : Fr H T (upd H d (.xd [("value", v)])) T := Fr.laid hd1 (L.ok.fresh hd1)
      have na1 : (upd H d (.xd [("value", v)])) (hp.objs.size + 1) = none := by rw [upd_ne hda.symm]; exact hn
      have o1 : DOk X.K (upd H d (.xd [("value", v)])) T := L.ok.laid hd1
      have f2 : Fr (upd H d (.xd [("value", v)])) T (upd (upd H d (.xd [("value", v)])) (hp.objs.size + 1) (EcO (hp.objs.size + 1) (.ref C) (some d))) T := Fr.laid na1 (o1.fresh na1)
      refine L.q (.exc (.ref C) ["value"] [y]) T (.ref (hp.objs.size + 1)) _ q ⟨hp.objs.size + 1, d, [v], rfl, o1.fresh na1, L.ok.fresh hd1, upd_same, by rw [upd_ne hda]; exact upd_same, rfl, RDs.cons (RD.mono (f1.trans f2) y ry) RDs.nil⟩ (o1.laid na1) (f1.trans f2)
    | next => exact False.elim hq'
    | brk => exact False.elim hq'
    | cont => exact False.elim hq'
end
end DL
namespace VX
open PySem PySem.Spec PyProof.Rows L2 DL
abbrev imScope : Scope := { kind := .function, names := [("self", .local), ("lot", .local), ("paper", .local), ("__class__", .free), ("super", .globalImplicit)], isGenerator := false, isCoroutine := false, more := [] }
abbrev imN : List Str := ["self", "lot", "paper"]
structure ImF (prog : Program) (K : PySem.W.Frag) (f D : Addr) (fd : FuncData) : Prop where
  ex : ∃ (oc : Value) (od : Option Addr) (osl : Array (Option Value)) (qual : Str) (params : Arguments) (dV kV doc pm : Value) (an : Option Addr) (cda cc : Addr) (ct : Value) (ccl cl : Value) (cdd cld : Option Addr) (ccs csl : Array (Option Value))
    (vs : Array Value) (file : Str) (tf : Tok) (ar : Arg) (p0 p1 p2 p3 p4 p5 p6 p7 p8 p9 : Pos) (cdD : ClassData),
    fd = PySem.W.ksFn "__init__" qual params [.Expr (.Call (.Attribute (.Call (.Name "super" p0) [] [] p1) "__init__" p2) [.Name "lot" p3] [] p4) p5, .Assign [.Attribute (.Name "self" p6) "paper" p7] (.Name "paper" p8) p9] imScope dV kV doc pm an (.ref cda) ct cc /\
    K.lookup f = some ⟨oc, od, .func fd, osl⟩ /\ PySem.W.codeIn K (.ref cda) qual = true /\ K.lookup cda = some ⟨ccl, cdd, .fields vs, ccs⟩ /\ vs[2]? = some (.str file tf) /\ ((prog.main.file : Str) == file) = true /\
    K.lookup cc = some ⟨cl, cld, .cell (some (.ref D)), csl⟩ /\ PySem.W.clsIn K D = some cdD /\ (params.posonlyargs ++ params.args).head? = some ar /\ ar.arg = "self" /\ (p2.endLine == p4.line) = true
  top : (prog.main.scope.names.lookup ("super" : Str)).isSome = false
  opq : PySem.W.nsIn K cStatics "thirdparty.any" = some none
structure ImC (K : PySem.W.Frag) (D0 fS D C : Addr) : Prop where
  s : SlC K D0 C
  sub : PySem.W.mroIn K C (.ref D) = some true
  sup : PySem.W.ks_superIn K C D "__init__" = some (some (.ref fS))
  ty : PySem.W.typeIn K (.ref fS) = some (.type "function")
  noP : PySem.W.findIn K (.ref C) "paper" = some none
def imSp (K : PySem.W.Frag) (D0 fS D : Addr) : Sp := fun vs H Q _ => ∃ (a C : Addr) (v p : V), vs = [.ref a, v, p] /\ ImC K D0 fS D C /\ H a = some (exo a C none) /\ ∀ dx, H dx = none -> dx ≠ a -> Q .non (upd (upd H dx (exd dx [("paper", p), ("value", v)])) a (exo a C (some dx)))
theorem ev_sup2 {p0 p1 p2 p3 p4 : Pos} {env : Env} (hp : (p2.endLine == p4.line) = true) : eval (.Call (.Attribute (.Call (.Name "super" p0) [] [] p1) "__init__" p2) [.Name "lot" p3] [] p4) env = (do
    let ov <- attributeBase (.Call (.Name "super" p0) [] [] p1) "__init__" env (eval (.Call (.Name "super" p0) [] [] p1) env)
    standAt p2.atName
    let (f, first) <- holding [ov] (getMethod ov "__init__" (do return (<- importBound (.Call (.Name "super" p0) [] [] p1) env).getD true))
    callWith p4 f first (backTo p4 (starEach [.Name "lot" p3] env)) []) := by
  have e : ∀ few, methodCallPos few (.Call (.Name "super" p0) [] [] p1) env p2 p4 = pure p4 := fun few => by
    unfold methodCallPos
    rw [hp, Bool.or_true]
    rfl
  show (do
    let ov <- attributeBase (.Call (.Name "super" p0) [] [] p1) "__init__" env (eval (.Call (.Name "super" p0) [] [] p1) env)
    standAt p2.atName
    methodCall (.Call (.Name "super" p0) [] [] p1) "__init__" p2 p4 env ov 1 (backTo p4 (starEach [.Name "lot" p3] env)) []) = _
  unfold methodCall
  simp only [e]
  rfl
section
variable {P : Program} {w : World} {K : PySem.W.Frag} {mg : Str -> Option Value} {base : Heap} {k : Nat}
abbrev kxOf (P : Program) (w : World) (K : PySem.W.Frag) (mg : Str -> Option Value) (base : Heap) (qual : Str) (f cda cc : Addr) (A : Around) (outer : List Env) (s : Shared) (H : Hp) : Cx where
  prog := P
  w := w
  K := K
  mg := mg
  base := base
  A := A.deeper (PySem.W.ksEnv qual imScope s.heap.objs.size f (.ref cda) cc)
  N := imN
  s_0 := s
  H_0 := H
  env := PySem.W.ksEnv qual imScope s.heap.objs.size f (.ref cda) cc
  outer := outer
  stack := PySem.W.ksEnv qual imScope s.heap.objs.size f (.ref cda) cc :: outer
  ex := []
  calm := true
  fn := fun _ => false
  pn := []
  xe := fun _ _ => False
theorem inv_ks {qual : Str} {f cda cc D : Addr} {cl : Value} {cld : Option Addr} {csl : Array (Option Value)} {A : Around} {outer : List Env} {s : Shared} {H : Hp} {h₀ : Heap} {t : Nat} {ua uv up : Value} {va vv vp : V} (hd : A.handled = none) (e0 : Env0 P w K mg base A outer s H)
    (lcc : K.lookup cc = some ⟨cl, cld, .cell (some (.ref D)), csl⟩) (hn : h₀.Ns s.heap.objs.size fun y => (imN.zip [ua, uv, up]).reverse.lookup y) (keep : ∀ b o, s.heap.get? b = some o -> h₀.get? b = some o) (ra : RelV va ua) (rv : RelV vv uv) (rp : RelV vp up) :
    Inv (kxOf P w K mg base qual f cda cc A outer s H) [] [some va, some vv, some vp] H { s with heap := h₀, toks := t } := by
  have hcell : ∀ x c, (kxOf P w K mg base qual f cda cc A outer s H).env.cells.lookup x = some c -> x = "__class__" /\ c = cc := fun x c e => by
    have e' : ([("__class__", cc)] : List (Str × Addr)).lookup x = some c := e
    by_cases z : x = "__class__"
    . subst z
      have e2 : ([(("__class__" : Str), cc)] : List (Str × Addr)).lookup ("__class__" : Str) = some cc := by simp [List.lookup]
      rw [e2] at e'
      cases e'
      exact ⟨rfl, rfl⟩
    . have z2 : (x == ("__class__" : Str)) = false := by simpa using z
      simp [List.lookup, z2] at e'
  have KX : K.In s.heap := e0.mod.kin.keeps fun b o e => (e0.bs b o e).1
  have hcs : s.heap.get? cc = some ⟨cl, cld, .cell (some (.ref D)), csl⟩ := KX _ _ lcc
  have hcH : H cc = none := (e0.bs cc _ (e0.mod.kin _ _ lcc)).2
  have noA : ∀ b : Addr, b ∉ ([] : List Addr) := fun b z => nomatch z
  refine ⟨⟨e0.mod, rfl, rfl, rfl, Nat.le_refl _, fun x y c h1 h2 => (hcell x c h1).1.trans (hcell y c h2).1.symm, fun y hy => ?_, (fun y c h => nomatch h), fun _ => hd, Around.frames_deeper e0.frames, .inr ⟨rfl, rfl⟩, fun b z => absurd z (noA b), e0.bs, e0.bsz, fun b _ _ => noA b, fun b z => absurd z (noA b), e0.funs, e0.frf⟩,
    rfl, e0.bare, Un.kept keep, ⟨_, hn, fun i y v h1 h2 h3 => ?_⟩, fun y c h => ?_, e0.hok.fresh (Nat.le_refl _), fun y c h => ?_, (fun p hp => nomatch hp), e0.hok.kept keep, rfl⟩
  . have hy' : imScope.names.lookup y = some .cell \/ imScope.names.lookup y = some .free := hy
    have no : ∀ l : List (Str × NameKind), l = imScope.names -> (l.lookup y = some .cell \/ l.lookup y = some .free) -> y = "__class__" := by
      intro l el h
      subst el
      by_cases e1 : y = "self"
      . subst e1; rcases h with h | h <;> exact absurd h (by decide)
      by_cases e2 : y = "lot"
      . subst e2; rcases h with h | h <;> exact absurd h (by decide)
      by_cases e3 : y = "paper"
      . subst e3; rcases h with h | h <;> exact absurd h (by decide)
      by_cases e4 : y = "__class__"
      . exact e4
      by_cases e5 : y = "super"
      . subst e5; rcases h with h | h <;> exact absurd h (by decide)
      have g1 : (y == ("self" : Str)) = false := by simpa using e1
      have g2 : (y == ("lot" : Str)) = false := by simpa using e2
      have g3 : (y == ("paper" : Str)) = false := by simpa using e3
      have g4 : (y == ("__class__" : Str)) = false := by simpa using e4
      have g5 : (y == ("super" : Str)) = false := by simpa using e5
      simp [imScope, List.lookup, g1, g2, g3, g4, g5] at h
    have e := no _ rfl hy'
    subst e
    exact ⟨cc, by show ([(("__class__" : Str), cc)] : List (Str × Addr)).lookup ("__class__" : Str) = some cc; simp [List.lookup]⟩
  . have s1 : (imN.zip [ua, uv, up]).reverse.lookup ("self" : Str) = some ua := by first | rfl | (simp [imN, List.lookup]; done) | (simp [imN, List.lookup]; rfl)
    have s2 : (imN.zip [ua, uv, up]).reverse.lookup ("lot" : Str) = some uv := by first | rfl | (simp [imN, List.lookup]; done) | (simp [imN, List.lookup]; rfl)
    have s3 : (imN.zip [ua, uv, up]).reverse.lookup ("paper" : Str) = some up := by first | rfl | (simp [imN, List.lookup]; done) | (simp [imN, List.lookup]; rfl)
    match i, h1, h2 with
    | 0, h1, h2 => cases h1; cases h2; exact ⟨ua, ra, .inl ⟨rfl, s1⟩⟩
    | 1, h1, h2 => cases h1; cases h2; exact ⟨uv, rv, .inl ⟨rfl, s2⟩⟩
    | 2, h1, h2 => cases h1; cases h2; exact ⟨up, rp, .inl ⟨rfl, s3⟩⟩
    | n + 3, h1, h2 => simp [imN] at h1
  . obtain ⟨rfl, rfl⟩ := hcell y c h
    exact ⟨_, _, keep _ _ hcs, rfl⟩
  . obtain ⟨rfl, rfl⟩ := hcell y c h
    exact hcH
theorem im_init {f D D0 fS : Addr} {fd fdS : FuncData} (F : ImF P K f D fd) (hms : mg "super" = none) (FS : FnOk P w K mg base (L2.CX P w) k fS fdS ["self", "value"] (slSp K D0)) (bS : L2.Binds K fdS ["self", "value"] []) (hfS : PySem.W.fnIn K fS = true) :
    FnOk P w K mg base (L2.CX P w) (k + 1) f fd imN (imSp K D0 fS D) := by
  obtain ⟨oc, od, osl, qual, params, dV, kV, doc, pm, an, cda, cc, ct, ccl, cl, cdd, cld, ccs, csl, vs0, file, tf, ar, p0, p1, p2, p3, p4, p5, p6, p7, p8, p9, cdD, rfl, lk, hcd, lc, hvs, hfile, lcc, hD, hhd, har, hpp⟩ := F.ex
  refine ⟨fun vs H Q E ⟨a, C, v, p, e, _⟩ => by rw [e]; rfl, fun A outer s H args us vs Q E hr e0 hb r hsp => ?_⟩
  obtain ⟨a, C, v, p, rfl, SC, ea, hq⟩ := hsp
  obtain ⟨ua, uv, up, rfl, ra, rv, rp⟩ : ∃ ua uv up, us = [ua, uv, up] /\ RelV (.ref a) ua /\ RelV v uv /\ RelV p up := by
    cases r with
    | cons r1 r2 =>
      cases r2 with
      | cons r3 r4 =>
        cases r4 with
        | cons r5 r6 =>
          cases r6
          exact ⟨_, _, _, rfl, r1, r3, r5⟩
  obtain rfl : ua = Value.ref a := ra
  have KX : K.In s.heap := e0.mod.kin.keeps fun b o e => (e0.bs b o e).1
  have lim : s.heap.NoLimit := e0.mod.nolimit.keeps fun b o e => (e0.bs b o e).1
  refine PySem.ks_codeAny_call_defAt (binds := imN.zip [Value.ref a, uv, up]) hr.depth (KX _ _ lk) rfl lim (PySem.W.codeRec_of KX hcd) rfl hb (by show ∀ x ∈ imScope.names, x.2 ≠ .cell; decide) (fun x hx => ?_) (fun h₀ hns keep => ?_) rfl rfl rfl
  . rcases List.mem_cons.mp hx with rfl | hx
    . rfl
    . rcases List.mem_cons.mp hx with rfl | hx
      . rfl
      . rcases List.mem_cons.mp hx with rfl | hx
        . rfl
        . cases hx
  have I0 : Inv (kxOf P w K mg base qual f cda cc A outer s H) [] [some (.ref a), some v, some p] H { s with heap := h₀, toks := s.toks + 3 } := inv_ks hr.hd e0 lcc hns keep rfl rv rp
  show _root_.PySem.wpAt (model P w) (A.deeper (PySem.W.ksEnv qual imScope s.heap.objs.size f (.ref cda) cc)) (.func _ (PySem.W.ksEnv qual imScope s.heap.objs.size f (.ref cda) cc)) (execs _ (PySem.W.ksEnv qual imScope s.heap.objs.size f (.ref cda) cc)) _ _ { s with heap := h₀, toks := s.toks + 3 }
  have KX0 : K.In h₀ := I0.kIn
  obtain ⟨t1, hoa⟩ := exo_at I0.hok ea
  obtain ⟨nm, q, N, bs, bm, sn, sub, ab, col, dd, k0, k1, k2, k3, k5, hC, hbm⟩ := SC.s.o.cls
  have hclC : PySem.W.clsIn K C = some { name := nm, bases := bs, mro := .ref C :: bm, ns := N, qualname := q, hasDict := true, slotNames := sn, subclasses := sub, abstract := ab, collection := col, hasDel := false } := by unfold PySem.W.clsIn; rw [hC] <;> rfl
  have haC : a ≠ C := fun z => by
    have z2 := KX0 _ _ hC
    rw [<- z, hoa] at z2
    cases z2
  have hs1 : (imN.zip [Value.ref a, uv, up]).reverse.lookup ("self" : Str) = some (.ref a) := by
    simp [imN, List.lookup]
    rfl
  have hs2 : (imN.zip [Value.ref a, uv, up]).reverse.lookup ("lot" : Str) = some uv := by
    simp [imN, List.lookup]
    rfl
  obtain ⟨oD, hD1, hD2⟩ : ∃ oD, h₀.get? D = some oD /\ oD.data = .cls cdD := by
    unfold PySem.W.clsIn at hD
    split at hD
    . rename_i c d cd' sl ho
      cases hD
      exact ⟨_, KX0 _ _ ho, rfl⟩
    . cases hD
  obtain ⟨oF, hF, hFd, hFc⟩ : ∃ oF, K.lookup fS = some oF /\ (∃ fd, oF.data = .func fd) /\ oF.cls = .type "function" := by
    have t := SC.ty
    have t' : (K.lookup fS).map (·.cls) = some (.type "function") := t
    unfold PySem.W.fnIn at hfS
    split at hfS
    . rename_i e
      rw [e] at t'
      exact ⟨_, e, ⟨_, rfl⟩, Option.some.inj t'⟩
    . cases hfS
  refine ks_wpAt_execs_cons (ks_wpAt_Expr_any (ks_wpAt_MethodCall (pl := do return (<- importBound (.Call (.Name "super" p0) [] [] p1) (PySem.W.ksEnv qual imScope s.heap.objs.size f (.ref cda) cc)).getD true) ?_ (ev_sup2 hpp)))
  refine ks_wpAt_super_base (ar := ar) (env := PySem.W.ksEnv qual imScope s.heap.objs.size f (.ref cda) cc) (by rfl) (by rfl) (by decide) rfl (KX0 _ _ lk) rfl hhd rfl (KX0 _ _ lc) rfl hvs hfile F.top ?_
  obtain ⟨mb, hb1, hb2⟩ := e0.mod.blt
  have bk : ∀ b o, base.get? b = some o -> h₀.get? b = some o := I0.bk
  refine PySem.W.ks_loadName_global rfl (by rfl) (Calls.loadGlobal_builtin (env := PySem.W.ksEnv qual imScope s.heap.objs.size f (.ref cda) cc) (e0.mod.glob.keeps bk) hms (hb1.keeps bk) ((hb2 _ (by decide)).trans (by rfl : bootBuiltins ("super" : Str) = some (.type "super"))) ⟨rfl, ?_⟩)
  refine wpAny_loadName_free rfl (by rfl) rfl ⟨_, KX0 _ _ lcc, rfl⟩ ?_
  rw [har]
  refine wpAny_loadName_local rfl (by rfl) hns hs1 ?_
  refine ks_wpAny_isType_cls hD1 hD2 ⟨rfl, ?_⟩
  refine ks_wpAny_call_super hD1 hD2 hoa rfl (fun c e => by cases e) (PySem.W.looks_mroIn KX0 SC.sub) (fun h1 e1 kp1 => ?_)
  have I1 : Inv (kxOf P w K mg base qual f cda cc A outer s H) [] [some (.ref a), some v, some p] H { s with heap := h1, toks := s.toks + 3 } := I0.kept (t' := s.toks + 3) kp1
  have KX1 : K.In h1 := I1.kIn
  have hns1 := hns.keeps kp1
  have lkC : PySem.W.Looks (model P w) h1 (mroOf (.ref C)) (.ref C :: bm) := (PySem.W.looks_clsIn KX1 hclC).andThen .now
  have hal : PySem.W.alongIn K "__init__" (((Value.ref C :: bm).dropWhile (· != .ref D)).drop 1) = some (some (.ref fS)) := by
    have z := SC.sup
    unfold PySem.W.ks_superIn at z
    rw [hclC] at z
    exact z
  refine ks_wpAny_getMethod_super e1 (PySem.W.looks_opaque KX1 F.opq) lkC rfl KX1 hal (KX1 _ _ hF) hFc haC (by decide) ?_
  have hu : (h1.push ({ cls := .type "method", data := .fields #[.ref fS, .ref a] } : Obj)).get? h1.objs.size = some (PySem.W.methodObj (.ref fS) (.ref a)) := Heap.get?_push_size h1 rfl
  have kp2 : ∀ b o, h1.get? b = some o -> (h1.push ({ cls := .type "method", data := .fields #[.ref fS, .ref a] } : Obj)).get? b = some o := fun b o e => Heap.get?_push_of_some _ e
  have I2 : Inv (kxOf P w K mg base qual f cda cc A outer s H) [] [some (.ref a), some v, some p] H { s with heap := h1.push ({ cls := .type "method", data := .fields #[.ref fS, .ref a] } : Obj), toks := s.toks + 3 + 1 } := I1.kept (t' := s.toks + 3 + 1) kp2
  have hns2 := hns1.keeps kp2
  have hpl : ((backTo p4 (starEach [.Name "lot" p3] (PySem.W.ksEnv qual imScope s.heap.objs.size f (.ref cda) cc))).any (·.1) || (([] : List (Option Str × Sem Value)).any (·.1.isNone))) = false := by rfl
  refine PySem.W.callWith_of hpl (PySem.W.keeps_M (K := K) (self := .ref a) hfS) ?_
  show wpAny _ _ (evalArgs _ true (backTo p4 ((false, eval (.Name "lot" p3) (PySem.W.ksEnv qual imScope s.heap.objs.size f (.ref cda) cc)) :: starEach [] (PySem.W.ksEnv qual imScope s.heap.objs.size f (.ref cda) cc))) []) _ _ _
  refine Calls.evalArgs_plain ?_
  refine Calls.spliced_cons (wpAny_Name (wpAny_loadName_local rfl (by rfl) hns2 hs2 ?_) (by decide))
  refine Calls.spliced_nil ⟨⟨hu, I2.kIn⟩, ?_⟩
  refine wpAny_call (PySem.ks_codeAny_call_bound hu ?_)
  refine codeAny_mono (FS.run _ _ _ H ⟨[Value.ref a, uv], []⟩ [Value.ref a, uv] [.ref a, v] (fun x H' => x = .non /\ ∃ dx, H dx = none /\ dx ≠ a /\ H' = upd (upd H dx (exd dx [("value", v)])) a (exo a C (some dx))) (fun _ _ _ => False) (hr.deeper _) I2.env0 (bS _ [Value.ref a, uv] I2.kIn rfl) (.cons rfl (.cons rv .nil))
    ⟨a, C, v, rfl, SC.s, ea, fun dx nd ne => ⟨rfl, dx, nd, ne, rfl⟩⟩) fun rr s3 hrr => ?_
  cases rr with
  | error er => exact (cx_none hrr).elim
  | ok fl =>
    cases fl with
    | next => exact False.elim hrr
    | brk => exact False.elim hrr
    | cont => exact False.elim hrr
    | ret u3 =>
      obtain ⟨x3, H3, I3, rx, ex3, dx, nd, ne, eH⟩ := I2.after hrr
      subst eH
      refine ks_wpAt_execs_cons (wpAt_of_wpAny ?_)
      obtain ⟨m3, hns3, hlk⟩ := I3.loc
      obtain ⟨u1, r1, lk1⟩ := hlk 0 "self" (.ref a) rfl rfl (.inl rfl)
      obtain ⟨u2, r2, lk2⟩ := hlk 2 "paper" p rfl rfl (.inl rfl)
      obtain rfl : u1 = Value.ref a := r1
      have l1 : m3 "self" = some (.ref a) := by
        rcases lk1 with ⟨_, h⟩ | ⟨h, _⟩
        . exact h
        . rcases h with h | h <;> cases h
      have l2 : m3 "paper" = some u2 := by
        rcases lk2 with ⟨_, h⟩ | ⟨h, _⟩
        . exact h
        . rcases h with h | h <;> cases h
      refine plainObj_wpAny_Assign_Attribute (wpAny_Name (wpAny_loadName_local rfl (by rfl) hns3 l2 (wpAny_Name (wpAny_loadName_local rfl (by rfl) hns3 l1 ?_) (by decide))) (by decide)) (by rfl)
      have ea3 : (upd (upd H dx (exd dx [("value", v)])) a (exo a C (some dx))) a = some (exo a C (some dx)) := upd_same
      have ed3 : (upd (upd H dx (exd dx [("value", v)])) a (exo a C (some dx))) dx = some (exd dx [("value", v)]) := by rw [upd_ne ne]; exact upd_same
      refine ost_old (X := kxOf P w K mg base qual f cda cc A outer s H) SC.s.o I3 ea3 ed3 (by show 1 <= 900; decide) SC.noP r2 fun s4 J4 => ?_
      refine wpAt_of_wpAny (wpAny_execs_nil ?_)
      have eU : upd (upd (upd H dx (exd dx [("value", v)])) a (exo a C (some dx))) dx (exd dx [("paper", p), ("value", v)]) = upd (upd H dx (exd dx [("paper", p), ("value", v)])) a (exo a C (some dx)) := by
        funext b
        by_cases z : b = dx
        . rw [z, upd_same, upd_ne ne, upd_same]
        . rw [upd_ne z]
          by_cases z2 : b = a
          . rw [z2, upd_same, upd_same]
          . rw [upd_ne z2, upd_ne z2, upd_ne z, upd_ne z]
      rw [eU] at J4
      exact ⟨.non, _, J4.os, J4.bare, J4.base, J4.hok, rfl, hq dx nd ne⟩
end
end VX
namespace DL
open PySem PySem.Spec PyProof.Rows L2 VX
def rMkE2 (C : Addr) : RAD := fun xs T Q _ => ∃ y z, xs = [y, z] /\ Q (.exc (.ref C) ["paper", "value"] [z, y]) T
section
variable {X : Cx} {W : WX} {C D0 D fS fI : Addr} {k : Nat} {fd : FuncData}
theorem cd_mkE2 [Gd] (b : Bd (k + 1) X W) (hex : X.ex = []) (SC : ImC X.K D0 fS D C) (iC : PySem.W.findIn X.K (.ref C) "__init__" = some (some (.ref fI))) (tI : PySem.W.typeIn X.K (.ref fI) = some (.type "function"))
    (F1 : FnOk X.prog X.w X.K X.mg X.base (L2.CX X.prog X.w) k fI fd imN (imSp X.K D0 fS D)) (hb : Binds X.K fd imN []) : CallD X W (.ref C) (rMkE2 C) := by
  intro pins s σ H Q sd T QD ED xs vs us I L rs r ⟨y, z0, e, q⟩
  subst e
  obtain ⟨v, vp, rfl, ry, rz⟩ := rds2 rs
  obtain ⟨nm, qn, N, bs, bm, sn, sub, ab, col, dd, k0, k1, k2, k3, k5, hC, hbm⟩ := SC.s.o.cls
  obtain ⟨hp, g, dr, tk, os⟩ := s
  have hsz : hp.objs.size <= hp.objs.size + 1 := Nat.le_succ _
  have hn : H (hp.objs.size + 1) = none := I.hok.fresh hsz
  have kk : ∀ b o, hp.get? b = some o -> ((hp.push (PySem.W.kdv_tup us)).push (PySem.HandSPX.excO C hp.objs.size)).get? b = some o := fun b o e => Heap.get?_push_of_some _ (Heap.get?_push_of_some _ e)
  have hget : ((hp.push (PySem.W.kdv_tup us)).push (PySem.HandSPX.excO C hp.objs.size)).get? (hp.objs.size + 1) = some (PySem.HandSPX.excO C hp.objs.size) := by heap_get
  have I2 : Inv X pins σ (upd H (hp.objs.size + 1) (exo (hp.objs.size + 1) C none)) ⟨(hp.push (PySem.W.kdv_tup us)).push (PySem.HandSPX.excO C hp.objs.size), g, dr, tk, os⟩ :=
    I.laid (t' := tk) (a := hp.objs.size + 1) (o := exo (hp.objs.size + 1) C none) (h' := (hp.push (PySem.W.kdv_tup us)).push (PySem.HandSPX.excO C hp.objs.size)) kk hsz (exo_ok hget)
  have r2 : Vals (V.ref (hp.objs.size + 1) :: ([v, vp] ++ [])) (Value.ref (hp.objs.size + 1) :: (us ++ [])) := .cons rfl (r.append .nil)
  have lu : us.length = 2 := by rw [<- Paired.length r]; rfl
  have hl : (Value.ref (hp.objs.size + 1) :: us ++ []).length = (imN : List Str).length := by rw [List.append_nil, List.length_cons, lu]; rfl
  have hus : us.length <= sizeLine := by rw [lu, sizeLine_eq]; omega
  have hq : imSp X.K D0 fS D (V.ref (hp.objs.size + 1) :: ([v, vp] ++ [])) (upd H (hp.objs.size + 1) (exo (hp.objs.size + 1) C none)) (fun v0 H2 => v0 = .non /\ ∃ d, H2 (hp.objs.size + 1) = some (exo (hp.objs.size + 1) C (some d)) /\ H2 d = some (exd d [("paper", vp), ("value", v)]) /\ H d = none /\ ∀ b, b ≠ hp.objs.size + 1 -> b ≠ d -> H2 b = H b) (fun _ _ _ => False) :=
    ⟨hp.objs.size + 1, C, v, vp, rfl, SC, upd_same, fun dx nd ne => ⟨rfl, dx, upd_same, by rw [upd_ne ne]; exact upd_same, by rw [upd_ne ne] at nd; exact nd, fun b h1 h2 => by rw [upd_ne h1, upd_ne h2, upd_ne h1]⟩⟩
  have hb2 := hb _ (Value.ref (hp.objs.size + 1) :: us) I2.kIn hl
  rw [List.cons_append] at hb2
  refine wpAny_call (PySem.HandSPX.call_own F.excBase_ValueError (fun Y => PySem.HandSPX.refsVE_contains Y bm hbm) (I.kIn _ _ hC) (PySem.W.looks_findIn I.kIn iC) (fun self => PySem.W.bind_fn I.kIn self tI) hus
    (codeAny_mono (F1.run _ X.stack _ _ ⟨Value.ref (hp.objs.size + 1) :: us, []⟩ (Value.ref (hp.objs.size + 1) :: (us ++ [])) _ _ (fun _ _ _ => False) (b.hr.make C us []) (I2.env0.make C us []) hb2 r2 hq) fun r s' hq' => ?_))
  cases r with
  | error er => exact (cx_none hq').elim
  | ok fl =>
    cases fl with
    | ret u =>
      obtain ⟨v0, H2, os2, bare2, un2, hok2, rv, ev, d, ea, ed, hd1, oth⟩ := hq'
      subst ev
      obtain ⟨h2, g2, d2, t2, os'⟩ := s'
      obtain ⟨J, na⟩ := made_E (d2 := d2) (t2 := t2) hex I kk un2 hok2 os2 bare2 ea ed hd1
      refine ⟨rv, V.ref (hp.objs.size + 1), _, J, rfl, ?_⟩
      have hda : d ≠ hp.objs.size + 1 := fun z => by
        rw [z, upd_same] at na
        cases na
      have eH : upd (L2.del H2 (hp.objs.size + 1)) d (.xd [("paper", vp), ("value", v)]) = upd H d (.xd [("paper", vp), ("value", v)]) := by
        funext c
        by_cases z : c = d
        . rw [z, upd_same, upd_same]
        . rw [upd_ne z, upd_ne z]
          by_cases w : c = hp.objs.size + 1
          . rw [w, L2.del_same, hn]
          . rw [L2.del_ne w, oth c w z]
      rw [eH]
      have f1 : Fr H T (upd H d (.xd [("paper", vp), ("value", v)])) T := Fr.laid hd1 (L.ok.fresh hd1)
      have na1 : (upd H d (.xd [("paper", vp), ("value", v)])) (hp.objs.size + 1) = none := by rw [upd_ne hda.symm]; exact hn
      have o1 : DOk X.K (upd H d (.xd [("paper", vp), ("value", v)])) T := L.ok.laid hd1
      have f2 : Fr (upd H d (.xd [("paper", vp), ("value", v)])) T (upd (upd H d (.xd [("paper", vp), ("value", v)])) (hp.objs.size + 1) (EcO (hp.objs.size + 1) (.ref C) (some d))) T := Fr.laid na1 (o1.fresh na1)
      refine L.q (.exc (.ref C) ["paper", "value"] [z0, y]) T (.ref (hp.objs.size + 1)) _ q ⟨hp.objs.size + 1, d, [vp, v], rfl, o1.fresh na1, L.ok.fresh hd1, upd_same, by rw [upd_ne hda]; exact upd_same, rfl, RDs.cons (RD.mono (f1.trans f2) z0 rz) (RDs.cons (RD.mono (f1.trans f2) y ry) RDs.nil)⟩ (o1.laid na1) (f1.trans f2)
    | next => exact False.elim hq'
    | brk => exact False.elim hq'
    | cont => exact False.elim hq'
end
def dRaise2 (c : Value) (te tf : TDE) : TDS := fun D sd T => te sd T (fun x T1 => tf sd T1 (fun y T2 => D.xe ⟨c, ["paper", "value"], [y, x]⟩ sd T2) (fun ex T1 => D.xe ex sd T1)) (fun ex T1 => D.xe ex sd T1)
section
variable {X : Cx} {W : WX} {e e2 : Expr} {te tf : TDE} {x : Str} {p pos pos' : Pos} {C D0 D fS fI : Addr} {k : Nat} {fd : FuncData}
theorem ds_raise2 (hc : X.calm = true) (tk : L2.Takes X W) (SC : ImC X.K D0 fS D C) (iC : PySem.W.findIn X.K (.ref C) "__init__" = some (some (.ref fI))) (tI : PySem.W.typeIn X.K (.ref fI) = some (.type "function"))
    (F : FnOk X.prog X.w X.K X.mg X.base (L2.CX X.prog X.w) k fI fd imN (imSp X.K D0 fS D)) (hr : Room (k + 1) X.A) (hb : Binds X.K fd imN []) (hg : Gl X x) (hm : X.mg x = some (.ref C)) (ha : DE X W e te) (ha2 : DE X W e2 tf)
    (hdb : (x == ("__debug__" : Str)) = false := by decide) (he : starEach [e, e2] X.env = (false, eval e X.env) :: starEach [e2] X.env := by rfl) (he2 : starEach [e2] X.env = (false, eval e2 X.env) :: starEach [] X.env := by rfl) (hpl : (backTo pos (starEach [e2] X.env)).any (·.1) = false := by rfl) : DS X W (.Raise (some (.Call (.Name x p) [e, e2] [] pos)) none pos') (dRaise2 (.ref C) te tf) := by
  refine PS.imp (ps_raise hc tk (pmk_oex (ta := liftA X.K W (dCons te (dCons tf dNil))) SC.s.o iC tI F hr hb .nil (fun _ _ _ _ _ _ _ h => (cx_none h).elim) hg hm (da_cons ha (da_cons ha2 da_nil he2) he) hdb he hpl)) ?_
  rintro De σ H ⟨sd, T, DD, st, ok, L, q⟩
  refine ⟨sd, T, fun xs T1 => match xs with | [y, z] => DD.xe ⟨.ref C, ["paper", "value"], [z, y]⟩ sd T1 | _ => False, fun ex T1 => DD.xe ex sd T1, ⟨st, ok, ?_, L.exok st⟩, q⟩
  . intro xs T1 vs H1 hx rs o f
    match xs, hx, rs with
    | [y, z], hx, rs =>
    obtain ⟨v, vp, rfl, rv, rz⟩ := rds2 rs
    refine ⟨by show 2 <= 1000; decide, fun a na => ⟨a, C, v, vp, rfl, SC, upd_same, fun dx nd ne => ⟨rfl, dx, _, upd_same, by rw [upd_ne ne]; exact upd_same, by rw [upd_ne ne] at nd; exact nd, ?_⟩⟩⟩
    have nd1 : H1 dx = none := by rw [upd_ne ne] at nd; exact nd
    have eH : upd (L2.del (upd (upd (upd H1 a (exo a C none)) dx (exd dx [("paper", vp), ("value", v)])) a (exo a C (some dx))) a) dx (.xd [("paper", vp), ("value", v)]) = upd H1 dx (.xd [("paper", vp), ("value", v)]) := by
      funext b
      by_cases z : b = dx
      . rw [z, upd_same, upd_same]
      . rw [upd_ne z, upd_ne z]
        by_cases w : b = a
        . rw [w, L2.del_same, na]
        . rw [L2.del_ne w, upd_ne w, upd_ne z, upd_ne w]
    rw [eH]
    have fd : Fr H1 T1 (upd H1 dx (.xd [("paper", vp), ("value", v)])) T1 := Fr.laid nd1 (o.fresh nd1)
    exact L.xe _ sd T1 _ _ σ _ hx ⟨rfl, .inr ⟨dx, [vp, v], rfl, o.fresh nd1, upd_same, rfl, RDs.cons (RD.mono fd z rz) (RDs.cons (RD.mono fd y rv) RDs.nil)⟩⟩ ((st.mono f).mono fd) (o.laid nd1) (f.trans fd)
end
structure ImI (P : Program) (w : World) (K : PySem.W.Frag) (mg : Str -> Option Value) (base : Heap) (k : Nat) (fI D0 fS D : Addr) : Prop where
  ex : ∃ fd, FnOk P w K mg base (L2.CX P w) k fI fd imN (imSp K D0 fS D) /\ L2.Binds K fd imN []
section
variable {X : Cx} {W : WX} {e e2 : Expr} {te tf : TDE} {x : Str} {p pos pos' : Pos} {C D0 D fS fI : Addr} {k : Nat}
theorem cd_mkI [Gd] (b : Bd (k + 1) X W) (hex : X.ex = []) (SC : ImC X.K D0 fS D C) (iC : PySem.W.findIn X.K (.ref C) "__init__" = some (some (.ref fI))) (tI : PySem.W.typeIn X.K (.ref fI) = some (.type "function"))
    (F : ImI X.prog X.w X.K X.mg X.base k fI D0 fS D) : CallD X W (.ref C) (rMkE2 C) := by
  obtain ⟨fd, F1, hb⟩ := F.ex
  exact cd_mkE2 b hex SC iC tI F1 hb
theorem ds_raiseI (hc : X.calm = true) (tk : L2.Takes X W) (SC : ImC X.K D0 fS D C) (iC : PySem.W.findIn X.K (.ref C) "__init__" = some (some (.ref fI))) (tI : PySem.W.typeIn X.K (.ref fI) = some (.type "function"))
    (F : ImI X.prog X.w X.K X.mg X.base k fI D0 fS D) (hr : Room (k + 1) X.A) (hg : Gl X x) (hm : X.mg x = some (.ref C)) (ha : DE X W e te) (ha2 : DE X W e2 tf)
    (hdb : (x == ("__debug__" : Str)) = false := by decide) (he : starEach [e, e2] X.env = (false, eval e X.env) :: starEach [e2] X.env := by rfl) (he2 : starEach [e2] X.env = (false, eval e2 X.env) :: starEach [] X.env := by rfl)
    (hpl : (backTo pos (starEach [e2] X.env)).any (·.1) = false := by rfl) : DS X W (.Raise (some (.Call (.Name x p) [e, e2] [] pos)) none pos') (dRaise2 (.ref C) te tf) := by
  obtain ⟨fd, F1, hb⟩ := F.ex
  exact ds_raise2 hc tk SC iC tI F1 hr hb hg hm ha ha2 hdb he he2 hpl
end
end DL
namespace K1
open PySem PySem.Spec PyProof.Rows L2 VX DL RQ TL Srt
def ecs (ad : Ad) : List Addr := [ad.BadWorth, ad.NoQuotient, ad.BadText, ad.BadForm, ad.NoUnknown, ad.BadPoint, ad.Missing, ad.BadConditions, ad.TooMany, ad.BadProcedure, ad.Contrary, ad.NoLine, ad.NotFree, ad.BadBound, ad.Open, ad.BadThings, ad.BadErrors, ad.BadReadings, ad.NoWay, ad.BadWish, ad.NoThing, ad.BadWord, ad.Unlike, ad.BadWishes, ad.BadOffers, ad.Over, ad.NoVariable, ad.NotNext, ad.NothingToUndo, ad.NothingToRedo, ad.BadJournal, ad.BadLine, ad.Impossible]
structure AdX (ad : Ad) : Prop extends AdV ad where
  nd : (ecs ad).Nodup
  tb : ∀ C ∈ ecs ad, ∀ D ∈ ecs ad, ad.inst (.ref C) (.ref D) = some (C == D)
  sl : ∀ C ∈ ecs ad, ad.inst (.ref C) (.ref ad.SlipError) = some true /\ ad.inst (.ref C) (.type "ValueError") = some true /\ ad.inst (.ref ad.SlipError) (.ref C) = some false
  ex : ∀ C ∈ ecs ad, inE ad C = true
  es : inE ad ad.SlipError = true
  xl : ad.exm ad.SlipError (.ref ad.NoLine) = some true
  xi : ad.exm ad.Impossible (.ref ad.Impossible) = some true
def erD (C : Addr) (v : D) : D := .exc (.ref C) ["value"] [v]
def imD (C : Addr) (v p : D) : D := .exc (.ref C) ["paper", "value"] [p, v]
structure sp_l_kinds_of (ad : Ad) (xs : List D) (T : Td) (Q : KD) (E : XD) : Prop where
  h : ∃ (C : Addr) (ns : List Str) (ys : List D) (β : Nat -> Bool), xs = [.exc (.ref C) ns ys] /\ inE ad C = true /\ (∀ (i : Nat) (D : Addr), (ecs ad)[i]? = some D -> ad.inst (.ref C) (.ref D) = some (β i)) /\ ∀ T', Kx T T' -> Q (.lst ((List.range 33).map fun i => .bl (β i))) T'
def ersD (ad : Ad) (v p : D) : List D := ((ecs ad).take 32).map (fun C => erD C v) ++ [imD ad.Impossible v p]
structure sp_l_created (ad : Ad) (xs : List D) (T : Td) (Q : KD) (E : XD) : Prop where
  h : ∃ v p, xs = [v, p] /\ ∀ T', Kx T T' -> Q (.lst (ersD ad v p)) T'
structure sp_l_is_raised (ad : Ad) (xs : List D) (T : Td) (Q : KD) (E : XD) : Prop where
  h : ∃ v p, xs = [v, p] /\ Rv ad v 400000 6 /\ Rv ad p 400000 6 /\ ∀ T', Kx T T' -> Q (.bl true) T'
structure sp_l_fine (ad : Ad) (xs : List D) (T : Td) (Q : KD) (E : XD) : Prop where
  h : ∃ j : Addr, xs = [.ref j] /\ JOk 0 T j /\ ∀ T', Kp j T T' -> Q (.bl true) T'
structure sp_law (ad : Ad) (xs : List D) (T : Td) (Q : KD) (E : XD) : Prop where
  h : ∃ zs : List Int, xs = [.lst (zs.map D.int)] /\ (∀ z ∈ zs, Builtin.Int.intBits z <= 1048576) /\ zs.length <= 63 /\ ∀ T', Q (.bl true) T'
end K1
namespace K1
open PySem PySem.Spec PyProof.Rows L2 VX DL RQ TL Srt
abbrev N_l_kinds_of : List Str := ["_law_error", "_law_found"]
def d_l_kinds_of (ad : Ad) : TDS := (dSeq (dSet 1 (dLstM (dCons (dCL (rIsiD (inS ad) (inE ad) (inO ad) ad.inst) (dCons (dVar 0) (dCons (dC (.val (.ref ad.BadWorth))) dNil))) dNil)))
    (dSeq (dExtend (dVar 1) (dLstM (dCons (dCL (rIsiD (inS ad) (inE ad) (inO ad) ad.inst) (dCons (dVar 0) (dCons (dC (.val (.ref ad.NoQuotient))) dNil))) (dCons (dCL (rIsiD (inS ad) (inE ad) (inO ad) ad.inst) (dCons (dVar 0) (dCons (dC (.val (.ref ad.BadText))) dNil))) (dCons (dCL (rIsiD (inS ad) (inE ad) (inO ad) ad.inst) (dCons (dVar 0) (dCons (dC (.val (.ref ad.BadForm))) dNil))) dNil)))))
    (dSeq (dExtend (dVar 1) (dLstM (dCons (dCL (rIsiD (inS ad) (inE ad) (inO ad) ad.inst) (dCons (dVar 0) (dCons (dC (.val (.ref ad.NoUnknown))) dNil))) (dCons (dCL (rIsiD (inS ad) (inE ad) (inO ad) ad.inst) (dCons (dVar 0) (dCons (dC (.val (.ref ad.BadPoint))) dNil))) (dCons (dCL (rIsiD (inS ad) (inE ad) (inO ad) ad.inst) (dCons (dVar 0) (dCons (dC (.val (.ref ad.Missing))) dNil))) dNil)))))
    (dSeq (dExtend (dVar 1) (dLstM (dCons (dCL (rIsiD (inS ad) (inE ad) (inO ad) ad.inst) (dCons (dVar 0) (dCons (dC (.val (.ref ad.BadConditions))) dNil))) (dCons (dCL (rIsiD (inS ad) (inE ad) (inO ad) ad.inst) (dCons (dVar 0) (dCons (dC (.val (.ref ad.TooMany))) dNil))) (dCons (dCL (rIsiD (inS ad) (inE ad) (inO ad) ad.inst) (dCons (dVar 0) (dCons (dC (.val (.ref ad.BadProcedure))) dNil))) dNil)))))
    (dSeq (dExtend (dVar 1) (dLstM (dCons (dCL (rIsiD (inS ad) (inE ad) (inO ad) ad.inst) (dCons (dVar 0) (dCons (dC (.val (.ref ad.Contrary))) dNil))) (dCons (dCL (rIsiD (inS ad) (inE ad) (inO ad) ad.inst) (dCons (dVar 0) (dCons (dC (.val (.ref ad.NoLine))) dNil))) (dCons (dCL (rIsiD (inS ad) (inE ad) (inO ad) ad.inst) (dCons (dVar 0) (dCons (dC (.val (.ref ad.NotFree))) dNil))) dNil)))))
    (dSeq (dExtend (dVar 1) (dLstM (dCons (dCL (rIsiD (inS ad) (inE ad) (inO ad) ad.inst) (dCons (dVar 0) (dCons (dC (.val (.ref ad.BadBound))) dNil))) (dCons (dCL (rIsiD (inS ad) (inE ad) (inO ad) ad.inst) (dCons (dVar 0) (dCons (dC (.val (.ref ad.Open))) dNil))) (dCons (dCL (rIsiD (inS ad) (inE ad) (inO ad) ad.inst) (dCons (dVar 0) (dCons (dC (.val (.ref ad.BadThings))) dNil))) dNil)))))
    (dSeq (dExtend (dVar 1) (dLstM (dCons (dCL (rIsiD (inS ad) (inE ad) (inO ad) ad.inst) (dCons (dVar 0) (dCons (dC (.val (.ref ad.BadErrors))) dNil))) (dCons (dCL (rIsiD (inS ad) (inE ad) (inO ad) ad.inst) (dCons (dVar 0) (dCons (dC (.val (.ref ad.BadReadings))) dNil))) (dCons (dCL (rIsiD (inS ad) (inE ad) (inO ad) ad.inst) (dCons (dVar 0) (dCons (dC (.val (.ref ad.NoWay))) dNil))) dNil)))))
    (dSeq (dExtend (dVar 1) (dLstM (dCons (dCL (rIsiD (inS ad) (inE ad) (inO ad) ad.inst) (dCons (dVar 0) (dCons (dC (.val (.ref ad.BadWish))) dNil))) (dCons (dCL (rIsiD (inS ad) (inE ad) (inO ad) ad.inst) (dCons (dVar 0) (dCons (dC (.val (.ref ad.NoThing))) dNil))) (dCons (dCL (rIsiD (inS ad) (inE ad) (inO ad) ad.inst) (dCons (dVar 0) (dCons (dC (.val (.ref ad.BadWord))) dNil))) dNil)))))
    (dSeq (dExtend (dVar 1) (dLstM (dCons (dCL (rIsiD (inS ad) (inE ad) (inO ad) ad.inst) (dCons (dVar 0) (dCons (dC (.val (.ref ad.Unlike))) dNil))) (dCons (dCL (rIsiD (inS ad) (inE ad) (inO ad) ad.inst) (dCons (dVar 0) (dCons (dC (.val (.ref ad.BadWishes))) dNil))) (dCons (dCL (rIsiD (inS ad) (inE ad) (inO ad) ad.inst) (dCons (dVar 0) (dCons (dC (.val (.ref ad.BadOffers))) dNil))) dNil)))))
    (dSeq (dExtend (dVar 1) (dLstM (dCons (dCL (rIsiD (inS ad) (inE ad) (inO ad) ad.inst) (dCons (dVar 0) (dCons (dC (.val (.ref ad.Over))) dNil))) (dCons (dCL (rIsiD (inS ad) (inE ad) (inO ad) ad.inst) (dCons (dVar 0) (dCons (dC (.val (.ref ad.NoVariable))) dNil))) (dCons (dCL (rIsiD (inS ad) (inE ad) (inO ad) ad.inst) (dCons (dVar 0) (dCons (dC (.val (.ref ad.NotNext))) dNil))) dNil)))))
    (dSeq (dExtend (dVar 1) (dLstM (dCons (dCL (rIsiD (inS ad) (inE ad) (inO ad) ad.inst) (dCons (dVar 0) (dCons (dC (.val (.ref ad.NothingToUndo))) dNil))) (dCons (dCL (rIsiD (inS ad) (inE ad) (inO ad) ad.inst) (dCons (dVar 0) (dCons (dC (.val (.ref ad.NothingToRedo))) dNil))) (dCons (dCL (rIsiD (inS ad) (inE ad) (inO ad) ad.inst) (dCons (dVar 0) (dCons (dC (.val (.ref ad.BadJournal))) dNil))) dNil)))))
    (dSeq (dExtend (dVar 1) (dLstM (dCons (dCL (rIsiD (inS ad) (inE ad) (inO ad) ad.inst) (dCons (dVar 0) (dCons (dC (.val (.ref ad.BadLine))) dNil))) dNil)))
    (dRet (dBin rLL (dVar 1) (dLst (dCons (dCL (rIsiD (inS ad) (inE ad) (inO ad) ad.inst) (dCons (dVar 0) (dCons (dC (.val (.ref ad.Impossible))) dNil))) dNil))))))))))))))))
abbrev N_l_created : List Str := ["_law_value", "_law_paper", "_law_found"]
def d_l_created (ad : Ad) : TDS := (dSeq (dSet 2 (dLstM (dCons (dCB (rMkE ad.BadWorth) (dCons (dVar 0) dNil)) dNil)))
    (dSeq (dExtend (dVar 2) (dLstM (dCons (dCB (rMkE ad.NoQuotient) (dCons (dVar 0) dNil)) (dCons (dCB (rMkE ad.BadText) (dCons (dVar 0) dNil)) (dCons (dCB (rMkE ad.BadForm) (dCons (dVar 0) dNil)) (dCons (dCB (rMkE ad.NoUnknown) (dCons (dVar 0) dNil)) (dCons (dCB (rMkE ad.BadPoint) (dCons (dVar 0) dNil)) dNil)))))))
    (dSeq (dExtend (dVar 2) (dLstM (dCons (dCB (rMkE ad.Missing) (dCons (dVar 0) dNil)) (dCons (dCB (rMkE ad.BadConditions) (dCons (dVar 0) dNil)) (dCons (dCB (rMkE ad.TooMany) (dCons (dVar 0) dNil)) (dCons (dCB (rMkE ad.BadProcedure) (dCons (dVar 0) dNil)) (dCons (dCB (rMkE ad.Contrary) (dCons (dVar 0) dNil)) dNil)))))))
    (dSeq (dExtend (dVar 2) (dLstM (dCons (dCB (rMkE ad.NoLine) (dCons (dVar 0) dNil)) (dCons (dCB (rMkE ad.NotFree) (dCons (dVar 0) dNil)) (dCons (dCB (rMkE ad.BadBound) (dCons (dVar 0) dNil)) (dCons (dCB (rMkE ad.Open) (dCons (dVar 0) dNil)) (dCons (dCB (rMkE ad.BadThings) (dCons (dVar 0) dNil)) dNil)))))))
    (dSeq (dExtend (dVar 2) (dLstM (dCons (dCB (rMkE ad.BadErrors) (dCons (dVar 0) dNil)) (dCons (dCB (rMkE ad.BadReadings) (dCons (dVar 0) dNil)) (dCons (dCB (rMkE ad.NoWay) (dCons (dVar 0) dNil)) (dCons (dCB (rMkE ad.BadWish) (dCons (dVar 0) dNil)) (dCons (dCB (rMkE ad.NoThing) (dCons (dVar 0) dNil)) dNil)))))))
    (dSeq (dExtend (dVar 2) (dLstM (dCons (dCB (rMkE ad.BadWord) (dCons (dVar 0) dNil)) (dCons (dCB (rMkE ad.Unlike) (dCons (dVar 0) dNil)) (dCons (dCB (rMkE ad.BadWishes) (dCons (dVar 0) dNil)) (dCons (dCB (rMkE ad.BadOffers) (dCons (dVar 0) dNil)) (dCons (dCB (rMkE ad.Over) (dCons (dVar 0) dNil)) dNil)))))))
    (dSeq (dExtend (dVar 2) (dLstM (dCons (dCB (rMkE ad.NoVariable) (dCons (dVar 0) dNil)) (dCons (dCB (rMkE ad.NotNext) (dCons (dVar 0) dNil)) (dCons (dCB (rMkE ad.NothingToUndo) (dCons (dVar 0) dNil)) (dCons (dCB (rMkE ad.NothingToRedo) (dCons (dVar 0) dNil)) (dCons (dCB (rMkE ad.BadJournal) (dCons (dVar 0) dNil)) dNil)))))))
    (dSeq (dExtend (dVar 2) (dLstM (dCons (dCB (rMkE ad.BadLine) (dCons (dVar 0) dNil)) dNil)))
    (dRet (dBin rLL (dVar 2) (dLst (dCons (dCB (rMkE2 ad.Impossible) (dCons (dVar 0) (dCons (dVar 1) dNil))) dNil))))))))))))
abbrev N_l_is_raised : List Str := ["_law_value", "_law_paper", "_law_caught", "_law_other", "_law_error"]
def d_l_is_raised (ad : Ad) : TDS := (dSeq (dAsg (dTup (dCons (dC .non) (dCons (dC .non) dNil))) (dgTup 2 (dgCons (dgName 2) (dgCons (dgName 3) dgNil))))
    (dSeq (dTry (ad.exm ad.SlipError) 4 (dRaise (.ref ad.NoLine) (dVar 0)) (dSet 2 (dVar 4)))
    (dSeq (dTry (ad.exm ad.Impossible) 4 (dRaise2 (.ref ad.Impossible) (dVar 0) (dVar 1)) (dSet 3 (dVar 4)))
    (dSeq (dIfS (dOr (dNot (dTst (dCL (rIsiD (inS ad) (inE ad) (inO ad) ad.inst) (dCons (dVar 2) (dCons (dC (.val (.ref ad.NoLine))) dNil))))) (dNot (dTst (dCL (rIsiD (inS ad) (inE ad) (inO ad) ad.inst) (dCons (dVar 3) (dCons (dC (.val (.ref ad.Impossible))) dNil)))))) (dRet (dC (.bl false))) dNext)
    (dRet (dBin rEqS (dCL (rRepr ad.own 8) (dCons (dTup (dCons (dUn (rFld (inE ad) "value") (dVar 2)) (dCons (dUn (rFld (inE ad) "value") (dVar 3)) (dCons (dUn (rFld (inE ad) "paper") (dVar 3)) dNil)))) dNil)) (dCL (rRepr ad.own 8) (dCons (dTup (dCons (dVar 0) (dCons (dVar 0) (dCons (dVar 1) dNil)))) dNil))))))))
abbrev N_l_fine : List Str := ["_law_jar_here", "_law_some", "_law_value", "_law_paper", "_law_errors", "_law_at", "_law_error", "_law_k", "_law_bare"]
def d_l_fine (ad : Ad) : TDS := (dSeq (dSet 1 (dLst (dCons (dCB (sp_l_odd ad) (dCons (dVar 0) dNil)) (dCons (dUn rNeg (dC (.int 1))) (dCons (dC (.int 16)) (dCons (dC (.str "x")) (dCons (dTup (dCons (dTup (dCons (dC (.int 1)) (dCons (dC (.int 0)) dNil))) dNil)) (dCons (dLst (dCons (dCB (sp_l_odd ad) (dCons (dVar 0) dNil)) dNil)) (dCons (dCL (rMake ad.Worth (sp_Winit ad)) (dCons (dC (.int 1)) (dCons (dC (.int 2)) dNil))) (dCons (dCL (rMakeI ad.Form (sp_Finit ad)) (dCons (dTup (dCons (dTup (dCons (dC (.str "x")) (dCons (dC (.int 1)) dNil))) dNil)) (dCons (dC (.int 3)) dNil))) (dCons (dTup (dCons (dCL (rMake ad.Worth (sp1_Winit ad)) (dCons (dC (.int 0)) dNil)) dNil)) dNil)))))))))))
    (dSeq (dPar 2 3 (dCons (dCB (sp_l_of ad) (dCons (dVar 0) (dCons (dVar 1) dNil))) (dCons (dCB (sp_l_of ad) (dCons (dVar 0) (dCons (dVar 1) dNil))) dNil)))
    (dSeq (dSet 4 (dCB (sp_l_created ad) (dCons (dVar 2) (dCons (dVar 3) dNil))))
    (dSeq (dCutS (dFor (diEnum (dCons (dVar 4) dNil)) (dgTup 2 (dgCons (dgName 5) (dgCons (dgName 6) dgNil))) (dSeq (dIfS (dOr (dTst (dBin (rEqN (!·)) (dCB (sp_l_kinds_of ad) (dCons (dVar 6) dNil)) (dCut (dLc (diRng1 (dCons (dCL rLenU (dCons (dVar 4) dNil)) dNil)) (dgName 7) dYes (dBin rEqS (dVar 7) (dVar 5)) [7])))) (dTst (dBin rNeS (dCL (rRepr ad.own 8) (dCons (dUn (rFld (inE ad) "value") (dVar 6)) dNil)) (dCL (rRepr ad.own 8) (dCons (dVar 2) dNil))))) (dRet (dC (.bl false))) dNext)
    (dIfS (dOr (dNot (dTst (dCL (rIsiD (inS ad) (inE ad) (inO ad) ad.inst) (dCons (dVar 6) (dCons (dC (.val (.ref ad.SlipError))) dNil))))) (dNot (dTst (dCL (rIsiD (inS ad) (inE ad) (inO ad) ad.inst) (dCons (dVar 6) (dCons (dC (.val (.ty "ValueError"))) dNil)))))) (dRet (dC (.bl false))) dNext))))
    (dSeq (dSet 8 (dCB (rMkE ad.SlipError) (dCons (dVar 2) dNil)))
    (dSeq (dIfS (dOr (dTst (dBin (rEqN (!·)) (dCB (sp_l_kinds_of ad) (dCons (dVar 8) dNil)) (dBin rRep (dLst (dCons (dC (.bl false)) dNil)) (dCL rLenU (dCons (dVar 4) dNil))))) (dTst (dBin rNeS (dCL (rRepr ad.own 8) (dCons (dTup (dCons (dUn (rFld (inE ad) "value") (dVar 8)) (dCons (dUn (rFld (inE ad) "paper") (dBin rIx (dVar 4) (dUn rNeg (dC (.int 1))))) dNil))) dNil)) (dCL (rRepr ad.own 8) (dCons (dTup (dCons (dVar 2) (dCons (dVar 3) dNil))) dNil))))) (dRet (dC (.bl false))) dNext)
    (dRet (dCB (sp_l_is_raised ad) (dCons (dVar 2) (dCons (dVar 3) dNil))))))))))
abbrev N_law : List Str := ["_law_script", "_law_k"]
def d_law (ad : Ad) : TDS := (dRet (dCL (rAllD (·.all id)) (dCons (dCut (dLc (diRng1 (dCons (dCL rMax (dCons (dC (.int 1)) (dCons (dCL rMin (dCons (dCL rLenU (dCons (dVar 0) dNil)) (dCons (dC (.int 3)) dNil))) dNil))) dNil)) (dgName 1) dYes (dCB (sp_l_fine ad) (dCons (dCB (sp_l_jar ad) (dCons (dVar 0) (dCons (dVar 1) dNil))) dNil)) [1])) dNil)))
end K1
namespace K1
open PySem PySem.Spec PyProof.Rows L2 VX DL RQ TL Srt
structure Tx (P : Program) (w : World) (K : PySem.W.Frag) (mg : Str -> Option Value) (base : Heap) (ad : Ad) : Prop where
  hS : ∀ C, inS ad C = true -> SlX.SCls K C /\ SlX.SIsi K C
  hE : ∀ C, inE ad C = true -> ExC K C
  hO : ∀ C, inO ad C = true -> OCls K C
  hI : ∀ t u b, ad.inst t u = some b -> PySem.W.kitOne K t u = some b
  n_isinstance : mg "isinstance" = none
  n_int : mg "int" = none
  n_bool : mg "bool" = none
  sc_BadWorth : SlC K ad.SlipError ad.BadWorth
  ic_BadWorth : PySem.W.findIn K (.ref ad.BadWorth) "__init__" = some (some (.ref ad.slip))
  tI : PySem.W.typeIn K (.ref ad.slip) = some (.type "function")
  slip : FnOk P w K mg base (L2.CX P w) 1 ad.slip ad.fdS ["self", "value"] (slSp K ad.SlipError)
  slipB : L2.Binds K ad.fdS ["self", "value"] []
  m_BadWorth : mg "BadWorth" = some (.ref ad.BadWorth)
  n_abs : mg "abs" = none
  cl_Worth : SlX.SCls K ad.Worth
  sl_above : SlX.Slot1 K ad.Worth "above" ad.p_above 0
  sl_below : SlX.Slot1 K ad.Worth "below" ad.p_below 1
  n_str : mg "str" = none
  m_Worth : mg "Worth" = some (.ref ad.Worth)
  mk_Worth : Mk K ad.Worth ad.m_Winit
  k_Worth : PySem.W.keepIn K (.ref ad.Worth) = true
  n_len : mg "len" = none
  gc_MOST_LETTERS : ∃ t, mg "MOST_LETTERS" = some (.int 8 t)
  gc_WORDS : GTup K mg "WORDS" c_WORDS
  n_all : mg "all" = none
  gc_LETTERS : ∃ t, mg "LETTERS" = some (.str "abcdefghijklmnopqrstuvwxyz" t)
  gc_COUNTED : GTup K mg "COUNTED" c_COUNTED
  gc_DIGITS : ∃ t, mg "DIGITS" = some (.str "0123456789" t)
  gc_PAIR : ∃ t, mg "PAIR" = some (.int 2 t)
  n_sorted : mg "sorted" = none
  n_tuple : mg "tuple" = none
  pr_Wnumber : PrS K ad.Worth "number" ad.p_Wnumber ad.m_Wnumber
  sc_BadForm : SlC K ad.SlipError ad.BadForm
  ic_BadForm : PySem.W.findIn K (.ref ad.BadForm) "__init__" = some (some (.ref ad.slip))
  m_BadForm : mg "BadForm" = some (.ref ad.BadForm)
  oc_Form : L2.Cls K ad.Form
  na_table : NoAttr K ad.Form "table"
  na_last : NoAttr K ad.Form "last"
  ow_Worth : OwnC K ad.Worth
  e_Weq : PySem.W.findIn K (.ref ad.Worth) "__eq__" = some (some (.ref ad.m_Weq))
  e_Weqf : PySem.W.isFn K (.ref ad.m_Weq) = true
  pr_Wtext : PrS K ad.Worth "text" ad.p_Wtext ad.m_Wtext
  fi_Wabs : PySem.W.findIn K (.ref ad.Worth) "__abs__" = some (some (.ref ad.m_Wabs))
  if_Wabs : PySem.W.isFn K (.ref ad.m_Wabs) = true
  m_NoQuotient : mg "NoQuotient" = some (.ref ad.NoQuotient)
  m_BadText : mg "BadText" = some (.ref ad.BadText)
  m_NoUnknown : mg "NoUnknown" = some (.ref ad.NoUnknown)
  m_BadPoint : mg "BadPoint" = some (.ref ad.BadPoint)
  m_Missing : mg "Missing" = some (.ref ad.Missing)
  m_BadConditions : mg "BadConditions" = some (.ref ad.BadConditions)
  m_TooMany : mg "TooMany" = some (.ref ad.TooMany)
  m_BadProcedure : mg "BadProcedure" = some (.ref ad.BadProcedure)
  m_Contrary : mg "Contrary" = some (.ref ad.Contrary)
  m_NoLine : mg "NoLine" = some (.ref ad.NoLine)
  m_NotFree : mg "NotFree" = some (.ref ad.NotFree)
  m_BadBound : mg "BadBound" = some (.ref ad.BadBound)
  m_Open : mg "Open" = some (.ref ad.Open)
  m_BadThings : mg "BadThings" = some (.ref ad.BadThings)
  m_BadErrors : mg "BadErrors" = some (.ref ad.BadErrors)
  m_BadReadings : mg "BadReadings" = some (.ref ad.BadReadings)
  m_NoWay : mg "NoWay" = some (.ref ad.NoWay)
  m_BadWish : mg "BadWish" = some (.ref ad.BadWish)
  m_NoThing : mg "NoThing" = some (.ref ad.NoThing)
  m_BadWord : mg "BadWord" = some (.ref ad.BadWord)
  m_Unlike : mg "Unlike" = some (.ref ad.Unlike)
  m_BadWishes : mg "BadWishes" = some (.ref ad.BadWishes)
  m_BadOffers : mg "BadOffers" = some (.ref ad.BadOffers)
  m_Over : mg "Over" = some (.ref ad.Over)
  m_NoVariable : mg "NoVariable" = some (.ref ad.NoVariable)
  m_NotNext : mg "NotNext" = some (.ref ad.NotNext)
  m_NothingToUndo : mg "NothingToUndo" = some (.ref ad.NothingToUndo)
  m_NothingToRedo : mg "NothingToRedo" = some (.ref ad.NothingToRedo)
  m_BadJournal : mg "BadJournal" = some (.ref ad.BadJournal)
  m_BadLine : mg "BadLine" = some (.ref ad.BadLine)
  m_Impossible : mg "Impossible" = some (.ref ad.Impossible)
  k_BadWorth : PySem.W.keepIn K (.ref ad.BadWorth) = true
  sc_NoQuotient : SlC K ad.SlipError ad.NoQuotient
  ic_NoQuotient : PySem.W.findIn K (.ref ad.NoQuotient) "__init__" = some (some (.ref ad.slip))
  k_NoQuotient : PySem.W.keepIn K (.ref ad.NoQuotient) = true
  sc_BadText : SlC K ad.SlipError ad.BadText
  ic_BadText : PySem.W.findIn K (.ref ad.BadText) "__init__" = some (some (.ref ad.slip))
  k_BadText : PySem.W.keepIn K (.ref ad.BadText) = true
  k_BadForm : PySem.W.keepIn K (.ref ad.BadForm) = true
  sc_NoUnknown : SlC K ad.SlipError ad.NoUnknown
  ic_NoUnknown : PySem.W.findIn K (.ref ad.NoUnknown) "__init__" = some (some (.ref ad.slip))
  k_NoUnknown : PySem.W.keepIn K (.ref ad.NoUnknown) = true
  sc_BadPoint : SlC K ad.SlipError ad.BadPoint
  ic_BadPoint : PySem.W.findIn K (.ref ad.BadPoint) "__init__" = some (some (.ref ad.slip))
  k_BadPoint : PySem.W.keepIn K (.ref ad.BadPoint) = true
  sc_Missing : SlC K ad.SlipError ad.Missing
  ic_Missing : PySem.W.findIn K (.ref ad.Missing) "__init__" = some (some (.ref ad.slip))
  k_Missing : PySem.W.keepIn K (.ref ad.Missing) = true
  sc_BadConditions : SlC K ad.SlipError ad.BadConditions
  ic_BadConditions : PySem.W.findIn K (.ref ad.BadConditions) "__init__" = some (some (.ref ad.slip))
  k_BadConditions : PySem.W.keepIn K (.ref ad.BadConditions) = true
  sc_TooMany : SlC K ad.SlipError ad.TooMany
  ic_TooMany : PySem.W.findIn K (.ref ad.TooMany) "__init__" = some (some (.ref ad.slip))
  k_TooMany : PySem.W.keepIn K (.ref ad.TooMany) = true
  sc_BadProcedure : SlC K ad.SlipError ad.BadProcedure
  ic_BadProcedure : PySem.W.findIn K (.ref ad.BadProcedure) "__init__" = some (some (.ref ad.slip))
  k_BadProcedure : PySem.W.keepIn K (.ref ad.BadProcedure) = true
  sc_Contrary : SlC K ad.SlipError ad.Contrary
  ic_Contrary : PySem.W.findIn K (.ref ad.Contrary) "__init__" = some (some (.ref ad.slip))
  k_Contrary : PySem.W.keepIn K (.ref ad.Contrary) = true
  sc_NoLine : SlC K ad.SlipError ad.NoLine
  ic_NoLine : PySem.W.findIn K (.ref ad.NoLine) "__init__" = some (some (.ref ad.slip))
  k_NoLine : PySem.W.keepIn K (.ref ad.NoLine) = true
  sc_NotFree : SlC K ad.SlipError ad.NotFree
  ic_NotFree : PySem.W.findIn K (.ref ad.NotFree) "__init__" = some (some (.ref ad.slip))
  k_NotFree : PySem.W.keepIn K (.ref ad.NotFree) = true
  sc_BadBound : SlC K ad.SlipError ad.BadBound
  ic_BadBound : PySem.W.findIn K (.ref ad.BadBound) "__init__" = some (some (.ref ad.slip))
  k_BadBound : PySem.W.keepIn K (.ref ad.BadBound) = true
  sc_Open : SlC K ad.SlipError ad.Open
  ic_Open : PySem.W.findIn K (.ref ad.Open) "__init__" = some (some (.ref ad.slip))
  k_Open : PySem.W.keepIn K (.ref ad.Open) = true
  sc_BadThings : SlC K ad.SlipError ad.BadThings
  ic_BadThings : PySem.W.findIn K (.ref ad.BadThings) "__init__" = some (some (.ref ad.slip))
  k_BadThings : PySem.W.keepIn K (.ref ad.BadThings) = true
  sc_BadErrors : SlC K ad.SlipError ad.BadErrors
  ic_BadErrors : PySem.W.findIn K (.ref ad.BadErrors) "__init__" = some (some (.ref ad.slip))
  k_BadErrors : PySem.W.keepIn K (.ref ad.BadErrors) = true
  sc_BadReadings : SlC K ad.SlipError ad.BadReadings
  ic_BadReadings : PySem.W.findIn K (.ref ad.BadReadings) "__init__" = some (some (.ref ad.slip))
  k_BadReadings : PySem.W.keepIn K (.ref ad.BadReadings) = true
  sc_NoWay : SlC K ad.SlipError ad.NoWay
  ic_NoWay : PySem.W.findIn K (.ref ad.NoWay) "__init__" = some (some (.ref ad.slip))
  k_NoWay : PySem.W.keepIn K (.ref ad.NoWay) = true
  sc_BadWish : SlC K ad.SlipError ad.BadWish
  ic_BadWish : PySem.W.findIn K (.ref ad.BadWish) "__init__" = some (some (.ref ad.slip))
  k_BadWish : PySem.W.keepIn K (.ref ad.BadWish) = true
  sc_NoThing : SlC K ad.SlipError ad.NoThing
  ic_NoThing : PySem.W.findIn K (.ref ad.NoThing) "__init__" = some (some (.ref ad.slip))
  k_NoThing : PySem.W.keepIn K (.ref ad.NoThing) = true
  sc_BadWord : SlC K ad.SlipError ad.BadWord
  ic_BadWord : PySem.W.findIn K (.ref ad.BadWord) "__init__" = some (some (.ref ad.slip))
  k_BadWord : PySem.W.keepIn K (.ref ad.BadWord) = true
  sc_Unlike : SlC K ad.SlipError ad.Unlike
  ic_Unlike : PySem.W.findIn K (.ref ad.Unlike) "__init__" = some (some (.ref ad.slip))
  k_Unlike : PySem.W.keepIn K (.ref ad.Unlike) = true
  sc_BadWishes : SlC K ad.SlipError ad.BadWishes
  ic_BadWishes : PySem.W.findIn K (.ref ad.BadWishes) "__init__" = some (some (.ref ad.slip))
  k_BadWishes : PySem.W.keepIn K (.ref ad.BadWishes) = true
  sc_BadOffers : SlC K ad.SlipError ad.BadOffers
  ic_BadOffers : PySem.W.findIn K (.ref ad.BadOffers) "__init__" = some (some (.ref ad.slip))
  k_BadOffers : PySem.W.keepIn K (.ref ad.BadOffers) = true
  sc_Over : SlC K ad.SlipError ad.Over
  ic_Over : PySem.W.findIn K (.ref ad.Over) "__init__" = some (some (.ref ad.slip))
  k_Over : PySem.W.keepIn K (.ref ad.Over) = true
  sc_NoVariable : SlC K ad.SlipError ad.NoVariable
  ic_NoVariable : PySem.W.findIn K (.ref ad.NoVariable) "__init__" = some (some (.ref ad.slip))
  k_NoVariable : PySem.W.keepIn K (.ref ad.NoVariable) = true
  sc_NotNext : SlC K ad.SlipError ad.NotNext
  ic_NotNext : PySem.W.findIn K (.ref ad.NotNext) "__init__" = some (some (.ref ad.slip))
  k_NotNext : PySem.W.keepIn K (.ref ad.NotNext) = true
  sc_NothingToUndo : SlC K ad.SlipError ad.NothingToUndo
  ic_NothingToUndo : PySem.W.findIn K (.ref ad.NothingToUndo) "__init__" = some (some (.ref ad.slip))
  k_NothingToUndo : PySem.W.keepIn K (.ref ad.NothingToUndo) = true
  sc_NothingToRedo : SlC K ad.SlipError ad.NothingToRedo
  ic_NothingToRedo : PySem.W.findIn K (.ref ad.NothingToRedo) "__init__" = some (some (.ref ad.slip))
  k_NothingToRedo : PySem.W.keepIn K (.ref ad.NothingToRedo) = true
  sc_BadJournal : SlC K ad.SlipError ad.BadJournal
  ic_BadJournal : PySem.W.findIn K (.ref ad.BadJournal) "__init__" = some (some (.ref ad.slip))
  k_BadJournal : PySem.W.keepIn K (.ref ad.BadJournal) = true
  sc_BadLine : SlC K ad.SlipError ad.BadLine
  ic_BadLine : PySem.W.findIn K (.ref ad.BadLine) "__init__" = some (some (.ref ad.slip))
  k_BadLine : PySem.W.keepIn K (.ref ad.BadLine) = true
  sx_Impossible : ImC K ad.SlipError ad.slip ad.Impossible ad.Impossible
  ix_Impossible : PySem.W.findIn K (.ref ad.Impossible) "__init__" = some (some (.ref ad.im))
  tx_Impossible : PySem.W.typeIn K (.ref ad.im) = some (.type "function")
  im_Impossible : ImI P w K mg base 2 ad.im ad.SlipError ad.slip ad.Impossible
  k_Impossible : PySem.W.keepIn K (.ref ad.Impossible) = true
  m_SlipError : mg "SlipError" = some (.ref ad.SlipError)
  hx_SlipError : ∀ v b, ad.exm ad.SlipError v = some b -> PySem.W.exmOne K v (.ref ad.SlipError) = some b
  hx_Impossible : ∀ v b, ad.exm ad.Impossible v = some b -> PySem.W.exmOne K v (.ref ad.Impossible) = some b
  n_repr : mg "repr" = none
  hV : ∀ C, inE ad C = true -> ExC K C /\ PySem.W.findIn K (.ref C) "value" = some none
  hP : ∀ C, inE ad C = true -> ExC K C /\ PySem.W.findIn K (.ref C) "paper" = some none
  mk_Form : Mk K ad.Form ad.m_Finit
  m_Form : mg "Form" = some (.ref ad.Form)
  k_Form : PySem.W.keepIn K (.ref ad.Form) = true
  n_enumerate : mg "enumerate" = none
  n_range : mg "range" = none
  n_ValueError : mg "ValueError" = none
  sc_SlipError : SlC K ad.SlipError ad.SlipError
  ic_SlipError : PySem.W.findIn K (.ref ad.SlipError) "__init__" = some (some (.ref ad.slip))
  k_SlipError : PySem.W.keepIn K (.ref ad.SlipError) = true
  n_max : mg "max" = none
  n_min : mg "min" = none
end K1
namespace K1
open PySem PySem.Spec PyProof.Rows L2 VX DL RQ TL Srt
variable {P : Program} {w : World} {K : PySem.W.Frag} {mg : Str -> Option Value} {base : Heap} {ad : Ad} {f : Addr} {A : Around} {outer : List Env} {s : Shared} {H : Hp} {E : XK}
abbrev top (i : Nat) : Stmt := PySem.Challenge.pw_sharedslip_k00_errors.main.body.getD i (.Pass ⟨0, 0, 0, 0⟩)
abbrev s_is_integer : Stmt := top 39
abbrev s_common_divisor : Stmt := top 40
abbrev s_Winit : Stmt := inClass (top 42) 1
abbrev s_Wnumber : Stmt := inClass (top 42) 2
abbrev s_Wunder : Stmt := inClass (top 42) 3
abbrev s_Wtext : Stmt := inClass (top 42) 4
abbrev s_Wrepr : Stmt := inClass (top 42) 6
abbrev s_Weq : Stmt := inClass (top 42) 7
abbrev s_is_number : Stmt := top 43
abbrev s_worth_of : Stmt := top 44
abbrev s_Wabs : Stmt := inClass (top 42) 13
abbrev s_is_name : Stmt := top 56
abbrev s_is_unknown : Stmt := top 57
abbrev s_names_of : Stmt := top 58
abbrev s_is_pair : Stmt := top 59
abbrev s_is_point : Stmt := top 60
abbrev s_is_parts : Stmt := top 61
abbrev s_wnn : Stmt := top 62
abbrev s_Finit : Stmt := inClass (top 71) 0
abbrev s_part_text : Stmt := top 69
abbrev s_signed_text : Stmt := top 70
abbrev s_text_of : Stmt := top 74
abbrev s_Frepr : Stmt := inClass (top 71) 7
abbrev s_l_jar : Stmt := top 78
abbrev s_l_take : Stmt := top 79
abbrev s_l_of : Stmt := top 80
abbrev s_l_odd : Stmt := top 81
abbrev s_l_kinds_of : Stmt := top 82
abbrev s_l_created : Stmt := top 83
abbrev s_l_is_raised : Stmt := top 84
abbrev s_l_fine : Stmt := top 85
abbrev s_law : Stmt := top 86
theorem S_is_integer : FnScope N_is_integer ["value"] (defScope s_is_integer) := ⟨rfl, rfl, rfl, by decide +kernel, rfl, by decide +kernel, by decide +kernel⟩
theorem w_is_integer [Gd] (t : Tx P w K mg base ad) {cdv : Value} (b : Bd 4 (cxOf (L2.CX P w) P w K mg base N_is_integer "is_integer" (defScope s_is_integer) f cdv A outer s H E) (WE0 E)) :
    DSs (cxOf (L2.CX P w) P w K mg base N_is_integer "is_integer" (defScope s_is_integer) f cdv A outer s H E) (WE0 E) (defBody s_is_integer) (d_is_integer ad) := by
  have nd := S_is_integer.nd
  exact (dss_one (ds_ret (de_and (de_callB (cd_isi t.hS t.hE t.hO t.hI) rfl t.n_isinstance rfl (da_cons (dv 0) (da_cons (de_bty rfl t.n_int rfl) da_nil))) (de_one (de_not (de_callB (cd_isi t.hS t.hE t.hO t.hI) rfl t.n_isinstance rfl (da_cons (dv 0) (da_cons (de_bty rfl t.n_bool rfl) da_nil))))))))
theorem S_common_divisor : FnScope N_common_divisor ["one", "other"] (defScope s_common_divisor) := ⟨rfl, rfl, rfl, by decide +kernel, rfl, by decide +kernel, by decide +kernel⟩
theorem w_common_divisor [Gd] (t : Tx P w K mg base ad) {cdv : Value} (b : Bd 4 (cxOf (L2.CX P w) P w K mg base N_common_divisor "common_divisor" (defScope s_common_divisor) f cdv A outer s H E) (WE0 E)) :
    DSs (cxOf (L2.CX P w) P w K mg base N_common_divisor "common_divisor" (defScope s_common_divisor) f cdv A outer s H E) (WE0 E) (defBody s_common_divisor) (d_common_divisor ad) := by
  have nd := S_common_divisor.nd
  exact (dss_cons (ds_cut (ds_while (L2.passes_of rfl) (dt_cmp od_gtI (dv 1) de_int (nomark _)) (dss_one (ds_par (i := 0) (j := 1) rfl nd rfl rfl (by decide) rfl rfl (da_cons (dv 1) (da_cons (de_op od_mod (dv 0) (dv 1)) da_nil)) (by rfl)))))
    (dss_one (ds_ret (dv 0))))
theorem S_Winit : FnScope N_Winit ["self", "number", "under"] (defScope s_Winit) := ⟨rfl, rfl, rfl, by decide +kernel, rfl, by decide +kernel, by decide +kernel⟩
theorem w_Winit [Gd] (t : Tx P w K mg base ad) (g_is_integer : GF P w K mg base "is_integer" 5 (sp_is_integer ad)) (g_common_divisor : GF P w K mg base "common_divisor" 5 (sp_common_divisor ad)) {cdv : Value} (b : Bd 9 (cxOf (L2.CX P w) P w K mg base N_Winit "Worth.__init__" (defScope s_Winit) f cdv A outer s H E) (WE0 E)) :
    DSs (cxOf (L2.CX P w) P w K mg base N_Winit "Worth.__init__" (defScope s_Winit) f cdv A outer s H E) (WE0 E) (defBody s_Winit) (d_Winit ad) := by
  have nd := S_Winit.nd
  exact (dss_cons (ds_if (DWh.dt (dw_or (dt_not (dt_val (de_call b g_is_integer (by decide) rfl (da_cons (dv 1) da_nil)))) (dw_or (dt_not (dt_val (de_call b g_is_integer (by decide) rfl (da_cons (dv 2) da_nil)))) (dw_or1 (dt_cmp od_eqS (dv 2) de_int (nomark _)))))) (dss_one (ds_raise1 rfl b.tk t.sc_BadWorth t.ic_BadWorth t.tI t.slip (b.hr.mono (by decide)) t.slipB rfl t.m_BadWorth (de_tup (da_cons (dv 1) (da_cons (dv 2) da_nil))))) dss_nil)
    (dss_cons (ds_set (i := 3) nd rfl (by first | exact Or.inl rfl | exact Or.inr rfl) (de_call b g_common_divisor (by decide) rfl (da_cons (de_callB cd_abs rfl t.n_abs rfl (da_cons (dv 1) da_nil)) (da_cons (de_callB cd_abs rfl t.n_abs rfl (da_cons (dv 2) da_nil)) da_nil))))
    (dss_cons (ds_if (dt_cmp od_ltI (dv 2) de_int (nomark _)) (dss_one (ds_set (i := 3) nd rfl (by first | exact Or.inl rfl | exact Or.inr rfl) (de_un ud_negI (dv 3)))) dss_nil)
    (dss_cons (ds_slot t.cl_Worth t.sl_above (dv 0) (de_op od_fdiv (dv 1) (dv 3)))
    (dss_one (ds_slot t.cl_Worth t.sl_below (dv 0) (de_op od_fdiv (dv 2) (dv 3))))))))
theorem S_Wnumber : FnScope N_Wnumber ["self"] (defScope s_Wnumber) := ⟨rfl, rfl, rfl, by decide +kernel, rfl, by decide +kernel, by decide +kernel⟩
theorem w_Wnumber [Gd] (t : Tx P w K mg base ad) {cdv : Value} (b : Bd 4 (cxOf (L2.CX P w) P w K mg base N_Wnumber "Worth.number" (defScope s_Wnumber) f cdv A outer s H E) (WE0 E)) :
    DSs (cxOf (L2.CX P w) P w K mg base N_Wnumber "Worth.number" (defScope s_Wnumber) f cdv A outer s H E) (WE0 E) (defBody s_Wnumber) (d_Wnumber ad) := by
  have nd := S_Wnumber.nd
  exact (dss_one (ds_ret (de_attr (ad_slot t.cl_Worth t.sl_above) (dv 0))))
theorem S_Wunder : FnScope N_Wunder ["self"] (defScope s_Wunder) := ⟨rfl, rfl, rfl, by decide +kernel, rfl, by decide +kernel, by decide +kernel⟩
theorem w_Wunder [Gd] (t : Tx P w K mg base ad) {cdv : Value} (b : Bd 4 (cxOf (L2.CX P w) P w K mg base N_Wunder "Worth.under" (defScope s_Wunder) f cdv A outer s H E) (WE0 E)) :
    DSs (cxOf (L2.CX P w) P w K mg base N_Wunder "Worth.under" (defScope s_Wunder) f cdv A outer s H E) (WE0 E) (defBody s_Wunder) (d_Wunder ad) := by
  have nd := S_Wunder.nd
  exact (dss_one (ds_ret (de_attr (ad_slot t.cl_Worth t.sl_below) (dv 0))))
theorem S_Wtext : FnScope N_Wtext ["self"] (defScope s_Wtext) := ⟨rfl, rfl, rfl, by decide +kernel, rfl, by decide +kernel, by decide +kernel⟩
theorem w_Wtext [Gd] (t : Tx P w K mg base ad) {cdv : Value} (b : Bd 4 (cxOf (L2.CX P w) P w K mg base N_Wtext "Worth.text" (defScope s_Wtext) f cdv A outer s H E) (WE0 E)) :
    DSs (cxOf (L2.CX P w) P w K mg base N_Wtext "Worth.text" (defScope s_Wtext) f cdv A outer s H E) (WE0 E) (defBody s_Wtext) (d_Wtext ad) := by
  have nd := S_Wtext.nd
  exact (dss_one (ds_ret (de_ifExp (dt_cmp od_eqS (de_attr (ad_slot t.cl_Worth t.sl_below) (dv 0)) de_int (nomark _)) (de_callTy cd_str rfl t.n_str rfl (da_cons (de_attr (ad_slot t.cl_Worth t.sl_above) (dv 0)) da_nil)) (de_joined (DJ.cons (de_fmt (de_attr (ad_slot t.cl_Worth t.sl_above) (dv 0))) (DJ.cons de_str (DJ.cons (de_fmt (de_attr (ad_slot t.cl_Worth t.sl_below) (dv 0))) DJ.nil)))))))
theorem S_Wrepr : FnScope N_Wrepr ["self"] (defScope s_Wrepr) := ⟨rfl, rfl, rfl, by decide +kernel, rfl, by decide +kernel, by decide +kernel⟩
theorem w_Wrepr [Gd] (t : Tx P w K mg base ad) {cdv : Value} :
    DSs (cxOf (L2.CX P w) P w K mg base N_Wrepr "Worth.__repr__" (defScope s_Wrepr) f cdv A outer s H E) (WE0 E) (defBody s_Wrepr) (d_Wrepr ad) := by
  have nd := S_Wrepr.nd
  exact (dss_cons (ds_if (dt_cmp od_eqS (de_attr (ad_slot t.cl_Worth t.sl_below) (dv 0)) de_int (nomark _)) (dss_one (ds_ret (de_joined (DJ.cons de_str (DJ.cons (de_fmt (de_attr (ad_slot t.cl_Worth t.sl_above) (dv 0))) (DJ.cons de_str DJ.nil)))))) dss_nil)
    (dss_one (ds_ret (de_joined (DJ.cons de_str (DJ.cons (de_fmt (de_attr (ad_slot t.cl_Worth t.sl_above) (dv 0))) (DJ.cons de_str (DJ.cons (de_fmt (de_attr (ad_slot t.cl_Worth t.sl_below) (dv 0))) (DJ.cons de_str DJ.nil)))))))))
theorem S_Weq : FnScope N_Weq ["self", "other"] (defScope s_Weq) := ⟨rfl, rfl, rfl, by decide +kernel, rfl, by decide +kernel, by decide +kernel⟩
theorem w_Weq [Gd] (t : Tx P w K mg base ad) {cdv : Value} (b : Bd 4 (cxOf (L2.CX P w) P w K mg base N_Weq "Worth.__eq__" (defScope s_Weq) f cdv A outer s H E) (WE0 E)) :
    DSs (cxOf (L2.CX P w) P w K mg base N_Weq "Worth.__eq__" (defScope s_Weq) f cdv A outer s H E) (WE0 E) (defBody s_Weq) (d_Weq ad) := by
  have nd := S_Weq.nd
  exact (dss_one (ds_ret (de_and (de_callB (cd_isi t.hS t.hE t.hO t.hI) rfl t.n_isinstance rfl (da_cons (dv 1) (da_cons (de_glob rfl t.m_Worth) da_nil))) (de_and (de_cmp od_eqS (de_attr (ad_slot t.cl_Worth t.sl_above) (dv 0)) (de_attr (ad_slot t.cl_Worth t.sl_above) (dv 1)) (nomark _)) (de_one (de_cmp od_eqS (de_attr (ad_slot t.cl_Worth t.sl_below) (dv 0)) (de_attr (ad_slot t.cl_Worth t.sl_below) (dv 1)) (nomark _)))))))
theorem S_is_number : FnScope N_is_number ["value"] (defScope s_is_number) := ⟨rfl, rfl, rfl, by decide +kernel, rfl, by decide +kernel, by decide +kernel⟩
theorem w_is_number [Gd] (t : Tx P w K mg base ad) (g_is_integer : GF P w K mg base "is_integer" 5 (sp_is_integer ad)) {cdv : Value} (b : Bd 9 (cxOf (L2.CX P w) P w K mg base N_is_number "is_number" (defScope s_is_number) f cdv A outer s H E) (WE0 E)) :
    DSs (cxOf (L2.CX P w) P w K mg base N_is_number "is_number" (defScope s_is_number) f cdv A outer s H E) (WE0 E) (defBody s_is_number) (d_is_number ad) := by
  have nd := S_is_number.nd
  exact (dss_one (ds_ret (de_or (de_call b g_is_integer (by decide) rfl (da_cons (dv 0) da_nil)) (de_one (de_callB (cd_isi t.hS t.hE t.hO t.hI) rfl t.n_isinstance rfl (da_cons (dv 0) (da_cons (de_glob rfl t.m_Worth) da_nil)))))))
theorem S_worth_of : FnScope N_worth_of ["number"] (defScope s_worth_of) := ⟨rfl, rfl, rfl, by decide +kernel, rfl, by decide +kernel, by decide +kernel⟩
theorem w_worth_of [Gd] (t : Tx P w K mg base ad) (f_Winit1 : GR P w K mg base ad.m_Winit 10 (sp1_Winit ad)) {cdv : Value} (b : Bd 14 (cxOf (L2.CX P w) P w K mg base N_worth_of "worth_of" (defScope s_worth_of) f cdv A outer s H E) (WE0 E)) :
    DSs (cxOf (L2.CX P w) P w K mg base N_worth_of "worth_of" (defScope s_worth_of) f cdv A outer s H E) (WE0 E) (defBody s_worth_of) (d_worth_of ad) := by
  have nd := S_worth_of.nd
  exact (dss_one (ds_ret (de_ifExp (dt_val (de_callB (cd_isi t.hS t.hE t.hO t.hI) rfl t.n_isinstance rfl (da_cons (dv 0) (da_cons (de_bty rfl t.n_int rfl) da_nil)))) (de_callM (cd_make (b.le (by decide : 11 <= 14)) t.mk_Worth f_Winit1) rfl t.m_Worth t.k_Worth (da_cons (dv 0) da_nil)) (dv 0))))
theorem S_Wabs : FnScope N_Wabs ["self"] (defScope s_Wabs) := ⟨rfl, rfl, rfl, by decide +kernel, rfl, by decide +kernel, by decide +kernel⟩
theorem w_Wabs [Gd] (t : Tx P w K mg base ad) (f_Winit2 : GR P w K mg base ad.m_Winit 10 (sp_Winit ad)) {cdv : Value} (b : Bd 14 (cxOf (L2.CX P w) P w K mg base N_Wabs "Worth.__abs__" (defScope s_Wabs) f cdv A outer s H E) (WE0 E)) :
    DSs (cxOf (L2.CX P w) P w K mg base N_Wabs "Worth.__abs__" (defScope s_Wabs) f cdv A outer s H E) (WE0 E) (defBody s_Wabs) (d_Wabs ad) := by
  have nd := S_Wabs.nd
  exact (dss_one (ds_ret (de_callM (cd_make (b.le (by decide : 11 <= 14)) t.mk_Worth f_Winit2) rfl t.m_Worth t.k_Worth (da_cons (de_callB cd_abs rfl t.n_abs rfl (da_cons (de_attr (ad_slot t.cl_Worth t.sl_above) (dv 0)) da_nil)) (da_cons (de_attr (ad_slot t.cl_Worth t.sl_below) (dv 0)) da_nil)))))
theorem S_is_name : FnScope N_is_name ["value"] (defScope s_is_name) := ⟨rfl, rfl, rfl, by decide +kernel, rfl, by decide +kernel, by decide +kernel⟩
theorem w_is_name [Gd] (t : Tx P w K mg base ad) {cdv : Value} (b : Bd 4 (cxOf (L2.CX P w) P w K mg base N_is_name "is_name" (defScope s_is_name) f cdv A outer s H E) (WE0 E)) :
    DSs (cxOf (L2.CX P w) P w K mg base N_is_name "is_name" (defScope s_is_name) f cdv A outer s H E) (WE0 E) (defBody s_is_name) (d_is_name ad) := by
  have nd := S_is_name.nd
  exact (dss_cons (ds_if (DWh.dt (dw_or (dt_not (dt_val (de_callB (cd_isi t.hS t.hE t.hO t.hI) rfl t.n_isinstance rfl (da_cons (dv 0) (da_cons (de_bty rfl t.n_str rfl) da_nil))))) (dw_or (dt_not (dt_chain od_leI od_leI de_int (de_callB cd_lenU rfl t.n_len rfl (da_cons (dv 0) da_nil)) (de_globI rfl t.gc_MOST_LETTERS))) (dw_or1 (dt_cmp od_inF (dv 0) (de_globT rfl t.gc_WORDS) rfl))))) (dss_one (ds_ret de_bl)) dss_nil)
    (dss_one (ds_ret (de_callB (cd_all rfl) rfl t.n_all rfl (da_cons (de_cut (de_lc (own := [("letter", 1)]) rfl nd (di_str (dv 0)) (blkOk_by (N := N_is_name) (sc := defScope s_is_name) (by decide +kernel)) (fun s H C cl fp => (dgw_name rfl nd (by first | exact Or.inl rfl | exact Or.inr rfl) (by decide))) (fun s H C cl fp => dts_nil) (fun s H C cl fp => (de_cmp od_sign (dv 1) (de_globS rfl t.gc_LETTERS) rfl)))) da_nil)))))
theorem S_is_unknown : FnScope N_is_unknown ["value"] (defScope s_is_unknown) := ⟨rfl, rfl, rfl, by decide +kernel, rfl, by decide +kernel, by decide +kernel⟩
theorem w_is_unknown [Gd] (t : Tx P w K mg base ad) (g_is_name : GF P w K mg base "is_name" 5 (sp_is_name ad)) {cdv : Value} (b : Bd 9 (cxOf (L2.CX P w) P w K mg base N_is_unknown "is_unknown" (defScope s_is_unknown) f cdv A outer s H E) (WE0 E)) :
    DSs (cxOf (L2.CX P w) P w K mg base N_is_unknown "is_unknown" (defScope s_is_unknown) f cdv A outer s H E) (WE0 E) (defBody s_is_unknown) (d_is_unknown ad) := by
  have nd := S_is_unknown.nd
  exact (dss_cons (ds_if (dt_val (de_call b g_is_name (by decide) rfl (da_cons (dv 0) da_nil))) (dss_one (ds_ret de_bl)) dss_nil)
    (dss_cons (ds_if (DWh.dt (dw_or (dt_not (dt_val (de_callB (cd_isi t.hS t.hE t.hO t.hI) rfl t.n_isinstance rfl (da_cons (dv 0) (da_cons (de_bty rfl t.n_str rfl) da_nil))))) (dw_or (dt_not (dt_chain od_ltI od_leI de_int (de_callB cd_lenU rfl t.n_len rfl (da_cons (dv 0) da_nil)) de_int)) (dw_or1 (dt_cmp od_notInF (de_ix ixd_str (dv 0) de_int) (de_globT rfl t.gc_COUNTED) rfl))))) (dss_one (ds_ret de_bl)) dss_nil)
    (dss_one (ds_ret (de_and (de_callB (cd_all rfl) rfl t.n_all rfl (da_cons (de_cut (de_lc (own := [("sign", 1)]) rfl nd (di_str (de_slice (dv 0) (dp_some de_int) dp_none)) (blkOk_by (N := N_is_unknown) (sc := defScope s_is_unknown) (by decide +kernel)) (fun s H C cl fp => (dgw_name rfl nd (by first | exact Or.inl rfl | exact Or.inr rfl) (by decide))) (fun s H C cl fp => dts_nil) (fun s H C cl fp => (de_cmp od_sign (dv 1) (de_globS rfl t.gc_DIGITS) rfl)))) da_nil)) (de_one (de_or (de_cmp od_eqS (de_callB cd_lenU rfl t.n_len rfl (da_cons (dv 0) da_nil)) (de_globI rfl t.gc_PAIR) (nomark _)) (de_one (de_cmp od_neS (de_ix ixd_str (dv 0) de_int) de_str (nomark _))))))))))
theorem S_names_of : FnScope N_names_of ["some"] (defScope s_names_of) := ⟨rfl, rfl, rfl, by decide +kernel, rfl, by decide +kernel, by decide +kernel⟩
theorem w_names_of [Gd] (t : Tx P w K mg base ad) {cdv : Value} (b : Bd 4 (cxOf (L2.CX P w) P w K mg base N_names_of "names_of" (defScope s_names_of) f cdv A outer s H E) (WE0 E)) :
    DSs (cxOf (L2.CX P w) P w K mg base N_names_of "names_of" (defScope s_names_of) f cdv A outer s H E) (WE0 E) (defBody s_names_of) (d_names_of ad) := by
  have nd := S_names_of.nd
  exact (dss_one (ds_ret (de_callB cd_sorted rfl t.n_sorted rfl (da_cons (de_cut (de_lc (own := [("name", 1)]) rfl nd (DI.or (di_list (dv 0)) (di_keys (dv 0))) (blkOk_by (N := N_names_of) (sc := defScope s_names_of) (by decide +kernel)) (fun s H C cl fp => (dgw_name rfl nd (by first | exact Or.inl rfl | exact Or.inr rfl) (by decide))) (fun s H C cl fp => dts_nil) (fun s H C cl fp => (de_callTy cd_str rfl t.n_str rfl (da_cons (dv 1) da_nil))))) da_nil))))
theorem S_is_pair : FnScope N_is_pair ["value"] (defScope s_is_pair) := ⟨rfl, rfl, rfl, by decide +kernel, rfl, by decide +kernel, by decide +kernel⟩
theorem w_is_pair [Gd] (t : Tx P w K mg base ad) (g_is_unknown : GF P w K mg base "is_unknown" 10 (sp_is_unknown ad)) (g_is_number : GF P w K mg base "is_number" 10 (sp_is_number ad)) {cdv : Value} (b : Bd 14 (cxOf (L2.CX P w) P w K mg base N_is_pair "is_pair" (defScope s_is_pair) f cdv A outer s H E) (WE0 E)) :
    DSs (cxOf (L2.CX P w) P w K mg base N_is_pair "is_pair" (defScope s_is_pair) f cdv A outer s H E) (WE0 E) (defBody s_is_pair) (d_is_pair ad) := by
  have nd := S_is_pair.nd
  exact (dss_one (ds_ret (de_and (de_callB (cd_isi t.hS t.hE t.hO t.hI) rfl t.n_isinstance rfl (da_cons (dv 0) (da_cons (de_bty rfl t.n_tuple rfl) da_nil))) (de_and (de_cmp od_eqS (de_callB cd_lenU rfl t.n_len rfl (da_cons (dv 0) da_nil)) (de_globI rfl t.gc_PAIR) (nomark _)) (de_and (de_call b g_is_unknown (by decide) rfl (da_cons (de_ix ixd_seq (dv 0) de_int) da_nil)) (de_one (de_call b g_is_number (by decide) rfl (da_cons (de_ix ixd_seq (dv 0) de_int) da_nil))))))))
theorem S_is_point : FnScope N_is_point ["value"] (defScope s_is_point) := ⟨rfl, rfl, rfl, by decide +kernel, rfl, by decide +kernel, by decide +kernel⟩
theorem w_is_point [Gd] (t : Tx P w K mg base ad) (g_is_pair : GF P w K mg base "is_pair" 15 (sp_is_pair ad)) {cdv : Value} (b : Bd 19 (cxOf (L2.CX P w) P w K mg base N_is_point "is_point" (defScope s_is_point) f cdv A outer s H E) (WE0 E)) :
    DSs (cxOf (L2.CX P w) P w K mg base N_is_point "is_point" (defScope s_is_point) f cdv A outer s H E) (WE0 E) (defBody s_is_point) (d_is_point ad) := by
  have nd := S_is_point.nd
  exact (dss_cons (ds_if (DWh.dt (dw_or (dt_not (dt_val (de_callB (cd_isi t.hS t.hE t.hO t.hI) rfl t.n_isinstance rfl (da_cons (dv 0) (da_cons (de_bty rfl t.n_tuple rfl) da_nil))))) (dw_or1 (dt_not (dt_val (de_callB (cd_all rfl) rfl t.n_all rfl (da_cons (de_cut (de_lc (own := [("pair", 1)]) rfl nd (di_tup (dv 0)) (blkOk_by (N := N_is_point) (sc := defScope s_is_point) (by decide +kernel)) (fun s H C cl fp => (dgw_name rfl nd (by first | exact Or.inl rfl | exact Or.inr rfl) (by decide))) (fun s H C cl fp => dts_nil) (fun s H C cl fp => (de_call (b.blk s H _ _ fp) g_is_pair (by decide) rfl (da_cons (dv 1) da_nil))))) da_nil))))))) (dss_one (ds_ret de_bl)) dss_nil)
    (dss_one (ds_ret (de_cmp od_eqS (de_cut (de_lenSc (own := [("pair", 1)]) rfl nd rfl t.n_len (di_tup (dv 0)) (blkOk_by (N := N_is_point) (sc := defScope s_is_point) (by decide +kernel)) (fun s H C cl fp => (dgw_name rfl nd (by first | exact Or.inl rfl | exact Or.inr rfl) (by decide))) (fun s H C cl fp => (de_ix ixd_seq (dv 1) de_int)))) (de_callB cd_lenU rfl t.n_len rfl (da_cons (dv 0) da_nil)) (nomark _)))))
theorem S_is_parts : FnScope N_is_parts ["value"] (defScope s_is_parts) := ⟨rfl, rfl, rfl, by decide +kernel, rfl, by decide +kernel, by decide +kernel⟩
theorem w_is_parts [Gd] (t : Tx P w K mg base ad) (g_is_point : GF P w K mg base "is_point" 20 (sp_is_point ad)) (g_names_of : GF P w K mg base "names_of" 5 (sp_names_of ad)) {cdv : Value} (b : Bd 24 (cxOf (L2.CX P w) P w K mg base N_is_parts "is_parts" (defScope s_is_parts) f cdv A outer s H E) (WE0 E)) :
    DSs (cxOf (L2.CX P w) P w K mg base N_is_parts "is_parts" (defScope s_is_parts) f cdv A outer s H E) (WE0 E) (defBody s_is_parts) (d_is_parts ad) := by
  have nd := S_is_parts.nd
  exact (dss_cons (ds_if (dt_not (dt_val (de_call b g_is_point (by decide) rfl (da_cons (dv 0) da_nil)))) (dss_one (ds_ret de_bl)) dss_nil)
    (dss_cons (ds_setLc (i := 1) (own := [("pair", 2)]) rfl nd rfl rfl (di_tup (dv 0)) (blkOk_by (N := N_is_parts) (sc := defScope s_is_parts) (by decide +kernel)) (fun s H C cl fp => (dgw_name rfl nd (by first | exact Or.inl rfl | exact Or.inr rfl) (by decide))) (fun s H C cl fp => dts_nil) (fun s H C cl fp => (de_ix ixd_seq (dv 2) de_int)))
    (dss_one (ds_ret (de_cmp (od_eqN b) (dv 1) (de_call b g_names_of (by decide) rfl (da_cons (dv 1) da_nil)) (nomark _))))))
theorem S_wnn : FnScope N_wnn ["table"] (defScope s_wnn) := ⟨rfl, rfl, rfl, by decide +kernel, rfl, by decide +kernel, by decide +kernel⟩
theorem w_wnn [Gd] (t : Tx P w K mg base ad) (f_Wnumber : GR P w K mg base ad.m_Wnumber 5 (sp_Wnumber ad)) {cdv : Value} (b : Bd 9 (cxOf (L2.CX P w) P w K mg base N_wnn "without_noughts" (defScope s_wnn) f cdv A outer s H E) (WE0 E)) :
    DSs (cxOf (L2.CX P w) P w K mg base N_wnn "without_noughts" (defScope s_wnn) f cdv A outer s H E) (WE0 E) (defBody s_wnn) (d_wnn ad) := by
  have nd := S_wnn.nd
  exact (dss_one (ds_ret (de_cut (de_dc (own := [("name", 1), ("worth", 2)]) rfl nd (di_items (dv 0)) (blkOk_by (N := N_wnn) (sc := defScope s_wnn) (by decide +kernel)) (fun s H C cl fp => (dgw_tup rfl (dgws_cons (dgw_name rfl nd (by first | exact Or.inl rfl | exact Or.inr rfl) (by decide)) (dgws_cons (dgw_name rfl nd (by first | exact Or.inl rfl | exact Or.inr rfl) (by decide)) dgws_nil)))) (fun s H C cl fp => (dts_one (dt_cmp od_neS (de_attr (ad_prop ((b.blk s H _ _ fp).le (by decide)) t.cl_Worth t.pr_Wnumber f_Wnumber) (dv 2)) de_int (nomark _)))) (fun s H C cl fp => (dv 1)) (fun s H C cl fp => (dv 2))))))
theorem S_Finit : FnScope N_Finit ["self", "parts", "rest"] (defScope s_Finit) := ⟨rfl, rfl, rfl, by decide +kernel, rfl, by decide +kernel, by decide +kernel⟩
theorem w_Finit [Gd] (t : Tx P w K mg base ad) (g_is_parts : GF P w K mg base "is_parts" 25 (sp_is_parts ad)) (g_is_number : GF P w K mg base "is_number" 10 (sp_is_number ad)) (g_wnn : GF P w K mg base "without_noughts" 10 (sp_wnn ad)) (g_worth_of : GF P w K mg base "worth_of" 15 (sp_worth_of ad)) {cdv : Value} (b : Bd 29 (cxOf (L2.CX P w) P w K mg base N_Finit "Form.__init__" (defScope s_Finit) f cdv A outer s H E) (WE0 E)) :
    DSs (cxOf (L2.CX P w) P w K mg base N_Finit "Form.__init__" (defScope s_Finit) f cdv A outer s H E) (WE0 E) (defBody s_Finit) (d_Finit ad) := by
  have nd := S_Finit.nd
  exact (dss_cons (ds_if (DWh.dt (dw_or (dt_not (dt_val (de_call b g_is_parts (by decide) rfl (da_cons (dv 1) da_nil)))) (dw_or1 (dt_not (dt_val (de_call b g_is_number (by decide) rfl (da_cons (dv 2) da_nil))))))) (dss_one (ds_raise1 rfl b.tk t.sc_BadForm t.ic_BadForm t.tI t.slip (b.hr.mono (by decide)) t.slipB rfl t.m_BadForm (de_tup (da_cons (dv 1) (da_cons (dv 2) da_nil))))) dss_nil)
    (dss_cons (ds_fld t.oc_Form t.na_table (dv 0) (de_call b g_wnn (by decide) rfl (da_cons (de_cut (de_dc (own := [("name", 3), ("number", 4)]) rfl nd (di_tup (dv 1)) (blkOk_by (N := N_Finit) (sc := defScope s_Finit) (by decide +kernel)) (fun s H C cl fp => (dgw_tup rfl (dgws_cons (dgw_name rfl nd (by first | exact Or.inl rfl | exact Or.inr rfl) (by decide)) (dgws_cons (dgw_name rfl nd (by first | exact Or.inl rfl | exact Or.inr rfl) (by decide)) dgws_nil)))) (fun s H C cl fp => dts_nil) (fun s H C cl fp => (dv 3)) (fun s H C cl fp => (de_call (b.blk s H _ _ fp) g_worth_of (by decide) rfl (da_cons (dv 4) da_nil))))) da_nil)))
    (dss_one (ds_fld t.oc_Form t.na_last (dv 0) (de_call b g_worth_of (by decide) rfl (da_cons (dv 2) da_nil))))))
theorem S_part_text : FnScope N_part_text ["worth", "name"] (defScope s_part_text) := ⟨rfl, rfl, rfl, by decide +kernel, rfl, by decide +kernel, by decide +kernel⟩
theorem w_part_text [Gd] (t : Tx P w K mg base ad) (f_Weq : GR P w K mg base ad.m_Weq 5 (sp_Weq ad)) (f_Winit1 : GR P w K mg base ad.m_Winit 10 (sp1_Winit ad)) (f_Wtext : GR P w K mg base ad.m_Wtext 5 (sp_Wtext ad)) {cdv : Value} (b : Bd 14 (cxOf (L2.CX P w) P w K mg base N_part_text "part_text" (defScope s_part_text) f cdv A outer s H E) (WE0 E)) :
    DSs (cxOf (L2.CX P w) P w K mg base N_part_text "part_text" (defScope s_part_text) f cdv A outer s H E) (WE0 E) (defBody s_part_text) (d_part_text ad) := by
  have nd := S_part_text.nd
  exact (dss_one (ds_ret (de_ifExp (dt_cmp (od_eqA (b.le (by decide)) t.hS t.hE t.hO t.ow_Worth t.e_Weq t.e_Weqf f_Weq) (dv 0) (de_callM (cd_make (b.le (by decide : 11 <= 14)) t.mk_Worth f_Winit1) rfl t.m_Worth t.k_Worth (da_cons de_int da_nil)) (nomark _)) (dv 1) (de_joined (DJ.cons (de_fmt (de_attr (ad_prop (b.le (by decide)) t.cl_Worth t.pr_Wtext f_Wtext) (dv 0))) (DJ.cons de_str (DJ.cons (de_fmt (dv 1)) DJ.nil)))))))
theorem S_signed_text : FnScope N_signed_text ["found", "worth", "text"] (defScope s_signed_text) := ⟨rfl, rfl, rfl, by decide +kernel, rfl, by decide +kernel, by decide +kernel⟩
theorem w_signed_text [Gd] (t : Tx P w K mg base ad) (f_Wnumber : GR P w K mg base ad.m_Wnumber 5 (sp_Wnumber ad)) {cdv : Value} (b : Bd 9 (cxOf (L2.CX P w) P w K mg base N_signed_text "signed_text" (defScope s_signed_text) f cdv A outer s H E) (WE0 E)) :
    DSs (cxOf (L2.CX P w) P w K mg base N_signed_text "signed_text" (defScope s_signed_text) f cdv A outer s H E) (WE0 E) (defBody s_signed_text) (d_signed_text ad) := by
  have nd := S_signed_text.nd
  exact (dss_cons (ds_if (dt_cmp od_eqS (dv 0) de_str (nomark _)) (dss_one (ds_ret (de_ifExp (dt_cmp od_ltI (de_attr (ad_prop (b.le (by decide)) t.cl_Worth t.pr_Wnumber f_Wnumber) (dv 1)) de_int (nomark _)) (de_op od_addS de_str (dv 2)) (dv 2)))) dss_nil)
    (dss_one (ds_ret (de_op od_addS (de_op od_addS (dv 0) (de_cut (de_ifExp (dt_cmp od_ltI (de_attr (ad_prop (b.le (by decide)) t.cl_Worth t.pr_Wnumber f_Wnumber) (dv 1)) de_int (nomark _)) de_str de_str))) (dv 2)))))
theorem S_text_of : FnScope N_text_of ["table", "rest"] (defScope s_text_of) := ⟨rfl, rfl, rfl, by decide +kernel, rfl, by decide +kernel, by decide +kernel⟩
theorem w_text_of [Gd] (t : Tx P w K mg base ad) (g_names_of : GF P w K mg base "names_of" 5 (sp_names_of ad)) (g_signed_text : GF P w K mg base "signed_text" 10 (sp_signed_text ad)) (g_part_text : GF P w K mg base "part_text" 15 (sp_part_text ad)) (f_Wabs : GR P w K mg base ad.m_Wabs 15 (sp_Wabs ad)) (f_Wnumber : GR P w K mg base ad.m_Wnumber 5 (sp_Wnumber ad)) (f_Wtext : GR P w K mg base ad.m_Wtext 5 (sp_Wtext ad)) {cdv : Value} (b : Bd 19 (cxOf (L2.CX P w) P w K mg base N_text_of "text_of" (defScope s_text_of) f cdv A outer s H E) (WE0 E)) :
    DSs (cxOf (L2.CX P w) P w K mg base N_text_of "text_of" (defScope s_text_of) f cdv A outer s H E) (WE0 E) (defBody s_text_of) (d_text_of ad) := by
  have nd := S_text_of.nd
  exact (dss_cons (ds_set (i := 2) nd rfl (by first | exact Or.inl rfl | exact Or.inr rfl) de_str)
    (dss_cons (ds_cut (ds_for (L2.passes_of rfl) rfl (di_list (de_call b g_names_of (by decide) rfl (da_cons (dv 0) da_nil))) (dg_name (i := 3) nd rfl (by first | exact Or.inl rfl | exact Or.inr rfl)) (dss_one (ds_set (i := 2) nd rfl (by first | exact Or.inl rfl | exact Or.inr rfl) (de_call b g_signed_text (by decide) rfl (da_cons (dv 2) (da_cons (de_ix (ixd_dict b) (dv 0) (dv 3)) (da_cons (de_call b g_part_text (by decide) rfl (da_cons (de_callB (cd_absO (b.le (by decide)) t.fi_Wabs t.if_Wabs f_Wabs) rfl t.n_abs rfl (da_cons (de_ix (ixd_dict b) (dv 0) (dv 3)) da_nil)) (da_cons (dv 3) da_nil))) da_nil))))))))
    (dss_cons (ds_if (DWh.dt (dw_or (dt_cmp od_eqS (dv 2) de_str (nomark _)) (dw_or1 (dt_cmp od_neS (de_attr (ad_prop (b.le (by decide)) t.cl_Worth t.pr_Wnumber f_Wnumber) (dv 1)) de_int (nomark _))))) (dss_one (ds_set (i := 2) nd rfl (by first | exact Or.inl rfl | exact Or.inr rfl) (de_call b g_signed_text (by decide) rfl (da_cons (dv 2) (da_cons (dv 1) (da_cons (de_attr (ad_prop (b.le (by decide)) t.cl_Worth t.pr_Wtext f_Wtext) (de_callB (cd_absO (b.le (by decide)) t.fi_Wabs t.if_Wabs f_Wabs) rfl t.n_abs rfl (da_cons (dv 1) da_nil))) da_nil)))))) dss_nil)
    (dss_one (ds_ret (dv 2))))))
theorem S_Frepr : FnScope N_Frepr ["self"] (defScope s_Frepr) := ⟨rfl, rfl, rfl, by decide +kernel, rfl, by decide +kernel, by decide +kernel⟩
theorem w_Frepr [Gd] (t : Tx P w K mg base ad) (g_text_of : GF P w K mg base "text_of" 20 (sp_text_of ad)) {cdv : Value} (b : Bd 24 (cxOf (L2.CX P w) P w K mg base N_Frepr "Form.__repr__" (defScope s_Frepr) f cdv A outer s H E) (WE0 E)) :
    DSs (cxOf (L2.CX P w) P w K mg base N_Frepr "Form.__repr__" (defScope s_Frepr) f cdv A outer s H E) (WE0 E) (defBody s_Frepr) (d_Frepr ad) := by
  have nd := S_Frepr.nd
  exact (dss_one (ds_ret (de_joined (DJ.cons de_str (DJ.cons (de_fmt (de_call b g_text_of (by decide) rfl (da_cons (de_attr (ad_fldO t.oc_Form t.na_table) (dv 0)) (da_cons (de_attr (ad_fldO t.oc_Form t.na_last) (dv 0)) da_nil)))) (DJ.cons de_str DJ.nil))))))
theorem S_l_jar : FnScope N_l_jar ["_law_script", "_law_k"] (defScope s_l_jar) := ⟨rfl, rfl, rfl, by decide +kernel, rfl, by decide +kernel, by decide +kernel⟩
theorem w_l_jar [Gd] (t : Tx P w K mg base ad) {cdv : Value} (b : Bd 4 (cxOf (L2.CX P w) P w K mg base N_l_jar "_law_jar" (defScope s_l_jar) f cdv A outer s H E) (WE0 E)) :
    DSs (cxOf (L2.CX P w) P w K mg base N_l_jar "_law_jar" (defScope s_l_jar) f cdv A outer s H E) (WE0 E) (defBody s_l_jar) (d_l_jar ad) := by
  have nd := S_l_jar.nd
  exact (dss_cons (ds_set (i := 2) nd rfl (by first | exact Or.inl rfl | exact Or.inr rfl) (de_cut (de_ifExp (dt_cmp od_ltI (dv 1) (de_callB cd_lenU rfl t.n_len rfl (da_cons (dv 0) da_nil)) (nomark _)) (de_ix ixd_seq (dv 0) (dv 1)) (de_op od_addI (de_op od_mul de_int (dv 1)) de_int))))
    (dss_cons (ds_set (i := 3) nd rfl (by first | exact Or.inl rfl | exact Or.inr rfl) (de_op od_mul (de_op od_mod (de_callTy cd_intS rfl t.n_int rfl (da_cons (de_callB cd_abs rfl t.n_abs rfl (da_cons (dv 2) da_nil)) da_nil)) (de_op od_pow (de_op od_pow de_int de_int) de_int)) (de_callTy cd_intS rfl t.n_int rfl (da_cons (de_cmp od_geI (de_callB cd_abs rfl t.n_abs rfl (da_cons (dv 2) da_nil)) (de_op od_pow de_int de_int) (nomark _)) da_nil))))
    (dss_cons (ds_set (i := 4) nd rfl (by first | exact Or.inl rfl | exact Or.inr rfl) (de_op od_addI (de_op od_addI (de_op od_mul (de_op od_mod (de_callTy cd_intS rfl t.n_int rfl (da_cons (dv 2) da_nil)) de_int) de_int) (de_op od_mul (de_op od_mul de_int (dv 1)) (dv 1))) de_int))
    (dss_one (ds_ret (de_lstM (da_cons (dv 3) (da_cons (de_op od_mod (de_callTy cd_intS rfl t.n_int rfl (da_cons (dv 4) da_nil)) de_int) (da_cons de_int da_nil)))))))))
theorem S_l_take : FnScope N_l_take ["_law_jar_here", "_law_many"] (defScope s_l_take) := ⟨rfl, rfl, rfl, by decide +kernel, rfl, by decide +kernel, by decide +kernel⟩
theorem w_l_take [Gd] (t : Tx P w K mg base ad) {cdv : Value} (b : Bd 4 (cxOf (L2.CX P w) P w K mg base N_l_take "_law_take" (defScope s_l_take) f cdv A outer s H E) (WE0 E)) :
    DSs (cxOf (L2.CX P w) P w K mg base N_l_take "_law_take" (defScope s_l_take) f cdv A outer s H E) (WE0 E) (defBody s_l_take) (d_l_take ad) := by
  have nd := S_l_take.nd
  exact (dss_cons (ds_if (dt_cmp od_gtI (de_ix ixd_seq (dv 0) de_int) de_int (nomark _)) (dss_cons (ds_set (i := 2) nd rfl (by first | exact Or.inl rfl | exact Or.inr rfl) (de_op od_mod (de_callTy cd_intS rfl t.n_int rfl (da_cons (de_ix ixd_seq (dv 0) de_int) da_nil)) (dv 1)))
    (dss_cons (ds_setIx (dv 0) de_int (de_op od_fdiv (de_ix ixd_seq (dv 0) de_int) (dv 1)))
    (dss_one (ds_ret (dv 2))))) dss_nil)
    (dss_cons (ds_setIx (dv 0) de_int (de_op od_addI (de_ix ixd_seq (dv 0) de_int) de_int))
    (dss_cons (ds_set (i := 3) nd rfl (by first | exact Or.inl rfl | exact Or.inr rfl) (de_op od_mod (de_callTy cd_intS rfl t.n_int rfl (da_cons (de_op od_mul (de_op od_addI (de_op od_addI (de_ix ixd_seq (dv 0) de_int) (de_op od_mul (de_op od_mul de_int (de_ix ixd_seq (dv 0) de_int)) (de_ix ixd_seq (dv 0) de_int))) de_int) de_int) da_nil)) de_int))
    (dss_cons (ds_set (i := 3) nd rfl (by first | exact Or.inl rfl | exact Or.inr rfl) (de_op od_mod (de_callTy cd_intS rfl t.n_int rfl (da_cons (de_op od_mul (dv 3) (de_op od_addI (de_op od_mod (de_callTy cd_intS rfl t.n_int rfl (da_cons (dv 3) da_nil)) de_int) (de_op od_mul de_int (de_ix ixd_seq (dv 0) de_int)))) da_nil)) de_int))
    (dss_one (ds_ret (de_op od_mod (de_callTy cd_intS rfl t.n_int rfl (da_cons (de_op od_addI (de_op od_fdiv (dv 3) de_int) (de_op od_fdiv (dv 3) de_int)) da_nil)) (dv 1))))))))
theorem S_l_of : FnScope N_l_of ["_law_jar_here", "_law_some"] (defScope s_l_of) := ⟨rfl, rfl, rfl, by decide +kernel, rfl, by decide +kernel, by decide +kernel⟩
theorem w_l_of [Gd] (t : Tx P w K mg base ad) (g_l_take : GF P w K mg base "_law_take" 5 (sp_l_take ad)) {cdv : Value} (b : Bd 9 (cxOf (L2.CX P w) P w K mg base N_l_of "_law_of" (defScope s_l_of) f cdv A outer s H E) (WE0 E)) :
    DSs (cxOf (L2.CX P w) P w K mg base N_l_of "_law_of" (defScope s_l_of) f cdv A outer s H E) (WE0 E) (defBody s_l_of) (d_l_of ad) := by
  have nd := S_l_of.nd
  exact (dss_one (ds_ret (de_ix ixd_seq (dv 1) (de_call b g_l_take (by decide) rfl (da_cons (dv 0) (da_cons (de_callB cd_lenU rfl t.n_len rfl (da_cons (dv 1) da_nil)) da_nil))))))
theorem S_l_odd : FnScope N_l_odd ["_law_jar_here"] (defScope s_l_odd) := ⟨rfl, rfl, rfl, by decide +kernel, rfl, by decide +kernel, by decide +kernel⟩
theorem w_l_odd [Gd] (t : Tx P w K mg base ad) (g_l_of : GF P w K mg base "_law_of" 10 (sp_l_of ad)) {cdv : Value} (b : Bd 14 (cxOf (L2.CX P w) P w K mg base N_l_odd "_law_odd" (defScope s_l_odd) f cdv A outer s H E) (WE0 E)) :
    DSs (cxOf (L2.CX P w) P w K mg base N_l_odd "_law_odd" (defScope s_l_odd) f cdv A outer s H E) (WE0 E) (defBody s_l_odd) (d_l_odd ad) := by
  have nd := S_l_odd.nd
  exact (dss_one (ds_ret (de_call b g_l_of (by decide) rfl (da_cons (dv 0) (da_cons (de_lst (da_cons de_non (da_cons de_bl (da_cons de_bl (da_cons de_str (da_cons de_str (da_cons (de_tup da_nil) (da_cons (de_tup (da_cons de_int da_nil)) (da_cons (de_lst (da_cons de_int da_nil)) (da_cons de_dict0 (da_cons (de_dict1 de_str de_int) (da_cons de_str (da_cons (de_tup (da_cons (de_tup da_nil) da_nil)) da_nil))))))))))))) da_nil)))))
theorem S_l_kinds_of : FnScope N_l_kinds_of ["_law_error"] (defScope s_l_kinds_of) := ⟨rfl, rfl, rfl, by decide +kernel, rfl, by decide +kernel, by decide +kernel⟩
theorem w_l_kinds_of [Gd] (t : Tx P w K mg base ad) {cdv : Value} (b : Bd 4 (cxOf (L2.CX P w) P w K mg base N_l_kinds_of "_law_kinds_of" (defScope s_l_kinds_of) f cdv A outer s H E) (WE0 E)) :
    DSs (cxOf (L2.CX P w) P w K mg base N_l_kinds_of "_law_kinds_of" (defScope s_l_kinds_of) f cdv A outer s H E) (WE0 E) (defBody s_l_kinds_of) (d_l_kinds_of ad) := by
  have nd := S_l_kinds_of.nd
  exact (dss_cons (ds_set (i := 1) nd rfl (by first | exact Or.inl rfl | exact Or.inr rfl) (de_lstM (da_cons (de_callB (cd_isi t.hS t.hE t.hO t.hI) rfl t.n_isinstance rfl (da_cons (dv 0) (da_cons (de_glob rfl t.m_BadWorth) da_nil))) da_nil)))
    (dss_cons (ds_extend (dv 1) (de_lstM (da_cons (de_callB (cd_isi t.hS t.hE t.hO t.hI) rfl t.n_isinstance rfl (da_cons (dv 0) (da_cons (de_glob rfl t.m_NoQuotient) da_nil))) (da_cons (de_callB (cd_isi t.hS t.hE t.hO t.hI) rfl t.n_isinstance rfl (da_cons (dv 0) (da_cons (de_glob rfl t.m_BadText) da_nil))) (da_cons (de_callB (cd_isi t.hS t.hE t.hO t.hI) rfl t.n_isinstance rfl (da_cons (dv 0) (da_cons (de_glob rfl t.m_BadForm) da_nil))) da_nil)))))
    (dss_cons (ds_extend (dv 1) (de_lstM (da_cons (de_callB (cd_isi t.hS t.hE t.hO t.hI) rfl t.n_isinstance rfl (da_cons (dv 0) (da_cons (de_glob rfl t.m_NoUnknown) da_nil))) (da_cons (de_callB (cd_isi t.hS t.hE t.hO t.hI) rfl t.n_isinstance rfl (da_cons (dv 0) (da_cons (de_glob rfl t.m_BadPoint) da_nil))) (da_cons (de_callB (cd_isi t.hS t.hE t.hO t.hI) rfl t.n_isinstance rfl (da_cons (dv 0) (da_cons (de_glob rfl t.m_Missing) da_nil))) da_nil)))))
    (dss_cons (ds_extend (dv 1) (de_lstM (da_cons (de_callB (cd_isi t.hS t.hE t.hO t.hI) rfl t.n_isinstance rfl (da_cons (dv 0) (da_cons (de_glob rfl t.m_BadConditions) da_nil))) (da_cons (de_callB (cd_isi t.hS t.hE t.hO t.hI) rfl t.n_isinstance rfl (da_cons (dv 0) (da_cons (de_glob rfl t.m_TooMany) da_nil))) (da_cons (de_callB (cd_isi t.hS t.hE t.hO t.hI) rfl t.n_isinstance rfl (da_cons (dv 0) (da_cons (de_glob rfl t.m_BadProcedure) da_nil))) da_nil)))))
    (dss_cons (ds_extend (dv 1) (de_lstM (da_cons (de_callB (cd_isi t.hS t.hE t.hO t.hI) rfl t.n_isinstance rfl (da_cons (dv 0) (da_cons (de_glob rfl t.m_Contrary) da_nil))) (da_cons (de_callB (cd_isi t.hS t.hE t.hO t.hI) rfl t.n_isinstance rfl (da_cons (dv 0) (da_cons (de_glob rfl t.m_NoLine) da_nil))) (da_cons (de_callB (cd_isi t.hS t.hE t.hO t.hI) rfl t.n_isinstance rfl (da_cons (dv 0) (da_cons (de_glob rfl t.m_NotFree) da_nil))) da_nil)))))
    (dss_cons (ds_extend (dv 1) (de_lstM (da_cons (de_callB (cd_isi t.hS t.hE t.hO t.hI) rfl t.n_isinstance rfl (da_cons (dv 0) (da_cons (de_glob rfl t.m_BadBound) da_nil))) (da_cons (de_callB (cd_isi t.hS t.hE t.hO t.hI) rfl t.n_isinstance rfl (da_cons (dv 0) (da_cons (de_glob rfl t.m_Open) da_nil))) (da_cons (de_callB (cd_isi t.hS t.hE t.hO t.hI) rfl t.n_isinstance rfl (da_cons (dv 0) (da_cons (de_glob rfl t.m_BadThings) da_nil))) da_nil)))))
    (dss_cons (ds_extend (dv 1) (de_lstM (da_cons (de_callB (cd_isi t.hS t.hE t.hO t.hI) rfl t.n_isinstance rfl (da_cons (dv 0) (da_cons (de_glob rfl t.m_BadErrors) da_nil))) (da_cons (de_callB (cd_isi t.hS t.hE t.hO t.hI) rfl t.n_isinstance rfl (da_cons (dv 0) (da_cons (de_glob rfl t.m_BadReadings) da_nil))) (da_cons (de_callB (cd_isi t.hS t.hE t.hO t.hI) rfl t.n_isinstance rfl (da_cons (dv 0) (da_cons (de_glob rfl t.m_NoWay) da_nil))) da_nil)))))
    (dss_cons (ds_extend (dv 1) (de_lstM (da_cons (de_callB (cd_isi t.hS t.hE t.hO t.hI) rfl t.n_isinstance rfl (da_cons (dv 0) (da_cons (de_glob rfl t.m_BadWish) da_nil))) (da_cons (de_callB (cd_isi t.hS t.hE t.hO t.hI) rfl t.n_isinstance rfl (da_cons (dv 0) (da_cons (de_glob rfl t.m_NoThing) da_nil))) (da_cons (de_callB (cd_isi t.hS t.hE t.hO t.hI) rfl t.n_isinstance rfl (da_cons (dv 0) (da_cons (de_glob rfl t.m_BadWord) da_nil))) da_nil)))))
    (dss_cons (ds_extend (dv 1) (de_lstM (da_cons (de_callB (cd_isi t.hS t.hE t.hO t.hI) rfl t.n_isinstance rfl (da_cons (dv 0) (da_cons (de_glob rfl t.m_Unlike) da_nil))) (da_cons (de_callB (cd_isi t.hS t.hE t.hO t.hI) rfl t.n_isinstance rfl (da_cons (dv 0) (da_cons (de_glob rfl t.m_BadWishes) da_nil))) (da_cons (de_callB (cd_isi t.hS t.hE t.hO t.hI) rfl t.n_isinstance rfl (da_cons (dv 0) (da_cons (de_glob rfl t.m_BadOffers) da_nil))) da_nil)))))
    (dss_cons (ds_extend (dv 1) (de_lstM (da_cons (de_callB (cd_isi t.hS t.hE t.hO t.hI) rfl t.n_isinstance rfl (da_cons (dv 0) (da_cons (de_glob rfl t.m_Over) da_nil))) (da_cons (de_callB (cd_isi t.hS t.hE t.hO t.hI) rfl t.n_isinstance rfl (da_cons (dv 0) (da_cons (de_glob rfl t.m_NoVariable) da_nil))) (da_cons (de_callB (cd_isi t.hS t.hE t.hO t.hI) rfl t.n_isinstance rfl (da_cons (dv 0) (da_cons (de_glob rfl t.m_NotNext) da_nil))) da_nil)))))
    (dss_cons (ds_extend (dv 1) (de_lstM (da_cons (de_callB (cd_isi t.hS t.hE t.hO t.hI) rfl t.n_isinstance rfl (da_cons (dv 0) (da_cons (de_glob rfl t.m_NothingToUndo) da_nil))) (da_cons (de_callB (cd_isi t.hS t.hE t.hO t.hI) rfl t.n_isinstance rfl (da_cons (dv 0) (da_cons (de_glob rfl t.m_NothingToRedo) da_nil))) (da_cons (de_callB (cd_isi t.hS t.hE t.hO t.hI) rfl t.n_isinstance rfl (da_cons (dv 0) (da_cons (de_glob rfl t.m_BadJournal) da_nil))) da_nil)))))
    (dss_cons (ds_extend (dv 1) (de_lstM (da_cons (de_callB (cd_isi t.hS t.hE t.hO t.hI) rfl t.n_isinstance rfl (da_cons (dv 0) (da_cons (de_glob rfl t.m_BadLine) da_nil))) da_nil)))
    (dss_one (ds_ret (de_op od_addL (dv 1) (de_lst (da_cons (de_callB (cd_isi t.hS t.hE t.hO t.hI) rfl t.n_isinstance rfl (da_cons (dv 0) (da_cons (de_glob rfl t.m_Impossible) da_nil))) da_nil)))))))))))))))))
theorem S_l_created : FnScope N_l_created ["_law_value", "_law_paper"] (defScope s_l_created) := ⟨rfl, rfl, rfl, by decide +kernel, rfl, by decide +kernel, by decide +kernel⟩
theorem w_l_created [Gd] (t : Tx P w K mg base ad) {cdv : Value} (b : Bd 4 (cxOf (L2.CX P w) P w K mg base N_l_created "_law_created" (defScope s_l_created) f cdv A outer s H E) (WE0 E)) :
    DSs (cxOf (L2.CX P w) P w K mg base N_l_created "_law_created" (defScope s_l_created) f cdv A outer s H E) (WE0 E) (defBody s_l_created) (d_l_created ad) := by
  have nd := S_l_created.nd
  exact (dss_cons (ds_set (i := 2) nd rfl (by first | exact Or.inl rfl | exact Or.inr rfl) (de_lstM (da_cons (de_callN (cd_mkE (b.le (by decide)) rfl t.sc_BadWorth t.ic_BadWorth t.tI t.slip t.slipB) rfl t.m_BadWorth t.k_BadWorth (da_cons (dv 0) da_nil)) da_nil)))
    (dss_cons (ds_extend (dv 2) (de_lstM (da_cons (de_callN (cd_mkE (b.le (by decide)) rfl t.sc_NoQuotient t.ic_NoQuotient t.tI t.slip t.slipB) rfl t.m_NoQuotient t.k_NoQuotient (da_cons (dv 0) da_nil)) (da_cons (de_callN (cd_mkE (b.le (by decide)) rfl t.sc_BadText t.ic_BadText t.tI t.slip t.slipB) rfl t.m_BadText t.k_BadText (da_cons (dv 0) da_nil)) (da_cons (de_callN (cd_mkE (b.le (by decide)) rfl t.sc_BadForm t.ic_BadForm t.tI t.slip t.slipB) rfl t.m_BadForm t.k_BadForm (da_cons (dv 0) da_nil)) (da_cons (de_callN (cd_mkE (b.le (by decide)) rfl t.sc_NoUnknown t.ic_NoUnknown t.tI t.slip t.slipB) rfl t.m_NoUnknown t.k_NoUnknown (da_cons (dv 0) da_nil)) (da_cons (de_callN (cd_mkE (b.le (by decide)) rfl t.sc_BadPoint t.ic_BadPoint t.tI t.slip t.slipB) rfl t.m_BadPoint t.k_BadPoint (da_cons (dv 0) da_nil)) da_nil)))))))
    (dss_cons (ds_extend (dv 2) (de_lstM (da_cons (de_callN (cd_mkE (b.le (by decide)) rfl t.sc_Missing t.ic_Missing t.tI t.slip t.slipB) rfl t.m_Missing t.k_Missing (da_cons (dv 0) da_nil)) (da_cons (de_callN (cd_mkE (b.le (by decide)) rfl t.sc_BadConditions t.ic_BadConditions t.tI t.slip t.slipB) rfl t.m_BadConditions t.k_BadConditions (da_cons (dv 0) da_nil)) (da_cons (de_callN (cd_mkE (b.le (by decide)) rfl t.sc_TooMany t.ic_TooMany t.tI t.slip t.slipB) rfl t.m_TooMany t.k_TooMany (da_cons (dv 0) da_nil)) (da_cons (de_callN (cd_mkE (b.le (by decide)) rfl t.sc_BadProcedure t.ic_BadProcedure t.tI t.slip t.slipB) rfl t.m_BadProcedure t.k_BadProcedure (da_cons (dv 0) da_nil)) (da_cons (de_callN (cd_mkE (b.le (by decide)) rfl t.sc_Contrary t.ic_Contrary t.tI t.slip t.slipB) rfl t.m_Contrary t.k_Contrary (da_cons (dv 0) da_nil)) da_nil)))))))
    (dss_cons (ds_extend (dv 2) (de_lstM (da_cons (de_callN (cd_mkE (b.le (by decide)) rfl t.sc_NoLine t.ic_NoLine t.tI t.slip t.slipB) rfl t.m_NoLine t.k_NoLine (da_cons (dv 0) da_nil)) (da_cons (de_callN (cd_mkE (b.le (by decide)) rfl t.sc_NotFree t.ic_NotFree t.tI t.slip t.slipB) rfl t.m_NotFree t.k_NotFree (da_cons (dv 0) da_nil)) (da_cons (de_callN (cd_mkE (b.le (by decide)) rfl t.sc_BadBound t.ic_BadBound t.tI t.slip t.slipB) rfl t.m_BadBound t.k_BadBound (da_cons (dv 0) da_nil)) (da_cons (de_callN (cd_mkE (b.le (by decide)) rfl t.sc_Open t.ic_Open t.tI t.slip t.slipB) rfl t.m_Open t.k_Open (da_cons (dv 0) da_nil)) (da_cons (de_callN (cd_mkE (b.le (by decide)) rfl t.sc_BadThings t.ic_BadThings t.tI t.slip t.slipB) rfl t.m_BadThings t.k_BadThings (da_cons (dv 0) da_nil)) da_nil)))))))
    (dss_cons (ds_extend (dv 2) (de_lstM (da_cons (de_callN (cd_mkE (b.le (by decide)) rfl t.sc_BadErrors t.ic_BadErrors t.tI t.slip t.slipB) rfl t.m_BadErrors t.k_BadErrors (da_cons (dv 0) da_nil)) (da_cons (de_callN (cd_mkE (b.le (by decide)) rfl t.sc_BadReadings t.ic_BadReadings t.tI t.slip t.slipB) rfl t.m_BadReadings t.k_BadReadings (da_cons (dv 0) da_nil)) (da_cons (de_callN (cd_mkE (b.le (by decide)) rfl t.sc_NoWay t.ic_NoWay t.tI t.slip t.slipB) rfl t.m_NoWay t.k_NoWay (da_cons (dv 0) da_nil)) (da_cons (de_callN (cd_mkE (b.le (by decide)) rfl t.sc_BadWish t.ic_BadWish t.tI t.slip t.slipB) rfl t.m_BadWish t.k_BadWish (da_cons (dv 0) da_nil)) (da_cons (de_callN (cd_mkE (b.le (by decide)) rfl t.sc_NoThing t.ic_NoThing t.tI t.slip t.slipB) rfl t.m_NoThing t.k_NoThing (da_cons (dv 0) da_nil)) da_nil)))))))
    (dss_cons (ds_extend (dv 2) (de_lstM (da_cons (de_callN (cd_mkE (b.le (by decide)) rfl t.sc_BadWord t.ic_BadWord t.tI t.slip t.slipB) rfl t.m_BadWord t.k_BadWord (da_cons (dv 0) da_nil)) (da_cons (de_callN (cd_mkE (b.le (by decide)) rfl t.sc_Unlike t.ic_Unlike t.tI t.slip t.slipB) rfl t.m_Unlike t.k_Unlike (da_cons (dv 0) da_nil)) (da_cons (de_callN (cd_mkE (b.le (by decide)) rfl t.sc_BadWishes t.ic_BadWishes t.tI t.slip t.slipB) rfl t.m_BadWishes t.k_BadWishes (da_cons (dv 0) da_nil)) (da_cons (de_callN (cd_mkE (b.le (by decide)) rfl t.sc_BadOffers t.ic_BadOffers t.tI t.slip t.slipB) rfl t.m_BadOffers t.k_BadOffers (da_cons (dv 0) da_nil)) (da_cons (de_callN (cd_mkE (b.le (by decide)) rfl t.sc_Over t.ic_Over t.tI t.slip t.slipB) rfl t.m_Over t.k_Over (da_cons (dv 0) da_nil)) da_nil)))))))
    (dss_cons (ds_extend (dv 2) (de_lstM (da_cons (de_callN (cd_mkE (b.le (by decide)) rfl t.sc_NoVariable t.ic_NoVariable t.tI t.slip t.slipB) rfl t.m_NoVariable t.k_NoVariable (da_cons (dv 0) da_nil)) (da_cons (de_callN (cd_mkE (b.le (by decide)) rfl t.sc_NotNext t.ic_NotNext t.tI t.slip t.slipB) rfl t.m_NotNext t.k_NotNext (da_cons (dv 0) da_nil)) (da_cons (de_callN (cd_mkE (b.le (by decide)) rfl t.sc_NothingToUndo t.ic_NothingToUndo t.tI t.slip t.slipB) rfl t.m_NothingToUndo t.k_NothingToUndo (da_cons (dv 0) da_nil)) (da_cons (de_callN (cd_mkE (b.le (by decide)) rfl t.sc_NothingToRedo t.ic_NothingToRedo t.tI t.slip t.slipB) rfl t.m_NothingToRedo t.k_NothingToRedo (da_cons (dv 0) da_nil)) (da_cons (de_callN (cd_mkE (b.le (by decide)) rfl t.sc_BadJournal t.ic_BadJournal t.tI t.slip t.slipB) rfl t.m_BadJournal t.k_BadJournal (da_cons (dv 0) da_nil)) da_nil)))))))
    (dss_cons (ds_extend (dv 2) (de_lstM (da_cons (de_callN (cd_mkE (b.le (by decide)) rfl t.sc_BadLine t.ic_BadLine t.tI t.slip t.slipB) rfl t.m_BadLine t.k_BadLine (da_cons (dv 0) da_nil)) da_nil)))
    (dss_one (ds_ret (de_op od_addL (dv 2) (de_lst (da_cons (de_callN (cd_mkI (b.le (by decide)) rfl t.sx_Impossible t.ix_Impossible t.tx_Impossible t.im_Impossible) rfl t.m_Impossible t.k_Impossible (da_cons (dv 0) (da_cons (dv 1) da_nil))) da_nil)))))))))))))
theorem S_l_is_raised : FnScope N_l_is_raised ["_law_value", "_law_paper"] (defScope s_l_is_raised) := ⟨rfl, rfl, rfl, by decide +kernel, rfl, by decide +kernel, by decide +kernel⟩
theorem w_l_is_raised (t : Tx P w K mg base ad) (O : OwnR0 P w K mg base 25 ad.own) {cdv : Value} (b : Bd 39 (cxOf (L2.CX P w) P w K mg base N_l_is_raised "_law_is_raised" (defScope s_l_is_raised) f cdv A outer s H E) (WE0 E)) :
    DSs (cxOf (L2.CX P w) P w K mg base N_l_is_raised "_law_is_raised" (defScope s_l_is_raised) f cdv A outer s H E) (WE0 E) (defBody s_l_is_raised) (d_l_is_raised ad) := by
  have nd := S_l_is_raised.nd
  exact (dss_cons (ds_asg (de_tup (da_cons de_non (da_cons de_non da_nil))) (dg_tup rfl (dgs_cons (dg_name (i := 2) nd rfl (by first | exact Or.inl rfl | exact Or.inr rfl)) (dgs_cons (dg_name (i := 3) nd rfl (by first | exact Or.inl rfl | exact Or.inr rfl)) dgs_nil))))
    (dss_cons (ds_try_as rfl rfl rfl nd rfl rfl ⟨rfl, by decide, .inl t.m_SlipError⟩ b.tk t.hx_SlipError (fun W pn xe tk hp => (dss_one (ds_raise1 rfl (b.tr tk).tk t.sc_NoLine t.ic_NoLine t.tI t.slip ((b.tr tk).hr.mono (by decide)) t.slipB rfl t.m_NoLine (dv 0)))) (fun a pn => (dss_one (ds_set (i := 2) nd rfl (by first | exact Or.inl rfl | exact Or.inr rfl) (dv 4)))))
    (dss_cons (ds_try_as rfl rfl rfl nd rfl rfl ⟨rfl, by decide, .inl t.m_Impossible⟩ b.tk t.hx_Impossible (fun W pn xe tk hp => (dss_one (ds_raiseI rfl (b.tr tk).tk t.sx_Impossible t.ix_Impossible t.tx_Impossible t.im_Impossible ((b.tr tk).hr.mono (by decide)) rfl t.m_Impossible (dv 0) (dv 1)))) (fun a pn => (dss_one (ds_set (i := 3) nd rfl (by first | exact Or.inl rfl | exact Or.inr rfl) (dv 4)))))
    (dss_cons (ds_if (DWh.dt (dw_or (dt_not (dt_val (de_callB (cd_isi t.hS t.hE t.hO t.hI) rfl t.n_isinstance rfl (da_cons (dv 2) (da_cons (de_glob rfl t.m_NoLine) da_nil))))) (dw_or1 (dt_not (dt_val (de_callB (cd_isi t.hS t.hE t.hO t.hI) rfl t.n_isinstance rfl (da_cons (dv 3) (da_cons (de_glob rfl t.m_Impossible) da_nil)))))))) (dss_one (ds_ret de_bl)) dss_nil)
    (dss_one (ds_ret (de_cmp od_eqS (de_callB (cd_repr (k := 25) (n := 8) (b.le (by decide)) (OwnR.mk O.ex)) rfl t.n_repr rfl (da_cons (de_tup (da_cons (de_attr (ad_fld t.hV) (dv 2)) (da_cons (de_attr (ad_fld t.hV) (dv 3)) (da_cons (de_attr (ad_fld t.hP) (dv 3)) da_nil)))) da_nil)) (de_callB (cd_repr (k := 25) (n := 8) (b.le (by decide)) (OwnR.mk O.ex)) rfl t.n_repr rfl (da_cons (de_tup (da_cons (dv 0) (da_cons (dv 0) (da_cons (dv 1) da_nil)))) da_nil)) (nomark _))))))))
theorem S_l_fine : FnScope N_l_fine ["_law_jar_here"] (defScope s_l_fine) := ⟨rfl, rfl, rfl, by decide +kernel, rfl, by decide +kernel, by decide +kernel⟩
theorem w_l_fine (t : Tx P w K mg base ad) (g_l_odd : GF P w K mg base "_law_odd" 15 (sp_l_odd ad)) (f_Winit2 : GR P w K mg base ad.m_Winit 10 (sp_Winit ad)) (f_Finit2 : GR P w K mg base ad.m_Finit 30 (sp_Finit ad)) (f_Winit1 : GR P w K mg base ad.m_Winit 10 (sp1_Winit ad)) (g_l_of : GF P w K mg base "_law_of" 10 (sp_l_of ad)) (g_l_created : GF P w K mg base "_law_created" 5 (sp_l_created ad)) (g_l_kinds_of : GF P w K mg base "_law_kinds_of" 5 (sp_l_kinds_of ad)) (g_l_is_raised : GF P w K mg base "_law_is_raised" 40 (sp_l_is_raised ad)) (O : OwnR0 P w K mg base 25 ad.own) {cdv : Value} (b : Bd 44 (cxOf (L2.CX P w) P w K mg base N_l_fine "_law_fine" (defScope s_l_fine) f cdv A outer s H E) (WE0 E)) :
    DSs (cxOf (L2.CX P w) P w K mg base N_l_fine "_law_fine" (defScope s_l_fine) f cdv A outer s H E) (WE0 E) (defBody s_l_fine) (d_l_fine ad) := by
  have nd := S_l_fine.nd
  exact (dss_cons (ds_set (i := 1) nd rfl (by first | exact Or.inl rfl | exact Or.inr rfl) (de_lst (da_cons (de_call b g_l_odd (by decide) rfl (da_cons (dv 0) da_nil)) (da_cons (de_un ud_negI de_int) (da_cons de_int (da_cons de_str (da_cons (de_tup (da_cons (de_tup (da_cons de_int (da_cons de_int da_nil))) da_nil)) (da_cons (de_lst (da_cons (de_call b g_l_odd (by decide) rfl (da_cons (dv 0) da_nil)) da_nil)) (da_cons (de_callM (cd_make (b.le (by decide : 11 <= 44)) t.mk_Worth f_Winit2) rfl t.m_Worth t.k_Worth (da_cons de_int (da_cons de_int da_nil))) (da_cons (de_callM (cd_makeI (b.le (by decide : 31 <= 44)) t.mk_Form f_Finit2) rfl t.m_Form t.k_Form (da_cons (de_tup (da_cons (de_tup (da_cons de_str (da_cons de_int da_nil))) da_nil)) (da_cons de_int da_nil))) (da_cons (de_tup (da_cons (de_callM (cd_make (b.le (by decide : 11 <= 44)) t.mk_Worth f_Winit1) rfl t.m_Worth t.k_Worth (da_cons de_int da_nil)) da_nil)) da_nil)))))))))))
    (dss_cons (ds_par (i := 2) (j := 3) rfl nd rfl rfl (by decide) rfl rfl (da_cons (de_call b g_l_of (by decide) rfl (da_cons (dv 0) (da_cons (dv 1) da_nil))) (da_cons (de_call b g_l_of (by decide) rfl (da_cons (dv 0) (da_cons (dv 1) da_nil))) da_nil)) (by rfl))
    (dss_cons (ds_set (i := 4) nd rfl (by first | exact Or.inl rfl | exact Or.inr rfl) (de_call b g_l_created (by decide) rfl (da_cons (dv 2) (da_cons (dv 3) da_nil))))
    (dss_cons (ds_cut (ds_for (L2.passes_of rfl) rfl (di_enum rfl t.n_enumerate (da_cons (dv 4) da_nil)) (dg_tup rfl (dgs_cons (dg_name (i := 5) nd rfl (by first | exact Or.inl rfl | exact Or.inr rfl)) (dgs_cons (dg_name (i := 6) nd rfl (by first | exact Or.inl rfl | exact Or.inr rfl)) dgs_nil))) (dss_cons (ds_if (DWh.dt (dw_or (dt_cmp (od_neN b) (de_call b g_l_kinds_of (by decide) rfl (da_cons (dv 6) da_nil)) (de_cut (de_lc (own := [("_law_k", 7)]) rfl nd (di_range1 rfl t.n_range (da_cons (de_callB cd_lenU rfl t.n_len rfl (da_cons (dv 4) da_nil)) da_nil)) (blkOk_by (N := N_l_fine) (sc := defScope s_l_fine) (by decide +kernel)) (fun s H C cl fp => (dgw_name rfl nd (by first | exact Or.inl rfl | exact Or.inr rfl) (by decide))) (fun s H C cl fp => dts_nil) (fun s H C cl fp => (de_cmp od_eqS (dv 7) (dv 5) (nomark _))))) (nomark _)) (dw_or1 (dt_cmp od_neS (de_callB (cd_repr (k := 25) (n := 8) (b.le (by decide)) (OwnR.mk O.ex)) rfl t.n_repr rfl (da_cons (de_attr (ad_fld t.hV) (dv 6)) da_nil)) (de_callB (cd_repr (k := 25) (n := 8) (b.le (by decide)) (OwnR.mk O.ex)) rfl t.n_repr rfl (da_cons (dv 2) da_nil)) (nomark _))))) (dss_one (ds_ret de_bl)) dss_nil)
    (dss_one (ds_if (DWh.dt (dw_or (dt_not (dt_val (de_callB (cd_isi t.hS t.hE t.hO t.hI) rfl t.n_isinstance rfl (da_cons (dv 6) (da_cons (de_glob rfl t.m_SlipError) da_nil))))) (dw_or1 (dt_not (dt_val (de_callB (cd_isi t.hS t.hE t.hO t.hI) rfl t.n_isinstance rfl (da_cons (dv 6) (da_cons (de_bty rfl t.n_ValueError rfl) da_nil)))))))) (dss_one (ds_ret de_bl)) dss_nil)))))
    (dss_cons (ds_set (i := 8) nd rfl (by first | exact Or.inl rfl | exact Or.inr rfl) (de_callN (cd_mkE (b.le (by decide)) rfl t.sc_SlipError t.ic_SlipError t.tI t.slip t.slipB) rfl t.m_SlipError t.k_SlipError (da_cons (dv 2) da_nil)))
    (dss_cons (ds_if (DWh.dt (dw_or (dt_cmp (od_neN b) (de_call b g_l_kinds_of (by decide) rfl (da_cons (dv 8) da_nil)) (de_op od_repL (de_lst (da_cons de_bl da_nil)) (de_callB cd_lenU rfl t.n_len rfl (da_cons (dv 4) da_nil))) (nomark _)) (dw_or1 (dt_cmp od_neS (de_callB (cd_repr (k := 25) (n := 8) (b.le (by decide)) (OwnR.mk O.ex)) rfl t.n_repr rfl (da_cons (de_tup (da_cons (de_attr (ad_fld t.hV) (dv 8)) (da_cons (de_attr (ad_fld t.hP) (de_ix ixd_seq (dv 4) (de_un ud_negI de_int))) da_nil))) da_nil)) (de_callB (cd_repr (k := 25) (n := 8) (b.le (by decide)) (OwnR.mk O.ex)) rfl t.n_repr rfl (da_cons (de_tup (da_cons (dv 2) (da_cons (dv 3) da_nil))) da_nil)) (nomark _))))) (dss_one (ds_ret de_bl)) dss_nil)
    (dss_one (ds_ret (de_call b g_l_is_raised (by decide) rfl (da_cons (dv 2) (da_cons (dv 3) da_nil)))))))))))
theorem S_law : FnScope N_law ["_law_script"] (defScope s_law) := ⟨rfl, rfl, rfl, by decide +kernel, rfl, by decide +kernel, by decide +kernel⟩
theorem w_law [Gd] (t : Tx P w K mg base ad) (g_l_fine : GF P w K mg base "_law_fine" 45 (sp_l_fine ad)) (g_l_jar : GF P w K mg base "_law_jar" 5 (sp_l_jar ad)) {cdv : Value} (b : Bd 49 (cxOf (L2.CX P w) P w K mg base N_law "law" (defScope s_law) f cdv A outer s H E) (WE0 E)) :
    DSs (cxOf (L2.CX P w) P w K mg base N_law "law" (defScope s_law) f cdv A outer s H E) (WE0 E) (defBody s_law) (d_law ad) := by
  have nd := S_law.nd
  exact (dss_one (ds_ret (de_callB (cd_all rfl) rfl t.n_all rfl (da_cons (de_cut (de_lc (own := [("_law_k", 1)]) rfl nd (di_range1 rfl t.n_range (da_cons (de_callB (cd_max rfl) rfl t.n_max rfl (da_cons de_int (da_cons (de_callB (cd_min rfl) rfl t.n_min rfl (da_cons (de_callB cd_lenU rfl t.n_len rfl (da_cons (dv 0) da_nil)) (da_cons de_int da_nil))) da_nil))) da_nil)) (blkOk_by (N := N_law) (sc := defScope s_law) (by decide +kernel)) (fun s H C cl fp => (dgw_name rfl nd (by first | exact Or.inl rfl | exact Or.inr rfl) (by decide))) (fun s H C cl fp => dts_nil) (fun s H C cl fp => (de_call (b.blk s H _ _ fp) g_l_fine (by decide) rfl (da_cons (de_call (b.blk s H _ _ fp) g_l_jar (by decide) rfl (da_cons (dv 0) (da_cons (dv 1) da_nil))) da_nil))))) da_nil))))
end K1
namespace K1
open PySem PySem.Spec PyProof.Rows L2 VX DL RQ TL Srt
variable {ad : Ad} {ds : List D} {T : Td} {Q : KD} {E : XD}
structure PL (T0 T : Td) (p : Addr) (xs : List D) : Prop where
  at_ : T p = some (.lst xs)
  up : Kx T0 T
  n0 : T0 p = none
theorem PL.first {p : Addr} {xs : List D} (h : T p = none) : PL T (tput T p (.lst xs)) p xs := ⟨tput_same, fun b o e => by rw [tput_ne (fun z => by rw [z, h] at e; cases e)]; exact e, h⟩
theorem ext_end {T0 T : Td} {p : Addr} {xs ys : List D} {N : Td -> Prop} (hp : PL T0 T p xs) (h1 : xs.length <= 1000) (h2 : ys.length <= 1000) (k : ∀ T', PL T0 T' p (xs ++ ys) -> N T') :
    ys.length <= sizeLine /\ ∀ p1, T p1 = none -> ∃ a b xs' ys', D.ref p = .ref a /\ D.ref p1 = .ref b /\ tput T p1 (.lst ys) a = some (.lst xs') /\ (tput T p1 (.lst ys)) b = some (.lst ys') /\ xs'.length + ys'.length <= sizeLine /\ N (tput (tput T p1 (.lst ys)) a (.lst (xs' ++ ys'))) := by
  refine ⟨sz (by omega), fun p1 n1 => ?_⟩
  have ne : p ≠ p1 := fun z => by have q := hp.at_; rw [z, n1] at q; cases q
  refine ⟨p, p1, xs, ys, rfl, rfl, by rw [tput_ne ne]; exact hp.at_, tput_same, sz (by omega), k _ ⟨tput_same, fun b o e => ?_, hp.n0⟩⟩
  have z1 := hp.up b o e
  rw [tput_ne (fun z => by rw [z, hp.n0] at e; cases e), tput_ne (fun z => by rw [z, n1] at z1; cases z1)]
  exact z1
theorem cat_end {T0 T : Td} {p : Addr} {xs ys : List D} (hp : PL T0 T p xs) (h1 : xs.length <= 1000) (h2 : ys.length <= 1000) (k : ∀ T', Kx T0 T' -> Q (.lst (xs ++ ys)) T') : O2 rLL (.ref p) (.lst ys) T Q E := ⟨by
  have e : itemsD T (.ref p) = some xs := by show (match T p with | some (.lst xs) => some xs | _ => none) = _; rw [hp.at_]
  unfold rLL
  rw [e]
  exact ⟨rfl, rfl, sz (by omega), k _ hp.up⟩⟩
theorem h_l_kinds_of (h : sp_l_kinds_of ad ds T Q E) : d_l_kinds_of ad (endsD Q E) (startD N_l_kinds_of ds) T := by
  obtain ⟨C, ns, ys, β, rfl, hC, hi, hq⟩ := h.h
  have is_ : ∀ (i : Nat) (D0 : Addr), (ecs ad)[i]? = some D0 -> ∀ {T : Td} {Q : KD} {E : XD}, Q (.bl (β i)) T -> OL (rIsiD (inS ad) (inE ad) (inO ad) ad.inst) [.exc (.ref C) ns ys, .val (.ref D0)] T Q E := fun i D0 e {T Q E} q =>
    q_isi (k := .exc C) (by show (if inE ad C = true then some (Kd.exc C) else none) = _; rw [if_pos hC]) rfl (hi i D0 e) q
  refine is_ 0 _ rfl ?_
  refine ⟨sz_ rfl, fun p n => ?_⟩
  have h0 := PL.first (xs := [.bl (β 0)]) n
  generalize tput T p (.lst [.bl (β 0)]) = T0 at h0 ⊢
  refine ⟨⟨p, _, rfl, h0.at_⟩, ?_⟩
  refine is_ 1 _ rfl ?_
  refine is_ 2 _ rfl ?_
  refine is_ 3 _ rfl ?_
  refine ext_end (N := fun T' => _) h0 (Nat.le_of_ble_eq_true rfl) (Nat.le_of_ble_eq_true rfl) fun T1 h1 => ?_
  refine ⟨⟨p, _, rfl, h1.at_⟩, ?_⟩
  refine is_ 4 _ rfl ?_
  refine is_ 5 _ rfl ?_
  refine is_ 6 _ rfl ?_
  refine ext_end (N := fun T' => _) h1 (Nat.le_of_ble_eq_true rfl) (Nat.le_of_ble_eq_true rfl) fun T2 h2 => ?_
  refine ⟨⟨p, _, rfl, h2.at_⟩, ?_⟩
  refine is_ 7 _ rfl ?_
  refine is_ 8 _ rfl ?_
  refine is_ 9 _ rfl ?_
  refine ext_end (N := fun T' => _) h2 (Nat.le_of_ble_eq_true rfl) (Nat.le_of_ble_eq_true rfl) fun T3 h3 => ?_
  refine ⟨⟨p, _, rfl, h3.at_⟩, ?_⟩
  refine is_ 10 _ rfl ?_
  refine is_ 11 _ rfl ?_
  refine is_ 12 _ rfl ?_
  refine ext_end (N := fun T' => _) h3 (Nat.le_of_ble_eq_true rfl) (Nat.le_of_ble_eq_true rfl) fun T4 h4 => ?_
  refine ⟨⟨p, _, rfl, h4.at_⟩, ?_⟩
  refine is_ 13 _ rfl ?_
  refine is_ 14 _ rfl ?_
  refine is_ 15 _ rfl ?_
  refine ext_end (N := fun T' => _) h4 (Nat.le_of_ble_eq_true rfl) (Nat.le_of_ble_eq_true rfl) fun T5 h5 => ?_
  refine ⟨⟨p, _, rfl, h5.at_⟩, ?_⟩
  refine is_ 16 _ rfl ?_
  refine is_ 17 _ rfl ?_
  refine is_ 18 _ rfl ?_
  refine ext_end (N := fun T' => _) h5 (Nat.le_of_ble_eq_true rfl) (Nat.le_of_ble_eq_true rfl) fun T6 h6 => ?_
  refine ⟨⟨p, _, rfl, h6.at_⟩, ?_⟩
  refine is_ 19 _ rfl ?_
  refine is_ 20 _ rfl ?_
  refine is_ 21 _ rfl ?_
  refine ext_end (N := fun T' => _) h6 (Nat.le_of_ble_eq_true rfl) (Nat.le_of_ble_eq_true rfl) fun T7 h7 => ?_
  refine ⟨⟨p, _, rfl, h7.at_⟩, ?_⟩
  refine is_ 22 _ rfl ?_
  refine is_ 23 _ rfl ?_
  refine is_ 24 _ rfl ?_
  refine ext_end (N := fun T' => _) h7 (Nat.le_of_ble_eq_true rfl) (Nat.le_of_ble_eq_true rfl) fun T8 h8 => ?_
  refine ⟨⟨p, _, rfl, h8.at_⟩, ?_⟩
  refine is_ 25 _ rfl ?_
  refine is_ 26 _ rfl ?_
  refine is_ 27 _ rfl ?_
  refine ext_end (N := fun T' => _) h8 (Nat.le_of_ble_eq_true rfl) (Nat.le_of_ble_eq_true rfl) fun T9 h9 => ?_
  refine ⟨⟨p, _, rfl, h9.at_⟩, ?_⟩
  refine is_ 28 _ rfl ?_
  refine is_ 29 _ rfl ?_
  refine is_ 30 _ rfl ?_
  refine ext_end (N := fun T' => _) h9 (Nat.le_of_ble_eq_true rfl) (Nat.le_of_ble_eq_true rfl) fun T10 h10 => ?_
  refine ⟨⟨p, _, rfl, h10.at_⟩, ?_⟩
  refine is_ 31 _ rfl ?_
  refine ext_end (N := fun T' => _) h10 (Nat.le_of_ble_eq_true rfl) (Nat.le_of_ble_eq_true rfl) fun T11 h11 => ?_
  refine is_ 32 _ rfl ?_
  refine ⟨sz_ rfl, ?_⟩
  exact cat_end h11 (Nat.le_of_ble_eq_true rfl) (Nat.le_of_ble_eq_true rfl) fun T' u => hq T' u
theorem h_l_created (h : sp_l_created ad ds T Q E) : d_l_created ad (endsD Q E) (startD N_l_created ds) T := by
  obtain ⟨v, y, rfl, hq⟩ := h.h
  refine ⟨v, rfl, ?_⟩
  refine ⟨sz_ rfl, fun p n => ?_⟩
  have h0 := PL.first (xs := [.exc (.ref ad.BadWorth) ["value"] [v]]) n
  revert h0
  generalize tput T p (.lst [.exc (.ref ad.BadWorth) ["value"] [v]]) = T0
  intro h0
  refine ⟨⟨p, _, rfl, h0.at_⟩, ?_⟩
  refine ⟨v, rfl, ?_⟩
  refine ⟨v, rfl, ?_⟩
  refine ⟨v, rfl, ?_⟩
  refine ⟨v, rfl, ?_⟩
  refine ⟨v, rfl, ?_⟩
  refine ext_end (N := fun T' => _) h0 (Nat.le_of_ble_eq_true rfl) (Nat.le_of_ble_eq_true rfl) fun T1 h1 => ?_
  refine ⟨⟨p, _, rfl, h1.at_⟩, ?_⟩
  refine ⟨v, rfl, ?_⟩
  refine ⟨v, rfl, ?_⟩
  refine ⟨v, rfl, ?_⟩
  refine ⟨v, rfl, ?_⟩
  refine ⟨v, rfl, ?_⟩
  refine ext_end (N := fun T' => _) h1 (Nat.le_of_ble_eq_true rfl) (Nat.le_of_ble_eq_true rfl) fun T2 h2 => ?_
  refine ⟨⟨p, _, rfl, h2.at_⟩, ?_⟩
  refine ⟨v, rfl, ?_⟩
  refine ⟨v, rfl, ?_⟩
  refine ⟨v, rfl, ?_⟩
  refine ⟨v, rfl, ?_⟩
  refine ⟨v, rfl, ?_⟩
  refine ext_end (N := fun T' => _) h2 (Nat.le_of_ble_eq_true rfl) (Nat.le_of_ble_eq_true rfl) fun T3 h3 => ?_
  refine ⟨⟨p, _, rfl, h3.at_⟩, ?_⟩
  refine ⟨v, rfl, ?_⟩
  refine ⟨v, rfl, ?_⟩
  refine ⟨v, rfl, ?_⟩
  refine ⟨v, rfl, ?_⟩
  refine ⟨v, rfl, ?_⟩
  refine ext_end (N := fun T' => _) h3 (Nat.le_of_ble_eq_true rfl) (Nat.le_of_ble_eq_true rfl) fun T4 h4 => ?_
  refine ⟨⟨p, _, rfl, h4.at_⟩, ?_⟩
  refine ⟨v, rfl, ?_⟩
  refine ⟨v, rfl, ?_⟩
  refine ⟨v, rfl, ?_⟩
  refine ⟨v, rfl, ?_⟩
  refine ⟨v, rfl, ?_⟩
  refine ext_end (N := fun T' => _) h4 (Nat.le_of_ble_eq_true rfl) (Nat.le_of_ble_eq_true rfl) fun T5 h5 => ?_
  refine ⟨⟨p, _, rfl, h5.at_⟩, ?_⟩
  refine ⟨v, rfl, ?_⟩
  refine ⟨v, rfl, ?_⟩
  refine ⟨v, rfl, ?_⟩
  refine ⟨v, rfl, ?_⟩
  refine ⟨v, rfl, ?_⟩
  refine ext_end (N := fun T' => _) h5 (Nat.le_of_ble_eq_true rfl) (Nat.le_of_ble_eq_true rfl) fun T6 h6 => ?_
  refine ⟨⟨p, _, rfl, h6.at_⟩, ?_⟩
  refine ⟨v, rfl, ?_⟩
  refine ext_end (N := fun T' => _) h6 (Nat.le_of_ble_eq_true rfl) (Nat.le_of_ble_eq_true rfl) fun T7 h7 => ?_
  refine ⟨v, y, rfl, ?_⟩
  refine ⟨sz_ rfl, ?_⟩
  exact cat_end h7 (Nat.le_of_ble_eq_true rfl) (Nat.le_of_ble_eq_true rfl) fun T' u => hq T' u
end K1
namespace K1
open PySem PySem.Spec PyProof.Rows L2 VX DL RQ TL Srt
variable {ad : Ad} {ds : List D} {T : Td} {Q : KD} {E : XD}
theorem mkP {o : AdF ad} {dl : List D} {t : FT} {y : D} {r : Rat} (hp : Pts ad dl t) (hg : partsD ad (.tup dl) = true) (hv : Vl ad (.tup dl)) (hl : dl.length < 64) (hy : Num ad y r) (hq : Q (fm ad (nz t) r) T) (x : Addr) (hx : T x = none) :
    sp_Finit ad [.ref x, .tup dl, y] (tput T x (.ins ad.Form [] [])) (fun r T2 => r = .non /\ ∃ ns ys, T2 x = some (.ins ad.Form ns ys) /\ Q (.obj ad.Form ns ys) (tdel T2 x)) (fun ex T2 => E ex (tdel T2 x)) := by
  refine ⟨x, _, y, rfl, tput_same, hv, vl_num o.toAdW hy, fun ps e => ?_, .inl ⟨_, t, r, rfl, hp, hg, hy, rfl, ["table", "last"], [tbD ad (nz t), wq ad r], tput_same, ?_⟩⟩
  . have e' : dl = ps := by injection e
    rw [<- e']
    exact hl
  . rw [tput_put, tdel_put hx]
    exact hq
theorem q_mk2 (o : AdF ad) {dl : List D} {t : FT} {y : D} {r : Rat} (hp : Pts ad dl t) (hg : partsD ad (.tup dl) = true) (hv : Vl ad (.tup dl)) (hl : dl.length < 64) (hy : Num ad y r) (hq : Q (fm ad (nz t) r) T) : OL (rMakeI ad.Form (sp_Finit ad)) [.tup dl, y] T Q E := ⟨fun x hx => mkP (o := o) hp hg hv hl hy hq x hx⟩
theorem pg1 : partsD ad (.tup [.tup [.str "x", .int 1]]) = true := by
  show ((((unkS "x" && true) && true) && decide ([("x" : Str)]).Nodup) && decide ([("x" : Str)] = srtS [("x" : Str)])) = true
  rw [show srtS [("x" : Str)] = [("x" : Str)] from srt_self (by simp), show unkS "x" = true by decide +kernel]
  decide +kernel
theorem vl1 : Vl ad (.tup [.tup [.str "x", .int 1]]) := ⟨Nat.le_of_ble_eq_true rfl, ⟨Nat.le_of_ble_eq_true rfl, (show ("x" : Str).length <= 10000 by decide), trivial, trivial⟩, trivial⟩
theorem fm_s {t : FT} {r : Rat} (nd : (keys t).Nodup) (le : t.length < 64) (hz : ∀ p ∈ t, RQ.sz p.2 <= 30 /\ p.1.length <= 100) (hr : RQ.sz r <= 30) : FmOk t r := { nd := nd, le := le, tx := fun p hp => tx_of (hz p hp).1 (by decide), nm := fun p hp => (hz p hp).2, rx := tx_of hr (by decide) }
theorem sz_p1 : RQ.sz ((1 : Int) : Rat) <= 30 := by decide +kernel
def tX : FT := [(("x" : Str), ((1 : Int) : Rat))]
theorem nz_1 : nz tX = tX := by decide +kernel
theorem pts1 : Pts ad [.tup [.str "x", .int 1]] tX := .cons (.int 1) .nil
theorem fm_x {r : Rat} (hr : RQ.sz r <= 30) : FmOk tX r := fm_s (by simp [tX, keys]) (by show 1 < 64; decide) (fun p hp => by rw [List.mem_singleton.1 hp]; exact ⟨sz_p1, by decide⟩) hr
theorem q_mkX2 (o : AdF ad) {i : Int} (hq : Q (fm ad tX (i : Rat)) T) : OL (rMakeI ad.Form (sp_Finit ad)) [.tup [.tup [.str "x", .int 1]], .int i] T Q E := q_mk2 o (t := tX) pts1 pg1 vl1 (by show 1 < 64; decide) (.int i) (by rw [nz_1]; exact hq)
end K1
namespace K1
open PySem PySem.Spec PyProof.Rows L2 VX DL RQ TL Srt
variable {ad : Ad} {ds : List D} {T : Td} {Q : KD} {E : XD}
theorem Kx.refl : Kx T T := fun _ _ e => e
theorem q_fldI {C : Addr} {f : Str} {p v d : D} (he : inE ad C = true) (hl : lookD f ["paper", "value"] [p, v] = some d) (hq : Q d T) : O1 (rFld (inE ad) f) (imD C v p) T Q E := ⟨by
  refine ⟨he, ?_⟩
  rw [hl]
  exact hq⟩
theorem q_valI {C : Addr} {p v : D} (he : inE ad C = true) (hq : Q v T) : O1 (rFld (inE ad) "value") (.exc (.ref C) ["paper", "value"] [p, v]) T Q E := q_fldI (d := v) he (by
  have n : (("value" : Str) = "paper") = False := by decide
  simp [lookD]
  intro z
  exact absurd z (by decide)) hq
theorem q_papI {C : Addr} {p v : D} (he : inE ad C = true) (hq : Q p T) : O1 (rFld (inE ad) "paper") (.exc (.ref C) ["paper", "value"] [p, v]) T Q E := q_fldI (d := p) he (by simp [lookD]) hq
theorem h_l_is_raised (o : AdX ad) (h : sp_l_is_raised ad ds T Q E) : d_l_is_raised ad (endsD Q E) (startD N_l_is_raised ds) T := by
  obtain ⟨v, y, rfl, rv, ry, hq⟩ := h.h
  have eN : inE ad ad.NoLine = true := o.ex _ (by simp [ecs])
  have eI : inE ad ad.Impossible = true := o.ex _ (by simp [ecs])
  refine ⟨sz_ rfl, rfl, rfl, ?_⟩
  refine cond_C o.xl ?_
  refine ⟨true, o.xi, fun _ => ⟨fun z => (nomatch z), ?_⟩, fun z => (nomatch z)⟩
  refine q_isE o.toAdB eN (IfP.f rfl (q_isE o.toAdB eI (IfP.f rfl ?_)))
  refine q_valE eN (q_valI eI (q_papI eI ?_))
  obtain ⟨t, ht, _⟩ := (rv_tup (ad := ad) (ds := [v, v, y]) (L := 400000) (k := 6) (fun x hx => by
    simp only [List.mem_cons, List.not_mem_nil, or_false] at hx
    rcases hx with rfl | rfl | rfl
    . exact rv
    . exact rv
    . exact ry) (by show 3 * 400002 <= 9000000; omega)).rp
  have dp := (rv_tup (ad := ad) (ds := [v, v, y]) (L := 400000) (k := 6) (fun x hx => by
    simp only [List.mem_cons, List.not_mem_nil, or_false] at hx
    rcases hx with rfl | rfl | rfl
    . exact rv
    . exact rv
    . exact ry) (by show 3 * 400002 <= 9000000; omega)).dp
  refine ⟨sz_ rfl, q_repr ht dp ?_⟩
  refine ⟨sz_ rfl, q_repr ht dp (q_eqT ?_)⟩
  rw [decide_eq_true rfl]
  exact hq _ Kx.refl
end K1
namespace K1
open PySem PySem.Spec PyProof.Rows L2 VX DL RQ TL Srt
theorem range_drop {n i : Nat} (h : i < n) : (List.range n).drop i = i :: (List.range n).drop (i + 1) := by
  rw [List.drop_eq_getElem_cons (by rw [List.length_range]; exact h), List.getElem_range]
theorem map_drop_range {α : Type} (f : Nat -> α) {n i : Nat} (h : i < n) : ((List.range n).map f).drop i = f i :: ((List.range n).map f).drop (i + 1) := by
  rw [<- List.map_drop, range_drop h, List.map_cons, List.map_drop]
section
variable {g : TDG} {tb : TDS} {D : DEnds} {gd : Td -> Prop}
theorem loop_ix (I : Nat -> SD -> Td -> Prop) (n : Nat) (f : Nat -> DL.D) (hg : ∀ i sd T, i <= n -> I i sd T -> gd T)
    (ht : ∀ i sd T (D' : DEnds), i < n -> I i sd T -> D'.rt = D.rt -> D'.xe = D.xe -> (∀ sd' T', I (i + 1) sd' T' -> D'.nx sd' T') -> (∀ sd' T', I (i + 1) sd' T' -> D'.ct sd' T') -> g (f i) sd T fun sd2 T2 => tb D' sd2 T2) (h : ∀ sd T, I n sd T -> D.nx sd T) :
    ∀ (k i : Nat) (sd : SD) (T : Td), i + k = n -> I i sd T -> dLoop g tb gd D (((List.range n).map f).drop i) sd T
  | 0, i, sd, T, e, hI => by
    rw [List.drop_eq_nil_of_le (by rw [List.length_map, List.length_range]; omega)]
    have e' : i = n := e
    rw [e'] at hI
    exact ⟨hg n sd T (Nat.le_refl n) hI, h sd T hI⟩
  | k + 1, i, sd, T, e, hI => by
    rw [map_drop_range f (show i < n by omega)]
    exact ⟨hg i sd T (by omega) hI, ht i sd T _ (by omega) hI rfl rfl (fun sd' T' I' => loop_ix I n f hg ht h k (i + 1) sd' T' (by omega) I') (fun sd' T' I' => loop_ix I n f hg ht h k (i + 1) sd' T' (by omega) I')⟩
theorem for_ix {wi : TDI} (I : Nat -> SD -> Td -> Prop) (n : Nat) (f : Nat -> DL.D) {sd : SD} {T : Td} (hw : ∀ R E, R ((List.range n).map f) gd T -> wi sd T R E) (h0 : I 0 sd T) (hg : ∀ i sd T, i <= n -> I i sd T -> gd T)
    (ht : ∀ i sd T (D' : DEnds), i < n -> I i sd T -> D'.rt = D.rt -> D'.xe = D.xe -> (∀ sd' T', I (i + 1) sd' T' -> D'.nx sd' T') -> (∀ sd' T', I (i + 1) sd' T' -> D'.ct sd' T') -> g (f i) sd T fun sd2 T2 => tb D' sd2 T2) (h : ∀ sd T, I n sd T -> D.nx sd T) :
    CutS (dFor wi g tb) D sd T := ⟨hw _ _ (loop_ix I n f hg ht h n 0 sd T (Nat.zero_add n) h0)⟩
end
end K1
namespace K1
open PySem PySem.Spec PyProof.Rows L2 VX DL RQ TL Srt
variable {ad : Ad} {ds : List D} {T : Td} {Q : KD} {E : XD}
theorem bls_py (T : Td) : ∀ bs : List Bool, pyDs T (bs.map D.bl) = some (bs.map PyData.bool)
  | [] => rfl
  | b :: bs => by
    show (match pyD T (D.bl b), pyDs T (bs.map D.bl) with | some d, some ds => some (d :: ds) | _, _ => none) = _
    rw [bls_py T bs]
    rfl
theorem bls_eqv : ∀ bs : List Bool, PyData.eqvAll (bs.map PyData.bool) (bs.map PyData.bool) = true
  | [] => by simp [PyData.eqvAll]
  | b :: bs => by
    rw [List.map_cons, PyData.eqvAll, bls_eqv bs]
    cases b <;> simp [PyData.eqv]
theorem sh_bls (bs : List Bool) : SeqAt.shaped (.list (bs.map PyData.bool)) = true := by
  have h1 : PyData.canLayAll0 (bs.map PyData.bool) = true := by
    induction bs with
    | nil => rfl
    | cons s ss ih =>
      show (PyData.canLay0 (.bool s) && PyData.canLayAll0 (ss.map PyData.bool)) = true
      rw [ih]
      rfl
  have h2 : PyData.depthAll (bs.map PyData.bool) = 0 := by
    clear h1
    induction bs with
    | nil => rfl
    | cons s ss ih =>
      show max (PyData.depth (.bool s)) (PyData.depthAll (ss.map PyData.bool)) = 0
      rw [ih]
      rfl
  unfold SeqAt.shaped
  rw [Bool.and_eq_true]
  refine ⟨h1, decide_eq_true ?_⟩
  show PyData.depthAll _ + 1 <= 64
  rw [h2]
  decide
theorem q_neB {bs : List Bool} (hq : Q (.bl false) T) : O2 (rEqN (!·)) (.lst (bs.map D.bl)) (.lst (bs.map D.bl)) T Q E := by
  have e : pyD T (.lst (bs.map D.bl)) = some (.list (bs.map PyData.bool)) := by
    show (pyDs T (bs.map D.bl)).map PyData.list = _
    rw [bls_py T bs]
    rfl
  refine q_eqN e e (sh_bls bs) (sh_bls bs) ?_
  rw [PyData.eqv, bls_eqv]
  exact hq
theorem ers_at {v p : D} {i : Nat} (hi : i < 33) : ∃ C ns ys, (ersD ad v p)[i]? = some (.exc (.ref C) ns ys) /\ (ecs ad)[i]? = some C /\ ∀ {T : Td} {Q : KD} {E : XD}, inE ad C = true -> Q v T -> O1 (rFld (inE ad) "value") (.exc (.ref C) ns ys) T Q E := by
  by_cases h : i < 32
  . obtain ⟨C, hC⟩ : ∃ C, (ecs ad)[i]? = some C := ⟨(ecs ad)[i]'(by show i < 33; omega), List.getElem?_eq_getElem _⟩
    refine ⟨C, ["value"], [v], ?_, hC, fun he hq => q_valE he hq⟩
    unfold ersD
    rw [List.getElem?_append_left (by rw [List.length_map, List.length_take]; show i < min 32 33; omega), List.getElem?_map, List.getElem?_take, if_pos h, hC]
    rfl
  . obtain rfl : i = 32 := by omega
    exact ⟨ad.Impossible, ["paper", "value"], [p, v], rfl, rfl, fun he hq => q_valI he hq⟩
def erN (ad : Ad) (v p : D) (i : Nat) : D := ((ersD ad v p)[i]?).getD .non
theorem enum_ers (v p : D) : enumD (ersD ad v p) = (List.range 33).map fun i => .tup [.int (i : Nat), erN ad v p i] := rfl
theorem u_kinds {C : Addr} {ns : List Str} {ys : List D} (β : Nat -> Bool) (he : inE ad C = true) (hb : ∀ (i : Nat) (D : Addr), (ecs ad)[i]? = some D -> ad.inst (.ref C) (.ref D) = some (β i)) (hq : ∀ T', Kx T T' -> Q (.lst (((List.range 33).map β).map D.bl)) T') : sp_l_kinds_of ad [.exc (.ref C) ns ys] T Q E :=
  ⟨C, ns, ys, β, rfl, he, hb, fun T' k => by
    have z := hq T' k
    rw [List.map_map] at z
    exact z⟩
theorem nd_inj : ∀ {l : List Addr}, l.Nodup -> ∀ {i j : Nat} {x : Addr}, l[i]? = some x -> l[j]? = some x -> i = j
  | [], _, _, _, _, h, _ => by simp at h
  | a :: l, nd, 0, 0, _, _, _ => rfl
  | a :: l, nd, 0, j + 1, x, h1, h2 => by
    simp at h1 h2
    subst h1
    exact absurd (List.mem_of_getElem? h2) (List.nodup_cons.1 nd).1
  | a :: l, nd, i + 1, 0, x, h1, h2 => by
    simp at h1 h2
    subst h2
    exact absurd (List.mem_of_getElem? h1) (List.nodup_cons.1 nd).1
  | a :: l, nd, i + 1, j + 1, x, h1, h2 => by
    simp at h1 h2
    rw [nd_inj (List.nodup_cons.1 nd).2 h1 h2]
theorem tab_at (o : AdX ad) {i j : Nat} {C D : Addr} (hC : (ecs ad)[i]? = some C) (hD : (ecs ad)[j]? = some D) : ad.inst (.ref C) (.ref D) = some (decide (j = i)) := by
  rw [o.tb C (List.mem_of_getElem? hC) D (List.mem_of_getElem? hD)]
  by_cases h : j = i
  . subst h
    rw [hC] at hD
    cases hD
    simp
  . rw [decide_eq_false h]
    have ne : C ≠ D := fun z => by
      subst z
      exact h (nd_inj o.nd hD hC)
    simpa using ne
theorem val_rv (o : AdX ad) {d1 d2 : D} (h1 : d1 ∈ oddL) (h2 : d2 ∈ oddL) {d : D} (hd : d ∈ [d1, .int (-1), .int 16, .str "x", .tup [.tup [.int 1, .int 0]], .lst [d2], wq ad (Rat.divInt 1 2), fm ad tX ((3 : Int) : Rat), .tup [wq ad ((0 : Int) : Rat)]]) : Rv ad d 400000 6 := by
  have mem1 : ∀ {x d : D} {L k : Nat}, Rv ad x L k -> d ∈ [x] -> Rv ad d L k := fun h hm => by rw [List.mem_singleton.1 hm]; exact h
  have i2 : ∀ d ∈ [D.int 1, D.int 0], Rv ad d 4000 0 := fun d h => by
    simp only [List.mem_cons, List.not_mem_nil, or_false] at h
    rcases h with rfl | rfl <;> exact rv_int (by decide)
  simp only [List.mem_cons, List.not_mem_nil, or_false] at hd
  rcases hd with rfl | rfl | rfl | rfl | rfl | rfl | rfl | rfl | rfl
  . exact (rv_odd h1).mono (by decide) (by decide)
  . exact (rv_int (by decide)).mono (by decide) (by decide)
  . exact (rv_int (by decide)).mono (by decide) (by decide)
  . exact (rv_lit (by decide) (by decide)).mono (by decide) (by decide)
  . exact (rv_tup (L := 2 * 4002 + 3) (k := 2) (fun d h => mem1 (rv_tup i2 (by decide)) h) (by decide)).mono (by decide) (by decide)
  . exact (rv_lst (L := 9000) (k := 4) (fun d h => mem1 (rv_odd h2) h) (by show 1 * 9002 <= 9000000; decide)).mono (by show 1 * (9000 + 2) + 3 <= 400000; decide) (by decide)
  . exact (rv_w o.toAdW (tx_of (n := 30) (by decide +kernel) (by decide))).mono (by decide) (by decide)
  . exact (rv_fm o.toAdV (fm_x (by decide +kernel))).mono (by decide) (by decide)
  . exact (rv_tup (L := 4000) (k := 0) (fun d h => mem1 (rv_w o.toAdW (tx_of (n := 30) (by decide +kernel) (by decide))) h) (by show 1 * 4002 <= 9000000; decide)).mono (by show 1 * (4000 + 2) + 3 <= 400000; decide) (by decide)
theorem q_ixM {xs : List D} {d : D} (h : atI xs (-1) = some d) (hq : Q d T) : O2 DL.rIx (.lst xs) (.int (-1)) T Q E := ⟨by
  simp only [DL.rIx, itemsD, h]
  exact hq⟩
def isAt (i : Nat) : D -> D
  | .int k => .bl (decide (k = (i : Int)))
  | _ => .non
theorem rg_isAt (i : Nat) : (rangeD 0 33).map (isAt i) = ((List.range 33).map fun k => decide (k = i)).map D.bl := by
  unfold rangeD
  rw [List.map_map, List.map_map]
  refine List.map_congr_left fun k _ => ?_
  show D.bl (decide ((0 : Int) + (k : Int) = (i : Int))) = D.bl (decide (k = i))
  congr 1
  rw [decide_eq_decide]
  omega
theorem h_l_fine (o : AdX ad) (h : sp_l_fine ad ds T Q E) : d_l_fine ad (endsD Q E) (startD N_l_fine ds) T := by
  obtain ⟨j, rfl, hj, hq⟩ := h.h
  refine u_odd hj (by decide) fun d1 T1 h1 _ hj1 a1 => ?_
  refine q_neg ⟨sz_ rfl, sz_ rfl, ?_⟩
  refine u_odd hj1 (by decide) fun d2 T2 h2 _ hj2 a2 => ⟨sz_ rfl, ?_⟩
  refine mkW (by decide) (lt_8999 64 (by decide) (by decide)) ?_
  refine ⟨sz_ rfl, sz_ rfl, q_mkX2 o.toAdF ?_⟩
  refine mk1W ?_
  refine ⟨sz_ rfl, sz_ rfl, ?_⟩
  refine u_of hj2 (by decide) (fun z => nomatch z) (Nat.le_of_ble_eq_true rfl) fun v T3 hv hj3 a3 => ?_
  refine u_of hj3 (by decide) (fun z => nomatch z) (Nat.le_of_ble_eq_true rfl) fun y T4 hy hj4 a4 => ?_
  have rv := val_rv o h1 h2 hv
  have ry := val_rv o h1 h2 hy
  refine ⟨v, y, rfl, fun T5 k5 => ?_⟩
  have kp : Kp j T T5 := ((((a1.tr a2).tr a3).tr a4).kp).tr fun b o _ e => k5 b o e
  refine for_ix (gd := fun T2 => itemsD T2 (.lst (ersD ad v y)) = some (ersD ad v y)) (fun i sd T' => Kx T5 T' /\ ∃ s x5 x6 x7 x8, sd = [some (.ref j), s, some v, some y, some (.lst (ersD ad v y)), x5, x6, x7, x8]) 33 (fun i => .tup [.int (i : Nat), erN ad v y i]) (fun R E h => ⟨_, rfl, by rw [enum_ers]; exact h⟩) ⟨fun _ _ e => e, _, _, _, _, _, rfl⟩ (fun _ _ _ _ _ => rfl) ?_ ?_
  . rintro i sd T6 D' hi ⟨k6, s, x5, x6, x7, x8, rfl⟩ _ _ hnx _
    obtain ⟨C, ns, ys, e1, eC, hval⟩ := ers_at (ad := ad) (v := v) (p := y) hi
    have er : erN ad v y i = .exc (.ref C) ns ys := by unfold erN; rw [e1]; rfl
    rw [er]
    have hC : inE ad C = true := o.ex C (List.mem_of_getElem? eC)
    refine ⟨rfl, rfl, ?_⟩
    refine u_kinds (fun k => decide (k = i)) hC (fun k D hD => tab_at o eC hD) fun T7 k7 => ?_
    refine lcc_map (isAt i) (rangeD 0 33) (fun R E h => q_lenL (by rw [show (ersD ad v y).length = 33 from rfl]; exact ⟨by decide, by decide, h⟩)) (fun x hx T8 Q8 h => ?_) (sz_ rfl) ?_
    . unfold rangeD at hx
      obtain ⟨k, _, rfl⟩ := List.mem_map.1 hx
      exact q_eqI h
    rw [rg_isAt]
    refine q_neB (IfP.f rfl ?_)
    obtain ⟨tv, htv, _⟩ := rv.rp
    refine hval hC (q_repr htv (Nat.le_trans rv.dp (by decide)) (q_repr htv (Nat.le_trans rv.dp (by decide)) (q_neT ?_)))
    rw [decide_eq_true rfl]
    refine IfP.f rfl ?_
    refine q_isi (kd_exc hC ns ys) rfl (o.sl C (List.mem_of_getElem? eC)).1 (IfP.f rfl (q_isi (kd_exc hC ns ys) rfl (o.sl C (List.mem_of_getElem? eC)).2.1 (IfP.f rfl ?_)))
    exact hnx _ _ ⟨fun b ob e => k7 b ob (k6 b ob e), _, _, _, _, _, rfl⟩
  . rintro sd T6 ⟨k6, s, x5, x6, x7, x8, rfl⟩
    refine ⟨v, rfl, ?_⟩
    refine u_kinds (fun _ => false) o.es (fun k D hD => (o.sl D (List.mem_of_getElem? hD)).2.2) fun T7 k7 => ?_
    refine ⟨sz_ rfl, q_lenL ⟨⟨rfl, [.bl false], 33, rfl, rfl, by decide, by decide, ?_⟩⟩⟩
    refine q_neB (bs := (List.range 33).map fun _ => false) (IfP.f rfl ?_)
    have eI : inE ad ad.Impossible = true := o.ex _ (by simp [ecs])
    refine q_valE o.es (q_neg (q_ixM (d := imD ad.Impossible v y) rfl (q_papI eI ⟨sz_ rfl, ?_⟩)))
    have g2 := rv_tup (ad := ad) (ds := [v, y]) (L := 400000) (k := 6) (fun x hx => by
      simp only [List.mem_cons, List.not_mem_nil, or_false] at hx
      rcases hx with rfl | rfl
      . exact rv
      . exact ry) (by show 2 * 400002 <= 9000000; omega)
    obtain ⟨tv, htv, _⟩ := g2.rp
    refine q_repr htv g2.dp ⟨sz_ rfl, q_repr htv g2.dp (q_neT ?_)⟩
    rw [decide_eq_true rfl]
    refine IfP.f rfl ?_
    exact ⟨v, y, rfl, rv, ry, fun T8 k8 => hq _ (kp.tr fun b ob _ e => k8 b ob (k7 b ob (k6 b ob e)))⟩
theorem h_law (o : AdX ad) (h : sp_law ad ds T Q E) : d_law ad (endsD Q E) (startD N_law ds) T := by
  obtain ⟨zs, rfl, hz, hl, hq⟩ := h.h
  refine lcc_inv (fun y => y = .bl true) (fun _ _ => True) (rangeD 0 (max (1 : Int) (min ((zs.map D.int).length : Int) 3)).toNat) (fun R E h => ?_) (fun _ _ _ _ _ _ => trivial) (fun _ _ _ _ _ => trivial) 0
    (fun x hx P m T' l Q hP hm h e k => ?_) trivial (sz (by rw [rg_len]; omega)) fun ys T' ly hy hT => q_allT hy (hq _)
  . refine q_lenL ?_
    refine q_min ?_
    refine q_max ?_
    exact ⟨by omega, by omega, h⟩
  . unfold rangeD at hx
    obtain ⟨i, hi, rfl⟩ := List.mem_map.1 hx
    rw [List.mem_range] at hi
    have e0 : (0 : Int) + (i : Int) = ((i : Nat) : Int) := by omega
    rw [e0]
    refine u_l_jar (k := i) (by omega) hz fun j T'' hj hj0 ag => ?_
    have jP : P ≠ j := fun z => by rw [<- z, e] at hj; cases hj
    exact ⟨j, rfl, hj0, fun T3 kp => k _ _ rfl trivial (kp P _ jP (by rw [ag P jP]; exact e))⟩
end K1
namespace OH
open PySem PySem.Spec PyProof.Rows L2
abbrev Fr := PySem.W.Frag
variable {K : Fr}
def obA (K : Fr) (a : Addr) : Obj := (K.lookup a).getD default
def ocA (K : Fr) (a : Addr) : Value := (obA K a).cls
def odA (K : Fr) (a : Addr) : Option Addr := (obA K a).dict
def osA (K : Fr) (a : Addr) : Array (Option Value) := (obA K a).slots
def fdA (K : Fr) (a : Addr) : FuncData := match (obA K a).data with
  | .func fd => fd
  | _ => default
def fvA (K : Fr) (a : Addr) : Array Value := match (obA K a).data with
  | .fields vs => vs
  | _ => #[]
def sqA (K : Fr) (a : Addr) : Array Value × Nat := match (obA K a).data with
  | .seq vs n => (vs, n)
  | _ => (#[], 0)
def ceA (K : Fr) (a : Addr) : Option Value := match (obA K a).data with
  | .cell v => v
  | _ => none
def clA (K : Fr) (a : Addr) : ClassData := (PySem.W.clsIn K a).getD default
def rfA : Value -> Addr
  | .ref a => a
  | _ => 0
def tkA : Value -> Tok
  | .str _ t => t
  | .int _ t => t
  | _ => default
def stA : Value -> Str
  | .str s _ => s
  | _ => Str.empty
def gvA (K : Fr) (x : Str) : Value := match PySem.W.nsIn K mainGlobals x with
  | some (some v) => v
  | _ => .none
def isA (K : Fr) (a : Addr) : Bool := (K.lookup a).isSome
theorem at_ {a : Addr} (e : isA K a = true) : K.lookup a = some (obA K a) := by
  unfold isA at e
  unfold obA
  cases q : K.lookup a with
  | none => rw [q] at e; cases e
  | some o => rfl
def rcA (K : Fr) (p : Addr) (T : String) : List Value := (PySem.W.recIn K p T).getD []
def stB (K : Fr) (C : Addr) (nm : Str) (p : Addr) : Bool := match PySem.W.findCls K (.ref C) (.type "type") nm with
  | some (.get (.builtin g) (.ref a) .none (.ref D)) => decide (g = "staticmethod.__get__") && (decide (a = p) && decide (D = C))
  | _ => false
abbrev FnW : Type := Option (Str × Str × Arguments × FuncBody × Scope × Addr × Addr)
def fnW (K : Fr) (a : Addr) : FnW := match K.lookup a with
  | some ⟨_, _, .func fd, _⟩ => some (fd.name, fd.qualname, fd.params, fd.body, fd.scope, fd.globals, fd.builtins)
  | _ => none
abbrev vW (nm q : Str) (ps : Arguments) (body : List Stmt) (sc : Scope) : FnW := some (nm, q, ps, .stmts body, sc, mainGlobals, builtinsNs)
theorem fn_l {a : Addr} {nm q : Str} {ps : Arguments} {body : List Stmt} {sc : Scope} {cl : List (Str × Addr)} {dV cdv : Value} (e : fnW K a = vW nm q ps body sc) (c : (fdA K a).closure = cl) (d : (fdA K a).defaults = dV) (k : (fdA K a).code = cdv) :
    K.lookup a = some ⟨ocA K a, odA K a, .func { name := nm, qualname := q, params := ps, body := .stmts body, scope := sc, globals := mainGlobals, closure := cl, defaults := dV, kwdefaults := (fdA K a).kwdefaults, doc := (fdA K a).doc, pyModule := (fdA K a).pyModule, annotations := (fdA K a).annotations, code := cdv, closureTuple := (fdA K a).closureTuple, builtins := builtinsNs }, osA K a⟩ := by
  subst c d k
  unfold fnW at e
  cases q : K.lookup a with
  | none => rw [q] at e; cases e
  | some o =>
    obtain ⟨oc, od, dt, osl⟩ := o
    rw [q] at e
    cases dt with
    | func fd =>
      have eo : obA K a = ⟨oc, od, .func fd, osl⟩ := by unfold obA; rw [q]; rfl
      have ef : fdA K a = fd := by unfold fdA; rw [eo]
      unfold ocA odA osA
      rw [eo, ef]
      obtain ⟨n1, n2, n3, n4, n5, n6, n7, n8, n9, n10, n11, n12, n13, n14, n15⟩ := fd
      have e2 : (some (n1, n2, n3, n4, n5, n6, n15) : FnW) = some _ := e
      simp only [Option.some.injEq, Prod.mk.injEq] at e2
      obtain ⟨h1, h2, h3, h4, h5, h6, h7⟩ := e2
      subst h1 h2 h3 h4 h5 h6 h7
      rfl
    | _ => cases e
def seqB (K : Fr) (a : Addr) (its : Array Value) : Bool := match K.lookup a with
  | some ⟨_, _, .seq vs _, _⟩ => decide (vs.toList = its.toList)
  | _ => false
theorem seq_l {a : Addr} {its : Array Value} (e : seqB K a its = true) : K.lookup a = some ⟨ocA K a, odA K a, .seq its (sqA K a).2, osA K a⟩ := by
  unfold seqB at e
  cases q : K.lookup a with
  | none => rw [q] at e; cases e
  | some o =>
    obtain ⟨oc, od, dt, osl⟩ := o
    rw [q] at e
    cases dt with
    | seq vs n =>
      have eo : obA K a = ⟨oc, od, .seq vs n, osl⟩ := by unfold obA; rw [q]; rfl
      unfold ocA odA osA sqA
      rw [eo]
      have ev : vs.toList = its.toList := of_decide_eq_true e
      rw [Array.toList_inj.mp ev]
    | _ => cases e
theorem seq_lc {a : Addr} {c : Value} {its : Array Value} (e : seqB K a its = true) (h : ocA K a = c) : K.lookup a = some ⟨c, odA K a, .seq its (sqA K a).2, osA K a⟩ := by
  rw [<- h]
  exact seq_l e
def fieB (K : Fr) (a : Addr) : Bool := match K.lookup a with
  | some ⟨_, _, .fields _, _⟩ => true
  | _ => false
theorem fie_l {a : Addr} (e : fieB K a = true) : K.lookup a = some ⟨ocA K a, odA K a, .fields (fvA K a), osA K a⟩ := by
  unfold fieB at e
  cases q : K.lookup a with
  | none => rw [q] at e; cases e
  | some o =>
    obtain ⟨oc, od, dt, osl⟩ := o
    rw [q] at e
    cases dt with
    | fields vs =>
      have eo : obA K a = ⟨oc, od, .fields vs, osl⟩ := by unfold obA; rw [q]; rfl
      unfold ocA odA osA fvA
      rw [eo]
    | _ => cases e
def celB (K : Fr) (a : Addr) (v : Value) : Bool := match K.lookup a with
  | some ⟨_, _, .cell (some u), _⟩ => decide (u = v)
  | _ => false
theorem cel_l {a : Addr} {v : Value} (e : celB K a v = true) : K.lookup a = some ⟨ocA K a, odA K a, .cell (some v), osA K a⟩ := by
  unfold celB at e
  cases q : K.lookup a with
  | none => rw [q] at e; cases e
  | some o =>
    obtain ⟨oc, od, dt, osl⟩ := o
    rw [q] at e
    cases dt with
    | cell u =>
      cases u with
      | none => cases e
      | some u =>
        have eo : obA K a = ⟨oc, od, .cell (some u), osl⟩ := by unfold obA; rw [q]; rfl
        have eu : u = v := of_decide_eq_true e
        unfold ocA odA osA
        rw [eo, eu]
    | _ => cases e
theorem cls_l {a : Addr} (e : (PySem.W.clsIn K a).isSome = true) : PySem.W.clsIn K a = some (clA K a) := by
  unfold clA
  cases q : PySem.W.clsIn K a with
  | none => rw [q] at e; cases e
  | some o => rfl
def slA (K : Fr) (a : Addr) (i : Nat) : Option Value := ((osA K a).toList[i]?).getD none
def excB (K : Fr) (C : Addr) (bm : List Value) (n : String) : Bool := match K.lookup C with
  | some ⟨.type t, _, .cls cd, sl⟩ => decide (t = "type") && (decide (cd.mro = .ref C :: bm) && (cd.hasDict && (!cd.hasDel && (match sl.toList with
    | [_, _, _, _, some (.builtin m), _] => decide (m = n)
    | _ => false))))
  | _ => false
theorem exc_l {C : Addr} {bm : List Value} {n : String} (e : excB K C bm n = true) : K.lookup C = some (excClassObj (clA K C).name (clA K C).qualname C (clA K C).ns (clA K C).bases bm true (clA K C).slotNames (clA K C).subclasses (clA K C).abstract (clA K C).collection (odA K C) (slA K C 0) (slA K C 1) (slA K C 2) (slA K C 3) (slA K C 5) n) := by
  unfold excB at e
  cases q : K.lookup C with
  | none => rw [q] at e; cases e
  | some o =>
    obtain ⟨oc, od, dt, osl⟩ := o
    rw [q] at e
    cases oc with
    | type t =>
      cases dt with
      | cls cd =>
        obtain ⟨h1, e⟩ := Bool.and_eq_true_iff.mp (show (decide (t = "type") && (decide (cd.mro = .ref C :: bm) && (cd.hasDict && (!cd.hasDel && (match osl.toList with
          | [_, _, _, _, some (.builtin m), _] => decide (m = n)
          | _ => false))))) = true from e)
        obtain ⟨h2, e⟩ := Bool.and_eq_true_iff.mp e
        obtain ⟨h3, e⟩ := Bool.and_eq_true_iff.mp e
        obtain ⟨h4, e5⟩ := Bool.and_eq_true_iff.mp e
        have eo : obA K C = ⟨.type t, od, .cls cd, osl⟩ := by unfold obA; rw [q]; rfl
        have ec : clA K C = cd := by unfold clA PySem.W.clsIn; rw [q]; rfl
        unfold slA osA odA
        rw [ec, eo]
        obtain ⟨nm, bs, mro, ns, qn, hd, sn, sub, ab, col, del⟩ := cd
        have g1 : t = "type" := of_decide_eq_true h1
        have g2 : mro = .ref C :: bm := of_decide_eq_true h2
        have g3 : hd = true := h3
        have g4 : del = false := by
          cases del
          . rfl
          . cases h4
        clear h1 h2 h3 h4
        subst g1 g2 g3 g4
        obtain ⟨l⟩ := osl
        match l, e5 with
        | [k0, k1, k2, k3, some (.builtin m), k5], e5 =>
          have h5 : m = n := of_decide_eq_true e5
          subst h5
          rfl
      | _ => cases e
    | _ => cases dt <;> cases e
def refsK (o : Obj) : List Addr := match o.data with
  | .seq its _ => its.toList.flatMap He.refV
  | .dict es _ => es.toList.flatMap fun e => He.refV e.val
  | .func fd => He.refV fd.code ++ (He.refV fd.defaults ++ fd.closure.map (·.2))
  | .cls cd => [cd.ns]
  | .fields vs => (match o.cls with
    | .type n => (match n == "code" with
      | true => []
      | false => vs.toList.flatMap He.refV)
    | _ => [])
  | _ => []
def nextK (g : Addr -> Option Obj) (as : List Addr) : List Addr := as.flatMap fun a => match g a with
  | some o => refsK o
  | none => []
def layK (g : Addr -> Option Obj) : Nat -> List Addr -> List Addr
  | 0, as => as
  | n + 1, as => as ++ layK g n (nextK g as)
def partG (n : Nat) (g : Addr -> Option Obj) : Fr := He.frG g (cStatics :: layK g n [mainGlobals])
structure Ch where
  f : List (Fr -> Bool)
  a : List (Fr -> Addr)
  v : List FnW
abbrev Al : Type := Bool × List FnW
def obsC (c : Ch) (K : Fr) : Al := (c.f.all fun b => b K, c.a.map fun a => fnW K (a K))
def valK (cs : List Ch) : List Al := cs.map fun c => (true, c.v)
def Says (cs : List Ch) (K : Fr) : Prop := cs.map (fun c => obsC c K) = valK cs
def obsG (n : Nat) (cs : List Ch) (g : Addr -> Option Obj) : List Al := cs.map fun c => obsC c (partG n g)
def hook (n : Nat) (cs : List Ch) : PySem.W.Hook where
  α := List Al
  obs := fun s => obsG n cs s.heap.get?
  val := fun _ => valK cs
  says := fun _ h => ∃ K : Fr, K.In h /\ Says cs K
  of := fun _ s e => ⟨partG n s.heap.get?, He.frG_in, e⟩
  keeps := fun _ _ _ ⟨K, hK, c⟩ k => ⟨K, PySem.W.Frag.In.keeps hK k, c⟩
def ob (n : Nat) (cs : List Ch) (s : PySem.W.SharedT) : List Al := obsG n cs (HandSHeadRun.getT s)
theorem ob_eq (n : Nat) (cs : List Ch) (s : PySem.W.SharedT) : ob n cs s = (hook n cs).obs s.abs := by
  have e : HandSHeadRun.getT s = s.abs.heap.get? := funext (HandSHeadRun.getT_eq s)
  unfold ob
  rw [e] <;> rfl
def RunC (r : PySem.W.OpenRow) (n M : Nat) (c : Ch) (w : World) : Prop := ∀ os : OsState, (HandSHeadRun.endF (HandSHeadRun.stepQ (HandSHeadRun.denQ HandSHeadRun.tabQ) r.prog w) M r.prog w os).map (fun s => obsC c (partG n (HandSHeadRun.getT s))) = some (true, c.v)
theorem run_all {r : PySem.W.OpenRow} {q : Program} {n M : Nat} {nms : List Str} {w : World} {cs : List Ch} (h0 : HandSHeadRun.RunEq r q PySem.W.Hook.none (fun _ => ()) M nms w) (h : ∀ c ∈ cs, RunC r n M c w) : HandSHeadRun.RunEq r q (hook n cs) (ob n cs) M nms w := by
  intro os
  have z := h0 os
  cases e : HandSHeadRun.endF (HandSHeadRun.stepQ (HandSHeadRun.denQ HandSHeadRun.tabQ) r.prog w) M r.prog w os with
  | none => rw [e] at z; cases z
  | some s =>
    rw [e] at z
    have z2 := Option.some.inj z
    have z3 : _ = true := congrArg (fun x => x.1) z2
    have z4 := congrArg (fun x => x.2.1) z2
    have all : ob n cs s = valK cs := List.map_congr_left fun c hc => by
      have y := h c hc os
      rw [e] at y
      exact Option.some.inj y
    show some (_, _, _) = some (_, _, _)
    rw [all]
    exact congrArg some (Prod.ext z3 (Prod.ext z4 rfl))
section
variable {cs : List Ch}
theorem Says.ch (y : Says cs K) (i : Nat) {c : Ch} (h : cs[i]? = some c) : obsC c K = (true, c.v) := by
  have e2 : (cs.map fun c => obsC c K)[i]? = (cs.map fun c => ((true, c.v) : Al))[i]? := congrArg (fun z : List Al => z[i]?) y
  rw [List.getElem?_map, List.getElem?_map, h] at e2
  exact Option.some.inj e2
theorem Says.bo (y : Says cs K) (i j : Nat) {c : Ch} {b : Fr -> Bool} (h : cs[i]? = some c) (hb : c.f[j]? = some b) : b K = true := by
  have c1 : (c.f.all fun b => b K) = true := congrArg (fun z : Al => z.1) (y.ch i h)
  exact List.all_eq_true.mp c1 b (List.mem_of_getElem? hb)
theorem Says.fw (y : Says cs K) (i j : Nat) {c : Ch} {a : Fr -> Addr} {v : FnW} (h : cs[i]? = some c) (ha : c.a[j]? = some a) (hv : c.v[j]? = some v) : fnW K (a K) = v := by
  have e : c.a.map (fun a => fnW K (a K)) = c.v := congrArg (fun z : Al => z.2) (y.ch i h)
  have e2 : (c.a.map fun a => fnW K (a K))[j]? = c.v[j]? := by rw [e]
  rw [List.getElem?_map, ha, hv] at e2
  exact Option.some.inj e2
end
end OH
namespace DL
open PySem PySem.Spec PyProof.Rows L2 VX
theorem walk_endH {l : PySem.W.OpenLaw} {n k : Nat} {q : Program} {loose : List Str} {XP : (Str -> Option Value) -> Heap -> Prop} {YP : World -> Heap -> Prop} {d : DefRec}
    (hn : l.most = some n) (hn2 : n <= sizeLine) (hdf : d.params.defaults = []) (hr : Room k callerA)
    (F : ∀ (w : World) (mg : Str -> Option Value) (fa : Addr) (h : Heap), YP w h -> h.Ns mainGlobals mg -> mg d.name = some (.ref fa) ->
      (∀ K : PySem.W.Frag, K.In h -> ∀ d x c P, (recsOf q).find? (fun e => e.name == x) = some d -> PySem.W.tabIn K x = some (c, P) -> PySem.W.CodeHd h c P /\ h.get? P = some { cls := .none, data := .fields #[] }) ->
      ∃ (K : PySem.W.Frag) (cs : List (Addr × Addr × Str)) (sp : SpD), K.In h /\ (∀ p ∈ cs, h.get? p.2.1 = some { cls := .none, data := .fields #[] }) /\ (∀ p ∈ cs, K.lookup p.2.1 = none) /\ (∀ p ∈ cs, PySem.W.CodeHd h p.1 p.2.1) /\
        (∀ base : Heap, K.In base -> base.Ns mainGlobals mg -> (∀ p ∈ cs, LamX.TabB base mg p.1 p.2.1) -> GR l.prog w K mg base fa k sp) /\
        ∀ ns : List Int, ns.length <= n -> (∀ z ∈ ns, Builtin.Int.intBits z <= 1048576) -> sp [.lst (ns.map D.int)] (T0 cs) (fun x _ => x = .bl true) fun _ _ => False) :
    PySem.W.WalkO q loose XP YP l.row.toRowW d [] (fun f vs => PySem.call f vs) := by
  refine Att.attach_callB hn hdf fun w s₀ s₁ mg mb fa o pm cd doc a vs ns G Y ho hd hcd hmg hobj hints hlen hbits hg => ?_
  obtain ⟨K, cs, sp, KX, hT, nT, C, hF, hsp⟩ := F w mg fa _ Y G.T.g hmg fun K KX d x c P hr ht => PySem.W.tab_of G.T KX hr ht
  exact law_end KX G.T.g G.T.b G.T.builtins G.T.nolimit hg hT nT C G.T.bmain hobj hints (Nat.le_trans hlen hn2) hr hF (hsp ns hlen hbits)
end DL
namespace K1
open PySem PySem.Spec PyProof.Rows L2 VX DL OH
abbrev cO : Value := .builtin "object.__class__"
def errB (K : OH.Fr) (CS C : Addr) (bm : List Value) : Bool :=
  OH.excB K C bm "ValueError.__new__" && (PySem.HandSPX.refsVE bm && (decide (PySem.W.findIn K (.ref C) "__setattr__" = some (some (.builtin "object.__setattr__"))) && (decide (PySem.W.subIn K (.ref C) (.type "BaseException") = some true) && (decide (PySem.W.typeIn K (.ref C) = some (.type "type")) && (PySem.W.keepIn K (.ref C) &&
  (decide (PySem.W.mroIn K C (.type "ValueError") = some true) && (decide (PySem.W.mroIn K C (.ref CS) = some true) && (decide (PySem.W.ks_superIn K C CS "__init__" = some (some veI)) && (decide (PySem.W.findIn K (.ref C) "value" = some none) && (decide (PySem.W.findIn K (.ref C) "paper" = some none) &&
  (decide (PySem.W.findIn K (.ref C) "__getattribute__" = some (some (.builtin "BaseException.__getattribute__"))) && (decide (PySem.W.findIn K (.ref C) "__getattr__" = some none) && (PySem.W.hasDictIn K C && ((PySem.W.clsIn K C).isSome && (decide (PySem.W.findIn K (.ref C) "__class__" = some (some cO)) && decide (PySem.W.mroIn K C (.type "object") = some true))))))))))))))))
theorem errB_ok {K : OH.Fr} {CS C : Addr} {bm : List Value} (h : errB K CS C bm = true) : SlC K CS C /\ PySem.W.keepIn K (.ref C) = true /\ PySem.W.findIn K (.ref C) "value" = some none /\ PySem.W.findIn K (.ref C) "paper" = some none /\
    (PySem.W.specialIn K cO "__get__" = some (some (.builtin "getset_descriptor.__get__")) -> PySem.W.takesIn K cO = some true -> ExC K C) := by
  unfold errB at h
  simp only [Bool.and_eq_true, decide_eq_true_eq] at h
  obtain ⟨h1, h2, h3, h4, h5, h6, h7, h8, h9, h10, hp, h11, h12, h13, h14, h15, h16⟩ := h
  exact ⟨⟨⟨⟨_, _, _, _, _, _, _, _, _, _, _, _, _, _, _, exc_l h1, h2⟩, h3, h4, h5, h6⟩, h7, h8, h9, h10⟩, h6, h10, hp, fun a b => ⟨⟨h11, h12, h4, h13⟩, h14, h15, a, b, h16⟩⟩
def errsB (K : OH.Fr) (CS fS : Addr) (es : List Addr) : Bool := es.all fun C => errB K CS C [.ref CS, .type "ValueError", .type "Exception", .type "BaseException", .type "object"] && decide (PySem.W.findIn K (.ref C) "__init__" = some (some (.ref fS)))
theorem errsB_ok {K : OH.Fr} {CS fS C : Addr} {es : List Addr} (h : errsB K CS fS es = true) (hm : C ∈ es) : SlC K CS C /\ PySem.W.findIn K (.ref C) "__init__" = some (some (.ref fS)) /\ PySem.W.keepIn K (.ref C) = true /\ PySem.W.findIn K (.ref C) "value" = some none /\ PySem.W.findIn K (.ref C) "paper" = some none /\
    (PySem.W.specialIn K cO "__get__" = some (some (.builtin "getset_descriptor.__get__")) -> PySem.W.takesIn K cO = some true -> ExC K C) := by
  have z := List.all_eq_true.1 h C hm
  rw [Bool.and_eq_true, decide_eq_true_eq] at z
  obtain ⟨a, b, c, p, d⟩ := errB_ok z.1
  exact ⟨a, z.2, b, c, p, d⟩
def tabB (K : OH.Fr) (CS : Addr) (es : List Addr) : Bool := decide es.Nodup && (es.all fun C => (es.all fun D => decide (PySem.W.kitOne K (.ref C) (.ref D) = some (C == D))) && (decide (PySem.W.kitOne K (.ref C) (.ref CS) = some true) && (decide (PySem.W.kitOne K (.ref C) (.type "ValueError") = some true) && decide (PySem.W.kitOne K (.ref CS) (.ref C) = some false))))
theorem tabB_ok {K : OH.Fr} {CS : Addr} {es : List Addr} (h : tabB K CS es = true) : es.Nodup /\ (∀ C ∈ es, ∀ D ∈ es, PySem.W.kitOne K (.ref C) (.ref D) = some (C == D)) /\ ∀ C ∈ es, PySem.W.kitOne K (.ref C) (.ref CS) = some true /\ PySem.W.kitOne K (.ref C) (.type "ValueError") = some true /\ PySem.W.kitOne K (.ref CS) (.ref C) = some false := by
  unfold tabB at h
  rw [Bool.and_eq_true, decide_eq_true_eq] at h
  refine ⟨h.1, fun C hC D hD => ?_, fun C hC => ?_⟩
  . have z := List.all_eq_true.1 h.2 C hC
    rw [Bool.and_eq_true] at z
    exact of_decide_eq_true (List.all_eq_true.1 z.1 D hD)
  . have z := List.all_eq_true.1 h.2 C hC
    simp only [Bool.and_eq_true, decide_eq_true_eq] at z
    exact z.2
end K1
namespace K1
open PySem PySem.Spec PyProof.Rows L2 VX DL RQ TL Srt
abbrev s_slip : Stmt := inClass (top 2) 0
abbrev s_im : Stmt := inClass (top 35) 0
theorem all_mk {w : World} {K : PySem.W.Frag} {h : Heap} {mg : Str -> Option Value} {fa : Addr} {q : Program} (X : K.In h) (G : h.Ns mainGlobals mg) (hfa : mg "law" = some (.ref fa))
    (TAB : ∀ d x c P, (recsOf q).find? (fun e => e.name == x) = some d -> PySem.W.tabIn K x = some (c, P) -> PySem.W.CodeHd h c P /\ h.get? P = some { cls := .none, data := .fields #[] })
    {C_BadWorth : Addr}
    {C_NoQuotient : Addr}
    {C_BadText : Addr}
    {C_BadForm : Addr}
    {C_NoUnknown : Addr}
    {C_BadPoint : Addr}
    {C_Missing : Addr}
    {C_BadConditions : Addr}
    {C_TooMany : Addr}
    {C_BadProcedure : Addr}
    {C_Contrary : Addr}
    {C_NoLine : Addr}
    {C_NotFree : Addr}
    {C_BadBound : Addr}
    {C_Open : Addr}
    {C_BadThings : Addr}
    {C_BadErrors : Addr}
    {C_BadReadings : Addr}
    {C_NoWay : Addr}
    {C_BadWish : Addr}
    {C_NoThing : Addr}
    {C_BadWord : Addr}
    {C_Unlike : Addr}
    {C_BadWishes : Addr}
    {C_BadOffers : Addr}
    {C_Over : Addr}
    {C_NoVariable : Addr}
    {C_NotNext : Addr}
    {C_NothingToUndo : Addr}
    {C_NothingToRedo : Addr}
    {C_BadJournal : Addr}
    {C_BadLine : Addr}
    {C_Impossible : Addr}
    {C_SlipError : Addr}
    {f_slip cda_slip cc_slip : Addr}
    {od_slip an_slip : Option Addr}
    {osl_slip : Array (Option Value)}
    {oc_slip kV_slip dc_slip pm_slip ct_slip : Value}
    {ccl : Value}
    {cdd : Option Addr}
    {vsl : Array Value}
    {ccs : Array (Option Value)}
    {cll : Value}
    {cld : Option Addr}
    {csl : Array (Option Value)}
    {file : Str}
    {tf : Tok}
    {cdS : ClassData}
    {f_im cda_im cc_im : Addr}
    {od_im an_im : Option Addr}
    {osl_im : Array (Option Value)}
    {oc_im kV_im dc_im pm_im ct_im : Value}
    {ccl_im : Value}
    {cdd_im : Option Addr}
    {vsl_im : Array Value}
    {ccs_im : Array (Option Value)}
    {cll_im : Value}
    {cld_im : Option Addr}
    {csl_im : Array (Option Value)}
    {file_im : Str}
    {tf_im : Tok}
    {cd_im : ClassData}
    {C_Worth : Addr}
    {C_Form : Addr}
    {p_above : Addr}
    {p_below : Addr}
    {x_Winit : Addr}
    {od_Winit an_Winit : Option Addr}
    {osl_Winit : Array (Option Value)}
    {oc_Winit kV_Winit dc_Winit pm_Winit ct_Winit : Value}
    {cd_Winit : Value}
    {T_Winit : Addr}
    {oc_TWinit : Value}
    {od_TWinit : Option Addr}
    {n_TWinit : Nat}
    {sl_TWinit : Array (Option Value)}
    {tk_Winit0 : Tok}
    {t_MOST_LETTERS : Tok}
    {T_WORDS : Addr}
    {od_WORDS : Option Addr}
    {n_WORDS_ : Nat}
    {sl_WORDS : Array (Option Value)}
    {t_WORDS0 t_WORDS1 t_WORDS2 t_WORDS3 t_WORDS4 t_WORDS5 t_WORDS6 t_WORDS7 t_WORDS8 t_WORDS9 t_WORDS10 t_WORDS11 t_WORDS12 t_WORDS13 t_WORDS14 t_WORDS15 : Tok}
    {t_LETTERS : Tok}
    {T_COUNTED : Addr}
    {od_COUNTED : Option Addr}
    {n_COUNTED_ : Nat}
    {sl_COUNTED : Array (Option Value)}
    {t_COUNTED0 t_COUNTED1 t_COUNTED2 : Tok}
    {t_DIGITS : Tok}
    {t_PAIR : Tok}
    {p_Wnumber : Addr}
    {rc_Wnumber : List Value}
    {x_Wnumber : Addr}
    {od_Wnumber an_Wnumber : Option Addr}
    {osl_Wnumber : Array (Option Value)}
    {oc_Wnumber kV_Wnumber dc_Wnumber pm_Wnumber ct_Wnumber : Value}
    {cd_Wnumber : Value}
    {x_Weq : Addr}
    {od_Weq an_Weq : Option Addr}
    {osl_Weq : Array (Option Value)}
    {oc_Weq kV_Weq dc_Weq pm_Weq ct_Weq : Value}
    {cd_Weq : Value}
    {p_Wtext : Addr}
    {rc_Wtext : List Value}
    {x_Wtext : Addr}
    {od_Wtext an_Wtext : Option Addr}
    {osl_Wtext : Array (Option Value)}
    {oc_Wtext kV_Wtext dc_Wtext pm_Wtext ct_Wtext : Value}
    {cd_Wtext : Value}
    {x_Wabs : Addr}
    {od_Wabs an_Wabs : Option Addr}
    {osl_Wabs : Array (Option Value)}
    {oc_Wabs kV_Wabs dc_Wabs pm_Wabs ct_Wabs : Value}
    {cd_Wabs : Value}
    {x_Finit : Addr}
    {od_Finit an_Finit : Option Addr}
    {osl_Finit : Array (Option Value)}
    {oc_Finit kV_Finit dc_Finit pm_Finit ct_Finit : Value}
    {cd_Finit : Value}
    {T_Finit : Addr}
    {oc_TFinit : Value}
    {od_TFinit : Option Addr}
    {n_TFinit : Nat}
    {sl_TFinit : Array (Option Value)}
    {e_Finit : Addr}
    {od_eFinit : Option Addr}
    {n_eFinit : Nat}
    {sl_eFinit : Array (Option Value)}
    {tk_Finit1 : Tok}
    {x_is_integer : Addr}
    {od_is_integer an_is_integer : Option Addr}
    {osl_is_integer : Array (Option Value)}
    {oc_is_integer kV_is_integer dc_is_integer pm_is_integer ct_is_integer : Value}
    {cd_is_integer : Value}
    {x_common_divisor : Addr}
    {od_common_divisor an_common_divisor : Option Addr}
    {osl_common_divisor : Array (Option Value)}
    {oc_common_divisor kV_common_divisor dc_common_divisor pm_common_divisor ct_common_divisor : Value}
    {cd_common_divisor : Value}
    {p_Wunder : Addr}
    {rc_Wunder : List Value}
    {x_Wunder : Addr}
    {od_Wunder an_Wunder : Option Addr}
    {osl_Wunder : Array (Option Value)}
    {oc_Wunder kV_Wunder dc_Wunder pm_Wunder ct_Wunder : Value}
    {cd_Wunder : Value}
    {x_Wrepr : Addr}
    {od_Wrepr an_Wrepr : Option Addr}
    {osl_Wrepr : Array (Option Value)}
    {oc_Wrepr kV_Wrepr dc_Wrepr pm_Wrepr ct_Wrepr : Value}
    {cd_Wrepr : Value}
    {x_is_number : Addr}
    {od_is_number an_is_number : Option Addr}
    {osl_is_number : Array (Option Value)}
    {oc_is_number kV_is_number dc_is_number pm_is_number ct_is_number : Value}
    {cd_is_number : Value}
    {x_worth_of : Addr}
    {od_worth_of an_worth_of : Option Addr}
    {osl_worth_of : Array (Option Value)}
    {oc_worth_of kV_worth_of dc_worth_of pm_worth_of ct_worth_of : Value}
    {cd_worth_of : Value}
    {x_is_name : Addr}
    {od_is_name an_is_name : Option Addr}
    {osl_is_name : Array (Option Value)}
    {oc_is_name kV_is_name dc_is_name pm_is_name ct_is_name : Value}
    {cd_is_name : Value}
    {x_is_unknown : Addr}
    {od_is_unknown an_is_unknown : Option Addr}
    {osl_is_unknown : Array (Option Value)}
    {oc_is_unknown kV_is_unknown dc_is_unknown pm_is_unknown ct_is_unknown : Value}
    {cd_is_unknown : Value}
    {x_names_of : Addr}
    {od_names_of an_names_of : Option Addr}
    {osl_names_of : Array (Option Value)}
    {oc_names_of kV_names_of dc_names_of pm_names_of ct_names_of : Value}
    {cd_names_of : Value}
    {x_is_pair : Addr}
    {od_is_pair an_is_pair : Option Addr}
    {osl_is_pair : Array (Option Value)}
    {oc_is_pair kV_is_pair dc_is_pair pm_is_pair ct_is_pair : Value}
    {cd_is_pair : Value}
    {x_is_point : Addr}
    {od_is_point an_is_point : Option Addr}
    {osl_is_point : Array (Option Value)}
    {oc_is_point kV_is_point dc_is_point pm_is_point ct_is_point : Value}
    {cd_is_point : Value}
    {x_is_parts : Addr}
    {od_is_parts an_is_parts : Option Addr}
    {osl_is_parts : Array (Option Value)}
    {oc_is_parts kV_is_parts dc_is_parts pm_is_parts ct_is_parts : Value}
    {cd_is_parts : Value}
    {x_wnn : Addr}
    {od_wnn an_wnn : Option Addr}
    {osl_wnn : Array (Option Value)}
    {oc_wnn kV_wnn dc_wnn pm_wnn ct_wnn : Value}
    {cd_wnn : Value}
    {x_part_text : Addr}
    {od_part_text an_part_text : Option Addr}
    {osl_part_text : Array (Option Value)}
    {oc_part_text kV_part_text dc_part_text pm_part_text ct_part_text : Value}
    {cd_part_text : Value}
    {x_signed_text : Addr}
    {od_signed_text an_signed_text : Option Addr}
    {osl_signed_text : Array (Option Value)}
    {oc_signed_text kV_signed_text dc_signed_text pm_signed_text ct_signed_text : Value}
    {cd_signed_text : Value}
    {x_text_of : Addr}
    {od_text_of an_text_of : Option Addr}
    {osl_text_of : Array (Option Value)}
    {oc_text_of kV_text_of dc_text_of pm_text_of ct_text_of : Value}
    {cd_text_of : Value}
    {x_Frepr : Addr}
    {od_Frepr an_Frepr : Option Addr}
    {osl_Frepr : Array (Option Value)}
    {oc_Frepr kV_Frepr dc_Frepr pm_Frepr ct_Frepr : Value}
    {cd_Frepr : Value}
    {x_l_jar : Addr}
    {od_l_jar an_l_jar : Option Addr}
    {osl_l_jar : Array (Option Value)}
    {oc_l_jar kV_l_jar dc_l_jar pm_l_jar ct_l_jar : Value}
    {cd_l_jar : Value}
    {x_l_take : Addr}
    {od_l_take an_l_take : Option Addr}
    {osl_l_take : Array (Option Value)}
    {oc_l_take kV_l_take dc_l_take pm_l_take ct_l_take : Value}
    {cd_l_take : Value}
    {x_l_of : Addr}
    {od_l_of an_l_of : Option Addr}
    {osl_l_of : Array (Option Value)}
    {oc_l_of kV_l_of dc_l_of pm_l_of ct_l_of : Value}
    {cd_l_of : Value}
    {x_l_odd : Addr}
    {od_l_odd an_l_odd : Option Addr}
    {osl_l_odd : Array (Option Value)}
    {oc_l_odd kV_l_odd dc_l_odd pm_l_odd ct_l_odd : Value}
    {cd_l_odd : Value}
    {x_l_kinds_of : Addr}
    {od_l_kinds_of an_l_kinds_of : Option Addr}
    {osl_l_kinds_of : Array (Option Value)}
    {oc_l_kinds_of kV_l_kinds_of dc_l_kinds_of pm_l_kinds_of ct_l_kinds_of : Value}
    {cd_l_kinds_of : Value}
    {x_l_created : Addr}
    {od_l_created an_l_created : Option Addr}
    {osl_l_created : Array (Option Value)}
    {oc_l_created kV_l_created dc_l_created pm_l_created ct_l_created : Value}
    {cd_l_created : Value}
    {x_l_is_raised : Addr}
    {od_l_is_raised an_l_is_raised : Option Addr}
    {osl_l_is_raised : Array (Option Value)}
    {oc_l_is_raised kV_l_is_raised dc_l_is_raised pm_l_is_raised ct_l_is_raised : Value}
    {cd_l_is_raised : Value}
    {x_l_fine : Addr}
    {od_l_fine an_l_fine : Option Addr}
    {osl_l_fine : Array (Option Value)}
    {oc_l_fine kV_l_fine dc_l_fine pm_l_fine ct_l_fine : Value}
    {cd_l_fine : Value}
    {x_law : Addr}
    {od_law an_law : Option Addr}
    {osl_law : Array (Option Value)}
    {oc_law kV_law dc_law pm_law ct_law : Value}
    {cd_law : Value}
    (n_BadWorth : PySem.W.nsIn K mainGlobals "BadWorth" = some (some (.ref C_BadWorth)))
    (n_NoQuotient : PySem.W.nsIn K mainGlobals "NoQuotient" = some (some (.ref C_NoQuotient)))
    (n_BadText : PySem.W.nsIn K mainGlobals "BadText" = some (some (.ref C_BadText)))
    (n_BadForm : PySem.W.nsIn K mainGlobals "BadForm" = some (some (.ref C_BadForm)))
    (n_NoUnknown : PySem.W.nsIn K mainGlobals "NoUnknown" = some (some (.ref C_NoUnknown)))
    (n_BadPoint : PySem.W.nsIn K mainGlobals "BadPoint" = some (some (.ref C_BadPoint)))
    (n_Missing : PySem.W.nsIn K mainGlobals "Missing" = some (some (.ref C_Missing)))
    (n_BadConditions : PySem.W.nsIn K mainGlobals "BadConditions" = some (some (.ref C_BadConditions)))
    (n_TooMany : PySem.W.nsIn K mainGlobals "TooMany" = some (some (.ref C_TooMany)))
    (n_BadProcedure : PySem.W.nsIn K mainGlobals "BadProcedure" = some (some (.ref C_BadProcedure)))
    (n_Contrary : PySem.W.nsIn K mainGlobals "Contrary" = some (some (.ref C_Contrary)))
    (n_NoLine : PySem.W.nsIn K mainGlobals "NoLine" = some (some (.ref C_NoLine)))
    (n_NotFree : PySem.W.nsIn K mainGlobals "NotFree" = some (some (.ref C_NotFree)))
    (n_BadBound : PySem.W.nsIn K mainGlobals "BadBound" = some (some (.ref C_BadBound)))
    (n_Open : PySem.W.nsIn K mainGlobals "Open" = some (some (.ref C_Open)))
    (n_BadThings : PySem.W.nsIn K mainGlobals "BadThings" = some (some (.ref C_BadThings)))
    (n_BadErrors : PySem.W.nsIn K mainGlobals "BadErrors" = some (some (.ref C_BadErrors)))
    (n_BadReadings : PySem.W.nsIn K mainGlobals "BadReadings" = some (some (.ref C_BadReadings)))
    (n_NoWay : PySem.W.nsIn K mainGlobals "NoWay" = some (some (.ref C_NoWay)))
    (n_BadWish : PySem.W.nsIn K mainGlobals "BadWish" = some (some (.ref C_BadWish)))
    (n_NoThing : PySem.W.nsIn K mainGlobals "NoThing" = some (some (.ref C_NoThing)))
    (n_BadWord : PySem.W.nsIn K mainGlobals "BadWord" = some (some (.ref C_BadWord)))
    (n_Unlike : PySem.W.nsIn K mainGlobals "Unlike" = some (some (.ref C_Unlike)))
    (n_BadWishes : PySem.W.nsIn K mainGlobals "BadWishes" = some (some (.ref C_BadWishes)))
    (n_BadOffers : PySem.W.nsIn K mainGlobals "BadOffers" = some (some (.ref C_BadOffers)))
    (n_Over : PySem.W.nsIn K mainGlobals "Over" = some (some (.ref C_Over)))
    (n_NoVariable : PySem.W.nsIn K mainGlobals "NoVariable" = some (some (.ref C_NoVariable)))
    (n_NotNext : PySem.W.nsIn K mainGlobals "NotNext" = some (some (.ref C_NotNext)))
    (n_NothingToUndo : PySem.W.nsIn K mainGlobals "NothingToUndo" = some (some (.ref C_NothingToUndo)))
    (n_NothingToRedo : PySem.W.nsIn K mainGlobals "NothingToRedo" = some (some (.ref C_NothingToRedo)))
    (n_BadJournal : PySem.W.nsIn K mainGlobals "BadJournal" = some (some (.ref C_BadJournal)))
    (n_BadLine : PySem.W.nsIn K mainGlobals "BadLine" = some (some (.ref C_BadLine)))
    (n_Impossible : PySem.W.nsIn K mainGlobals "Impossible" = some (some (.ref C_Impossible)))
    (n_SlipError : PySem.W.nsIn K mainGlobals "SlipError" = some (some (.ref C_SlipError)))
    (ocn : PySem.W.specialIn K (.builtin "object.__class__") "__get__" = some (some (.builtin "getset_descriptor.__get__")))
    (oct : PySem.W.takesIn K (.builtin "object.__class__") = some true)
    (n_slip_BadWorth : PySem.W.findIn K (.ref C_BadWorth) "__init__" = some (some (.ref f_slip)))
    (ty_slip : PySem.W.typeIn K (.ref f_slip) = some (.type "function"))
    (l_slip : K.lookup f_slip = some ⟨oc_slip, od_slip, .func (PySem.W.ksFn "__init__" "SlipError.__init__" (defArgs s_slip) (defBody s_slip) (defScope s_slip) .none kV_slip dc_slip pm_slip an_slip (.ref cda_slip) ct_slip cc_slip), osl_slip⟩)
    (c_slip : PySem.W.codeIn K (.ref cda_slip) "SlipError.__init__" = true)
    (lc_slip : K.lookup cda_slip = some ⟨ccl, cdd, .fields vsl, ccs⟩)
    (lv_slip : vsl[2]? = some (.str file tf))
    (lf_slip : ((PySem.Challenge.pw_sharedslip_k00_errors.main.file : Str) == file) = true)
    (lcc_slip : K.lookup cc_slip = some ⟨cll, cld, .cell (some (.ref C_SlipError)), csl⟩)
    (cls_slip : PySem.W.clsIn K C_SlipError = some cdS)
    (opq : PySem.W.nsIn K cStatics "thirdparty.any" = some none)
    (z_super : PySem.W.nsIn K mainGlobals "super" = some none)
    (eAll : errsB K C_SlipError f_slip [C_BadWorth, C_NoQuotient, C_BadText, C_BadForm, C_NoUnknown, C_BadPoint, C_Missing, C_BadConditions, C_TooMany, C_BadProcedure, C_Contrary, C_NoLine, C_NotFree, C_BadBound, C_Open, C_BadThings, C_BadErrors, C_BadReadings, C_NoWay, C_BadWish, C_NoThing, C_BadWord, C_Unlike, C_BadWishes, C_BadOffers, C_Over, C_NoVariable, C_NotNext, C_NothingToUndo, C_NothingToRedo, C_BadJournal, C_BadLine] = true)
    (eSl : errB K C_SlipError C_SlipError [.type "ValueError", .type "Exception", .type "BaseException", .type "object"] = true)
    (iSl : PySem.W.findIn K (.ref C_SlipError) "__init__" = some (some (.ref f_slip)))
    (eIm : errB K C_SlipError C_Impossible [.ref C_SlipError, .type "ValueError", .type "Exception", .type "BaseException", .type "object"] = true)
    (eTab : tabB K C_SlipError [C_BadWorth, C_NoQuotient, C_BadText, C_BadForm, C_NoUnknown, C_BadPoint, C_Missing, C_BadConditions, C_TooMany, C_BadProcedure, C_Contrary, C_NoLine, C_NotFree, C_BadBound, C_Open, C_BadThings, C_BadErrors, C_BadReadings, C_NoWay, C_BadWish, C_NoThing, C_BadWord, C_Unlike, C_BadWishes, C_BadOffers, C_Over, C_NoVariable, C_NotNext, C_NothingToUndo, C_NothingToRedo, C_BadJournal, C_BadLine, C_Impossible] = true)
    (n_im : PySem.W.findIn K (.ref C_Impossible) "__init__" = some (some (.ref f_im)))
    (ty_im : PySem.W.typeIn K (.ref f_im) = some (.type "function"))
    (l_im : K.lookup f_im = some ⟨oc_im, od_im, .func (PySem.W.ksFn "__init__" "Impossible.__init__" (defArgs s_im) (defBody s_im) (defScope s_im) .none kV_im dc_im pm_im an_im (.ref cda_im) ct_im cc_im), osl_im⟩)
    (c_im : PySem.W.codeIn K (.ref cda_im) "Impossible.__init__" = true)
    (lc_im : K.lookup cda_im = some ⟨ccl_im, cdd_im, .fields vsl_im, ccs_im⟩)
    (lv_im : vsl_im[2]? = some (.str file_im tf_im))
    (lf_im : ((PySem.Challenge.pw_sharedslip_k00_errors.main.file : Str) == file_im) = true)
    (lcc_im : K.lookup cc_im = some ⟨cll_im, cld_im, .cell (some (.ref C_Impossible)), csl_im⟩)
    (cls_im : PySem.W.clsIn K C_Impossible = some cd_im)
    (fn_im : PySem.W.fnIn K f_slip = true)
    (sup_im : PySem.W.ks_superIn K C_Impossible C_Impossible "__init__" = some (some (.ref f_slip)))
    (sub_im : PySem.W.mroIn K C_Impossible (.ref C_Impossible) = some true)
    (n_Worth : PySem.W.nsIn K mainGlobals "Worth" = some (some (.ref C_Worth)))
    (wpg : PySem.W.plainGet K C_Worth Str.empty = true)
    (wic : PySem.W.isClsIn K C_Worth = true)
    (wpo : PySem.W.plainOver K C_Worth = true)
    (wsa : PySem.W.findIn K (.ref C_Worth) "__setattr__" = some (some (.builtin "object.__setattr__")))
    (wca : PySem.W.findIn K (.ref C_Worth) "__class__" = some (some (.builtin "object.__class__")))
    (e_ob : PySem.W.mroIn K C_Worth (.type "object") = some true)
    (wint : PySem.W.subIn K (.ref C_Worth) (.type "int") = some false)
    (wbool : PySem.W.subIn K (.ref C_Worth) (.type "bool") = some false)
    (wty : PySem.W.typeIn K (.ref C_Worth) = some (.type "type"))
    (n_Form : PySem.W.nsIn K mainGlobals "Form" = some (some (.ref C_Form)))
    (oFormpg : PySem.W.plainGet K C_Form Str.empty = true)
    (oFormhd : PySem.W.hasDictIn K C_Form = true)
    (oFormpo : PySem.W.plainOver K C_Form = true)
    (oFormsa : PySem.W.findIn K (.ref C_Form) "__setattr__" = some (some (.builtin "object.__setattr__")))
    (oFormca : PySem.W.findIn K (.ref C_Form) "__class__" = some (some (.builtin "object.__class__")))
    (oFormob : PySem.W.mroIn K C_Form (.type "object") = some true)
    (oFormty : PySem.W.typeIn K (.ref C_Form) = some (.type "type"))
    (oFormic : PySem.W.isClsIn K C_Form = true)
    (oForm_int : PySem.W.subIn K (.ref C_Form) (.type "int") = some false)
    (oForm_bool : PySem.W.subIn K (.ref C_Form) (.type "bool") = some false)
    (oForm_str : PySem.W.subIn K (.ref C_Form) (.type "str") = some false)
    (oForm_tuple : PySem.W.subIn K (.ref C_Form) (.type "tuple") = some false)
    (oForm_list : PySem.W.subIn K (.ref C_Form) (.type "list") = some false)
    (oForm_dict : PySem.W.subIn K (.ref C_Form) (.type "dict") = some false)
    (z_isinstance : PySem.W.nsIn K mainGlobals "isinstance" = some none)
    (z_int : PySem.W.nsIn K mainGlobals "int" = some none)
    (z_bool : PySem.W.nsIn K mainGlobals "bool" = some none)
    (z_abs : PySem.W.nsIn K mainGlobals "abs" = some none)
    (sa_above : PySem.W.findIn K (.ref C_Worth) "above" = some (some (.ref p_above)))
    (sg_above : PySem.W.specialIn K (.ref p_above) "__get__" = some (some (.builtin "member_descriptor.__get__")))
    (st_above : PySem.W.takesIn K (.ref p_above) = some true)
    (sy_above : PySem.W.typeIn K (.ref p_above) = some (.type "member_descriptor"))
    (sx_above : PySem.W.slotIn K p_above C_Worth = some 0)
    (sa_below : PySem.W.findIn K (.ref C_Worth) "below" = some (some (.ref p_below)))
    (sg_below : PySem.W.specialIn K (.ref p_below) "__get__" = some (some (.builtin "member_descriptor.__get__")))
    (st_below : PySem.W.takesIn K (.ref p_below) = some true)
    (sy_below : PySem.W.typeIn K (.ref p_below) = some (.type "member_descriptor"))
    (sx_below : PySem.W.slotIn K p_below C_Worth = some 1)
    (z_str : PySem.W.nsIn K mainGlobals "str" = some none)
    (n_Winit : PySem.W.findIn K (.ref C_Worth) "__init__" = some (some (.ref x_Winit)))
    (i_Winit : PySem.W.isFn K (.ref x_Winit) = true)
    (l_Winit : K.lookup x_Winit = some ⟨oc_Winit, od_Winit, .func (PySem.W.fnOf "__init__" "Worth.__init__" (defArgs s_Winit) (defBody s_Winit) (defScope s_Winit) (.ref T_Winit) kV_Winit dc_Winit pm_Winit an_Winit cd_Winit ct_Winit), osl_Winit⟩)
    (c_Winit : PySem.W.codeIn K cd_Winit "Worth.__init__" = true)
    (k_Winit : PySem.W.keepIn K (.ref x_Winit) = true)
    (l_TWinit : K.lookup T_Winit = some ⟨oc_TWinit, od_TWinit, .seq #[.int 1 tk_Winit0] n_TWinit, sl_TWinit⟩)
    (mkWorth : PySem.W.makesIn K C_Worth = true)
    (kc_Worth : PySem.W.keepIn K (.ref C_Worth) = true)
    (z_len : PySem.W.nsIn K mainGlobals "len" = some none)
    (n_MOST_LETTERS : PySem.W.nsIn K mainGlobals "MOST_LETTERS" = some (some (.int 8 t_MOST_LETTERS)))
    (n_WORDS : PySem.W.nsIn K mainGlobals "WORDS" = some (some (.ref T_WORDS)))
    (l_WORDS : K.lookup T_WORDS = some ⟨.type "tuple", od_WORDS, .seq #[.str "thing" t_WORDS0, .str "fact" t_WORDS1, .str "free" t_WORDS2, .str "gauge" t_WORDS3, .str "part" t_WORDS4, .str "run" t_WORDS5, .str "read" t_WORDS6, .str "let" t_WORDS7, .str "call" t_WORDS8, .str "if" t_WORDS9, .str "else" t_WORDS10, .str "again" t_WORDS11, .str "accept" t_WORDS12, .str "reject" t_WORDS13, .str "tell" t_WORDS14, .str "give" t_WORDS15] n_WORDS_, sl_WORDS⟩)
    (z_all : PySem.W.nsIn K mainGlobals "all" = some none)
    (n_LETTERS : PySem.W.nsIn K mainGlobals "LETTERS" = some (some (.str "abcdefghijklmnopqrstuvwxyz" t_LETTERS)))
    (n_COUNTED : PySem.W.nsIn K mainGlobals "COUNTED" = some (some (.ref T_COUNTED)))
    (l_COUNTED : K.lookup T_COUNTED = some ⟨.type "tuple", od_COUNTED, .seq #[.str "f" t_COUNTED0, .str "l" t_COUNTED1, .str "s" t_COUNTED2] n_COUNTED_, sl_COUNTED⟩)
    (n_DIGITS : PySem.W.nsIn K mainGlobals "DIGITS" = some (some (.str "0123456789" t_DIGITS)))
    (n_PAIR : PySem.W.nsIn K mainGlobals "PAIR" = some (some (.int 2 t_PAIR)))
    (z_sorted : PySem.W.nsIn K mainGlobals "sorted" = some none)
    (z_tuple : PySem.W.nsIn K mainGlobals "tuple" = some none)
    (pa_Wnumber : PySem.W.findIn K (.ref C_Worth) "number" = some (some (.ref p_Wnumber)))
    (pg_Wnumber : PySem.W.specialIn K (.ref p_Wnumber) "__get__" = some (some (.builtin "property.__get__")))
    (pt_Wnumber : PySem.W.takesIn K (.ref p_Wnumber) = some true)
    (pr_Wnumber : PySem.W.recIn K p_Wnumber "property" = some (.ref x_Wnumber :: rc_Wnumber))
    (l_Wnumber : K.lookup x_Wnumber = some ⟨oc_Wnumber, od_Wnumber, .func (PySem.W.fnOf "number" "Worth.number" (defArgs s_Wnumber) (defBody s_Wnumber) (defScope s_Wnumber) .none kV_Wnumber dc_Wnumber pm_Wnumber an_Wnumber cd_Wnumber ct_Wnumber), osl_Wnumber⟩)
    (c_Wnumber : PySem.W.codeIn K cd_Wnumber "Worth.number" = true)
    (na_table : PySem.W.findIn K (.ref C_Form) "table" = some none)
    (na_last : PySem.W.findIn K (.ref C_Form) "last" = some none)
    (sfW : PySem.W.selfFirst K C_Worth = true)
    (n_Weq : PySem.W.findIn K (.ref C_Worth) "__eq__" = some (some (.ref x_Weq)))
    (i_Weq : PySem.W.isFn K (.ref x_Weq) = true)
    (l_Weq : K.lookup x_Weq = some ⟨oc_Weq, od_Weq, .func (PySem.W.fnOf "__eq__" "Worth.__eq__" (defArgs s_Weq) (defBody s_Weq) (defScope s_Weq) .none kV_Weq dc_Weq pm_Weq an_Weq cd_Weq ct_Weq), osl_Weq⟩)
    (c_Weq : PySem.W.codeIn K cd_Weq "Worth.__eq__" = true)
    (pa_Wtext : PySem.W.findIn K (.ref C_Worth) "text" = some (some (.ref p_Wtext)))
    (pg_Wtext : PySem.W.specialIn K (.ref p_Wtext) "__get__" = some (some (.builtin "property.__get__")))
    (pt_Wtext : PySem.W.takesIn K (.ref p_Wtext) = some true)
    (pr_Wtext : PySem.W.recIn K p_Wtext "property" = some (.ref x_Wtext :: rc_Wtext))
    (l_Wtext : K.lookup x_Wtext = some ⟨oc_Wtext, od_Wtext, .func (PySem.W.fnOf "text" "Worth.text" (defArgs s_Wtext) (defBody s_Wtext) (defScope s_Wtext) .none kV_Wtext dc_Wtext pm_Wtext an_Wtext cd_Wtext ct_Wtext), osl_Wtext⟩)
    (c_Wtext : PySem.W.codeIn K cd_Wtext "Worth.text" = true)
    (n_Wabs : PySem.W.findIn K (.ref C_Worth) "__abs__" = some (some (.ref x_Wabs)))
    (i_Wabs : PySem.W.isFn K (.ref x_Wabs) = true)
    (l_Wabs : K.lookup x_Wabs = some ⟨oc_Wabs, od_Wabs, .func (PySem.W.fnOf "__abs__" "Worth.__abs__" (defArgs s_Wabs) (defBody s_Wabs) (defScope s_Wabs) .none kV_Wabs dc_Wabs pm_Wabs an_Wabs cd_Wabs ct_Wabs), osl_Wabs⟩)
    (c_Wabs : PySem.W.codeIn K cd_Wabs "Worth.__abs__" = true)
    (z_repr : PySem.W.nsIn K mainGlobals "repr" = some none)
    (n_Finit : PySem.W.findIn K (.ref C_Form) "__init__" = some (some (.ref x_Finit)))
    (i_Finit : PySem.W.isFn K (.ref x_Finit) = true)
    (l_Finit : K.lookup x_Finit = some ⟨oc_Finit, od_Finit, .func (PySem.W.fnOf "__init__" "Form.__init__" (defArgs s_Finit) (defBody s_Finit) (defScope s_Finit) (.ref T_Finit) kV_Finit dc_Finit pm_Finit an_Finit cd_Finit ct_Finit), osl_Finit⟩)
    (c_Finit : PySem.W.codeIn K cd_Finit "Form.__init__" = true)
    (k_Finit : PySem.W.keepIn K (.ref x_Finit) = true)
    (l_TFinit : K.lookup T_Finit = some ⟨oc_TFinit, od_TFinit, .seq #[.ref e_Finit, .int 0 tk_Finit1] n_TFinit, sl_TFinit⟩)
    (l_eFinit : K.lookup e_Finit = some ⟨.type "tuple", od_eFinit, .seq #[] n_eFinit, sl_eFinit⟩)
    (mkForm : PySem.W.makesIn K C_Form = true)
    (kc_Form : PySem.W.keepIn K (.ref C_Form) = true)
    (z_enumerate : PySem.W.nsIn K mainGlobals "enumerate" = some none)
    (z_range : PySem.W.nsIn K mainGlobals "range" = some none)
    (z_ValueError : PySem.W.nsIn K mainGlobals "ValueError" = some none)
    (z_max : PySem.W.nsIn K mainGlobals "max" = some none)
    (z_min : PySem.W.nsIn K mainGlobals "min" = some none)
    (n_is_integer : PySem.W.nsIn K mainGlobals "is_integer" = some (some (.ref x_is_integer)))
    (l_is_integer : K.lookup x_is_integer = some ⟨oc_is_integer, od_is_integer, .func (PySem.W.fnOf "is_integer" "is_integer" (defArgs s_is_integer) (defBody s_is_integer) (defScope s_is_integer) .none kV_is_integer dc_is_integer pm_is_integer an_is_integer cd_is_integer ct_is_integer), osl_is_integer⟩)
    (c_is_integer : PySem.W.codeIn K cd_is_integer "is_integer" = true)
    (k_is_integer : PySem.W.keepIn K (.ref x_is_integer) = true)
    (n_common_divisor : PySem.W.nsIn K mainGlobals "common_divisor" = some (some (.ref x_common_divisor)))
    (l_common_divisor : K.lookup x_common_divisor = some ⟨oc_common_divisor, od_common_divisor, .func (PySem.W.fnOf "common_divisor" "common_divisor" (defArgs s_common_divisor) (defBody s_common_divisor) (defScope s_common_divisor) .none kV_common_divisor dc_common_divisor pm_common_divisor an_common_divisor cd_common_divisor ct_common_divisor), osl_common_divisor⟩)
    (c_common_divisor : PySem.W.codeIn K cd_common_divisor "common_divisor" = true)
    (k_common_divisor : PySem.W.keepIn K (.ref x_common_divisor) = true)
    (pa_Wunder : PySem.W.findIn K (.ref C_Worth) "under" = some (some (.ref p_Wunder)))
    (pg_Wunder : PySem.W.specialIn K (.ref p_Wunder) "__get__" = some (some (.builtin "property.__get__")))
    (pt_Wunder : PySem.W.takesIn K (.ref p_Wunder) = some true)
    (pr_Wunder : PySem.W.recIn K p_Wunder "property" = some (.ref x_Wunder :: rc_Wunder))
    (l_Wunder : K.lookup x_Wunder = some ⟨oc_Wunder, od_Wunder, .func (PySem.W.fnOf "under" "Worth.under" (defArgs s_Wunder) (defBody s_Wunder) (defScope s_Wunder) .none kV_Wunder dc_Wunder pm_Wunder an_Wunder cd_Wunder ct_Wunder), osl_Wunder⟩)
    (c_Wunder : PySem.W.codeIn K cd_Wunder "Worth.under" = true)
    (n_Wrepr : PySem.W.findIn K (.ref C_Worth) "__repr__" = some (some (.ref x_Wrepr)))
    (i_Wrepr : PySem.W.isFn K (.ref x_Wrepr) = true)
    (l_Wrepr : K.lookup x_Wrepr = some ⟨oc_Wrepr, od_Wrepr, .func (PySem.W.fnOf "__repr__" "Worth.__repr__" (defArgs s_Wrepr) (defBody s_Wrepr) (defScope s_Wrepr) .none kV_Wrepr dc_Wrepr pm_Wrepr an_Wrepr cd_Wrepr ct_Wrepr), osl_Wrepr⟩)
    (c_Wrepr : PySem.W.codeIn K cd_Wrepr "Worth.__repr__" = true)
    (n_is_number : PySem.W.nsIn K mainGlobals "is_number" = some (some (.ref x_is_number)))
    (l_is_number : K.lookup x_is_number = some ⟨oc_is_number, od_is_number, .func (PySem.W.fnOf "is_number" "is_number" (defArgs s_is_number) (defBody s_is_number) (defScope s_is_number) .none kV_is_number dc_is_number pm_is_number an_is_number cd_is_number ct_is_number), osl_is_number⟩)
    (c_is_number : PySem.W.codeIn K cd_is_number "is_number" = true)
    (k_is_number : PySem.W.keepIn K (.ref x_is_number) = true)
    (n_worth_of : PySem.W.nsIn K mainGlobals "worth_of" = some (some (.ref x_worth_of)))
    (l_worth_of : K.lookup x_worth_of = some ⟨oc_worth_of, od_worth_of, .func (PySem.W.fnOf "worth_of" "worth_of" (defArgs s_worth_of) (defBody s_worth_of) (defScope s_worth_of) .none kV_worth_of dc_worth_of pm_worth_of an_worth_of cd_worth_of ct_worth_of), osl_worth_of⟩)
    (c_worth_of : PySem.W.codeIn K cd_worth_of "worth_of" = true)
    (k_worth_of : PySem.W.keepIn K (.ref x_worth_of) = true)
    (n_is_name : PySem.W.nsIn K mainGlobals "is_name" = some (some (.ref x_is_name)))
    (l_is_name : K.lookup x_is_name = some ⟨oc_is_name, od_is_name, .func (PySem.W.fnOf "is_name" "is_name" (defArgs s_is_name) (defBody s_is_name) (defScope s_is_name) .none kV_is_name dc_is_name pm_is_name an_is_name cd_is_name ct_is_name), osl_is_name⟩)
    (c_is_name : PySem.W.codeIn K cd_is_name "is_name" = true)
    (k_is_name : PySem.W.keepIn K (.ref x_is_name) = true)
    (n_is_unknown : PySem.W.nsIn K mainGlobals "is_unknown" = some (some (.ref x_is_unknown)))
    (l_is_unknown : K.lookup x_is_unknown = some ⟨oc_is_unknown, od_is_unknown, .func (PySem.W.fnOf "is_unknown" "is_unknown" (defArgs s_is_unknown) (defBody s_is_unknown) (defScope s_is_unknown) .none kV_is_unknown dc_is_unknown pm_is_unknown an_is_unknown cd_is_unknown ct_is_unknown), osl_is_unknown⟩)
    (c_is_unknown : PySem.W.codeIn K cd_is_unknown "is_unknown" = true)
    (k_is_unknown : PySem.W.keepIn K (.ref x_is_unknown) = true)
    (n_names_of : PySem.W.nsIn K mainGlobals "names_of" = some (some (.ref x_names_of)))
    (l_names_of : K.lookup x_names_of = some ⟨oc_names_of, od_names_of, .func (PySem.W.fnOf "names_of" "names_of" (defArgs s_names_of) (defBody s_names_of) (defScope s_names_of) .none kV_names_of dc_names_of pm_names_of an_names_of cd_names_of ct_names_of), osl_names_of⟩)
    (c_names_of : PySem.W.codeIn K cd_names_of "names_of" = true)
    (k_names_of : PySem.W.keepIn K (.ref x_names_of) = true)
    (n_is_pair : PySem.W.nsIn K mainGlobals "is_pair" = some (some (.ref x_is_pair)))
    (l_is_pair : K.lookup x_is_pair = some ⟨oc_is_pair, od_is_pair, .func (PySem.W.fnOf "is_pair" "is_pair" (defArgs s_is_pair) (defBody s_is_pair) (defScope s_is_pair) .none kV_is_pair dc_is_pair pm_is_pair an_is_pair cd_is_pair ct_is_pair), osl_is_pair⟩)
    (c_is_pair : PySem.W.codeIn K cd_is_pair "is_pair" = true)
    (k_is_pair : PySem.W.keepIn K (.ref x_is_pair) = true)
    (n_is_point : PySem.W.nsIn K mainGlobals "is_point" = some (some (.ref x_is_point)))
    (l_is_point : K.lookup x_is_point = some ⟨oc_is_point, od_is_point, .func (PySem.W.fnOf "is_point" "is_point" (defArgs s_is_point) (defBody s_is_point) (defScope s_is_point) .none kV_is_point dc_is_point pm_is_point an_is_point cd_is_point ct_is_point), osl_is_point⟩)
    (c_is_point : PySem.W.codeIn K cd_is_point "is_point" = true)
    (k_is_point : PySem.W.keepIn K (.ref x_is_point) = true)
    (n_is_parts : PySem.W.nsIn K mainGlobals "is_parts" = some (some (.ref x_is_parts)))
    (l_is_parts : K.lookup x_is_parts = some ⟨oc_is_parts, od_is_parts, .func (PySem.W.fnOf "is_parts" "is_parts" (defArgs s_is_parts) (defBody s_is_parts) (defScope s_is_parts) .none kV_is_parts dc_is_parts pm_is_parts an_is_parts cd_is_parts ct_is_parts), osl_is_parts⟩)
    (c_is_parts : PySem.W.codeIn K cd_is_parts "is_parts" = true)
    (k_is_parts : PySem.W.keepIn K (.ref x_is_parts) = true)
    (n_wnn : PySem.W.nsIn K mainGlobals "without_noughts" = some (some (.ref x_wnn)))
    (l_wnn : K.lookup x_wnn = some ⟨oc_wnn, od_wnn, .func (PySem.W.fnOf "without_noughts" "without_noughts" (defArgs s_wnn) (defBody s_wnn) (defScope s_wnn) .none kV_wnn dc_wnn pm_wnn an_wnn cd_wnn ct_wnn), osl_wnn⟩)
    (c_wnn : PySem.W.codeIn K cd_wnn "without_noughts" = true)
    (k_wnn : PySem.W.keepIn K (.ref x_wnn) = true)
    (n_part_text : PySem.W.nsIn K mainGlobals "part_text" = some (some (.ref x_part_text)))
    (l_part_text : K.lookup x_part_text = some ⟨oc_part_text, od_part_text, .func (PySem.W.fnOf "part_text" "part_text" (defArgs s_part_text) (defBody s_part_text) (defScope s_part_text) .none kV_part_text dc_part_text pm_part_text an_part_text cd_part_text ct_part_text), osl_part_text⟩)
    (c_part_text : PySem.W.codeIn K cd_part_text "part_text" = true)
    (k_part_text : PySem.W.keepIn K (.ref x_part_text) = true)
    (n_signed_text : PySem.W.nsIn K mainGlobals "signed_text" = some (some (.ref x_signed_text)))
    (l_signed_text : K.lookup x_signed_text = some ⟨oc_signed_text, od_signed_text, .func (PySem.W.fnOf "signed_text" "signed_text" (defArgs s_signed_text) (defBody s_signed_text) (defScope s_signed_text) .none kV_signed_text dc_signed_text pm_signed_text an_signed_text cd_signed_text ct_signed_text), osl_signed_text⟩)
    (c_signed_text : PySem.W.codeIn K cd_signed_text "signed_text" = true)
    (k_signed_text : PySem.W.keepIn K (.ref x_signed_text) = true)
    (n_text_of : PySem.W.nsIn K mainGlobals "text_of" = some (some (.ref x_text_of)))
    (l_text_of : K.lookup x_text_of = some ⟨oc_text_of, od_text_of, .func (PySem.W.fnOf "text_of" "text_of" (defArgs s_text_of) (defBody s_text_of) (defScope s_text_of) .none kV_text_of dc_text_of pm_text_of an_text_of cd_text_of ct_text_of), osl_text_of⟩)
    (c_text_of : PySem.W.codeIn K cd_text_of "text_of" = true)
    (k_text_of : PySem.W.keepIn K (.ref x_text_of) = true)
    (n_Frepr : PySem.W.findIn K (.ref C_Form) "__repr__" = some (some (.ref x_Frepr)))
    (i_Frepr : PySem.W.isFn K (.ref x_Frepr) = true)
    (l_Frepr : K.lookup x_Frepr = some ⟨oc_Frepr, od_Frepr, .func (PySem.W.fnOf "__repr__" "Form.__repr__" (defArgs s_Frepr) (defBody s_Frepr) (defScope s_Frepr) .none kV_Frepr dc_Frepr pm_Frepr an_Frepr cd_Frepr ct_Frepr), osl_Frepr⟩)
    (c_Frepr : PySem.W.codeIn K cd_Frepr "Form.__repr__" = true)
    (n_l_jar : PySem.W.nsIn K mainGlobals "_law_jar" = some (some (.ref x_l_jar)))
    (l_l_jar : K.lookup x_l_jar = some ⟨oc_l_jar, od_l_jar, .func (PySem.W.fnOf "_law_jar" "_law_jar" (defArgs s_l_jar) (defBody s_l_jar) (defScope s_l_jar) .none kV_l_jar dc_l_jar pm_l_jar an_l_jar cd_l_jar ct_l_jar), osl_l_jar⟩)
    (c_l_jar : PySem.W.codeIn K cd_l_jar "_law_jar" = true)
    (k_l_jar : PySem.W.keepIn K (.ref x_l_jar) = true)
    (n_l_take : PySem.W.nsIn K mainGlobals "_law_take" = some (some (.ref x_l_take)))
    (l_l_take : K.lookup x_l_take = some ⟨oc_l_take, od_l_take, .func (PySem.W.fnOf "_law_take" "_law_take" (defArgs s_l_take) (defBody s_l_take) (defScope s_l_take) .none kV_l_take dc_l_take pm_l_take an_l_take cd_l_take ct_l_take), osl_l_take⟩)
    (c_l_take : PySem.W.codeIn K cd_l_take "_law_take" = true)
    (k_l_take : PySem.W.keepIn K (.ref x_l_take) = true)
    (n_l_of : PySem.W.nsIn K mainGlobals "_law_of" = some (some (.ref x_l_of)))
    (l_l_of : K.lookup x_l_of = some ⟨oc_l_of, od_l_of, .func (PySem.W.fnOf "_law_of" "_law_of" (defArgs s_l_of) (defBody s_l_of) (defScope s_l_of) .none kV_l_of dc_l_of pm_l_of an_l_of cd_l_of ct_l_of), osl_l_of⟩)
    (c_l_of : PySem.W.codeIn K cd_l_of "_law_of" = true)
    (k_l_of : PySem.W.keepIn K (.ref x_l_of) = true)
    (n_l_odd : PySem.W.nsIn K mainGlobals "_law_odd" = some (some (.ref x_l_odd)))
    (l_l_odd : K.lookup x_l_odd = some ⟨oc_l_odd, od_l_odd, .func (PySem.W.fnOf "_law_odd" "_law_odd" (defArgs s_l_odd) (defBody s_l_odd) (defScope s_l_odd) .none kV_l_odd dc_l_odd pm_l_odd an_l_odd cd_l_odd ct_l_odd), osl_l_odd⟩)
    (c_l_odd : PySem.W.codeIn K cd_l_odd "_law_odd" = true)
    (k_l_odd : PySem.W.keepIn K (.ref x_l_odd) = true)
    (n_l_kinds_of : PySem.W.nsIn K mainGlobals "_law_kinds_of" = some (some (.ref x_l_kinds_of)))
    (l_l_kinds_of : K.lookup x_l_kinds_of = some ⟨oc_l_kinds_of, od_l_kinds_of, .func (PySem.W.fnOf "_law_kinds_of" "_law_kinds_of" (defArgs s_l_kinds_of) (defBody s_l_kinds_of) (defScope s_l_kinds_of) .none kV_l_kinds_of dc_l_kinds_of pm_l_kinds_of an_l_kinds_of cd_l_kinds_of ct_l_kinds_of), osl_l_kinds_of⟩)
    (c_l_kinds_of : PySem.W.codeIn K cd_l_kinds_of "_law_kinds_of" = true)
    (k_l_kinds_of : PySem.W.keepIn K (.ref x_l_kinds_of) = true)
    (n_l_created : PySem.W.nsIn K mainGlobals "_law_created" = some (some (.ref x_l_created)))
    (l_l_created : K.lookup x_l_created = some ⟨oc_l_created, od_l_created, .func (PySem.W.fnOf "_law_created" "_law_created" (defArgs s_l_created) (defBody s_l_created) (defScope s_l_created) .none kV_l_created dc_l_created pm_l_created an_l_created cd_l_created ct_l_created), osl_l_created⟩)
    (c_l_created : PySem.W.codeIn K cd_l_created "_law_created" = true)
    (k_l_created : PySem.W.keepIn K (.ref x_l_created) = true)
    (n_l_is_raised : PySem.W.nsIn K mainGlobals "_law_is_raised" = some (some (.ref x_l_is_raised)))
    (l_l_is_raised : K.lookup x_l_is_raised = some ⟨oc_l_is_raised, od_l_is_raised, .func (PySem.W.fnOf "_law_is_raised" "_law_is_raised" (defArgs s_l_is_raised) (defBody s_l_is_raised) (defScope s_l_is_raised) .none kV_l_is_raised dc_l_is_raised pm_l_is_raised an_l_is_raised cd_l_is_raised ct_l_is_raised), osl_l_is_raised⟩)
    (c_l_is_raised : PySem.W.codeIn K cd_l_is_raised "_law_is_raised" = true)
    (k_l_is_raised : PySem.W.keepIn K (.ref x_l_is_raised) = true)
    (n_l_fine : PySem.W.nsIn K mainGlobals "_law_fine" = some (some (.ref x_l_fine)))
    (l_l_fine : K.lookup x_l_fine = some ⟨oc_l_fine, od_l_fine, .func (PySem.W.fnOf "_law_fine" "_law_fine" (defArgs s_l_fine) (defBody s_l_fine) (defScope s_l_fine) .none kV_l_fine dc_l_fine pm_l_fine an_l_fine cd_l_fine ct_l_fine), osl_l_fine⟩)
    (c_l_fine : PySem.W.codeIn K cd_l_fine "_law_fine" = true)
    (k_l_fine : PySem.W.keepIn K (.ref x_l_fine) = true)
    (n_law : PySem.W.nsIn K mainGlobals "law" = some (some (.ref x_law)))
    (l_law : K.lookup x_law = some ⟨oc_law, od_law, .func (PySem.W.fnOf "law" "law" (defArgs s_law) (defBody s_law) (defScope s_law) .none kV_law dc_law pm_law an_law cd_law ct_law), osl_law⟩)
    (c_law : PySem.W.codeIn K cd_law "law" = true)
    (k_law : PySem.W.keepIn K (.ref x_law) = true)
    (w_str : PySem.W.subIn K (.ref C_Worth) (.type "str") = some false)
    (w_tuple : PySem.W.subIn K (.ref C_Worth) (.type "tuple") = some false)
    (w_list : PySem.W.subIn K (.ref C_Worth) (.type "list") = some false)
    (w_dict : PySem.W.subIn K (.ref C_Worth) (.type "dict") = some false)
    (sWF : PySem.W.subIn K (.ref C_Worth) (.ref C_Form) = some false)
    (sFW : PySem.W.subIn K (.ref C_Form) (.ref C_Worth) = some false)
    (neFW : (C_Form == C_Worth) = false)
    (b_SlipError : PySem.W.subIn K (.ref C_SlipError) (.type "BaseException") = some true)
    (q_SlipError : PySem.W.isClsIn K C_SlipError = true)
    (y_SlipError : PySem.W.typeIn K (.ref C_SlipError) = some (.type "type"))
    (b_Impossible : PySem.W.subIn K (.ref C_Impossible) (.type "BaseException") = some true)
    (q_Impossible : PySem.W.isClsIn K C_Impossible = true)
    (y_Impossible : PySem.W.typeIn K (.ref C_Impossible) = some (.type "type"))
    (s_NoLine : PySem.W.subIn K (.ref C_NoLine) (.ref C_SlipError) = some true)
    (s_Imp : PySem.W.subIn K (.ref C_Impossible) (.ref C_Impossible) = some true) :
    ∃ (cs : List (Addr × Addr × Str)) (sp : SpD), (∀ p ∈ cs, h.get? p.2.1 = some { cls := .none, data := .fields #[] }) /\ (∀ p ∈ cs, K.lookup p.2.1 = none) /\ (∀ p ∈ cs, PySem.W.CodeHd h p.1 p.2.1) /\
        (∀ base : Heap, K.In base -> base.Ns mainGlobals mg -> (∀ p ∈ cs, LamX.TabB base mg p.1 p.2.1) -> GR PySem.Challenge.pw_sharedslip_k00_errors w K mg base fa 50 sp) /\
        ∀ ns : List Int, ns.length <= 63 -> (∀ z ∈ ns, Builtin.Int.intBits z <= 1048576) -> sp [.lst (ns.map D.int)] (T0 cs) (fun x _ => x = .bl true) fun _ _ => False := by
  have e := hfa.symm.trans (PySem.W.mg_of X G n_law)
  cases e
  obtain ⟨ad, ead⟩ : ∃ ad : Ad, ad = { inst := PySem.W.kitOne K, own := ownWF C_Worth C_Form, exm := fun S v => PySem.W.exmOne K v (.ref S), cls := [C_Worth], obj := [C_Form], exs := [C_BadWorth, C_NoQuotient, C_BadText, C_BadForm, C_NoUnknown, C_BadPoint, C_Missing, C_BadConditions, C_TooMany, C_BadProcedure, C_Contrary, C_NoLine, C_NotFree, C_BadBound, C_Open, C_BadThings, C_BadErrors, C_BadReadings, C_NoWay, C_BadWish, C_NoThing, C_BadWord, C_Unlike, C_BadWishes, C_BadOffers, C_Over, C_NoVariable, C_NotNext, C_NothingToUndo, C_NothingToRedo, C_BadJournal, C_BadLine, C_Impossible, C_SlipError], at_ := fun i => ([f_slip, C_SlipError, C_Worth, C_Form, C_BadWorth, C_NoQuotient, C_BadText, p_above, p_below, x_is_integer, x_common_divisor, 0, x_Winit, x_Wnumber, x_Wunder, x_Wtext, 0, x_Wrepr, x_Weq, x_l_jar, x_l_take, x_l_of, 0, 0, 0, 0, 0, 0, 0, 0, 0, x_l_fine, 0, 0, 0, 0, p_Wtext, 0, p_Wnumber, p_Wunder, C_BadForm, C_NoUnknown, 0, 0, 0, 0, 0, 0, 0, 0, 0, 0, 0, 0, 0, x_is_number, x_worth_of, x_is_name, x_is_unknown, x_names_of, x_is_pair, x_is_point, x_is_parts, x_wnn, x_Finit, 0, 0, 0, 0, 0, 0, 0, 0, 0, 0, 0, 0, 0, 0, 0, 0, 0, 0, 0, 0, 0, 0, 0, 0, 0, 0, 0, 0, 0, 0, 0, 0, 0, 0, 0, x_Wabs, x_part_text, x_signed_text, x_text_of, 0, 0, 0, 0, x_Frepr, 0, 0, 0, 0, 0, 0, 0, 0, 0, 0, 0, 0, x_l_odd, 0, 0, 0, 0, 0, 0, 0, 0, 0, 0, 0, 0, 0, 0, 0, 0, 0, 0, 0, 0, 0, 0, 0, C_BadPoint, C_Missing, 0, 0, 0, 0, 0, 0, 0, 0, 0, 0, 0, 0, C_BadConditions, C_TooMany, C_BadProcedure, C_Contrary, C_NoLine, C_NotFree, C_BadBound, C_Open, C_BadThings, C_BadErrors, C_BadReadings, C_NoWay, C_BadWish, C_NoThing, C_BadWord, C_Unlike, C_BadWishes, C_BadOffers, C_Over, C_NoVariable, C_NotNext, C_NothingToUndo, C_NothingToRedo, C_BadJournal, C_BadLine, C_Impossible, 0, 0, 0, 0, 0, 0, 0, 0, 0, 0, 0, 0, 0, 0, 0, 0, 0, 0, 0, 0, 0, 0, 0, 0, 0, 0, 0, 0, 0, 0, 0, 0, 0, 0, 0, 0, 0, 0, 0, 0, 0, 0, 0, 0, 0, 0, 0, 0, 0, 0, 0, 0, 0, 0, 0, 0, 0, 0, 0, 0, 0, 0, 0, 0, 0, 0, 0, 0, 0, 0, 0, 0, 0, 0, 0, 0, 0, 0, 0, 0, 0, 0, 0, 0, 0, 0, 0, 0, 0, 0, x_l_kinds_of, x_l_created, x_l_is_raised, 0, 0, 0, 0, 0, 0, 0, 0, 0, 0, 0, 0, 0, 0, 0, 0, 0, 0, 0, 0, 0, 0, 0, 0, 0, 0, 0, 0, 0, 0, 0, 0, 0, 0, 0, 0, 0, 0, 0, 0, 0, 0, 0, 0, 0, 0, 0, 0, 0, 0, 0, 0, 0, 0, 0, f_im] : List Addr).getD i 0, fdS := PySem.W.ksFn "__init__" "SlipError.__init__" (defArgs s_slip) (defBody s_slip) (defScope s_slip) .none kV_slip dc_slip pm_slip an_slip (.ref cda_slip) ct_slip cc_slip } := ⟨_, rfl⟩
  refine ⟨[], sp_law ad, fun p hp => (nomatch hp), fun p hp => (nomatch hp), fun p hp => (nomatch hp), fun base KB GB TB => ?_, fun ns hl hb => ⟨⟨ns, rfl, hb, hl, fun T' => rfl⟩⟩⟩
  ·
    have SF : SlF PySem.Challenge.pw_sharedslip_k00_errors K f_slip C_SlipError (PySem.W.ksFn "__init__" "SlipError.__init__" (defArgs s_slip) (defBody s_slip) (defScope s_slip) .none kV_slip dc_slip pm_slip an_slip (.ref cda_slip) ct_slip cc_slip) := ⟨⟨_, _, _, _, _, _, _, _, _, _, _, _, _, _, _, _, _, _, _, _, _, _, _, _, _, _, _, _, _, _, _, _, _, _, rfl, l_slip, c_slip, lc_slip, lv_slip, lf_slip, lcc_slip, cls_slip, rfl, rfl, rfl⟩, by decide +kernel, opq⟩
    have IF : ImF PySem.Challenge.pw_sharedslip_k00_errors K f_im C_Impossible (PySem.W.ksFn "__init__" "Impossible.__init__" (defArgs s_im) (defBody s_im) (defScope s_im) .none kV_im dc_im pm_im an_im (.ref cda_im) ct_im cc_im) := ⟨⟨_, _, _, _, _, _, _, _, _, _, _, _, _, _, _, _, _, _, _, _, _, _, _, _, _, _, _, _, _, _, _, _, _, _, rfl, l_im, c_im, lc_im, lv_im, lf_im, lcc_im, cls_im, rfl, rfl, rfl⟩, by decide +kernel, opq⟩
    have SLI := slip_init (CX := L2.CX PySem.Challenge.pw_sharedslip_k00_errors w) (w := w) (mg := mg) (base := base) (k := 0) SF (PySem.W.mg_none_of X G z_super)
    have SLB : L2.Binds K (PySem.W.ksFn "__init__" "SlipError.__init__" (defArgs s_slip) (defBody s_slip) (defScope s_slip) .none kV_slip dc_slip pm_slip an_slip (.ref cda_slip) ct_slip cc_slip) ["self", "value"] [] := L2.Binds.all fun us hl => match us, hl with | [_, _], _ => rfl
    have II : ImI PySem.Challenge.pw_sharedslip_k00_errors w K mg base 2 f_im C_SlipError f_slip C_Impossible := ⟨_, im_init (k := 1) IF (PySem.W.mg_none_of X G z_super) SLI SLB fn_im, L2.Binds.all fun us hl => match us, hl with | [_, _, _], _ => rfl⟩
    have EA : ∀ C ∈ [C_BadWorth, C_NoQuotient, C_BadText, C_BadForm, C_NoUnknown, C_BadPoint, C_Missing, C_BadConditions, C_TooMany, C_BadProcedure, C_Contrary, C_NoLine, C_NotFree, C_BadBound, C_Open, C_BadThings, C_BadErrors, C_BadReadings, C_NoWay, C_BadWish, C_NoThing, C_BadWord, C_Unlike, C_BadWishes, C_BadOffers, C_Over, C_NoVariable, C_NotNext, C_NothingToUndo, C_NothingToRedo, C_BadJournal, C_BadLine], _ := fun C hC => errsB_ok eAll hC
    have ES := errB_ok eSl
    have EI := errB_ok eIm
    have EX : ∀ C ∈ [C_BadWorth, C_NoQuotient, C_BadText, C_BadForm, C_NoUnknown, C_BadPoint, C_Missing, C_BadConditions, C_TooMany, C_BadProcedure, C_Contrary, C_NoLine, C_NotFree, C_BadBound, C_Open, C_BadThings, C_BadErrors, C_BadReadings, C_NoWay, C_BadWish, C_NoThing, C_BadWord, C_Unlike, C_BadWishes, C_BadOffers, C_Over, C_NoVariable, C_NotNext, C_NothingToUndo, C_NothingToRedo, C_BadJournal, C_BadLine, C_Impossible] ++ [C_SlipError], SlC K C_SlipError C /\ PySem.W.keepIn K (.ref C) = true /\ PySem.W.findIn K (.ref C) "value" = some none /\ PySem.W.findIn K (.ref C) "paper" = some none /\ ExC K C := fun C hC => by
      rcases List.mem_append.1 hC with hC | hC
      . rcases List.mem_append.1 (show C ∈ [C_BadWorth, C_NoQuotient, C_BadText, C_BadForm, C_NoUnknown, C_BadPoint, C_Missing, C_BadConditions, C_TooMany, C_BadProcedure, C_Contrary, C_NoLine, C_NotFree, C_BadBound, C_Open, C_BadThings, C_BadErrors, C_BadReadings, C_NoWay, C_BadWish, C_NoThing, C_BadWord, C_Unlike, C_BadWishes, C_BadOffers, C_Over, C_NoVariable, C_NotNext, C_NothingToUndo, C_NothingToRedo, C_BadJournal, C_BadLine] ++ [C_Impossible] from hC) with hC | hC
        . have z := EA C hC
          exact ⟨z.1, z.2.2.1, z.2.2.2.1, z.2.2.2.2.1, z.2.2.2.2.2 ocn oct⟩
        . rw [List.mem_singleton.1 hC]
          exact ⟨EI.1, EI.2.1, EI.2.2.1, EI.2.2.2.1, EI.2.2.2.2 ocn oct⟩
      . rw [List.mem_singleton.1 hC]
        exact ⟨ES.1, ES.2.1, ES.2.2.1, ES.2.2.2.1, ES.2.2.2.2 ocn oct⟩
    have clW : SlX.SCls K C_Worth := ⟨wpg, wic, wpo, wsa⟩
    have ocForm : L2.Cls K C_Form := ⟨oFormpg, oFormhd, oFormpo, oFormsa⟩
    have oiForm : OCls K C_Form := ⟨ocForm, oFormca, ocn, oct, oFormob⟩
    have t : Tx PySem.Challenge.pw_sharedslip_k00_errors w K mg base ad := by
      subst ead
      exact { hS := fun C h => (by have h := List.contains_iff_mem.1 h; simp only [List.mem_cons, List.not_mem_nil, or_false] at h; subst h; exact ⟨clW, ⟨wca, ocn, oct, e_ob⟩⟩), hE := fun C h => (by have h := List.contains_iff_mem.1 h; exact (EX C h).2.2.2.2), hO := fun C h => (by have h := List.contains_iff_mem.1 h; simp only [List.mem_cons, List.not_mem_nil, or_false] at h; rcases h with rfl; exact oiForm), hI := fun _ _ _ h => h, n_isinstance := PySem.W.mg_none_of X G z_isinstance, n_int := PySem.W.mg_none_of X G z_int, n_bool := PySem.W.mg_none_of X G z_bool, sc_BadWorth := (EX _ (List.mem_cons_self ..)).1, ic_BadWorth := (EA _ (List.mem_cons_self ..)).2.1, tI := ty_slip, slip := slip_init (k := 0) SF (PySem.W.mg_none_of X G z_super), slipB := L2.Binds.all fun us hl => match us, hl with | [_, _], _ => rfl, m_BadWorth := PySem.W.mg_of X G n_BadWorth, n_abs := PySem.W.mg_none_of X G z_abs, cl_Worth := clW, sl_above := ⟨sa_above, sg_above, st_above, sy_above, sx_above, by decide⟩, sl_below := ⟨sa_below, sg_below, st_below, sy_below, sx_below, by decide⟩, n_str := PySem.W.mg_none_of X G z_str, m_Worth := PySem.W.mg_of X G n_Worth, mk_Worth := ⟨mkWorth, n_Winit, i_Winit, kc_Worth⟩, k_Worth := kc_Worth, n_len := PySem.W.mg_none_of X G z_len, gc_MOST_LETTERS := ⟨_, PySem.W.mg_of X G n_MOST_LETTERS⟩, gc_WORDS := ⟨_, _, _, _, PySem.W.mg_of X G n_WORDS, l_WORDS, rfl, rfl, sz_ rfl, .cons ⟨_, rfl⟩ (.cons ⟨_, rfl⟩ (.cons ⟨_, rfl⟩ (.cons ⟨_, rfl⟩ (.cons ⟨_, rfl⟩ (.cons ⟨_, rfl⟩ (.cons ⟨_, rfl⟩ (.cons ⟨_, rfl⟩ (.cons ⟨_, rfl⟩ (.cons ⟨_, rfl⟩ (.cons ⟨_, rfl⟩ (.cons ⟨_, rfl⟩ (.cons ⟨_, rfl⟩ (.cons ⟨_, rfl⟩ (.cons ⟨_, rfl⟩ (.cons ⟨_, rfl⟩ (.nil))))))))))))))))⟩, n_all := PySem.W.mg_none_of X G z_all, gc_LETTERS := ⟨_, PySem.W.mg_of X G n_LETTERS⟩, gc_COUNTED := ⟨_, _, _, _, PySem.W.mg_of X G n_COUNTED, l_COUNTED, rfl, rfl, sz_ rfl, .cons ⟨_, rfl⟩ (.cons ⟨_, rfl⟩ (.cons ⟨_, rfl⟩ (.nil)))⟩, gc_DIGITS := ⟨_, PySem.W.mg_of X G n_DIGITS⟩, gc_PAIR := ⟨_, PySem.W.mg_of X G n_PAIR⟩, n_sorted := PySem.W.mg_none_of X G z_sorted, n_tuple := PySem.W.mg_none_of X G z_tuple, pr_Wnumber := ⟨pa_Wnumber, pg_Wnumber, pt_Wnumber, _, pr_Wnumber⟩, sc_BadForm := (EX _ (List.mem_cons_of_mem _ (List.mem_cons_of_mem _ (List.mem_cons_of_mem _ (List.mem_cons_self ..))))).1, ic_BadForm := (EA _ (List.mem_cons_of_mem _ (List.mem_cons_of_mem _ (List.mem_cons_of_mem _ (List.mem_cons_self ..))))).2.1, m_BadForm := PySem.W.mg_of X G n_BadForm, oc_Form := ocForm, na_table := na_table, na_last := na_last, ow_Worth := ⟨sfW, wint⟩, e_Weq := n_Weq, e_Weqf := i_Weq, pr_Wtext := ⟨pa_Wtext, pg_Wtext, pt_Wtext, _, pr_Wtext⟩, fi_Wabs := n_Wabs, if_Wabs := i_Wabs, m_NoQuotient := PySem.W.mg_of X G n_NoQuotient, m_BadText := PySem.W.mg_of X G n_BadText, m_NoUnknown := PySem.W.mg_of X G n_NoUnknown, m_BadPoint := PySem.W.mg_of X G n_BadPoint, m_Missing := PySem.W.mg_of X G n_Missing, m_BadConditions := PySem.W.mg_of X G n_BadConditions, m_TooMany := PySem.W.mg_of X G n_TooMany, m_BadProcedure := PySem.W.mg_of X G n_BadProcedure, m_Contrary := PySem.W.mg_of X G n_Contrary, m_NoLine := PySem.W.mg_of X G n_NoLine, m_NotFree := PySem.W.mg_of X G n_NotFree, m_BadBound := PySem.W.mg_of X G n_BadBound, m_Open := PySem.W.mg_of X G n_Open, m_BadThings := PySem.W.mg_of X G n_BadThings, m_BadErrors := PySem.W.mg_of X G n_BadErrors, m_BadReadings := PySem.W.mg_of X G n_BadReadings, m_NoWay := PySem.W.mg_of X G n_NoWay, m_BadWish := PySem.W.mg_of X G n_BadWish, m_NoThing := PySem.W.mg_of X G n_NoThing, m_BadWord := PySem.W.mg_of X G n_BadWord, m_Unlike := PySem.W.mg_of X G n_Unlike, m_BadWishes := PySem.W.mg_of X G n_BadWishes, m_BadOffers := PySem.W.mg_of X G n_BadOffers, m_Over := PySem.W.mg_of X G n_Over, m_NoVariable := PySem.W.mg_of X G n_NoVariable, m_NotNext := PySem.W.mg_of X G n_NotNext, m_NothingToUndo := PySem.W.mg_of X G n_NothingToUndo, m_NothingToRedo := PySem.W.mg_of X G n_NothingToRedo, m_BadJournal := PySem.W.mg_of X G n_BadJournal, m_BadLine := PySem.W.mg_of X G n_BadLine, m_Impossible := PySem.W.mg_of X G n_Impossible, k_BadWorth := (EX _ (List.mem_cons_self ..)).2.1, sc_NoQuotient := (EX _ (List.mem_cons_of_mem _ (List.mem_cons_self ..))).1, ic_NoQuotient := (EA _ (List.mem_cons_of_mem _ (List.mem_cons_self ..))).2.1, k_NoQuotient := (EX _ (List.mem_cons_of_mem _ (List.mem_cons_self ..))).2.1, sc_BadText := (EX _ (List.mem_cons_of_mem _ (List.mem_cons_of_mem _ (List.mem_cons_self ..)))).1, ic_BadText := (EA _ (List.mem_cons_of_mem _ (List.mem_cons_of_mem _ (List.mem_cons_self ..)))).2.1, k_BadText := (EX _ (List.mem_cons_of_mem _ (List.mem_cons_of_mem _ (List.mem_cons_self ..)))).2.1, k_BadForm := (EX _ (List.mem_cons_of_mem _ (List.mem_cons_of_mem _ (List.mem_cons_of_mem _ (List.mem_cons_self ..))))).2.1, sc_NoUnknown := (EX _ (List.mem_cons_of_mem _ (List.mem_cons_of_mem _ (List.mem_cons_of_mem _ (List.mem_cons_of_mem _ (List.mem_cons_self ..)))))).1, ic_NoUnknown := (EA _ (List.mem_cons_of_mem _ (List.mem_cons_of_mem _ (List.mem_cons_of_mem _ (List.mem_cons_of_mem _ (List.mem_cons_self ..)))))).2.1, k_NoUnknown := (EX _ (List.mem_cons_of_mem _ (List.mem_cons_of_mem _ (List.mem_cons_of_mem _ (List.mem_cons_of_mem _ (List.mem_cons_self ..)))))).2.1, sc_BadPoint := (EX _ (List.mem_cons_of_mem _ (List.mem_cons_of_mem _ (List.mem_cons_of_mem _ (List.mem_cons_of_mem _ (List.mem_cons_of_mem _ (List.mem_cons_self ..))))))).1, ic_BadPoint := (EA _ (List.mem_cons_of_mem _ (List.mem_cons_of_mem _ (List.mem_cons_of_mem _ (List.mem_cons_of_mem _ (List.mem_cons_of_mem _ (List.mem_cons_self ..))))))).2.1, k_BadPoint := (EX _ (List.mem_cons_of_mem _ (List.mem_cons_of_mem _ (List.mem_cons_of_mem _ (List.mem_cons_of_mem _ (List.mem_cons_of_mem _ (List.mem_cons_self ..))))))).2.1, sc_Missing := (EX _ (List.mem_cons_of_mem _ (List.mem_cons_of_mem _ (List.mem_cons_of_mem _ (List.mem_cons_of_mem _ (List.mem_cons_of_mem _ (List.mem_cons_of_mem _ (List.mem_cons_self ..)))))))).1, ic_Missing := (EA _ (List.mem_cons_of_mem _ (List.mem_cons_of_mem _ (List.mem_cons_of_mem _ (List.mem_cons_of_mem _ (List.mem_cons_of_mem _ (List.mem_cons_of_mem _ (List.mem_cons_self ..)))))))).2.1, k_Missing := (EX _ (List.mem_cons_of_mem _ (List.mem_cons_of_mem _ (List.mem_cons_of_mem _ (List.mem_cons_of_mem _ (List.mem_cons_of_mem _ (List.mem_cons_of_mem _ (List.mem_cons_self ..)))))))).2.1, sc_BadConditions := (EX _ (List.mem_cons_of_mem _ (List.mem_cons_of_mem _ (List.mem_cons_of_mem _ (List.mem_cons_of_mem _ (List.mem_cons_of_mem _ (List.mem_cons_of_mem _ (List.mem_cons_of_mem _ (List.mem_cons_self ..))))))))).1, ic_BadConditions := (EA _ (List.mem_cons_of_mem _ (List.mem_cons_of_mem _ (List.mem_cons_of_mem _ (List.mem_cons_of_mem _ (List.mem_cons_of_mem _ (List.mem_cons_of_mem _ (List.mem_cons_of_mem _ (List.mem_cons_self ..))))))))).2.1, k_BadConditions := (EX _ (List.mem_cons_of_mem _ (List.mem_cons_of_mem _ (List.mem_cons_of_mem _ (List.mem_cons_of_mem _ (List.mem_cons_of_mem _ (List.mem_cons_of_mem _ (List.mem_cons_of_mem _ (List.mem_cons_self ..))))))))).2.1, sc_TooMany := (EX _ (List.mem_cons_of_mem _ (List.mem_cons_of_mem _ (List.mem_cons_of_mem _ (List.mem_cons_of_mem _ (List.mem_cons_of_mem _ (List.mem_cons_of_mem _ (List.mem_cons_of_mem _ (List.mem_cons_of_mem _ (List.mem_cons_self ..)))))))))).1, ic_TooMany := (EA _ (List.mem_cons_of_mem _ (List.mem_cons_of_mem _ (List.mem_cons_of_mem _ (List.mem_cons_of_mem _ (List.mem_cons_of_mem _ (List.mem_cons_of_mem _ (List.mem_cons_of_mem _ (List.mem_cons_of_mem _ (List.mem_cons_self ..)))))))))).2.1, k_TooMany := (EX _ (List.mem_cons_of_mem _ (List.mem_cons_of_mem _ (List.mem_cons_of_mem _ (List.mem_cons_of_mem _ (List.mem_cons_of_mem _ (List.mem_cons_of_mem _ (List.mem_cons_of_mem _ (List.mem_cons_of_mem _ (List.mem_cons_self ..)))))))))).2.1, sc_BadProcedure := (EX _ (List.mem_cons_of_mem _ (List.mem_cons_of_mem _ (List.mem_cons_of_mem _ (List.mem_cons_of_mem _ (List.mem_cons_of_mem _ (List.mem_cons_of_mem _ (List.mem_cons_of_mem _ (List.mem_cons_of_mem _ (List.mem_cons_of_mem _ (List.mem_cons_self ..))))))))))).1, ic_BadProcedure := (EA _ (List.mem_cons_of_mem _ (List.mem_cons_of_mem _ (List.mem_cons_of_mem _ (List.mem_cons_of_mem _ (List.mem_cons_of_mem _ (List.mem_cons_of_mem _ (List.mem_cons_of_mem _ (List.mem_cons_of_mem _ (List.mem_cons_of_mem _ (List.mem_cons_self ..))))))))))).2.1, k_BadProcedure := (EX _ (List.mem_cons_of_mem _ (List.mem_cons_of_mem _ (List.mem_cons_of_mem _ (List.mem_cons_of_mem _ (List.mem_cons_of_mem _ (List.mem_cons_of_mem _ (List.mem_cons_of_mem _ (List.mem_cons_of_mem _ (List.mem_cons_of_mem _ (List.mem_cons_self ..))))))))))).2.1, sc_Contrary := (EX _ (List.mem_cons_of_mem _ (List.mem_cons_of_mem _ (List.mem_cons_of_mem _ (List.mem_cons_of_mem _ (List.mem_cons_of_mem _ (List.mem_cons_of_mem _ (List.mem_cons_of_mem _ (List.mem_cons_of_mem _ (List.mem_cons_of_mem _ (List.mem_cons_of_mem _ (List.mem_cons_self ..)))))))))))).1, ic_Contrary := (EA _ (List.mem_cons_of_mem _ (List.mem_cons_of_mem _ (List.mem_cons_of_mem _ (List.mem_cons_of_mem _ (List.mem_cons_of_mem _ (List.mem_cons_of_mem _ (List.mem_cons_of_mem _ (List.mem_cons_of_mem _ (List.mem_cons_of_mem _ (List.mem_cons_of_mem _ (List.mem_cons_self ..)))))))))))).2.1, k_Contrary := (EX _ (List.mem_cons_of_mem _ (List.mem_cons_of_mem _ (List.mem_cons_of_mem _ (List.mem_cons_of_mem _ (List.mem_cons_of_mem _ (List.mem_cons_of_mem _ (List.mem_cons_of_mem _ (List.mem_cons_of_mem _ (List.mem_cons_of_mem _ (List.mem_cons_of_mem _ (List.mem_cons_self ..)))))))))))).2.1, sc_NoLine := (EX _ (List.mem_cons_of_mem _ (List.mem_cons_of_mem _ (List.mem_cons_of_mem _ (List.mem_cons_of_mem _ (List.mem_cons_of_mem _ (List.mem_cons_of_mem _ (List.mem_cons_of_mem _ (List.mem_cons_of_mem _ (List.mem_cons_of_mem _ (List.mem_cons_of_mem _ (List.mem_cons_of_mem _ (List.mem_cons_self ..))))))))))))).1, ic_NoLine := (EA _ (List.mem_cons_of_mem _ (List.mem_cons_of_mem _ (List.mem_cons_of_mem _ (List.mem_cons_of_mem _ (List.mem_cons_of_mem _ (List.mem_cons_of_mem _ (List.mem_cons_of_mem _ (List.mem_cons_of_mem _ (List.mem_cons_of_mem _ (List.mem_cons_of_mem _ (List.mem_cons_of_mem _ (List.mem_cons_self ..))))))))))))).2.1, k_NoLine := (EX _ (List.mem_cons_of_mem _ (List.mem_cons_of_mem _ (List.mem_cons_of_mem _ (List.mem_cons_of_mem _ (List.mem_cons_of_mem _ (List.mem_cons_of_mem _ (List.mem_cons_of_mem _ (List.mem_cons_of_mem _ (List.mem_cons_of_mem _ (List.mem_cons_of_mem _ (List.mem_cons_of_mem _ (List.mem_cons_self ..))))))))))))).2.1, sc_NotFree := (EX _ (List.mem_cons_of_mem _ (List.mem_cons_of_mem _ (List.mem_cons_of_mem _ (List.mem_cons_of_mem _ (List.mem_cons_of_mem _ (List.mem_cons_of_mem _ (List.mem_cons_of_mem _ (List.mem_cons_of_mem _ (List.mem_cons_of_mem _ (List.mem_cons_of_mem _ (List.mem_cons_of_mem _ (List.mem_cons_of_mem _ (List.mem_cons_self ..)))))))))))))).1, ic_NotFree := (EA _ (List.mem_cons_of_mem _ (List.mem_cons_of_mem _ (List.mem_cons_of_mem _ (List.mem_cons_of_mem _ (List.mem_cons_of_mem _ (List.mem_cons_of_mem _ (List.mem_cons_of_mem _ (List.mem_cons_of_mem _ (List.mem_cons_of_mem _ (List.mem_cons_of_mem _ (List.mem_cons_of_mem _ (List.mem_cons_of_mem _ (List.mem_cons_self ..)))))))))))))).2.1, k_NotFree := (EX _ (List.mem_cons_of_mem _ (List.mem_cons_of_mem _ (List.mem_cons_of_mem _ (List.mem_cons_of_mem _ (List.mem_cons_of_mem _ (List.mem_cons_of_mem _ (List.mem_cons_of_mem _ (List.mem_cons_of_mem _ (List.mem_cons_of_mem _ (List.mem_cons_of_mem _ (List.mem_cons_of_mem _ (List.mem_cons_of_mem _ (List.mem_cons_self ..)))))))))))))).2.1, sc_BadBound := (EX _ (List.mem_cons_of_mem _ (List.mem_cons_of_mem _ (List.mem_cons_of_mem _ (List.mem_cons_of_mem _ (List.mem_cons_of_mem _ (List.mem_cons_of_mem _ (List.mem_cons_of_mem _ (List.mem_cons_of_mem _ (List.mem_cons_of_mem _ (List.mem_cons_of_mem _ (List.mem_cons_of_mem _ (List.mem_cons_of_mem _ (List.mem_cons_of_mem _ (List.mem_cons_self ..))))))))))))))).1, ic_BadBound := (EA _ (List.mem_cons_of_mem _ (List.mem_cons_of_mem _ (List.mem_cons_of_mem _ (List.mem_cons_of_mem _ (List.mem_cons_of_mem _ (List.mem_cons_of_mem _ (List.mem_cons_of_mem _ (List.mem_cons_of_mem _ (List.mem_cons_of_mem _ (List.mem_cons_of_mem _ (List.mem_cons_of_mem _ (List.mem_cons_of_mem _ (List.mem_cons_of_mem _ (List.mem_cons_self ..))))))))))))))).2.1, k_BadBound := (EX _ (List.mem_cons_of_mem _ (List.mem_cons_of_mem _ (List.mem_cons_of_mem _ (List.mem_cons_of_mem _ (List.mem_cons_of_mem _ (List.mem_cons_of_mem _ (List.mem_cons_of_mem _ (List.mem_cons_of_mem _ (List.mem_cons_of_mem _ (List.mem_cons_of_mem _ (List.mem_cons_of_mem _ (List.mem_cons_of_mem _ (List.mem_cons_of_mem _ (List.mem_cons_self ..))))))))))))))).2.1, sc_Open := (EX _ (List.mem_cons_of_mem _ (List.mem_cons_of_mem _ (List.mem_cons_of_mem _ (List.mem_cons_of_mem _ (List.mem_cons_of_mem _ (List.mem_cons_of_mem _ (List.mem_cons_of_mem _ (List.mem_cons_of_mem _ (List.mem_cons_of_mem _ (List.mem_cons_of_mem _ (List.mem_cons_of_mem _ (List.mem_cons_of_mem _ (List.mem_cons_of_mem _ (List.mem_cons_of_mem _ (List.mem_cons_self ..)))))))))))))))).1, ic_Open := (EA _ (List.mem_cons_of_mem _ (List.mem_cons_of_mem _ (List.mem_cons_of_mem _ (List.mem_cons_of_mem _ (List.mem_cons_of_mem _ (List.mem_cons_of_mem _ (List.mem_cons_of_mem _ (List.mem_cons_of_mem _ (List.mem_cons_of_mem _ (List.mem_cons_of_mem _ (List.mem_cons_of_mem _ (List.mem_cons_of_mem _ (List.mem_cons_of_mem _ (List.mem_cons_of_mem _ (List.mem_cons_self ..)))))))))))))))).2.1, k_Open := (EX _ (List.mem_cons_of_mem _ (List.mem_cons_of_mem _ (List.mem_cons_of_mem _ (List.mem_cons_of_mem _ (List.mem_cons_of_mem _ (List.mem_cons_of_mem _ (List.mem_cons_of_mem _ (List.mem_cons_of_mem _ (List.mem_cons_of_mem _ (List.mem_cons_of_mem _ (List.mem_cons_of_mem _ (List.mem_cons_of_mem _ (List.mem_cons_of_mem _ (List.mem_cons_of_mem _ (List.mem_cons_self ..)))))))))))))))).2.1, sc_BadThings := (EX _ (List.mem_cons_of_mem _ (List.mem_cons_of_mem _ (List.mem_cons_of_mem _ (List.mem_cons_of_mem _ (List.mem_cons_of_mem _ (List.mem_cons_of_mem _ (List.mem_cons_of_mem _ (List.mem_cons_of_mem _ (List.mem_cons_of_mem _ (List.mem_cons_of_mem _ (List.mem_cons_of_mem _ (List.mem_cons_of_mem _ (List.mem_cons_of_mem _ (List.mem_cons_of_mem _ (List.mem_cons_of_mem _ (List.mem_cons_self ..))))))))))))))))).1, ic_BadThings := (EA _ (List.mem_cons_of_mem _ (List.mem_cons_of_mem _ (List.mem_cons_of_mem _ (List.mem_cons_of_mem _ (List.mem_cons_of_mem _ (List.mem_cons_of_mem _ (List.mem_cons_of_mem _ (List.mem_cons_of_mem _ (List.mem_cons_of_mem _ (List.mem_cons_of_mem _ (List.mem_cons_of_mem _ (List.mem_cons_of_mem _ (List.mem_cons_of_mem _ (List.mem_cons_of_mem _ (List.mem_cons_of_mem _ (List.mem_cons_self ..))))))))))))))))).2.1, k_BadThings := (EX _ (List.mem_cons_of_mem _ (List.mem_cons_of_mem _ (List.mem_cons_of_mem _ (List.mem_cons_of_mem _ (List.mem_cons_of_mem _ (List.mem_cons_of_mem _ (List.mem_cons_of_mem _ (List.mem_cons_of_mem _ (List.mem_cons_of_mem _ (List.mem_cons_of_mem _ (List.mem_cons_of_mem _ (List.mem_cons_of_mem _ (List.mem_cons_of_mem _ (List.mem_cons_of_mem _ (List.mem_cons_of_mem _ (List.mem_cons_self ..))))))))))))))))).2.1, sc_BadErrors := (EX _ (List.mem_cons_of_mem _ (List.mem_cons_of_mem _ (List.mem_cons_of_mem _ (List.mem_cons_of_mem _ (List.mem_cons_of_mem _ (List.mem_cons_of_mem _ (List.mem_cons_of_mem _ (List.mem_cons_of_mem _ (List.mem_cons_of_mem _ (List.mem_cons_of_mem _ (List.mem_cons_of_mem _ (List.mem_cons_of_mem _ (List.mem_cons_of_mem _ (List.mem_cons_of_mem _ (List.mem_cons_of_mem _ (List.mem_cons_of_mem _ (List.mem_cons_self ..)))))))))))))))))).1, ic_BadErrors := (EA _ (List.mem_cons_of_mem _ (List.mem_cons_of_mem _ (List.mem_cons_of_mem _ (List.mem_cons_of_mem _ (List.mem_cons_of_mem _ (List.mem_cons_of_mem _ (List.mem_cons_of_mem _ (List.mem_cons_of_mem _ (List.mem_cons_of_mem _ (List.mem_cons_of_mem _ (List.mem_cons_of_mem _ (List.mem_cons_of_mem _ (List.mem_cons_of_mem _ (List.mem_cons_of_mem _ (List.mem_cons_of_mem _ (List.mem_cons_of_mem _ (List.mem_cons_self ..)))))))))))))))))).2.1, k_BadErrors := (EX _ (List.mem_cons_of_mem _ (List.mem_cons_of_mem _ (List.mem_cons_of_mem _ (List.mem_cons_of_mem _ (List.mem_cons_of_mem _ (List.mem_cons_of_mem _ (List.mem_cons_of_mem _ (List.mem_cons_of_mem _ (List.mem_cons_of_mem _ (List.mem_cons_of_mem _ (List.mem_cons_of_mem _ (List.mem_cons_of_mem _ (List.mem_cons_of_mem _ (List.mem_cons_of_mem _ (List.mem_cons_of_mem _ (List.mem_cons_of_mem _ (List.mem_cons_self ..)))))))))))))))))).2.1, sc_BadReadings := (EX _ (List.mem_cons_of_mem _ (List.mem_cons_of_mem _ (List.mem_cons_of_mem _ (List.mem_cons_of_mem _ (List.mem_cons_of_mem _ (List.mem_cons_of_mem _ (List.mem_cons_of_mem _ (List.mem_cons_of_mem _ (List.mem_cons_of_mem _ (List.mem_cons_of_mem _ (List.mem_cons_of_mem _ (List.mem_cons_of_mem _ (List.mem_cons_of_mem _ (List.mem_cons_of_mem _ (List.mem_cons_of_mem _ (List.mem_cons_of_mem _ (List.mem_cons_of_mem _ (List.mem_cons_self ..))))))))))))))))))).1, ic_BadReadings := (EA _ (List.mem_cons_of_mem _ (List.mem_cons_of_mem _ (List.mem_cons_of_mem _ (List.mem_cons_of_mem _ (List.mem_cons_of_mem _ (List.mem_cons_of_mem _ (List.mem_cons_of_mem _ (List.mem_cons_of_mem _ (List.mem_cons_of_mem _ (List.mem_cons_of_mem _ (List.mem_cons_of_mem _ (List.mem_cons_of_mem _ (List.mem_cons_of_mem _ (List.mem_cons_of_mem _ (List.mem_cons_of_mem _ (List.mem_cons_of_mem _ (List.mem_cons_of_mem _ (List.mem_cons_self ..))))))))))))))))))).2.1, k_BadReadings := (EX _ (List.mem_cons_of_mem _ (List.mem_cons_of_mem _ (List.mem_cons_of_mem _ (List.mem_cons_of_mem _ (List.mem_cons_of_mem _ (List.mem_cons_of_mem _ (List.mem_cons_of_mem _ (List.mem_cons_of_mem _ (List.mem_cons_of_mem _ (List.mem_cons_of_mem _ (List.mem_cons_of_mem _ (List.mem_cons_of_mem _ (List.mem_cons_of_mem _ (List.mem_cons_of_mem _ (List.mem_cons_of_mem _ (List.mem_cons_of_mem _ (List.mem_cons_of_mem _ (List.mem_cons_self ..))))))))))))))))))).2.1, sc_NoWay := (EX _ (List.mem_cons_of_mem _ (List.mem_cons_of_mem _ (List.mem_cons_of_mem _ (List.mem_cons_of_mem _ (List.mem_cons_of_mem _ (List.mem_cons_of_mem _ (List.mem_cons_of_mem _ (List.mem_cons_of_mem _ (List.mem_cons_of_mem _ (List.mem_cons_of_mem _ (List.mem_cons_of_mem _ (List.mem_cons_of_mem _ (List.mem_cons_of_mem _ (List.mem_cons_of_mem _ (List.mem_cons_of_mem _ (List.mem_cons_of_mem _ (List.mem_cons_of_mem _ (List.mem_cons_of_mem _ (List.mem_cons_self ..)))))))))))))))))))).1, ic_NoWay := (EA _ (List.mem_cons_of_mem _ (List.mem_cons_of_mem _ (List.mem_cons_of_mem _ (List.mem_cons_of_mem _ (List.mem_cons_of_mem _ (List.mem_cons_of_mem _ (List.mem_cons_of_mem _ (List.mem_cons_of_mem _ (List.mem_cons_of_mem _ (List.mem_cons_of_mem _ (List.mem_cons_of_mem _ (List.mem_cons_of_mem _ (List.mem_cons_of_mem _ (List.mem_cons_of_mem _ (List.mem_cons_of_mem _ (List.mem_cons_of_mem _ (List.mem_cons_of_mem _ (List.mem_cons_of_mem _ (List.mem_cons_self ..)))))))))))))))))))).2.1, k_NoWay := (EX _ (List.mem_cons_of_mem _ (List.mem_cons_of_mem _ (List.mem_cons_of_mem _ (List.mem_cons_of_mem _ (List.mem_cons_of_mem _ (List.mem_cons_of_mem _ (List.mem_cons_of_mem _ (List.mem_cons_of_mem _ (List.mem_cons_of_mem _ (List.mem_cons_of_mem _ (List.mem_cons_of_mem _ (List.mem_cons_of_mem _ (List.mem_cons_of_mem _ (List.mem_cons_of_mem _ (List.mem_cons_of_mem _ (List.mem_cons_of_mem _ (List.mem_cons_of_mem _ (List.mem_cons_of_mem _ (List.mem_cons_self ..)))))))))))))))))))).2.1, sc_BadWish := (EX _ (List.mem_cons_of_mem _ (List.mem_cons_of_mem _ (List.mem_cons_of_mem _ (List.mem_cons_of_mem _ (List.mem_cons_of_mem _ (List.mem_cons_of_mem _ (List.mem_cons_of_mem _ (List.mem_cons_of_mem _ (List.mem_cons_of_mem _ (List.mem_cons_of_mem _ (List.mem_cons_of_mem _ (List.mem_cons_of_mem _ (List.mem_cons_of_mem _ (List.mem_cons_of_mem _ (List.mem_cons_of_mem _ (List.mem_cons_of_mem _ (List.mem_cons_of_mem _ (List.mem_cons_of_mem _ (List.mem_cons_of_mem _ (List.mem_cons_self ..))))))))))))))))))))).1, ic_BadWish := (EA _ (List.mem_cons_of_mem _ (List.mem_cons_of_mem _ (List.mem_cons_of_mem _ (List.mem_cons_of_mem _ (List.mem_cons_of_mem _ (List.mem_cons_of_mem _ (List.mem_cons_of_mem _ (List.mem_cons_of_mem _ (List.mem_cons_of_mem _ (List.mem_cons_of_mem _ (List.mem_cons_of_mem _ (List.mem_cons_of_mem _ (List.mem_cons_of_mem _ (List.mem_cons_of_mem _ (List.mem_cons_of_mem _ (List.mem_cons_of_mem _ (List.mem_cons_of_mem _ (List.mem_cons_of_mem _ (List.mem_cons_of_mem _ (List.mem_cons_self ..))))))))))))))))))))).2.1, k_BadWish := (EX _ (List.mem_cons_of_mem _ (List.mem_cons_of_mem _ (List.mem_cons_of_mem _ (List.mem_cons_of_mem _ (List.mem_cons_of_mem _ (List.mem_cons_of_mem _ (List.mem_cons_of_mem _ (List.mem_cons_of_mem _ (List.mem_cons_of_mem _ (List.mem_cons_of_mem _ (List.mem_cons_of_mem _ (List.mem_cons_of_mem _ (List.mem_cons_of_mem _ (List.mem_cons_of_mem _ (List.mem_cons_of_mem _ (List.mem_cons_of_mem _ (List.mem_cons_of_mem _ (List.mem_cons_of_mem _ (List.mem_cons_of_mem _ (List.mem_cons_self ..))))))))))))))))))))).2.1, sc_NoThing := (EX _ (List.mem_cons_of_mem _ (List.mem_cons_of_mem _ (List.mem_cons_of_mem _ (List.mem_cons_of_mem _ (List.mem_cons_of_mem _ (List.mem_cons_of_mem _ (List.mem_cons_of_mem _ (List.mem_cons_of_mem _ (List.mem_cons_of_mem _ (List.mem_cons_of_mem _ (List.mem_cons_of_mem _ (List.mem_cons_of_mem _ (List.mem_cons_of_mem _ (List.mem_cons_of_mem _ (List.mem_cons_of_mem _ (List.mem_cons_of_mem _ (List.mem_cons_of_mem _ (List.mem_cons_of_mem _ (List.mem_cons_of_mem _ (List.mem_cons_of_mem _ (List.mem_cons_self ..)))))))))))))))))))))).1, ic_NoThing := (EA _ (List.mem_cons_of_mem _ (List.mem_cons_of_mem _ (List.mem_cons_of_mem _ (List.mem_cons_of_mem _ (List.mem_cons_of_mem _ (List.mem_cons_of_mem _ (List.mem_cons_of_mem _ (List.mem_cons_of_mem _ (List.mem_cons_of_mem _ (List.mem_cons_of_mem _ (List.mem_cons_of_mem _ (List.mem_cons_of_mem _ (List.mem_cons_of_mem _ (List.mem_cons_of_mem _ (List.mem_cons_of_mem _ (List.mem_cons_of_mem _ (List.mem_cons_of_mem _ (List.mem_cons_of_mem _ (List.mem_cons_of_mem _ (List.mem_cons_of_mem _ (List.mem_cons_self ..)))))))))))))))))))))).2.1, k_NoThing := (EX _ (List.mem_cons_of_mem _ (List.mem_cons_of_mem _ (List.mem_cons_of_mem _ (List.mem_cons_of_mem _ (List.mem_cons_of_mem _ (List.mem_cons_of_mem _ (List.mem_cons_of_mem _ (List.mem_cons_of_mem _ (List.mem_cons_of_mem _ (List.mem_cons_of_mem _ (List.mem_cons_of_mem _ (List.mem_cons_of_mem _ (List.mem_cons_of_mem _ (List.mem_cons_of_mem _ (List.mem_cons_of_mem _ (List.mem_cons_of_mem _ (List.mem_cons_of_mem _ (List.mem_cons_of_mem _ (List.mem_cons_of_mem _ (List.mem_cons_of_mem _ (List.mem_cons_self ..)))))))))))))))))))))).2.1, sc_BadWord := (EX _ (List.mem_cons_of_mem _ (List.mem_cons_of_mem _ (List.mem_cons_of_mem _ (List.mem_cons_of_mem _ (List.mem_cons_of_mem _ (List.mem_cons_of_mem _ (List.mem_cons_of_mem _ (List.mem_cons_of_mem _ (List.mem_cons_of_mem _ (List.mem_cons_of_mem _ (List.mem_cons_of_mem _ (List.mem_cons_of_mem _ (List.mem_cons_of_mem _ (List.mem_cons_of_mem _ (List.mem_cons_of_mem _ (List.mem_cons_of_mem _ (List.mem_cons_of_mem _ (List.mem_cons_of_mem _ (List.mem_cons_of_mem _ (List.mem_cons_of_mem _ (List.mem_cons_of_mem _ (List.mem_cons_self ..))))))))))))))))))))))).1, ic_BadWord := (EA _ (List.mem_cons_of_mem _ (List.mem_cons_of_mem _ (List.mem_cons_of_mem _ (List.mem_cons_of_mem _ (List.mem_cons_of_mem _ (List.mem_cons_of_mem _ (List.mem_cons_of_mem _ (List.mem_cons_of_mem _ (List.mem_cons_of_mem _ (List.mem_cons_of_mem _ (List.mem_cons_of_mem _ (List.mem_cons_of_mem _ (List.mem_cons_of_mem _ (List.mem_cons_of_mem _ (List.mem_cons_of_mem _ (List.mem_cons_of_mem _ (List.mem_cons_of_mem _ (List.mem_cons_of_mem _ (List.mem_cons_of_mem _ (List.mem_cons_of_mem _ (List.mem_cons_of_mem _ (List.mem_cons_self ..))))))))))))))))))))))).2.1, k_BadWord := (EX _ (List.mem_cons_of_mem _ (List.mem_cons_of_mem _ (List.mem_cons_of_mem _ (List.mem_cons_of_mem _ (List.mem_cons_of_mem _ (List.mem_cons_of_mem _ (List.mem_cons_of_mem _ (List.mem_cons_of_mem _ (List.mem_cons_of_mem _ (List.mem_cons_of_mem _ (List.mem_cons_of_mem _ (List.mem_cons_of_mem _ (List.mem_cons_of_mem _ (List.mem_cons_of_mem _ (List.mem_cons_of_mem _ (List.mem_cons_of_mem _ (List.mem_cons_of_mem _ (List.mem_cons_of_mem _ (List.mem_cons_of_mem _ (List.mem_cons_of_mem _ (List.mem_cons_of_mem _ (List.mem_cons_self ..))))))))))))))))))))))).2.1, sc_Unlike := (EX _ (List.mem_cons_of_mem _ (List.mem_cons_of_mem _ (List.mem_cons_of_mem _ (List.mem_cons_of_mem _ (List.mem_cons_of_mem _ (List.mem_cons_of_mem _ (List.mem_cons_of_mem _ (List.mem_cons_of_mem _ (List.mem_cons_of_mem _ (List.mem_cons_of_mem _ (List.mem_cons_of_mem _ (List.mem_cons_of_mem _ (List.mem_cons_of_mem _ (List.mem_cons_of_mem _ (List.mem_cons_of_mem _ (List.mem_cons_of_mem _ (List.mem_cons_of_mem _ (List.mem_cons_of_mem _ (List.mem_cons_of_mem _ (List.mem_cons_of_mem _ (List.mem_cons_of_mem _ (List.mem_cons_of_mem _ (List.mem_cons_self ..)))))))))))))))))))))))).1, ic_Unlike := (EA _ (List.mem_cons_of_mem _ (List.mem_cons_of_mem _ (List.mem_cons_of_mem _ (List.mem_cons_of_mem _ (List.mem_cons_of_mem _ (List.mem_cons_of_mem _ (List.mem_cons_of_mem _ (List.mem_cons_of_mem _ (List.mem_cons_of_mem _ (List.mem_cons_of_mem _ (List.mem_cons_of_mem _ (List.mem_cons_of_mem _ (List.mem_cons_of_mem _ (List.mem_cons_of_mem _ (List.mem_cons_of_mem _ (List.mem_cons_of_mem _ (List.mem_cons_of_mem _ (List.mem_cons_of_mem _ (List.mem_cons_of_mem _ (List.mem_cons_of_mem _ (List.mem_cons_of_mem _ (List.mem_cons_of_mem _ (List.mem_cons_self ..)))))))))))))))))))))))).2.1, k_Unlike := (EX _ (List.mem_cons_of_mem _ (List.mem_cons_of_mem _ (List.mem_cons_of_mem _ (List.mem_cons_of_mem _ (List.mem_cons_of_mem _ (List.mem_cons_of_mem _ (List.mem_cons_of_mem _ (List.mem_cons_of_mem _ (List.mem_cons_of_mem _ (List.mem_cons_of_mem _ (List.mem_cons_of_mem _ (List.mem_cons_of_mem _ (List.mem_cons_of_mem _ (List.mem_cons_of_mem _ (List.mem_cons_of_mem _ (List.mem_cons_of_mem _ (List.mem_cons_of_mem _ (List.mem_cons_of_mem _ (List.mem_cons_of_mem _ (List.mem_cons_of_mem _ (List.mem_cons_of_mem _ (List.mem_cons_of_mem _ (List.mem_cons_self ..)))))))))))))))))))))))).2.1, sc_BadWishes := (EX _ (List.mem_cons_of_mem _ (List.mem_cons_of_mem _ (List.mem_cons_of_mem _ (List.mem_cons_of_mem _ (List.mem_cons_of_mem _ (List.mem_cons_of_mem _ (List.mem_cons_of_mem _ (List.mem_cons_of_mem _ (List.mem_cons_of_mem _ (List.mem_cons_of_mem _ (List.mem_cons_of_mem _ (List.mem_cons_of_mem _ (List.mem_cons_of_mem _ (List.mem_cons_of_mem _ (List.mem_cons_of_mem _ (List.mem_cons_of_mem _ (List.mem_cons_of_mem _ (List.mem_cons_of_mem _ (List.mem_cons_of_mem _ (List.mem_cons_of_mem _ (List.mem_cons_of_mem _ (List.mem_cons_of_mem _ (List.mem_cons_of_mem _ (List.mem_cons_self ..))))))))))))))))))))))))).1, ic_BadWishes := (EA _ (List.mem_cons_of_mem _ (List.mem_cons_of_mem _ (List.mem_cons_of_mem _ (List.mem_cons_of_mem _ (List.mem_cons_of_mem _ (List.mem_cons_of_mem _ (List.mem_cons_of_mem _ (List.mem_cons_of_mem _ (List.mem_cons_of_mem _ (List.mem_cons_of_mem _ (List.mem_cons_of_mem _ (List.mem_cons_of_mem _ (List.mem_cons_of_mem _ (List.mem_cons_of_mem _ (List.mem_cons_of_mem _ (List.mem_cons_of_mem _ (List.mem_cons_of_mem _ (List.mem_cons_of_mem _ (List.mem_cons_of_mem _ (List.mem_cons_of_mem _ (List.mem_cons_of_mem _ (List.mem_cons_of_mem _ (List.mem_cons_of_mem _ (List.mem_cons_self ..))))))))))))))))))))))))).2.1, k_BadWishes := (EX _ (List.mem_cons_of_mem _ (List.mem_cons_of_mem _ (List.mem_cons_of_mem _ (List.mem_cons_of_mem _ (List.mem_cons_of_mem _ (List.mem_cons_of_mem _ (List.mem_cons_of_mem _ (List.mem_cons_of_mem _ (List.mem_cons_of_mem _ (List.mem_cons_of_mem _ (List.mem_cons_of_mem _ (List.mem_cons_of_mem _ (List.mem_cons_of_mem _ (List.mem_cons_of_mem _ (List.mem_cons_of_mem _ (List.mem_cons_of_mem _ (List.mem_cons_of_mem _ (List.mem_cons_of_mem _ (List.mem_cons_of_mem _ (List.mem_cons_of_mem _ (List.mem_cons_of_mem _ (List.mem_cons_of_mem _ (List.mem_cons_of_mem _ (List.mem_cons_self ..))))))))))))))))))))))))).2.1, sc_BadOffers := (EX _ (List.mem_cons_of_mem _ (List.mem_cons_of_mem _ (List.mem_cons_of_mem _ (List.mem_cons_of_mem _ (List.mem_cons_of_mem _ (List.mem_cons_of_mem _ (List.mem_cons_of_mem _ (List.mem_cons_of_mem _ (List.mem_cons_of_mem _ (List.mem_cons_of_mem _ (List.mem_cons_of_mem _ (List.mem_cons_of_mem _ (List.mem_cons_of_mem _ (List.mem_cons_of_mem _ (List.mem_cons_of_mem _ (List.mem_cons_of_mem _ (List.mem_cons_of_mem _ (List.mem_cons_of_mem _ (List.mem_cons_of_mem _ (List.mem_cons_of_mem _ (List.mem_cons_of_mem _ (List.mem_cons_of_mem _ (List.mem_cons_of_mem _ (List.mem_cons_of_mem _ (List.mem_cons_self ..)))))))))))))))))))))))))).1, ic_BadOffers := (EA _ (List.mem_cons_of_mem _ (List.mem_cons_of_mem _ (List.mem_cons_of_mem _ (List.mem_cons_of_mem _ (List.mem_cons_of_mem _ (List.mem_cons_of_mem _ (List.mem_cons_of_mem _ (List.mem_cons_of_mem _ (List.mem_cons_of_mem _ (List.mem_cons_of_mem _ (List.mem_cons_of_mem _ (List.mem_cons_of_mem _ (List.mem_cons_of_mem _ (List.mem_cons_of_mem _ (List.mem_cons_of_mem _ (List.mem_cons_of_mem _ (List.mem_cons_of_mem _ (List.mem_cons_of_mem _ (List.mem_cons_of_mem _ (List.mem_cons_of_mem _ (List.mem_cons_of_mem _ (List.mem_cons_of_mem _ (List.mem_cons_of_mem _ (List.mem_cons_of_mem _ (List.mem_cons_self ..)))))))))))))))))))))))))).2.1, k_BadOffers := (EX _ (List.mem_cons_of_mem _ (List.mem_cons_of_mem _ (List.mem_cons_of_mem _ (List.mem_cons_of_mem _ (List.mem_cons_of_mem _ (List.mem_cons_of_mem _ (List.mem_cons_of_mem _ (List.mem_cons_of_mem _ (List.mem_cons_of_mem _ (List.mem_cons_of_mem _ (List.mem_cons_of_mem _ (List.mem_cons_of_mem _ (List.mem_cons_of_mem _ (List.mem_cons_of_mem _ (List.mem_cons_of_mem _ (List.mem_cons_of_mem _ (List.mem_cons_of_mem _ (List.mem_cons_of_mem _ (List.mem_cons_of_mem _ (List.mem_cons_of_mem _ (List.mem_cons_of_mem _ (List.mem_cons_of_mem _ (List.mem_cons_of_mem _ (List.mem_cons_of_mem _ (List.mem_cons_self ..)))))))))))))))))))))))))).2.1, sc_Over := (EX _ (List.mem_cons_of_mem _ (List.mem_cons_of_mem _ (List.mem_cons_of_mem _ (List.mem_cons_of_mem _ (List.mem_cons_of_mem _ (List.mem_cons_of_mem _ (List.mem_cons_of_mem _ (List.mem_cons_of_mem _ (List.mem_cons_of_mem _ (List.mem_cons_of_mem _ (List.mem_cons_of_mem _ (List.mem_cons_of_mem _ (List.mem_cons_of_mem _ (List.mem_cons_of_mem _ (List.mem_cons_of_mem _ (List.mem_cons_of_mem _ (List.mem_cons_of_mem _ (List.mem_cons_of_mem _ (List.mem_cons_of_mem _ (List.mem_cons_of_mem _ (List.mem_cons_of_mem _ (List.mem_cons_of_mem _ (List.mem_cons_of_mem _ (List.mem_cons_of_mem _ (List.mem_cons_of_mem _ (List.mem_cons_self ..))))))))))))))))))))))))))).1, ic_Over := (EA _ (List.mem_cons_of_mem _ (List.mem_cons_of_mem _ (List.mem_cons_of_mem _ (List.mem_cons_of_mem _ (List.mem_cons_of_mem _ (List.mem_cons_of_mem _ (List.mem_cons_of_mem _ (List.mem_cons_of_mem _ (List.mem_cons_of_mem _ (List.mem_cons_of_mem _ (List.mem_cons_of_mem _ (List.mem_cons_of_mem _ (List.mem_cons_of_mem _ (List.mem_cons_of_mem _ (List.mem_cons_of_mem _ (List.mem_cons_of_mem _ (List.mem_cons_of_mem _ (List.mem_cons_of_mem _ (List.mem_cons_of_mem _ (List.mem_cons_of_mem _ (List.mem_cons_of_mem _ (List.mem_cons_of_mem _ (List.mem_cons_of_mem _ (List.mem_cons_of_mem _ (List.mem_cons_of_mem _ (List.mem_cons_self ..))))))))))))))))))))))))))).2.1, k_Over := (EX _ (List.mem_cons_of_mem _ (List.mem_cons_of_mem _ (List.mem_cons_of_mem _ (List.mem_cons_of_mem _ (List.mem_cons_of_mem _ (List.mem_cons_of_mem _ (List.mem_cons_of_mem _ (List.mem_cons_of_mem _ (List.mem_cons_of_mem _ (List.mem_cons_of_mem _ (List.mem_cons_of_mem _ (List.mem_cons_of_mem _ (List.mem_cons_of_mem _ (List.mem_cons_of_mem _ (List.mem_cons_of_mem _ (List.mem_cons_of_mem _ (List.mem_cons_of_mem _ (List.mem_cons_of_mem _ (List.mem_cons_of_mem _ (List.mem_cons_of_mem _ (List.mem_cons_of_mem _ (List.mem_cons_of_mem _ (List.mem_cons_of_mem _ (List.mem_cons_of_mem _ (List.mem_cons_of_mem _ (List.mem_cons_self ..))))))))))))))))))))))))))).2.1, sc_NoVariable := (EX _ (List.mem_cons_of_mem _ (List.mem_cons_of_mem _ (List.mem_cons_of_mem _ (List.mem_cons_of_mem _ (List.mem_cons_of_mem _ (List.mem_cons_of_mem _ (List.mem_cons_of_mem _ (List.mem_cons_of_mem _ (List.mem_cons_of_mem _ (List.mem_cons_of_mem _ (List.mem_cons_of_mem _ (List.mem_cons_of_mem _ (List.mem_cons_of_mem _ (List.mem_cons_of_mem _ (List.mem_cons_of_mem _ (List.mem_cons_of_mem _ (List.mem_cons_of_mem _ (List.mem_cons_of_mem _ (List.mem_cons_of_mem _ (List.mem_cons_of_mem _ (List.mem_cons_of_mem _ (List.mem_cons_of_mem _ (List.mem_cons_of_mem _ (List.mem_cons_of_mem _ (List.mem_cons_of_mem _ (List.mem_cons_of_mem _ (List.mem_cons_self ..)))))))))))))))))))))))))))).1, ic_NoVariable := (EA _ (List.mem_cons_of_mem _ (List.mem_cons_of_mem _ (List.mem_cons_of_mem _ (List.mem_cons_of_mem _ (List.mem_cons_of_mem _ (List.mem_cons_of_mem _ (List.mem_cons_of_mem _ (List.mem_cons_of_mem _ (List.mem_cons_of_mem _ (List.mem_cons_of_mem _ (List.mem_cons_of_mem _ (List.mem_cons_of_mem _ (List.mem_cons_of_mem _ (List.mem_cons_of_mem _ (List.mem_cons_of_mem _ (List.mem_cons_of_mem _ (List.mem_cons_of_mem _ (List.mem_cons_of_mem _ (List.mem_cons_of_mem _ (List.mem_cons_of_mem _ (List.mem_cons_of_mem _ (List.mem_cons_of_mem _ (List.mem_cons_of_mem _ (List.mem_cons_of_mem _ (List.mem_cons_of_mem _ (List.mem_cons_of_mem _ (List.mem_cons_self ..)))))))))))))))))))))))))))).2.1, k_NoVariable := (EX _ (List.mem_cons_of_mem _ (List.mem_cons_of_mem _ (List.mem_cons_of_mem _ (List.mem_cons_of_mem _ (List.mem_cons_of_mem _ (List.mem_cons_of_mem _ (List.mem_cons_of_mem _ (List.mem_cons_of_mem _ (List.mem_cons_of_mem _ (List.mem_cons_of_mem _ (List.mem_cons_of_mem _ (List.mem_cons_of_mem _ (List.mem_cons_of_mem _ (List.mem_cons_of_mem _ (List.mem_cons_of_mem _ (List.mem_cons_of_mem _ (List.mem_cons_of_mem _ (List.mem_cons_of_mem _ (List.mem_cons_of_mem _ (List.mem_cons_of_mem _ (List.mem_cons_of_mem _ (List.mem_cons_of_mem _ (List.mem_cons_of_mem _ (List.mem_cons_of_mem _ (List.mem_cons_of_mem _ (List.mem_cons_of_mem _ (List.mem_cons_self ..)))))))))))))))))))))))))))).2.1, sc_NotNext := (EX _ (List.mem_cons_of_mem _ (List.mem_cons_of_mem _ (List.mem_cons_of_mem _ (List.mem_cons_of_mem _ (List.mem_cons_of_mem _ (List.mem_cons_of_mem _ (List.mem_cons_of_mem _ (List.mem_cons_of_mem _ (List.mem_cons_of_mem _ (List.mem_cons_of_mem _ (List.mem_cons_of_mem _ (List.mem_cons_of_mem _ (List.mem_cons_of_mem _ (List.mem_cons_of_mem _ (List.mem_cons_of_mem _ (List.mem_cons_of_mem _ (List.mem_cons_of_mem _ (List.mem_cons_of_mem _ (List.mem_cons_of_mem _ (List.mem_cons_of_mem _ (List.mem_cons_of_mem _ (List.mem_cons_of_mem _ (List.mem_cons_of_mem _ (List.mem_cons_of_mem _ (List.mem_cons_of_mem _ (List.mem_cons_of_mem _ (List.mem_cons_of_mem _ (List.mem_cons_self ..))))))))))))))))))))))))))))).1, ic_NotNext := (EA _ (List.mem_cons_of_mem _ (List.mem_cons_of_mem _ (List.mem_cons_of_mem _ (List.mem_cons_of_mem _ (List.mem_cons_of_mem _ (List.mem_cons_of_mem _ (List.mem_cons_of_mem _ (List.mem_cons_of_mem _ (List.mem_cons_of_mem _ (List.mem_cons_of_mem _ (List.mem_cons_of_mem _ (List.mem_cons_of_mem _ (List.mem_cons_of_mem _ (List.mem_cons_of_mem _ (List.mem_cons_of_mem _ (List.mem_cons_of_mem _ (List.mem_cons_of_mem _ (List.mem_cons_of_mem _ (List.mem_cons_of_mem _ (List.mem_cons_of_mem _ (List.mem_cons_of_mem _ (List.mem_cons_of_mem _ (List.mem_cons_of_mem _ (List.mem_cons_of_mem _ (List.mem_cons_of_mem _ (List.mem_cons_of_mem _ (List.mem_cons_of_mem _ (List.mem_cons_self ..))))))))))))))))))))))))))))).2.1, k_NotNext := (EX _ (List.mem_cons_of_mem _ (List.mem_cons_of_mem _ (List.mem_cons_of_mem _ (List.mem_cons_of_mem _ (List.mem_cons_of_mem _ (List.mem_cons_of_mem _ (List.mem_cons_of_mem _ (List.mem_cons_of_mem _ (List.mem_cons_of_mem _ (List.mem_cons_of_mem _ (List.mem_cons_of_mem _ (List.mem_cons_of_mem _ (List.mem_cons_of_mem _ (List.mem_cons_of_mem _ (List.mem_cons_of_mem _ (List.mem_cons_of_mem _ (List.mem_cons_of_mem _ (List.mem_cons_of_mem _ (List.mem_cons_of_mem _ (List.mem_cons_of_mem _ (List.mem_cons_of_mem _ (List.mem_cons_of_mem _ (List.mem_cons_of_mem _ (List.mem_cons_of_mem _ (List.mem_cons_of_mem _ (List.mem_cons_of_mem _ (List.mem_cons_of_mem _ (List.mem_cons_self ..))))))))))))))))))))))))))))).2.1, sc_NothingToUndo := (EX _ (List.mem_cons_of_mem _ (List.mem_cons_of_mem _ (List.mem_cons_of_mem _ (List.mem_cons_of_mem _ (List.mem_cons_of_mem _ (List.mem_cons_of_mem _ (List.mem_cons_of_mem _ (List.mem_cons_of_mem _ (List.mem_cons_of_mem _ (List.mem_cons_of_mem _ (List.mem_cons_of_mem _ (List.mem_cons_of_mem _ (List.mem_cons_of_mem _ (List.mem_cons_of_mem _ (List.mem_cons_of_mem _ (List.mem_cons_of_mem _ (List.mem_cons_of_mem _ (List.mem_cons_of_mem _ (List.mem_cons_of_mem _ (List.mem_cons_of_mem _ (List.mem_cons_of_mem _ (List.mem_cons_of_mem _ (List.mem_cons_of_mem _ (List.mem_cons_of_mem _ (List.mem_cons_of_mem _ (List.mem_cons_of_mem _ (List.mem_cons_of_mem _ (List.mem_cons_of_mem _ (List.mem_cons_self ..)))))))))))))))))))))))))))))).1, ic_NothingToUndo := (EA _ (List.mem_cons_of_mem _ (List.mem_cons_of_mem _ (List.mem_cons_of_mem _ (List.mem_cons_of_mem _ (List.mem_cons_of_mem _ (List.mem_cons_of_mem _ (List.mem_cons_of_mem _ (List.mem_cons_of_mem _ (List.mem_cons_of_mem _ (List.mem_cons_of_mem _ (List.mem_cons_of_mem _ (List.mem_cons_of_mem _ (List.mem_cons_of_mem _ (List.mem_cons_of_mem _ (List.mem_cons_of_mem _ (List.mem_cons_of_mem _ (List.mem_cons_of_mem _ (List.mem_cons_of_mem _ (List.mem_cons_of_mem _ (List.mem_cons_of_mem _ (List.mem_cons_of_mem _ (List.mem_cons_of_mem _ (List.mem_cons_of_mem _ (List.mem_cons_of_mem _ (List.mem_cons_of_mem _ (List.mem_cons_of_mem _ (List.mem_cons_of_mem _ (List.mem_cons_of_mem _ (List.mem_cons_self ..)))))))))))))))))))))))))))))).2.1, k_NothingToUndo := (EX _ (List.mem_cons_of_mem _ (List.mem_cons_of_mem _ (List.mem_cons_of_mem _ (List.mem_cons_of_mem _ (List.mem_cons_of_mem _ (List.mem_cons_of_mem _ (List.mem_cons_of_mem _ (List.mem_cons_of_mem _ (List.mem_cons_of_mem _ (List.mem_cons_of_mem _ (List.mem_cons_of_mem _ (List.mem_cons_of_mem _ (List.mem_cons_of_mem _ (List.mem_cons_of_mem _ (List.mem_cons_of_mem _ (List.mem_cons_of_mem _ (List.mem_cons_of_mem _ (List.mem_cons_of_mem _ (List.mem_cons_of_mem _ (List.mem_cons_of_mem _ (List.mem_cons_of_mem _ (List.mem_cons_of_mem _ (List.mem_cons_of_mem _ (List.mem_cons_of_mem _ (List.mem_cons_of_mem _ (List.mem_cons_of_mem _ (List.mem_cons_of_mem _ (List.mem_cons_of_mem _ (List.mem_cons_self ..)))))))))))))))))))))))))))))).2.1, sc_NothingToRedo := (EX _ (List.mem_cons_of_mem _ (List.mem_cons_of_mem _ (List.mem_cons_of_mem _ (List.mem_cons_of_mem _ (List.mem_cons_of_mem _ (List.mem_cons_of_mem _ (List.mem_cons_of_mem _ (List.mem_cons_of_mem _ (List.mem_cons_of_mem _ (List.mem_cons_of_mem _ (List.mem_cons_of_mem _ (List.mem_cons_of_mem _ (List.mem_cons_of_mem _ (List.mem_cons_of_mem _ (List.mem_cons_of_mem _ (List.mem_cons_of_mem _ (List.mem_cons_of_mem _ (List.mem_cons_of_mem _ (List.mem_cons_of_mem _ (List.mem_cons_of_mem _ (List.mem_cons_of_mem _ (List.mem_cons_of_mem _ (List.mem_cons_of_mem _ (List.mem_cons_of_mem _ (List.mem_cons_of_mem _ (List.mem_cons_of_mem _ (List.mem_cons_of_mem _ (List.mem_cons_of_mem _ (List.mem_cons_of_mem _ (List.mem_cons_self ..))))))))))))))))))))))))))))))).1, ic_NothingToRedo := (EA _ (List.mem_cons_of_mem _ (List.mem_cons_of_mem _ (List.mem_cons_of_mem _ (List.mem_cons_of_mem _ (List.mem_cons_of_mem _ (List.mem_cons_of_mem _ (List.mem_cons_of_mem _ (List.mem_cons_of_mem _ (List.mem_cons_of_mem _ (List.mem_cons_of_mem _ (List.mem_cons_of_mem _ (List.mem_cons_of_mem _ (List.mem_cons_of_mem _ (List.mem_cons_of_mem _ (List.mem_cons_of_mem _ (List.mem_cons_of_mem _ (List.mem_cons_of_mem _ (List.mem_cons_of_mem _ (List.mem_cons_of_mem _ (List.mem_cons_of_mem _ (List.mem_cons_of_mem _ (List.mem_cons_of_mem _ (List.mem_cons_of_mem _ (List.mem_cons_of_mem _ (List.mem_cons_of_mem _ (List.mem_cons_of_mem _ (List.mem_cons_of_mem _ (List.mem_cons_of_mem _ (List.mem_cons_of_mem _ (List.mem_cons_self ..))))))))))))))))))))))))))))))).2.1, k_NothingToRedo := (EX _ (List.mem_cons_of_mem _ (List.mem_cons_of_mem _ (List.mem_cons_of_mem _ (List.mem_cons_of_mem _ (List.mem_cons_of_mem _ (List.mem_cons_of_mem _ (List.mem_cons_of_mem _ (List.mem_cons_of_mem _ (List.mem_cons_of_mem _ (List.mem_cons_of_mem _ (List.mem_cons_of_mem _ (List.mem_cons_of_mem _ (List.mem_cons_of_mem _ (List.mem_cons_of_mem _ (List.mem_cons_of_mem _ (List.mem_cons_of_mem _ (List.mem_cons_of_mem _ (List.mem_cons_of_mem _ (List.mem_cons_of_mem _ (List.mem_cons_of_mem _ (List.mem_cons_of_mem _ (List.mem_cons_of_mem _ (List.mem_cons_of_mem _ (List.mem_cons_of_mem _ (List.mem_cons_of_mem _ (List.mem_cons_of_mem _ (List.mem_cons_of_mem _ (List.mem_cons_of_mem _ (List.mem_cons_of_mem _ (List.mem_cons_self ..))))))))))))))))))))))))))))))).2.1, sc_BadJournal := (EX _ (List.mem_cons_of_mem _ (List.mem_cons_of_mem _ (List.mem_cons_of_mem _ (List.mem_cons_of_mem _ (List.mem_cons_of_mem _ (List.mem_cons_of_mem _ (List.mem_cons_of_mem _ (List.mem_cons_of_mem _ (List.mem_cons_of_mem _ (List.mem_cons_of_mem _ (List.mem_cons_of_mem _ (List.mem_cons_of_mem _ (List.mem_cons_of_mem _ (List.mem_cons_of_mem _ (List.mem_cons_of_mem _ (List.mem_cons_of_mem _ (List.mem_cons_of_mem _ (List.mem_cons_of_mem _ (List.mem_cons_of_mem _ (List.mem_cons_of_mem _ (List.mem_cons_of_mem _ (List.mem_cons_of_mem _ (List.mem_cons_of_mem _ (List.mem_cons_of_mem _ (List.mem_cons_of_mem _ (List.mem_cons_of_mem _ (List.mem_cons_of_mem _ (List.mem_cons_of_mem _ (List.mem_cons_of_mem _ (List.mem_cons_of_mem _ (List.mem_cons_self ..)))))))))))))))))))))))))))))))).1, ic_BadJournal := (EA _ (List.mem_cons_of_mem _ (List.mem_cons_of_mem _ (List.mem_cons_of_mem _ (List.mem_cons_of_mem _ (List.mem_cons_of_mem _ (List.mem_cons_of_mem _ (List.mem_cons_of_mem _ (List.mem_cons_of_mem _ (List.mem_cons_of_mem _ (List.mem_cons_of_mem _ (List.mem_cons_of_mem _ (List.mem_cons_of_mem _ (List.mem_cons_of_mem _ (List.mem_cons_of_mem _ (List.mem_cons_of_mem _ (List.mem_cons_of_mem _ (List.mem_cons_of_mem _ (List.mem_cons_of_mem _ (List.mem_cons_of_mem _ (List.mem_cons_of_mem _ (List.mem_cons_of_mem _ (List.mem_cons_of_mem _ (List.mem_cons_of_mem _ (List.mem_cons_of_mem _ (List.mem_cons_of_mem _ (List.mem_cons_of_mem _ (List.mem_cons_of_mem _ (List.mem_cons_of_mem _ (List.mem_cons_of_mem _ (List.mem_cons_of_mem _ (List.mem_cons_self ..)))))))))))))))))))))))))))))))).2.1, k_BadJournal := (EX _ (List.mem_cons_of_mem _ (List.mem_cons_of_mem _ (List.mem_cons_of_mem _ (List.mem_cons_of_mem _ (List.mem_cons_of_mem _ (List.mem_cons_of_mem _ (List.mem_cons_of_mem _ (List.mem_cons_of_mem _ (List.mem_cons_of_mem _ (List.mem_cons_of_mem _ (List.mem_cons_of_mem _ (List.mem_cons_of_mem _ (List.mem_cons_of_mem _ (List.mem_cons_of_mem _ (List.mem_cons_of_mem _ (List.mem_cons_of_mem _ (List.mem_cons_of_mem _ (List.mem_cons_of_mem _ (List.mem_cons_of_mem _ (List.mem_cons_of_mem _ (List.mem_cons_of_mem _ (List.mem_cons_of_mem _ (List.mem_cons_of_mem _ (List.mem_cons_of_mem _ (List.mem_cons_of_mem _ (List.mem_cons_of_mem _ (List.mem_cons_of_mem _ (List.mem_cons_of_mem _ (List.mem_cons_of_mem _ (List.mem_cons_of_mem _ (List.mem_cons_self ..)))))))))))))))))))))))))))))))).2.1, sc_BadLine := (EX _ (List.mem_cons_of_mem _ (List.mem_cons_of_mem _ (List.mem_cons_of_mem _ (List.mem_cons_of_mem _ (List.mem_cons_of_mem _ (List.mem_cons_of_mem _ (List.mem_cons_of_mem _ (List.mem_cons_of_mem _ (List.mem_cons_of_mem _ (List.mem_cons_of_mem _ (List.mem_cons_of_mem _ (List.mem_cons_of_mem _ (List.mem_cons_of_mem _ (List.mem_cons_of_mem _ (List.mem_cons_of_mem _ (List.mem_cons_of_mem _ (List.mem_cons_of_mem _ (List.mem_cons_of_mem _ (List.mem_cons_of_mem _ (List.mem_cons_of_mem _ (List.mem_cons_of_mem _ (List.mem_cons_of_mem _ (List.mem_cons_of_mem _ (List.mem_cons_of_mem _ (List.mem_cons_of_mem _ (List.mem_cons_of_mem _ (List.mem_cons_of_mem _ (List.mem_cons_of_mem _ (List.mem_cons_of_mem _ (List.mem_cons_of_mem _ (List.mem_cons_of_mem _ (List.mem_cons_self ..))))))))))))))))))))))))))))))))).1, ic_BadLine := (EA _ (List.mem_cons_of_mem _ (List.mem_cons_of_mem _ (List.mem_cons_of_mem _ (List.mem_cons_of_mem _ (List.mem_cons_of_mem _ (List.mem_cons_of_mem _ (List.mem_cons_of_mem _ (List.mem_cons_of_mem _ (List.mem_cons_of_mem _ (List.mem_cons_of_mem _ (List.mem_cons_of_mem _ (List.mem_cons_of_mem _ (List.mem_cons_of_mem _ (List.mem_cons_of_mem _ (List.mem_cons_of_mem _ (List.mem_cons_of_mem _ (List.mem_cons_of_mem _ (List.mem_cons_of_mem _ (List.mem_cons_of_mem _ (List.mem_cons_of_mem _ (List.mem_cons_of_mem _ (List.mem_cons_of_mem _ (List.mem_cons_of_mem _ (List.mem_cons_of_mem _ (List.mem_cons_of_mem _ (List.mem_cons_of_mem _ (List.mem_cons_of_mem _ (List.mem_cons_of_mem _ (List.mem_cons_of_mem _ (List.mem_cons_of_mem _ (List.mem_cons_of_mem _ (List.mem_cons_self ..))))))))))))))))))))))))))))))))).2.1, k_BadLine := (EX _ (List.mem_cons_of_mem _ (List.mem_cons_of_mem _ (List.mem_cons_of_mem _ (List.mem_cons_of_mem _ (List.mem_cons_of_mem _ (List.mem_cons_of_mem _ (List.mem_cons_of_mem _ (List.mem_cons_of_mem _ (List.mem_cons_of_mem _ (List.mem_cons_of_mem _ (List.mem_cons_of_mem _ (List.mem_cons_of_mem _ (List.mem_cons_of_mem _ (List.mem_cons_of_mem _ (List.mem_cons_of_mem _ (List.mem_cons_of_mem _ (List.mem_cons_of_mem _ (List.mem_cons_of_mem _ (List.mem_cons_of_mem _ (List.mem_cons_of_mem _ (List.mem_cons_of_mem _ (List.mem_cons_of_mem _ (List.mem_cons_of_mem _ (List.mem_cons_of_mem _ (List.mem_cons_of_mem _ (List.mem_cons_of_mem _ (List.mem_cons_of_mem _ (List.mem_cons_of_mem _ (List.mem_cons_of_mem _ (List.mem_cons_of_mem _ (List.mem_cons_of_mem _ (List.mem_cons_self ..))))))))))))))))))))))))))))))))).2.1, sx_Impossible := ⟨EI.1, sub_im, sup_im, ty_slip, EI.2.2.2.1⟩, ix_Impossible := n_im, tx_Impossible := ty_im, im_Impossible := II, k_Impossible := (EX _ (List.mem_cons_of_mem _ (List.mem_cons_of_mem _ (List.mem_cons_of_mem _ (List.mem_cons_of_mem _ (List.mem_cons_of_mem _ (List.mem_cons_of_mem _ (List.mem_cons_of_mem _ (List.mem_cons_of_mem _ (List.mem_cons_of_mem _ (List.mem_cons_of_mem _ (List.mem_cons_of_mem _ (List.mem_cons_of_mem _ (List.mem_cons_of_mem _ (List.mem_cons_of_mem _ (List.mem_cons_of_mem _ (List.mem_cons_of_mem _ (List.mem_cons_of_mem _ (List.mem_cons_of_mem _ (List.mem_cons_of_mem _ (List.mem_cons_of_mem _ (List.mem_cons_of_mem _ (List.mem_cons_of_mem _ (List.mem_cons_of_mem _ (List.mem_cons_of_mem _ (List.mem_cons_of_mem _ (List.mem_cons_of_mem _ (List.mem_cons_of_mem _ (List.mem_cons_of_mem _ (List.mem_cons_of_mem _ (List.mem_cons_of_mem _ (List.mem_cons_of_mem _ (List.mem_cons_of_mem _ (List.mem_cons_self ..)))))))))))))))))))))))))))))))))).2.1, m_SlipError := PySem.W.mg_of X G n_SlipError, hx_SlipError := fun _ _ h => h, hx_Impossible := fun _ _ h => h, n_repr := PySem.W.mg_none_of X G z_repr, hV := fun C h => (by have h := List.contains_iff_mem.1 h; exact ⟨(EX C h).2.2.2.2, (EX C h).2.2.1⟩), hP := fun C h => (by have h := List.contains_iff_mem.1 h; exact ⟨(EX C h).2.2.2.2, (EX C h).2.2.2.1⟩), mk_Form := ⟨mkForm, n_Finit, i_Finit, kc_Form⟩, m_Form := PySem.W.mg_of X G n_Form, k_Form := kc_Form, n_enumerate := PySem.W.mg_none_of X G z_enumerate, n_range := PySem.W.mg_none_of X G z_range, n_ValueError := PySem.W.mg_none_of X G z_ValueError, sc_SlipError := (EX _ (List.mem_cons_of_mem _ (List.mem_cons_of_mem _ (List.mem_cons_of_mem _ (List.mem_cons_of_mem _ (List.mem_cons_of_mem _ (List.mem_cons_of_mem _ (List.mem_cons_of_mem _ (List.mem_cons_of_mem _ (List.mem_cons_of_mem _ (List.mem_cons_of_mem _ (List.mem_cons_of_mem _ (List.mem_cons_of_mem _ (List.mem_cons_of_mem _ (List.mem_cons_of_mem _ (List.mem_cons_of_mem _ (List.mem_cons_of_mem _ (List.mem_cons_of_mem _ (List.mem_cons_of_mem _ (List.mem_cons_of_mem _ (List.mem_cons_of_mem _ (List.mem_cons_of_mem _ (List.mem_cons_of_mem _ (List.mem_cons_of_mem _ (List.mem_cons_of_mem _ (List.mem_cons_of_mem _ (List.mem_cons_of_mem _ (List.mem_cons_of_mem _ (List.mem_cons_of_mem _ (List.mem_cons_of_mem _ (List.mem_cons_of_mem _ (List.mem_cons_of_mem _ (List.mem_cons_of_mem _ (List.mem_cons_of_mem _ (List.mem_cons_self ..))))))))))))))))))))))))))))))))))).1, ic_SlipError := iSl, k_SlipError := (EX _ (List.mem_cons_of_mem _ (List.mem_cons_of_mem _ (List.mem_cons_of_mem _ (List.mem_cons_of_mem _ (List.mem_cons_of_mem _ (List.mem_cons_of_mem _ (List.mem_cons_of_mem _ (List.mem_cons_of_mem _ (List.mem_cons_of_mem _ (List.mem_cons_of_mem _ (List.mem_cons_of_mem _ (List.mem_cons_of_mem _ (List.mem_cons_of_mem _ (List.mem_cons_of_mem _ (List.mem_cons_of_mem _ (List.mem_cons_of_mem _ (List.mem_cons_of_mem _ (List.mem_cons_of_mem _ (List.mem_cons_of_mem _ (List.mem_cons_of_mem _ (List.mem_cons_of_mem _ (List.mem_cons_of_mem _ (List.mem_cons_of_mem _ (List.mem_cons_of_mem _ (List.mem_cons_of_mem _ (List.mem_cons_of_mem _ (List.mem_cons_of_mem _ (List.mem_cons_of_mem _ (List.mem_cons_of_mem _ (List.mem_cons_of_mem _ (List.mem_cons_of_mem _ (List.mem_cons_of_mem _ (List.mem_cons_of_mem _ (List.mem_cons_self ..))))))))))))))))))))))))))))))))))).2.1, n_max := PySem.W.mg_none_of X G z_max, n_min := PySem.W.mg_none_of X G z_min }
    have oB : AdB ad := adB_two (K := K) (W := C_Worth) (F := C_Form) (es := [C_BadWorth, C_NoQuotient, C_BadText, C_BadForm, C_NoUnknown, C_BadPoint, C_Missing, C_BadConditions, C_TooMany, C_BadProcedure, C_Contrary, C_NoLine, C_NotFree, C_BadBound, C_Open, C_BadThings, C_BadErrors, C_BadReadings, C_NoWay, C_BadWish, C_NoThing, C_BadWord, C_Unlike, C_BadWishes, C_BadOffers, C_Over, C_NoVariable, C_NotNext, C_NothingToUndo, C_NothingToRedo, C_BadJournal, C_BadLine, C_Impossible] ++ [C_SlipError]) (by rw [ead]) (by rw [ead]) (by rw [ead]) (by rw [ead]; rfl) (six (p := fun n => PySem.W.subIn K (.ref C_Worth) (.type n) = some false) wint wbool w_str w_tuple w_list w_dict) (six (p := fun n => PySem.W.subIn K (.ref C_Form) (.type n) = some false) oForm_int oForm_bool oForm_str oForm_tuple oForm_list oForm_dict) ⟨wic, wty⟩ ⟨oFormic, oFormty⟩ (fun C hC => ⟨(EX C hC).2.2.2.2.cl, (EX C hC).1.o.tyC⟩) sWF sFW
    have oW : AdW ad := { toAdB := oB, ws := by subst ead; exact List.contains_iff_mem.2 (List.mem_cons_self ..), wo := fun q hq => by subst ead; exact ownWF_w (W := C_Worth) (F := C_Form) hq }
    have oF : AdF ad := { toAdW := oW, fo := by subst ead; exact List.contains_iff_mem.2 (List.mem_cons_self ..), fw := by subst ead; exact fun z => (by have q := neFW; rw [show C_Form = C_Worth from z] at q; simp at q) }
    have oV : AdV ad := { toAdF := oF, ro := fun u r h => by subst ead; exact ownWF_f h }
    have TB := tabB_ok eTab
    have oX : AdX ad := { toAdV := oV, nd := by subst ead; exact TB.1, tb := by subst ead; exact TB.2.1, sl := by subst ead; exact TB.2.2, ex := by subst ead; exact fun C hC => List.contains_iff_mem.2 (List.mem_append_left [C_SlipError] hC), es := by subst ead; exact List.contains_iff_mem.2 (List.mem_append_right [C_BadWorth, C_NoQuotient, C_BadText, C_BadForm, C_NoUnknown, C_BadPoint, C_Missing, C_BadConditions, C_TooMany, C_BadProcedure, C_Contrary, C_NoLine, C_NotFree, C_BadBound, C_Open, C_BadThings, C_BadErrors, C_BadReadings, C_NoWay, C_BadWish, C_NoThing, C_BadWord, C_Unlike, C_BadWishes, C_BadOffers, C_Over, C_NoVariable, C_NotNext, C_NothingToUndo, C_NothingToRedo, C_BadJournal, C_BadLine, C_Impossible] (List.mem_singleton.2 rfl)), xl := by subst ead; exact exm_of b_SlipError q_SlipError y_SlipError s_NoLine, xi := by subst ead; exact exm_of b_Impossible q_Impossible y_Impossible s_Imp }
    have f_is_integer := fn_ok0 (sp := sp_is_integer ad) (P := PySem.Challenge.pw_sharedslip_k00_errors) (w := w) (mg := mg) (base := base) l_is_integer c_is_integer S_is_integer (L2.Binds.all fun us hl => match us, hl with | [_], _ => rfl) (fun ds T Q E q => by have h := q.h; repeat (first | (rw [h.1]; rfl) | obtain ⟨_, h⟩ := h)) (fun A outer s H E b => w_is_integer t  b) (fun ds T Q E q => (h_is_integer oX.toAdV.toAdF.toAdW) q)
    have g_is_integer := GF.of (PySem.W.mg_of X G n_is_integer) k_is_integer f_is_integer
    have f_common_divisor := fn_ok0 (sp := sp_common_divisor ad) (P := PySem.Challenge.pw_sharedslip_k00_errors) (w := w) (mg := mg) (base := base) l_common_divisor c_common_divisor S_common_divisor (L2.Binds.all fun us hl => match us, hl with | [_, _], _ => rfl) (fun ds T Q E q => by have h := q.h; repeat (first | (rw [h.1]; rfl) | obtain ⟨_, h⟩ := h)) (fun A outer s H E b => w_common_divisor t  b) (fun ds T Q E q => h_common_divisor q)
    have g_common_divisor := GF.of (PySem.W.mg_of X G n_common_divisor) k_common_divisor f_common_divisor
    have FD_Winit : L2.FunD K "__init__" "Worth.__init__" (defArgs s_Winit) (defBody s_Winit) (defScope s_Winit) [.int 1] [] x_Winit _ := ⟨⟨_, _, _, _, _, _, _, _, _, _, rfl, l_Winit, c_Winit, .inr ⟨(fun z => nomatch z), _, _, [.int 1 tk_Winit0], _, rfl, l_TWinit, rfl, .cons ⟨_, rfl⟩ (.nil)⟩, .inl rfl⟩, k_Winit⟩
    obtain ⟨ds_Winit1, v_Winit1, b_Winit1⟩ := FD_Winit.binds1 (ps := ["self", "number", "under"]) 2 0 (fun z => nomatch z) rfl (fun T kV doc pm an cdv ct us its h1 h2 => match us, its, h1, h2 with | [_, _], [_], _, _ => ⟨_, rfl, rfl⟩)
    have f_Winit1 : GR PySem.Challenge.pw_sharedslip_k00_errors w K mg base ad.m_Winit 10 (sp1_Winit ad) := by
      rw [show ad.m_Winit = x_Winit by subst ead; rfl]
      exact fn_okR (sp := sp1_Winit ad) (dds := [.int 1]) (ws := [.int 1]) (P := PySem.Challenge.pw_sharedslip_k00_errors) (w := w) (mg := mg) (base := base) l_Winit c_Winit S_Winit b_Winit1 v_Winit1 (fun _ _ => RDs.cons rfl (RDs.nil)) (fun ds T Q E q => len_Winit1 q) (fun A outer s H E b => w_Winit t g_is_integer g_common_divisor b) (fun ds T Q E q => h_Winit q.h)
    obtain ⟨ds_Winit2, v_Winit2, b_Winit2⟩ := FD_Winit.binds1 (ps := ["self", "number", "under"]) 3 1 (fun z => nomatch z) rfl (fun T kV doc pm an cdv ct us its h1 h2 => match us, its, h1, h2 with | [_, _, _], [_], _, _ => ⟨_, rfl, rfl⟩)
    have f_Winit2 : GR PySem.Challenge.pw_sharedslip_k00_errors w K mg base ad.m_Winit 10 (sp_Winit ad) := by
      rw [show ad.m_Winit = x_Winit by subst ead; rfl]
      exact fn_okR (sp := sp_Winit ad) (dds := []) (ws := []) (P := PySem.Challenge.pw_sharedslip_k00_errors) (w := w) (mg := mg) (base := base) l_Winit c_Winit S_Winit b_Winit2 v_Winit2 (fun _ _ => RDs.nil) (fun ds T Q E q => by rw [List.append_nil]; have h := q.h; repeat (first | (rw [h.1]; rfl) | obtain ⟨_, h⟩ := h)) (fun A outer s H E b => w_Winit t g_is_integer g_common_divisor b) (fun ds T Q E q => by rw [List.append_nil]; exact h_Winit q)
    have f_Wnumber : GR PySem.Challenge.pw_sharedslip_k00_errors w K mg base ad.m_Wnumber 5 (sp_Wnumber ad) := by
      rw [show ad.m_Wnumber = x_Wnumber by subst ead; rfl]
      exact fn_ok0 (sp := sp_Wnumber ad) (P := PySem.Challenge.pw_sharedslip_k00_errors) (w := w) (mg := mg) (base := base) l_Wnumber c_Wnumber S_Wnumber (L2.Binds.all fun us hl => match us, hl with | [_], _ => rfl) (fun ds T Q E q => by have h := q.h; repeat (first | (rw [h.1]; rfl) | obtain ⟨_, h⟩ := h)) (fun A outer s H E b => w_Wnumber t  b) (fun ds T Q E q => h_Wnumber q)
    have f_Wunder : GR PySem.Challenge.pw_sharedslip_k00_errors w K mg base ad.m_Wunder 5 (sp_Wunder ad) := by
      rw [show ad.m_Wunder = x_Wunder by subst ead; rfl]
      exact fn_ok0 (sp := sp_Wunder ad) (P := PySem.Challenge.pw_sharedslip_k00_errors) (w := w) (mg := mg) (base := base) l_Wunder c_Wunder S_Wunder (L2.Binds.all fun us hl => match us, hl with | [_], _ => rfl) (fun ds T Q E q => by have h := q.h; repeat (first | (rw [h.1]; rfl) | obtain ⟨_, h⟩ := h)) (fun A outer s H E b => w_Wunder t  b) (fun ds T Q E q => h_Wunder q)
    have f_Wtext : GR PySem.Challenge.pw_sharedslip_k00_errors w K mg base ad.m_Wtext 5 (sp_Wtext ad) := by
      rw [show ad.m_Wtext = x_Wtext by subst ead; rfl]
      exact fn_ok0 (sp := sp_Wtext ad) (P := PySem.Challenge.pw_sharedslip_k00_errors) (w := w) (mg := mg) (base := base) l_Wtext c_Wtext S_Wtext (L2.Binds.all fun us hl => match us, hl with | [_], _ => rfl) (fun ds T Q E q => by have h := q.h; repeat (first | (rw [h.1]; rfl) | obtain ⟨_, h⟩ := h)) (fun A outer s H E b => w_Wtext t  b) (fun ds T Q E q => h_Wtext q)
    have f_Weq : GR PySem.Challenge.pw_sharedslip_k00_errors w K mg base ad.m_Weq 5 (sp_Weq ad) := by
      rw [show ad.m_Weq = x_Weq by subst ead; rfl]
      exact fn_ok0 (sp := sp_Weq ad) (P := PySem.Challenge.pw_sharedslip_k00_errors) (w := w) (mg := mg) (base := base) l_Weq c_Weq S_Weq (L2.Binds.all fun us hl => match us, hl with | [_, _], _ => rfl) (fun ds T Q E q => by have h := q.h; repeat (first | (rw [h.1]; rfl) | obtain ⟨_, h⟩ := h)) (fun A outer s H E b => w_Weq t  b) (fun ds T Q E q => (h_Weq oX.toAdV.toAdF.toAdW) q)
    have f_is_number := fn_ok0 (sp := sp_is_number ad) (P := PySem.Challenge.pw_sharedslip_k00_errors) (w := w) (mg := mg) (base := base) l_is_number c_is_number S_is_number (L2.Binds.all fun us hl => match us, hl with | [_], _ => rfl) (fun ds T Q E q => by have h := q.h; repeat (first | (rw [h.1]; rfl) | obtain ⟨_, h⟩ := h)) (fun A outer s H E b => w_is_number t g_is_integer b) (fun ds T Q E q => (h_is_number oX.toAdV.toAdF.toAdW) q)
    have g_is_number := GF.of (PySem.W.mg_of X G n_is_number) k_is_number f_is_number
    have f_worth_of := fn_ok0 (sp := sp_worth_of ad) (P := PySem.Challenge.pw_sharedslip_k00_errors) (w := w) (mg := mg) (base := base) l_worth_of c_worth_of S_worth_of (L2.Binds.all fun us hl => match us, hl with | [_], _ => rfl) (fun ds T Q E q => by have h := q.h; repeat (first | (rw [h.1]; rfl) | obtain ⟨_, h⟩ := h)) (fun A outer s H E b => w_worth_of t f_Winit1 b) (fun ds T Q E q => (h_worth_of oX.toAdV.toAdF.toAdW) q)
    have g_worth_of := GF.of (PySem.W.mg_of X G n_worth_of) k_worth_of f_worth_of
    have f_Wabs : GR PySem.Challenge.pw_sharedslip_k00_errors w K mg base ad.m_Wabs 15 (sp_Wabs ad) := by
      rw [show ad.m_Wabs = x_Wabs by subst ead; rfl]
      exact fn_ok0 (sp := sp_Wabs ad) (P := PySem.Challenge.pw_sharedslip_k00_errors) (w := w) (mg := mg) (base := base) l_Wabs c_Wabs S_Wabs (L2.Binds.all fun us hl => match us, hl with | [_], _ => rfl) (fun ds T Q E q => by have h := q.h; repeat (first | (rw [h.1]; rfl) | obtain ⟨_, h⟩ := h)) (fun A outer s H E b => w_Wabs t f_Winit2 b) (fun ds T Q E q => h_Wabs q)
    have f_is_name := fn_ok0 (sp := sp_is_name ad) (P := PySem.Challenge.pw_sharedslip_k00_errors) (w := w) (mg := mg) (base := base) l_is_name c_is_name S_is_name (L2.Binds.all fun us hl => match us, hl with | [_], _ => rfl) (fun ds T Q E q => by have h := q.h; repeat (first | (rw [h.1]; rfl) | obtain ⟨_, h⟩ := h)) (fun A outer s H E b => w_is_name t  b) (fun ds T Q E q => (h_is_name oX.toAdV.toAdF.toAdW.toAdB) q)
    have g_is_name := GF.of (PySem.W.mg_of X G n_is_name) k_is_name f_is_name
    have f_is_unknown := fn_ok0 (sp := sp_is_unknown ad) (P := PySem.Challenge.pw_sharedslip_k00_errors) (w := w) (mg := mg) (base := base) l_is_unknown c_is_unknown S_is_unknown (L2.Binds.all fun us hl => match us, hl with | [_], _ => rfl) (fun ds T Q E q => by have h := q.h; repeat (first | (rw [h.1]; rfl) | obtain ⟨_, h⟩ := h)) (fun A outer s H E b => w_is_unknown t g_is_name b) (fun ds T Q E q => (h_is_unknown oX.toAdV.toAdF.toAdW.toAdB) q)
    have g_is_unknown := GF.of (PySem.W.mg_of X G n_is_unknown) k_is_unknown f_is_unknown
    have f_names_of := fn_ok0 (sp := sp_names_of ad) (P := PySem.Challenge.pw_sharedslip_k00_errors) (w := w) (mg := mg) (base := base) l_names_of c_names_of S_names_of (L2.Binds.all fun us hl => match us, hl with | [_], _ => rfl) (fun ds T Q E q => by have h := q.h; repeat (first | (rw [h.1]; rfl) | obtain ⟨_, h⟩ := h)) (fun A outer s H E b => w_names_of t  b) (fun ds T Q E q => h_names_of q)
    have g_names_of := GF.of (PySem.W.mg_of X G n_names_of) k_names_of f_names_of
    have f_is_pair := fn_ok0 (sp := sp_is_pair ad) (P := PySem.Challenge.pw_sharedslip_k00_errors) (w := w) (mg := mg) (base := base) l_is_pair c_is_pair S_is_pair (L2.Binds.all fun us hl => match us, hl with | [_], _ => rfl) (fun ds T Q E q => by have h := q.h; repeat (first | (rw [h.1]; rfl) | obtain ⟨_, h⟩ := h)) (fun A outer s H E b => w_is_pair t g_is_unknown g_is_number b) (fun ds T Q E q => (h_is_pair oX.toAdV.toAdF.toAdW) q)
    have g_is_pair := GF.of (PySem.W.mg_of X G n_is_pair) k_is_pair f_is_pair
    have f_is_point := fn_ok0 (sp := sp_is_point ad) (P := PySem.Challenge.pw_sharedslip_k00_errors) (w := w) (mg := mg) (base := base) l_is_point c_is_point S_is_point (L2.Binds.all fun us hl => match us, hl with | [_], _ => rfl) (fun ds T Q E q => by have h := q.h; repeat (first | (rw [h.1]; rfl) | obtain ⟨_, h⟩ := h)) (fun A outer s H E b => w_is_point t g_is_pair b) (fun ds T Q E q => (h_is_point oX.toAdV.toAdF.toAdW) q)
    have g_is_point := GF.of (PySem.W.mg_of X G n_is_point) k_is_point f_is_point
    have f_is_parts := fn_ok0 (sp := sp_is_parts ad) (P := PySem.Challenge.pw_sharedslip_k00_errors) (w := w) (mg := mg) (base := base) l_is_parts c_is_parts S_is_parts (L2.Binds.all fun us hl => match us, hl with | [_], _ => rfl) (fun ds T Q E q => by have h := q.h; repeat (first | (rw [h.1]; rfl) | obtain ⟨_, h⟩ := h)) (fun A outer s H E b => w_is_parts t g_is_point g_names_of b) (fun ds T Q E q => h_is_parts q)
    have g_is_parts := GF.of (PySem.W.mg_of X G n_is_parts) k_is_parts f_is_parts
    have f_wnn := fn_ok0 (sp := sp_wnn ad) (P := PySem.Challenge.pw_sharedslip_k00_errors) (w := w) (mg := mg) (base := base) l_wnn c_wnn S_wnn (L2.Binds.all fun us hl => match us, hl with | [_], _ => rfl) (fun ds T Q E q => by have h := q.h; repeat (first | (rw [h.1]; rfl) | obtain ⟨_, h⟩ := h)) (fun A outer s H E b => w_wnn t f_Wnumber b) (fun ds T Q E q => h_wnn q)
    have g_wnn := GF.of (PySem.W.mg_of X G n_wnn) k_wnn f_wnn
    have FD_Finit : L2.FunD K "__init__" "Form.__init__" (defArgs s_Finit) (defBody s_Finit) (defScope s_Finit) [.ref e_Finit, .int 0] [] x_Finit _ := ⟨⟨_, _, _, _, _, _, _, _, _, _, rfl, l_Finit, c_Finit, .inr ⟨(fun z => nomatch z), _, _, [.ref e_Finit, .int 0 tk_Finit1], _, rfl, l_TFinit, rfl, .cons rfl (.cons ⟨_, rfl⟩ (.nil))⟩, .inl rfl⟩, k_Finit⟩
    obtain ⟨ds_Finit2, v_Finit2, b_Finit2⟩ := FD_Finit.binds1 (ps := ["self", "parts", "rest"]) 3 2 (fun z => nomatch z) rfl (fun T kV doc pm an cdv ct us its h1 h2 => match us, its, h1, h2 with | [_, _, _], [_, _], _, _ => ⟨_, rfl, rfl⟩)
    have f_Finit2 : GR PySem.Challenge.pw_sharedslip_k00_errors w K mg base ad.m_Finit 30 (sp_Finit ad) := by
      rw [show ad.m_Finit = x_Finit by subst ead; rfl]
      exact fn_okR (sp := sp_Finit ad) (dds := []) (ws := []) (P := PySem.Challenge.pw_sharedslip_k00_errors) (w := w) (mg := mg) (base := base) l_Finit c_Finit S_Finit b_Finit2 v_Finit2 (fun _ _ => RDs.nil) (fun ds T Q E q => by rw [List.append_nil]; have h := q.h; repeat (first | (rw [h.1]; rfl) | obtain ⟨_, h⟩ := h)) (fun A outer s H E b => w_Finit t g_is_parts g_is_number g_wnn g_worth_of b) (fun ds T Q E q => by rw [List.append_nil]; exact (h_Finit oX.toAdV.toAdF) q)
    have f_part_text := fn_ok0 (sp := sp_part_text ad) (P := PySem.Challenge.pw_sharedslip_k00_errors) (w := w) (mg := mg) (base := base) l_part_text c_part_text S_part_text (L2.Binds.all fun us hl => match us, hl with | [_, _], _ => rfl) (fun ds T Q E q => by have h := q.h; repeat (first | (rw [h.1]; rfl) | obtain ⟨_, h⟩ := h)) (fun A outer s H E b => w_part_text t f_Weq f_Winit1 f_Wtext b) (fun ds T Q E q => (h_part_text oX.toAdV.toAdF.toAdW) q)
    have g_part_text := GF.of (PySem.W.mg_of X G n_part_text) k_part_text f_part_text
    have f_signed_text := fn_ok0 (sp := sp_signed_text ad) (P := PySem.Challenge.pw_sharedslip_k00_errors) (w := w) (mg := mg) (base := base) l_signed_text c_signed_text S_signed_text (L2.Binds.all fun us hl => match us, hl with | [_, _, _], _ => rfl) (fun ds T Q E q => by have h := q.h; repeat (first | (rw [h.1]; rfl) | obtain ⟨_, h⟩ := h)) (fun A outer s H E b => w_signed_text t f_Wnumber b) (fun ds T Q E q => h_signed_text q)
    have g_signed_text := GF.of (PySem.W.mg_of X G n_signed_text) k_signed_text f_signed_text
    have f_text_of := fn_ok0 (sp := sp_text_of ad) (P := PySem.Challenge.pw_sharedslip_k00_errors) (w := w) (mg := mg) (base := base) l_text_of c_text_of S_text_of (L2.Binds.all fun us hl => match us, hl with | [_, _], _ => rfl) (fun ds T Q E q => by have h := q.h; repeat (first | (rw [h.1]; rfl) | obtain ⟨_, h⟩ := h)) (fun A outer s H E b => w_text_of t g_names_of g_signed_text g_part_text f_Wabs f_Wnumber f_Wtext b) (fun ds T Q E q => h_text_of q)
    have g_text_of := GF.of (PySem.W.mg_of X G n_text_of) k_text_of f_text_of
    have f_Frepr : GR PySem.Challenge.pw_sharedslip_k00_errors w K mg base ad.m_Frepr 25 (sp_Frepr ad) := by
      rw [show ad.m_Frepr = x_Frepr by subst ead; rfl]
      exact fn_ok0 (sp := sp_Frepr ad) (P := PySem.Challenge.pw_sharedslip_k00_errors) (w := w) (mg := mg) (base := base) l_Frepr c_Frepr S_Frepr (L2.Binds.all fun us hl => match us, hl with | [_], _ => rfl) (fun ds T Q E q => by have h := q.h; repeat (first | (rw [h.1]; rfl) | obtain ⟨_, h⟩ := h)) (fun A outer s H E b => w_Frepr t g_text_of b) (fun ds T Q E q => h_Frepr q)
    have O : OwnR0 PySem.Challenge.pw_sharedslip_k00_errors w K mg base 25 ad.own := ⟨fun C n xs tx ho => by
      rw [show ad.own = ownWF C_Worth C_Form by rw [ead]] at ho
      rcases ownWF_inv ho with ⟨q, e1, rfl, rfl, rfl, hk⟩ | ⟨u, r, e1, rfl, rfl, rfl, hf⟩
      . rw [e1]
        have F := fn_ok1 (sp := fun ds T Q _ => ds = [wq ad q] /\ Q (.str (rText q)) T) (k := 24) (P := PySem.Challenge.pw_sharedslip_k00_errors) (w := w) (mg := mg) (base := base) l_Wrepr c_Wrepr S_Wrepr (L2.Binds.all fun us hl => match us, hl with | [_], _ => rfl) (fun ds T Q E q => by obtain ⟨rfl, _⟩ := q; rfl) (fun A outer s H E => w_Wrepr t) (fun ds T Q E q2 => h_Wrepr ⟨q, q2.1, hk, q2.2⟩)
        refine ⟨x_Wrepr, n_Wrepr, i_Wrepr, ?_⟩
        have e : wq ad q = ownD C_Worth none [.int q.num, .int q.den] := by subst ead; rfl
        rw [<- e]
        exact F
      . rw [e1]
        letI : Gd := ⟨fun _ => True⟩
        have f_is_integer := fn_ok0 (sp := sp_is_integer ad) (P := PySem.Challenge.pw_sharedslip_k00_errors) (w := w) (mg := mg) (base := base) l_is_integer c_is_integer S_is_integer (L2.Binds.all fun us hl => match us, hl with | [_], _ => rfl) (fun ds T Q E q => by have h := q.h; repeat (first | (rw [h.1]; rfl) | obtain ⟨_, h⟩ := h)) (fun A outer s H E b => w_is_integer t  b) (fun ds T Q E q => (h_is_integer oX.toAdV.toAdF.toAdW) q)
        have g_is_integer := GF.of (PySem.W.mg_of X G n_is_integer) k_is_integer f_is_integer
        have f_common_divisor := fn_ok0 (sp := sp_common_divisor ad) (P := PySem.Challenge.pw_sharedslip_k00_errors) (w := w) (mg := mg) (base := base) l_common_divisor c_common_divisor S_common_divisor (L2.Binds.all fun us hl => match us, hl with | [_, _], _ => rfl) (fun ds T Q E q => by have h := q.h; repeat (first | (rw [h.1]; rfl) | obtain ⟨_, h⟩ := h)) (fun A outer s H E b => w_common_divisor t  b) (fun ds T Q E q => h_common_divisor q)
        have g_common_divisor := GF.of (PySem.W.mg_of X G n_common_divisor) k_common_divisor f_common_divisor
        have FD_Winit : L2.FunD K "__init__" "Worth.__init__" (defArgs s_Winit) (defBody s_Winit) (defScope s_Winit) [.int 1] [] x_Winit _ := ⟨⟨_, _, _, _, _, _, _, _, _, _, rfl, l_Winit, c_Winit, .inr ⟨(fun z => nomatch z), _, _, [.int 1 tk_Winit0], _, rfl, l_TWinit, rfl, .cons ⟨_, rfl⟩ (.nil)⟩, .inl rfl⟩, k_Winit⟩
        obtain ⟨ds_Winit1, v_Winit1, b_Winit1⟩ := FD_Winit.binds1 (ps := ["self", "number", "under"]) 2 0 (fun z => nomatch z) rfl (fun T kV doc pm an cdv ct us its h1 h2 => match us, its, h1, h2 with | [_, _], [_], _, _ => ⟨_, rfl, rfl⟩)
        have f_Winit1 : GR PySem.Challenge.pw_sharedslip_k00_errors w K mg base ad.m_Winit 10 (sp1_Winit ad) := by
          rw [show ad.m_Winit = x_Winit by subst ead; rfl]
          exact fn_okR (sp := sp1_Winit ad) (dds := [.int 1]) (ws := [.int 1]) (P := PySem.Challenge.pw_sharedslip_k00_errors) (w := w) (mg := mg) (base := base) l_Winit c_Winit S_Winit b_Winit1 v_Winit1 (fun _ _ => RDs.cons rfl (RDs.nil)) (fun ds T Q E q => len_Winit1 q) (fun A outer s H E b => w_Winit t g_is_integer g_common_divisor b) (fun ds T Q E q => h_Winit q.h)
        obtain ⟨ds_Winit2, v_Winit2, b_Winit2⟩ := FD_Winit.binds1 (ps := ["self", "number", "under"]) 3 1 (fun z => nomatch z) rfl (fun T kV doc pm an cdv ct us its h1 h2 => match us, its, h1, h2 with | [_, _, _], [_], _, _ => ⟨_, rfl, rfl⟩)
        have f_Winit2 : GR PySem.Challenge.pw_sharedslip_k00_errors w K mg base ad.m_Winit 10 (sp_Winit ad) := by
          rw [show ad.m_Winit = x_Winit by subst ead; rfl]
          exact fn_okR (sp := sp_Winit ad) (dds := []) (ws := []) (P := PySem.Challenge.pw_sharedslip_k00_errors) (w := w) (mg := mg) (base := base) l_Winit c_Winit S_Winit b_Winit2 v_Winit2 (fun _ _ => RDs.nil) (fun ds T Q E q => by rw [List.append_nil]; have h := q.h; repeat (first | (rw [h.1]; rfl) | obtain ⟨_, h⟩ := h)) (fun A outer s H E b => w_Winit t g_is_integer g_common_divisor b) (fun ds T Q E q => by rw [List.append_nil]; exact h_Winit q)
        have f_Wnumber : GR PySem.Challenge.pw_sharedslip_k00_errors w K mg base ad.m_Wnumber 5 (sp_Wnumber ad) := by
          rw [show ad.m_Wnumber = x_Wnumber by subst ead; rfl]
          exact fn_ok0 (sp := sp_Wnumber ad) (P := PySem.Challenge.pw_sharedslip_k00_errors) (w := w) (mg := mg) (base := base) l_Wnumber c_Wnumber S_Wnumber (L2.Binds.all fun us hl => match us, hl with | [_], _ => rfl) (fun ds T Q E q => by have h := q.h; repeat (first | (rw [h.1]; rfl) | obtain ⟨_, h⟩ := h)) (fun A outer s H E b => w_Wnumber t  b) (fun ds T Q E q => h_Wnumber q)
        have f_Wunder : GR PySem.Challenge.pw_sharedslip_k00_errors w K mg base ad.m_Wunder 5 (sp_Wunder ad) := by
          rw [show ad.m_Wunder = x_Wunder by subst ead; rfl]
          exact fn_ok0 (sp := sp_Wunder ad) (P := PySem.Challenge.pw_sharedslip_k00_errors) (w := w) (mg := mg) (base := base) l_Wunder c_Wunder S_Wunder (L2.Binds.all fun us hl => match us, hl with | [_], _ => rfl) (fun ds T Q E q => by have h := q.h; repeat (first | (rw [h.1]; rfl) | obtain ⟨_, h⟩ := h)) (fun A outer s H E b => w_Wunder t  b) (fun ds T Q E q => h_Wunder q)
        have f_Wtext : GR PySem.Challenge.pw_sharedslip_k00_errors w K mg base ad.m_Wtext 5 (sp_Wtext ad) := by
          rw [show ad.m_Wtext = x_Wtext by subst ead; rfl]
          exact fn_ok0 (sp := sp_Wtext ad) (P := PySem.Challenge.pw_sharedslip_k00_errors) (w := w) (mg := mg) (base := base) l_Wtext c_Wtext S_Wtext (L2.Binds.all fun us hl => match us, hl with | [_], _ => rfl) (fun ds T Q E q => by have h := q.h; repeat (first | (rw [h.1]; rfl) | obtain ⟨_, h⟩ := h)) (fun A outer s H E b => w_Wtext t  b) (fun ds T Q E q => h_Wtext q)
        have f_Weq : GR PySem.Challenge.pw_sharedslip_k00_errors w K mg base ad.m_Weq 5 (sp_Weq ad) := by
          rw [show ad.m_Weq = x_Weq by subst ead; rfl]
          exact fn_ok0 (sp := sp_Weq ad) (P := PySem.Challenge.pw_sharedslip_k00_errors) (w := w) (mg := mg) (base := base) l_Weq c_Weq S_Weq (L2.Binds.all fun us hl => match us, hl with | [_, _], _ => rfl) (fun ds T Q E q => by have h := q.h; repeat (first | (rw [h.1]; rfl) | obtain ⟨_, h⟩ := h)) (fun A outer s H E b => w_Weq t  b) (fun ds T Q E q => (h_Weq oX.toAdV.toAdF.toAdW) q)
        have f_is_number := fn_ok0 (sp := sp_is_number ad) (P := PySem.Challenge.pw_sharedslip_k00_errors) (w := w) (mg := mg) (base := base) l_is_number c_is_number S_is_number (L2.Binds.all fun us hl => match us, hl with | [_], _ => rfl) (fun ds T Q E q => by have h := q.h; repeat (first | (rw [h.1]; rfl) | obtain ⟨_, h⟩ := h)) (fun A outer s H E b => w_is_number t g_is_integer b) (fun ds T Q E q => (h_is_number oX.toAdV.toAdF.toAdW) q)
        have g_is_number := GF.of (PySem.W.mg_of X G n_is_number) k_is_number f_is_number
        have f_worth_of := fn_ok0 (sp := sp_worth_of ad) (P := PySem.Challenge.pw_sharedslip_k00_errors) (w := w) (mg := mg) (base := base) l_worth_of c_worth_of S_worth_of (L2.Binds.all fun us hl => match us, hl with | [_], _ => rfl) (fun ds T Q E q => by have h := q.h; repeat (first | (rw [h.1]; rfl) | obtain ⟨_, h⟩ := h)) (fun A outer s H E b => w_worth_of t f_Winit1 b) (fun ds T Q E q => (h_worth_of oX.toAdV.toAdF.toAdW) q)
        have g_worth_of := GF.of (PySem.W.mg_of X G n_worth_of) k_worth_of f_worth_of
        have f_Wabs : GR PySem.Challenge.pw_sharedslip_k00_errors w K mg base ad.m_Wabs 15 (sp_Wabs ad) := by
          rw [show ad.m_Wabs = x_Wabs by subst ead; rfl]
          exact fn_ok0 (sp := sp_Wabs ad) (P := PySem.Challenge.pw_sharedslip_k00_errors) (w := w) (mg := mg) (base := base) l_Wabs c_Wabs S_Wabs (L2.Binds.all fun us hl => match us, hl with | [_], _ => rfl) (fun ds T Q E q => by have h := q.h; repeat (first | (rw [h.1]; rfl) | obtain ⟨_, h⟩ := h)) (fun A outer s H E b => w_Wabs t f_Winit2 b) (fun ds T Q E q => h_Wabs q)
        have f_is_name := fn_ok0 (sp := sp_is_name ad) (P := PySem.Challenge.pw_sharedslip_k00_errors) (w := w) (mg := mg) (base := base) l_is_name c_is_name S_is_name (L2.Binds.all fun us hl => match us, hl with | [_], _ => rfl) (fun ds T Q E q => by have h := q.h; repeat (first | (rw [h.1]; rfl) | obtain ⟨_, h⟩ := h)) (fun A outer s H E b => w_is_name t  b) (fun ds T Q E q => (h_is_name oX.toAdV.toAdF.toAdW.toAdB) q)
        have g_is_name := GF.of (PySem.W.mg_of X G n_is_name) k_is_name f_is_name
        have f_is_unknown := fn_ok0 (sp := sp_is_unknown ad) (P := PySem.Challenge.pw_sharedslip_k00_errors) (w := w) (mg := mg) (base := base) l_is_unknown c_is_unknown S_is_unknown (L2.Binds.all fun us hl => match us, hl with | [_], _ => rfl) (fun ds T Q E q => by have h := q.h; repeat (first | (rw [h.1]; rfl) | obtain ⟨_, h⟩ := h)) (fun A outer s H E b => w_is_unknown t g_is_name b) (fun ds T Q E q => (h_is_unknown oX.toAdV.toAdF.toAdW.toAdB) q)
        have g_is_unknown := GF.of (PySem.W.mg_of X G n_is_unknown) k_is_unknown f_is_unknown
        have f_names_of := fn_ok0 (sp := sp_names_of ad) (P := PySem.Challenge.pw_sharedslip_k00_errors) (w := w) (mg := mg) (base := base) l_names_of c_names_of S_names_of (L2.Binds.all fun us hl => match us, hl with | [_], _ => rfl) (fun ds T Q E q => by have h := q.h; repeat (first | (rw [h.1]; rfl) | obtain ⟨_, h⟩ := h)) (fun A outer s H E b => w_names_of t  b) (fun ds T Q E q => h_names_of q)
        have g_names_of := GF.of (PySem.W.mg_of X G n_names_of) k_names_of f_names_of
        have f_is_pair := fn_ok0 (sp := sp_is_pair ad) (P := PySem.Challenge.pw_sharedslip_k00_errors) (w := w) (mg := mg) (base := base) l_is_pair c_is_pair S_is_pair (L2.Binds.all fun us hl => match us, hl with | [_], _ => rfl) (fun ds T Q E q => by have h := q.h; repeat (first | (rw [h.1]; rfl) | obtain ⟨_, h⟩ := h)) (fun A outer s H E b => w_is_pair t g_is_unknown g_is_number b) (fun ds T Q E q => (h_is_pair oX.toAdV.toAdF.toAdW) q)
        have g_is_pair := GF.of (PySem.W.mg_of X G n_is_pair) k_is_pair f_is_pair
        have f_is_point := fn_ok0 (sp := sp_is_point ad) (P := PySem.Challenge.pw_sharedslip_k00_errors) (w := w) (mg := mg) (base := base) l_is_point c_is_point S_is_point (L2.Binds.all fun us hl => match us, hl with | [_], _ => rfl) (fun ds T Q E q => by have h := q.h; repeat (first | (rw [h.1]; rfl) | obtain ⟨_, h⟩ := h)) (fun A outer s H E b => w_is_point t g_is_pair b) (fun ds T Q E q => (h_is_point oX.toAdV.toAdF.toAdW) q)
        have g_is_point := GF.of (PySem.W.mg_of X G n_is_point) k_is_point f_is_point
        have f_is_parts := fn_ok0 (sp := sp_is_parts ad) (P := PySem.Challenge.pw_sharedslip_k00_errors) (w := w) (mg := mg) (base := base) l_is_parts c_is_parts S_is_parts (L2.Binds.all fun us hl => match us, hl with | [_], _ => rfl) (fun ds T Q E q => by have h := q.h; repeat (first | (rw [h.1]; rfl) | obtain ⟨_, h⟩ := h)) (fun A outer s H E b => w_is_parts t g_is_point g_names_of b) (fun ds T Q E q => h_is_parts q)
        have g_is_parts := GF.of (PySem.W.mg_of X G n_is_parts) k_is_parts f_is_parts
        have f_wnn := fn_ok0 (sp := sp_wnn ad) (P := PySem.Challenge.pw_sharedslip_k00_errors) (w := w) (mg := mg) (base := base) l_wnn c_wnn S_wnn (L2.Binds.all fun us hl => match us, hl with | [_], _ => rfl) (fun ds T Q E q => by have h := q.h; repeat (first | (rw [h.1]; rfl) | obtain ⟨_, h⟩ := h)) (fun A outer s H E b => w_wnn t f_Wnumber b) (fun ds T Q E q => h_wnn q)
        have g_wnn := GF.of (PySem.W.mg_of X G n_wnn) k_wnn f_wnn
        have FD_Finit : L2.FunD K "__init__" "Form.__init__" (defArgs s_Finit) (defBody s_Finit) (defScope s_Finit) [.ref e_Finit, .int 0] [] x_Finit _ := ⟨⟨_, _, _, _, _, _, _, _, _, _, rfl, l_Finit, c_Finit, .inr ⟨(fun z => nomatch z), _, _, [.ref e_Finit, .int 0 tk_Finit1], _, rfl, l_TFinit, rfl, .cons rfl (.cons ⟨_, rfl⟩ (.nil))⟩, .inl rfl⟩, k_Finit⟩
        obtain ⟨ds_Finit2, v_Finit2, b_Finit2⟩ := FD_Finit.binds1 (ps := ["self", "parts", "rest"]) 3 2 (fun z => nomatch z) rfl (fun T kV doc pm an cdv ct us its h1 h2 => match us, its, h1, h2 with | [_, _, _], [_, _], _, _ => ⟨_, rfl, rfl⟩)
        have f_Finit2 : GR PySem.Challenge.pw_sharedslip_k00_errors w K mg base ad.m_Finit 30 (sp_Finit ad) := by
          rw [show ad.m_Finit = x_Finit by subst ead; rfl]
          exact fn_okR (sp := sp_Finit ad) (dds := []) (ws := []) (P := PySem.Challenge.pw_sharedslip_k00_errors) (w := w) (mg := mg) (base := base) l_Finit c_Finit S_Finit b_Finit2 v_Finit2 (fun _ _ => RDs.nil) (fun ds T Q E q => by rw [List.append_nil]; have h := q.h; repeat (first | (rw [h.1]; rfl) | obtain ⟨_, h⟩ := h)) (fun A outer s H E b => w_Finit t g_is_parts g_is_number g_wnn g_worth_of b) (fun ds T Q E q => by rw [List.append_nil]; exact (h_Finit oX.toAdV.toAdF) q)
        have f_part_text := fn_ok0 (sp := sp_part_text ad) (P := PySem.Challenge.pw_sharedslip_k00_errors) (w := w) (mg := mg) (base := base) l_part_text c_part_text S_part_text (L2.Binds.all fun us hl => match us, hl with | [_, _], _ => rfl) (fun ds T Q E q => by have h := q.h; repeat (first | (rw [h.1]; rfl) | obtain ⟨_, h⟩ := h)) (fun A outer s H E b => w_part_text t f_Weq f_Winit1 f_Wtext b) (fun ds T Q E q => (h_part_text oX.toAdV.toAdF.toAdW) q)
        have g_part_text := GF.of (PySem.W.mg_of X G n_part_text) k_part_text f_part_text
        have f_signed_text := fn_ok0 (sp := sp_signed_text ad) (P := PySem.Challenge.pw_sharedslip_k00_errors) (w := w) (mg := mg) (base := base) l_signed_text c_signed_text S_signed_text (L2.Binds.all fun us hl => match us, hl with | [_, _, _], _ => rfl) (fun ds T Q E q => by have h := q.h; repeat (first | (rw [h.1]; rfl) | obtain ⟨_, h⟩ := h)) (fun A outer s H E b => w_signed_text t f_Wnumber b) (fun ds T Q E q => h_signed_text q)
        have g_signed_text := GF.of (PySem.W.mg_of X G n_signed_text) k_signed_text f_signed_text
        have f_text_of := fn_ok0 (sp := sp_text_of ad) (P := PySem.Challenge.pw_sharedslip_k00_errors) (w := w) (mg := mg) (base := base) l_text_of c_text_of S_text_of (L2.Binds.all fun us hl => match us, hl with | [_, _], _ => rfl) (fun ds T Q E q => by have h := q.h; repeat (first | (rw [h.1]; rfl) | obtain ⟨_, h⟩ := h)) (fun A outer s H E b => w_text_of t g_names_of g_signed_text g_part_text f_Wabs f_Wnumber f_Wtext b) (fun ds T Q E q => h_text_of q)
        have g_text_of := GF.of (PySem.W.mg_of X G n_text_of) k_text_of f_text_of
        have f_Frepr : GR PySem.Challenge.pw_sharedslip_k00_errors w K mg base ad.m_Frepr 25 (sp_Frepr ad) := by
          rw [show ad.m_Frepr = x_Frepr by subst ead; rfl]
          exact fn_ok0 (sp := sp_Frepr ad) (P := PySem.Challenge.pw_sharedslip_k00_errors) (w := w) (mg := mg) (base := base) l_Frepr c_Frepr S_Frepr (L2.Binds.all fun us hl => match us, hl with | [_], _ => rfl) (fun ds T Q E q => by have h := q.h; repeat (first | (rw [h.1]; rfl) | obtain ⟨_, h⟩ := h)) (fun A outer s H E b => w_Frepr t g_text_of b) (fun ds T Q E q => h_Frepr q)
        have hr : x_Frepr = ad.m_Frepr := by subst ead; rfl
        refine ⟨x_Frepr, n_Frepr, i_Frepr, ?_⟩
        rw [hr]
        have e : fm ad u r = ownD C_Form (some ["table", "last"]) [tbW C_Worth u, wqW C_Worth r] := by subst ead; rfl
        rw [<- e]
        intro A outer s H us vs Q E hr e0 hv hq
        exact GR.imp f_Frepr (sp' := fun ds T Q _ => ds = [fm ad u r] /\ Q (.str (frText u r)) T) (fun ds T Q E q => ⟨u, r, q.1, hf, q.2⟩) A outer s H us vs Q E hr trivial e0 hv hq⟩
    have f_l_jar := fn_ok0 (sp := sp_l_jar ad) (P := PySem.Challenge.pw_sharedslip_k00_errors) (w := w) (mg := mg) (base := base) l_l_jar c_l_jar S_l_jar (L2.Binds.all fun us hl => match us, hl with | [_, _], _ => rfl) (fun ds T Q E q => by have h := q.h; repeat (first | (rw [h.1]; rfl) | obtain ⟨_, h⟩ := h)) (fun A outer s H E b => w_l_jar t  b) (fun ds T Q E q => h_l_jar q)
    have g_l_jar := GF.of (PySem.W.mg_of X G n_l_jar) k_l_jar f_l_jar
    have f_l_take := fn_ok0 (sp := sp_l_take ad) (P := PySem.Challenge.pw_sharedslip_k00_errors) (w := w) (mg := mg) (base := base) l_l_take c_l_take S_l_take (L2.Binds.all fun us hl => match us, hl with | [_, _], _ => rfl) (fun ds T Q E q => by have h := q.h; repeat (first | (rw [h.1]; rfl) | obtain ⟨_, h⟩ := h)) (fun A outer s H E b => w_l_take t  b) (fun ds T Q E q => h_l_take q)
    have g_l_take := GF.of (PySem.W.mg_of X G n_l_take) k_l_take f_l_take
    have f_l_of := fn_ok0 (sp := sp_l_of ad) (P := PySem.Challenge.pw_sharedslip_k00_errors) (w := w) (mg := mg) (base := base) l_l_of c_l_of S_l_of (L2.Binds.all fun us hl => match us, hl with | [_, _], _ => rfl) (fun ds T Q E q => by have h := q.h; repeat (first | (rw [h.1]; rfl) | obtain ⟨_, h⟩ := h)) (fun A outer s H E b => w_l_of t g_l_take b) (fun ds T Q E q => h_l_of q)
    have g_l_of := GF.of (PySem.W.mg_of X G n_l_of) k_l_of f_l_of
    have f_l_odd := fn_ok0 (sp := sp_l_odd ad) (P := PySem.Challenge.pw_sharedslip_k00_errors) (w := w) (mg := mg) (base := base) l_l_odd c_l_odd S_l_odd (L2.Binds.all fun us hl => match us, hl with | [_], _ => rfl) (fun ds T Q E q => by have h := q.h; repeat (first | (rw [h.1]; rfl) | obtain ⟨_, h⟩ := h)) (fun A outer s H E b => w_l_odd t g_l_of b) (fun ds T Q E q => h_l_odd q)
    have g_l_odd := GF.of (PySem.W.mg_of X G n_l_odd) k_l_odd f_l_odd
    have f_l_kinds_of := fn_ok0 (sp := sp_l_kinds_of ad) (P := PySem.Challenge.pw_sharedslip_k00_errors) (w := w) (mg := mg) (base := base) l_l_kinds_of c_l_kinds_of S_l_kinds_of (L2.Binds.all fun us hl => match us, hl with | [_], _ => rfl) (fun ds T Q E q => by have h := q.h; repeat (first | (rw [h.1]; rfl) | obtain ⟨_, h⟩ := h)) (fun A outer s H E b => w_l_kinds_of t  b) (fun ds T Q E q => h_l_kinds_of q)
    have g_l_kinds_of := GF.of (PySem.W.mg_of X G n_l_kinds_of) k_l_kinds_of f_l_kinds_of
    have f_l_created := fn_ok0 (sp := sp_l_created ad) (P := PySem.Challenge.pw_sharedslip_k00_errors) (w := w) (mg := mg) (base := base) l_l_created c_l_created S_l_created (L2.Binds.all fun us hl => match us, hl with | [_, _], _ => rfl) (fun ds T Q E q => by have h := q.h; repeat (first | (rw [h.1]; rfl) | obtain ⟨_, h⟩ := h)) (fun A outer s H E b => w_l_created t  b) (fun ds T Q E q => h_l_created q)
    have g_l_created := GF.of (PySem.W.mg_of X G n_l_created) k_l_created f_l_created
    have f_l_is_raised := fn_ok0 (sp := sp_l_is_raised ad) (P := PySem.Challenge.pw_sharedslip_k00_errors) (w := w) (mg := mg) (base := base) l_l_is_raised c_l_is_raised S_l_is_raised (L2.Binds.all fun us hl => match us, hl with | [_, _], _ => rfl) (fun ds T Q E q => by have h := q.h; repeat (first | (rw [h.1]; rfl) | obtain ⟨_, h⟩ := h)) (fun A outer s H E b => w_l_is_raised t O b) (fun ds T Q E q => (h_l_is_raised oX) q)
    have g_l_is_raised := GF.of (PySem.W.mg_of X G n_l_is_raised) k_l_is_raised f_l_is_raised
    have f_l_fine := fn_ok0 (sp := sp_l_fine ad) (P := PySem.Challenge.pw_sharedslip_k00_errors) (w := w) (mg := mg) (base := base) l_l_fine c_l_fine S_l_fine (L2.Binds.all fun us hl => match us, hl with | [_], _ => rfl) (fun ds T Q E q => by have h := q.h; repeat (first | (rw [h.1]; rfl) | obtain ⟨_, h⟩ := h)) (fun A outer s H E b => w_l_fine t g_l_odd f_Winit2 f_Finit2 f_Winit1 g_l_of g_l_created g_l_kinds_of g_l_is_raised O b) (fun ds T Q E q => (h_l_fine oX) q)
    have g_l_fine := GF.of (PySem.W.mg_of X G n_l_fine) k_l_fine f_l_fine
    have f_law := fn_ok0 (sp := sp_law ad) (P := PySem.Challenge.pw_sharedslip_k00_errors) (w := w) (mg := mg) (base := base) l_law c_law S_law (L2.Binds.all fun us hl => match us, hl with | [_], _ => rfl) (fun ds T Q E q => by have h := q.h; repeat (first | (rw [h.1]; rfl) | obtain ⟨_, h⟩ := h)) (fun A outer s H E b => w_law t g_l_fine g_l_jar b) (fun ds T Q E q => (h_law oX) q)
    have g_law := GF.of (PySem.W.mg_of X G n_law) k_law f_law
    exact f_law
end K1
set_option maxHeartbeats 0
namespace K1
open PySem PySem.Spec PyProof.Rows L2 VX OH
abbrev RR : PySem.W.OpenRow := PySem.W.OpenLaw.row PySem.Challenge.rw_sharedslip_k00_errors
abbrev qv : Program := PySem.W.view RR.prog [86]
def nms0 : List Str := ["_wall", "__name__", "SlipError", "BadWorth", "NoQuotient", "BadText", "BadForm", "NoUnknown", "BadPoint", "Missing", "BadConditions", "TooMany", "BadProcedure", "Contrary", "NoLine"]
def nms1 : List Str := ["NotFree", "BadBound", "Open", "BadThings", "BadErrors", "BadReadings", "NoWay", "BadWish", "NoThing", "BadWord", "Unlike", "BadWishes", "BadOffers", "Over", "NoVariable"]
def nms2 : List Str := ["NotNext", "NothingToUndo", "NothingToRedo", "BadJournal", "BadLine", "Impossible", "DIGITS", "MOST_SIGNS", "is_integer", "common_divisor", "is_figures", "Worth", "is_number", "worth_of", "gap"]
def nms3 : List Str := ["plus", "minus", "times", "quotient", "LETTERS", "MOST_LETTERS", "WORDS", "COUNTED", "PAIR", "is_name", "is_unknown", "names_of", "is_pair", "is_point", "is_parts"]
def nms4 : List Str := ["without_noughts", "summed", "scaled", "form_of", "as_form", "is_summand", "with_times", "part_text", "signed_text", "Form", "inverse", "check_unknown", "text_of", "read_summand", "read_form"]
def nms5 : List Str := ["_law_jar", "_law_take", "_law_of", "_law_odd", "_law_kinds_of", "_law_created", "_law_is_raised", "_law_fine"]
def nms : List Str := nms0 ++ (nms1 ++ (nms2 ++ (nms3 ++ (nms4 ++ (nms5)))))
namespace V
def C_BadWorth (K : Fr) : Addr := rfA (gvA K "BadWorth")
def C_NoQuotient (K : Fr) : Addr := rfA (gvA K "NoQuotient")
def C_BadText (K : Fr) : Addr := rfA (gvA K "BadText")
def C_BadForm (K : Fr) : Addr := rfA (gvA K "BadForm")
def C_NoUnknown (K : Fr) : Addr := rfA (gvA K "NoUnknown")
def C_BadPoint (K : Fr) : Addr := rfA (gvA K "BadPoint")
def C_Missing (K : Fr) : Addr := rfA (gvA K "Missing")
def C_BadConditions (K : Fr) : Addr := rfA (gvA K "BadConditions")
def C_TooMany (K : Fr) : Addr := rfA (gvA K "TooMany")
def C_BadProcedure (K : Fr) : Addr := rfA (gvA K "BadProcedure")
def C_Contrary (K : Fr) : Addr := rfA (gvA K "Contrary")
def C_NoLine (K : Fr) : Addr := rfA (gvA K "NoLine")
def C_NotFree (K : Fr) : Addr := rfA (gvA K "NotFree")
def C_BadBound (K : Fr) : Addr := rfA (gvA K "BadBound")
def C_Open (K : Fr) : Addr := rfA (gvA K "Open")
def C_BadThings (K : Fr) : Addr := rfA (gvA K "BadThings")
def C_BadErrors (K : Fr) : Addr := rfA (gvA K "BadErrors")
def C_BadReadings (K : Fr) : Addr := rfA (gvA K "BadReadings")
def C_NoWay (K : Fr) : Addr := rfA (gvA K "NoWay")
def C_BadWish (K : Fr) : Addr := rfA (gvA K "BadWish")
def C_NoThing (K : Fr) : Addr := rfA (gvA K "NoThing")
def C_BadWord (K : Fr) : Addr := rfA (gvA K "BadWord")
def C_Unlike (K : Fr) : Addr := rfA (gvA K "Unlike")
def C_BadWishes (K : Fr) : Addr := rfA (gvA K "BadWishes")
def C_BadOffers (K : Fr) : Addr := rfA (gvA K "BadOffers")
def C_Over (K : Fr) : Addr := rfA (gvA K "Over")
def C_NoVariable (K : Fr) : Addr := rfA (gvA K "NoVariable")
def C_NotNext (K : Fr) : Addr := rfA (gvA K "NotNext")
def C_NothingToUndo (K : Fr) : Addr := rfA (gvA K "NothingToUndo")
def C_NothingToRedo (K : Fr) : Addr := rfA (gvA K "NothingToRedo")
def C_BadJournal (K : Fr) : Addr := rfA (gvA K "BadJournal")
def C_BadLine (K : Fr) : Addr := rfA (gvA K "BadLine")
def C_Impossible (K : Fr) : Addr := rfA (gvA K "Impossible")
def C_SlipError (K : Fr) : Addr := rfA (gvA K "SlipError")
def f_slip (K : Fr) : Addr := He.ma K (V.C_BadWorth K) "__init__"
def cda_slip (K : Fr) : Addr := rfA (fdA K (V.f_slip K)).code
def cc_slip (K : Fr) : Addr := ((fdA K (V.f_slip K)).closure.map (·.2)).headD 0
def vsl (K : Fr) : Array Value := fvA K (V.cda_slip K)
def file (K : Fr) : Str := stA ((V.vsl K).toList.getD 2 .none)
def tf (K : Fr) : Tok := tkA ((V.vsl K).toList.getD 2 .none)
def f_im (K : Fr) : Addr := He.ma K (V.C_Impossible K) "__init__"
def cda_im (K : Fr) : Addr := rfA (fdA K (V.f_im K)).code
def cc_im (K : Fr) : Addr := ((fdA K (V.f_im K)).closure.map (·.2)).headD 0
def vsl_im (K : Fr) : Array Value := fvA K (V.cda_im K)
def file_im (K : Fr) : Str := stA ((V.vsl_im K).toList.getD 2 .none)
def tf_im (K : Fr) : Tok := tkA ((V.vsl_im K).toList.getD 2 .none)
def C_Worth (K : Fr) : Addr := rfA (gvA K "Worth")
def C_Form (K : Fr) : Addr := rfA (gvA K "Form")
def p_above (K : Fr) : Addr := He.ma K (V.C_Worth K) "above"
def p_below (K : Fr) : Addr := He.ma K (V.C_Worth K) "below"
def x_Winit (K : Fr) : Addr := He.ma K (V.C_Worth K) "__init__"
def T_Winit (K : Fr) : Addr := rfA (fdA K (V.x_Winit K)).defaults
def cd_Winit (K : Fr) : Value := (fdA K (V.x_Winit K)).code
def tk_Winit0 (K : Fr) : Tok := tkA ((sqA K (V.T_Winit K)).1.toList.getD 0 .none)
def t_MOST_LETTERS (K : Fr) : Tok := tkA (gvA K "MOST_LETTERS")
def T_WORDS (K : Fr) : Addr := rfA (gvA K "WORDS")
def t_WORDS0 (K : Fr) : Tok := tkA ((sqA K (V.T_WORDS K)).1.toList.getD 0 .none)
def t_WORDS1 (K : Fr) : Tok := tkA ((sqA K (V.T_WORDS K)).1.toList.getD 1 .none)
def t_WORDS2 (K : Fr) : Tok := tkA ((sqA K (V.T_WORDS K)).1.toList.getD 2 .none)
def t_WORDS3 (K : Fr) : Tok := tkA ((sqA K (V.T_WORDS K)).1.toList.getD 3 .none)
def t_WORDS4 (K : Fr) : Tok := tkA ((sqA K (V.T_WORDS K)).1.toList.getD 4 .none)
def t_WORDS5 (K : Fr) : Tok := tkA ((sqA K (V.T_WORDS K)).1.toList.getD 5 .none)
def t_WORDS6 (K : Fr) : Tok := tkA ((sqA K (V.T_WORDS K)).1.toList.getD 6 .none)
def t_WORDS7 (K : Fr) : Tok := tkA ((sqA K (V.T_WORDS K)).1.toList.getD 7 .none)
def t_WORDS8 (K : Fr) : Tok := tkA ((sqA K (V.T_WORDS K)).1.toList.getD 8 .none)
def t_WORDS9 (K : Fr) : Tok := tkA ((sqA K (V.T_WORDS K)).1.toList.getD 9 .none)
def t_WORDS10 (K : Fr) : Tok := tkA ((sqA K (V.T_WORDS K)).1.toList.getD 10 .none)
def t_WORDS11 (K : Fr) : Tok := tkA ((sqA K (V.T_WORDS K)).1.toList.getD 11 .none)
def t_WORDS12 (K : Fr) : Tok := tkA ((sqA K (V.T_WORDS K)).1.toList.getD 12 .none)
def t_WORDS13 (K : Fr) : Tok := tkA ((sqA K (V.T_WORDS K)).1.toList.getD 13 .none)
def t_WORDS14 (K : Fr) : Tok := tkA ((sqA K (V.T_WORDS K)).1.toList.getD 14 .none)
def t_WORDS15 (K : Fr) : Tok := tkA ((sqA K (V.T_WORDS K)).1.toList.getD 15 .none)
def t_LETTERS (K : Fr) : Tok := tkA (gvA K "LETTERS")
def T_COUNTED (K : Fr) : Addr := rfA (gvA K "COUNTED")
def t_COUNTED0 (K : Fr) : Tok := tkA ((sqA K (V.T_COUNTED K)).1.toList.getD 0 .none)
def t_COUNTED1 (K : Fr) : Tok := tkA ((sqA K (V.T_COUNTED K)).1.toList.getD 1 .none)
def t_COUNTED2 (K : Fr) : Tok := tkA ((sqA K (V.T_COUNTED K)).1.toList.getD 2 .none)
def t_DIGITS (K : Fr) : Tok := tkA (gvA K "DIGITS")
def t_PAIR (K : Fr) : Tok := tkA (gvA K "PAIR")
def p_Wnumber (K : Fr) : Addr := He.ma K (V.C_Worth K) "number"
def x_Wnumber (K : Fr) : Addr := rfA ((rcA K (V.p_Wnumber K) "property").headD .none)
def rc_Wnumber (K : Fr) : List Value := (rcA K (V.p_Wnumber K) "property").tail
def cd_Wnumber (K : Fr) : Value := (fdA K (V.x_Wnumber K)).code
def x_Weq (K : Fr) : Addr := He.ma K (V.C_Worth K) "__eq__"
def cd_Weq (K : Fr) : Value := (fdA K (V.x_Weq K)).code
def p_Wtext (K : Fr) : Addr := He.ma K (V.C_Worth K) "text"
def x_Wtext (K : Fr) : Addr := rfA ((rcA K (V.p_Wtext K) "property").headD .none)
def rc_Wtext (K : Fr) : List Value := (rcA K (V.p_Wtext K) "property").tail
def cd_Wtext (K : Fr) : Value := (fdA K (V.x_Wtext K)).code
def x_Wabs (K : Fr) : Addr := He.ma K (V.C_Worth K) "__abs__"
def cd_Wabs (K : Fr) : Value := (fdA K (V.x_Wabs K)).code
def x_Finit (K : Fr) : Addr := He.ma K (V.C_Form K) "__init__"
def T_Finit (K : Fr) : Addr := rfA (fdA K (V.x_Finit K)).defaults
def cd_Finit (K : Fr) : Value := (fdA K (V.x_Finit K)).code
def e_Finit (K : Fr) : Addr := rfA ((sqA K (V.T_Finit K)).1.toList.getD 0 .none)
def tk_Finit1 (K : Fr) : Tok := tkA ((sqA K (V.T_Finit K)).1.toList.getD 1 .none)
def x_is_integer (K : Fr) : Addr := rfA (gvA K "is_integer")
def cd_is_integer (K : Fr) : Value := (fdA K (V.x_is_integer K)).code
def x_common_divisor (K : Fr) : Addr := rfA (gvA K "common_divisor")
def cd_common_divisor (K : Fr) : Value := (fdA K (V.x_common_divisor K)).code
def p_Wunder (K : Fr) : Addr := He.ma K (V.C_Worth K) "under"
def x_Wunder (K : Fr) : Addr := rfA ((rcA K (V.p_Wunder K) "property").headD .none)
def rc_Wunder (K : Fr) : List Value := (rcA K (V.p_Wunder K) "property").tail
def cd_Wunder (K : Fr) : Value := (fdA K (V.x_Wunder K)).code
def x_Wrepr (K : Fr) : Addr := He.ma K (V.C_Worth K) "__repr__"
def cd_Wrepr (K : Fr) : Value := (fdA K (V.x_Wrepr K)).code
def x_is_number (K : Fr) : Addr := rfA (gvA K "is_number")
def cd_is_number (K : Fr) : Value := (fdA K (V.x_is_number K)).code
def x_worth_of (K : Fr) : Addr := rfA (gvA K "worth_of")
def cd_worth_of (K : Fr) : Value := (fdA K (V.x_worth_of K)).code
def x_is_name (K : Fr) : Addr := rfA (gvA K "is_name")
def cd_is_name (K : Fr) : Value := (fdA K (V.x_is_name K)).code
def x_is_unknown (K : Fr) : Addr := rfA (gvA K "is_unknown")
def cd_is_unknown (K : Fr) : Value := (fdA K (V.x_is_unknown K)).code
def x_names_of (K : Fr) : Addr := rfA (gvA K "names_of")
def cd_names_of (K : Fr) : Value := (fdA K (V.x_names_of K)).code
def x_is_pair (K : Fr) : Addr := rfA (gvA K "is_pair")
def cd_is_pair (K : Fr) : Value := (fdA K (V.x_is_pair K)).code
def x_is_point (K : Fr) : Addr := rfA (gvA K "is_point")
def cd_is_point (K : Fr) : Value := (fdA K (V.x_is_point K)).code
def x_is_parts (K : Fr) : Addr := rfA (gvA K "is_parts")
def cd_is_parts (K : Fr) : Value := (fdA K (V.x_is_parts K)).code
def x_wnn (K : Fr) : Addr := rfA (gvA K "without_noughts")
def cd_wnn (K : Fr) : Value := (fdA K (V.x_wnn K)).code
def x_part_text (K : Fr) : Addr := rfA (gvA K "part_text")
def cd_part_text (K : Fr) : Value := (fdA K (V.x_part_text K)).code
def x_signed_text (K : Fr) : Addr := rfA (gvA K "signed_text")
def cd_signed_text (K : Fr) : Value := (fdA K (V.x_signed_text K)).code
def x_text_of (K : Fr) : Addr := rfA (gvA K "text_of")
def cd_text_of (K : Fr) : Value := (fdA K (V.x_text_of K)).code
def x_Frepr (K : Fr) : Addr := He.ma K (V.C_Form K) "__repr__"
def cd_Frepr (K : Fr) : Value := (fdA K (V.x_Frepr K)).code
def x_l_jar (K : Fr) : Addr := rfA (gvA K "_law_jar")
def cd_l_jar (K : Fr) : Value := (fdA K (V.x_l_jar K)).code
def x_l_take (K : Fr) : Addr := rfA (gvA K "_law_take")
def cd_l_take (K : Fr) : Value := (fdA K (V.x_l_take K)).code
def x_l_of (K : Fr) : Addr := rfA (gvA K "_law_of")
def cd_l_of (K : Fr) : Value := (fdA K (V.x_l_of K)).code
def x_l_odd (K : Fr) : Addr := rfA (gvA K "_law_odd")
def cd_l_odd (K : Fr) : Value := (fdA K (V.x_l_odd K)).code
def x_l_kinds_of (K : Fr) : Addr := rfA (gvA K "_law_kinds_of")
def cd_l_kinds_of (K : Fr) : Value := (fdA K (V.x_l_kinds_of K)).code
def x_l_created (K : Fr) : Addr := rfA (gvA K "_law_created")
def cd_l_created (K : Fr) : Value := (fdA K (V.x_l_created K)).code
def x_l_is_raised (K : Fr) : Addr := rfA (gvA K "_law_is_raised")
def cd_l_is_raised (K : Fr) : Value := (fdA K (V.x_l_is_raised K)).code
def x_l_fine (K : Fr) : Addr := rfA (gvA K "_law_fine")
def cd_l_fine (K : Fr) : Value := (fdA K (V.x_l_fine K)).code
def x_law (K : Fr) : Addr := rfA (gvA K "law")
def cd_law (K : Fr) : Value := (fdA K (V.x_law K)).code
end V
def ch0 : Ch := ⟨[fun K => decide (PySem.W.nsIn K mainGlobals "BadWorth" = some (some (.ref (V.C_BadWorth K)))), fun K => decide (PySem.W.nsIn K mainGlobals "NoQuotient" = some (some (.ref (V.C_NoQuotient K)))), fun K => decide (PySem.W.nsIn K mainGlobals "BadText" = some (some (.ref (V.C_BadText K)))), fun K => decide (PySem.W.nsIn K mainGlobals "BadForm" = some (some (.ref (V.C_BadForm K)))), fun K => decide (PySem.W.nsIn K mainGlobals "NoUnknown" = some (some (.ref (V.C_NoUnknown K)))), fun K => decide (PySem.W.nsIn K mainGlobals "BadPoint" = some (some (.ref (V.C_BadPoint K)))), fun K => decide (PySem.W.nsIn K mainGlobals "Missing" = some (some (.ref (V.C_Missing K)))), fun K => decide (PySem.W.nsIn K mainGlobals "BadConditions" = some (some (.ref (V.C_BadConditions K)))), fun K => decide (PySem.W.nsIn K mainGlobals "TooMany" = some (some (.ref (V.C_TooMany K)))), fun K => decide (PySem.W.nsIn K mainGlobals "BadProcedure" = some (some (.ref (V.C_BadProcedure K)))), fun K => decide (PySem.W.nsIn K mainGlobals "Contrary" = some (some (.ref (V.C_Contrary K)))), fun K => decide (PySem.W.nsIn K mainGlobals "NoLine" = some (some (.ref (V.C_NoLine K)))), fun K => decide (PySem.W.nsIn K mainGlobals "NotFree" = some (some (.ref (V.C_NotFree K)))), fun K => decide (PySem.W.nsIn K mainGlobals "BadBound" = some (some (.ref (V.C_BadBound K)))), fun K => decide (PySem.W.nsIn K mainGlobals "Open" = some (some (.ref (V.C_Open K)))), fun K => decide (PySem.W.nsIn K mainGlobals "BadThings" = some (some (.ref (V.C_BadThings K)))), fun K => decide (PySem.W.nsIn K mainGlobals "BadErrors" = some (some (.ref (V.C_BadErrors K)))), fun K => decide (PySem.W.nsIn K mainGlobals "BadReadings" = some (some (.ref (V.C_BadReadings K)))), fun K => decide (PySem.W.nsIn K mainGlobals "NoWay" = some (some (.ref (V.C_NoWay K)))), fun K => decide (PySem.W.nsIn K mainGlobals "BadWish" = some (some (.ref (V.C_BadWish K)))), fun K => decide (PySem.W.nsIn K mainGlobals "NoThing" = some (some (.ref (V.C_NoThing K)))), fun K => decide (PySem.W.nsIn K mainGlobals "BadWord" = some (some (.ref (V.C_BadWord K)))), fun K => decide (PySem.W.nsIn K mainGlobals "Unlike" = some (some (.ref (V.C_Unlike K)))), fun K => decide (PySem.W.nsIn K mainGlobals "BadWishes" = some (some (.ref (V.C_BadWishes K)))), fun K => decide (PySem.W.nsIn K mainGlobals "BadOffers" = some (some (.ref (V.C_BadOffers K)))), fun K => decide (PySem.W.nsIn K mainGlobals "Over" = some (some (.ref (V.C_Over K)))), fun K => decide (PySem.W.nsIn K mainGlobals "NoVariable" = some (some (.ref (V.C_NoVariable K)))), fun K => decide (PySem.W.nsIn K mainGlobals "NotNext" = some (some (.ref (V.C_NotNext K)))), fun K => decide (PySem.W.nsIn K mainGlobals "NothingToUndo" = some (some (.ref (V.C_NothingToUndo K)))), fun K => decide (PySem.W.nsIn K mainGlobals "NothingToRedo" = some (some (.ref (V.C_NothingToRedo K)))), fun K => decide (PySem.W.nsIn K mainGlobals "BadJournal" = some (some (.ref (V.C_BadJournal K)))), fun K => decide (PySem.W.nsIn K mainGlobals "BadLine" = some (some (.ref (V.C_BadLine K)))), fun K => decide (PySem.W.nsIn K mainGlobals "Impossible" = some (some (.ref (V.C_Impossible K)))), fun K => decide (PySem.W.nsIn K mainGlobals "SlipError" = some (some (.ref (V.C_SlipError K)))), fun K => decide (PySem.W.specialIn K (.builtin "object.__class__") "__get__" = some (some (.builtin "getset_descriptor.__get__"))), fun K => decide (PySem.W.takesIn K (.builtin "object.__class__") = some true), fun K => decide (PySem.W.findIn K (.ref (V.C_BadWorth K)) "__init__" = some (some (.ref (V.f_slip K)))), fun K => decide (PySem.W.typeIn K (.ref (V.f_slip K)) = some (.type "function")), fun K => decide ((fdA K (V.f_slip K)).closure = ([("__class__", (V.cc_slip K))] : List (Str × Addr))), fun K => decide ((fdA K (V.f_slip K)).defaults = .none), fun K => decide ((fdA K (V.f_slip K)).code = (.ref (V.cda_slip K))), fun K => PySem.W.codeIn K (.ref (V.cda_slip K)) "SlipError.__init__", fun K => fieB K (V.cda_slip K), fun K => decide ((V.vsl K)[2]? = some (.str (V.file K) (V.tf K))), fun K => ((PySem.Challenge.pw_sharedslip_k00_errors.main.file : Str) == (V.file K)), fun K => celB K (V.cc_slip K) (.ref (V.C_SlipError K)), fun K => (PySem.W.clsIn K (V.C_SlipError K)).isSome, fun K => decide (PySem.W.nsIn K cStatics "thirdparty.any" = some none), fun K => decide (PySem.W.nsIn K mainGlobals "super" = some none), fun K => errsB K (V.C_SlipError K) (V.f_slip K) [(V.C_BadWorth K), (V.C_NoQuotient K), (V.C_BadText K), (V.C_BadForm K), (V.C_NoUnknown K), (V.C_BadPoint K), (V.C_Missing K), (V.C_BadConditions K), (V.C_TooMany K), (V.C_BadProcedure K), (V.C_Contrary K), (V.C_NoLine K), (V.C_NotFree K), (V.C_BadBound K), (V.C_Open K), (V.C_BadThings K), (V.C_BadErrors K), (V.C_BadReadings K), (V.C_NoWay K), (V.C_BadWish K), (V.C_NoThing K), (V.C_BadWord K), (V.C_Unlike K), (V.C_BadWishes K), (V.C_BadOffers K), (V.C_Over K), (V.C_NoVariable K), (V.C_NotNext K), (V.C_NothingToUndo K), (V.C_NothingToRedo K), (V.C_BadJournal K), (V.C_BadLine K)], fun K => errB K (V.C_SlipError K) (V.C_SlipError K) [.type "ValueError", .type "Exception", .type "BaseException", .type "object"], fun K => decide (PySem.W.findIn K (.ref (V.C_SlipError K)) "__init__" = some (some (.ref (V.f_slip K)))), fun K => errB K (V.C_SlipError K) (V.C_Impossible K) [.ref (V.C_SlipError K), .type "ValueError", .type "Exception", .type "BaseException", .type "object"], fun K => tabB K (V.C_SlipError K) [(V.C_BadWorth K), (V.C_NoQuotient K), (V.C_BadText K), (V.C_BadForm K), (V.C_NoUnknown K), (V.C_BadPoint K), (V.C_Missing K), (V.C_BadConditions K), (V.C_TooMany K), (V.C_BadProcedure K), (V.C_Contrary K), (V.C_NoLine K), (V.C_NotFree K), (V.C_BadBound K), (V.C_Open K), (V.C_BadThings K), (V.C_BadErrors K), (V.C_BadReadings K), (V.C_NoWay K), (V.C_BadWish K), (V.C_NoThing K), (V.C_BadWord K), (V.C_Unlike K), (V.C_BadWishes K), (V.C_BadOffers K), (V.C_Over K), (V.C_NoVariable K), (V.C_NotNext K), (V.C_NothingToUndo K), (V.C_NothingToRedo K), (V.C_BadJournal K), (V.C_BadLine K), (V.C_Impossible K)], fun K => decide (PySem.W.findIn K (.ref (V.C_Impossible K)) "__init__" = some (some (.ref (V.f_im K)))), fun K => decide (PySem.W.typeIn K (.ref (V.f_im K)) = some (.type "function")), fun K => decide ((fdA K (V.f_im K)).closure = ([("__class__", (V.cc_im K))] : List (Str × Addr))), fun K => decide ((fdA K (V.f_im K)).defaults = .none), fun K => decide ((fdA K (V.f_im K)).code = (.ref (V.cda_im K))), fun K => PySem.W.codeIn K (.ref (V.cda_im K)) "Impossible.__init__", fun K => fieB K (V.cda_im K), fun K => decide ((V.vsl_im K)[2]? = some (.str (V.file_im K) (V.tf_im K))), fun K => ((PySem.Challenge.pw_sharedslip_k00_errors.main.file : Str) == (V.file_im K)), fun K => celB K (V.cc_im K) (.ref (V.C_Impossible K)), fun K => (PySem.W.clsIn K (V.C_Impossible K)).isSome, fun K => PySem.W.fnIn K (V.f_slip K), fun K => decide (PySem.W.ks_superIn K (V.C_Impossible K) (V.C_Impossible K) "__init__" = some (some (.ref (V.f_slip K)))), fun K => decide (PySem.W.mroIn K (V.C_Impossible K) (.ref (V.C_Impossible K)) = some true), fun K => decide (PySem.W.nsIn K mainGlobals "Worth" = some (some (.ref (V.C_Worth K)))), fun K => PySem.W.plainGet K (V.C_Worth K) Str.empty, fun K => PySem.W.isClsIn K (V.C_Worth K), fun K => PySem.W.plainOver K (V.C_Worth K), fun K => decide (PySem.W.findIn K (.ref (V.C_Worth K)) "__setattr__" = some (some (.builtin "object.__setattr__"))), fun K => decide (PySem.W.findIn K (.ref (V.C_Worth K)) "__class__" = some (some (.builtin "object.__class__"))), fun K => decide (PySem.W.mroIn K (V.C_Worth K) (.type "object") = some true), fun K => decide (PySem.W.subIn K (.ref (V.C_Worth K)) (.type "int") = some false), fun K => decide (PySem.W.subIn K (.ref (V.C_Worth K)) (.type "bool") = some false), fun K => decide (PySem.W.typeIn K (.ref (V.C_Worth K)) = some (.type "type")), fun K => decide (PySem.W.nsIn K mainGlobals "Form" = some (some (.ref (V.C_Form K)))), fun K => PySem.W.plainGet K (V.C_Form K) Str.empty, fun K => PySem.W.hasDictIn K (V.C_Form K), fun K => PySem.W.plainOver K (V.C_Form K), fun K => decide (PySem.W.findIn K (.ref (V.C_Form K)) "__setattr__" = some (some (.builtin "object.__setattr__"))), fun K => decide (PySem.W.findIn K (.ref (V.C_Form K)) "__class__" = some (some (.builtin "object.__class__"))), fun K => decide (PySem.W.mroIn K (V.C_Form K) (.type "object") = some true), fun K => decide (PySem.W.typeIn K (.ref (V.C_Form K)) = some (.type "type")), fun K => PySem.W.isClsIn K (V.C_Form K), fun K => decide (PySem.W.subIn K (.ref (V.C_Form K)) (.type "int") = some false), fun K => decide (PySem.W.subIn K (.ref (V.C_Form K)) (.type "bool") = some false), fun K => decide (PySem.W.subIn K (.ref (V.C_Form K)) (.type "str") = some false), fun K => decide (PySem.W.subIn K (.ref (V.C_Form K)) (.type "tuple") = some false), fun K => decide (PySem.W.subIn K (.ref (V.C_Form K)) (.type "list") = some false), fun K => decide (PySem.W.subIn K (.ref (V.C_Form K)) (.type "dict") = some false), fun K => decide (PySem.W.nsIn K mainGlobals "isinstance" = some none), fun K => decide (PySem.W.nsIn K mainGlobals "int" = some none), fun K => decide (PySem.W.nsIn K mainGlobals "bool" = some none), fun K => decide (PySem.W.nsIn K mainGlobals "abs" = some none), fun K => decide (PySem.W.findIn K (.ref (V.C_Worth K)) "above" = some (some (.ref (V.p_above K)))), fun K => decide (PySem.W.specialIn K (.ref (V.p_above K)) "__get__" = some (some (.builtin "member_descriptor.__get__"))), fun K => decide (PySem.W.takesIn K (.ref (V.p_above K)) = some true), fun K => decide (PySem.W.typeIn K (.ref (V.p_above K)) = some (.type "member_descriptor")), fun K => decide (PySem.W.slotIn K (V.p_above K) (V.C_Worth K) = some 0), fun K => decide (PySem.W.findIn K (.ref (V.C_Worth K)) "below" = some (some (.ref (V.p_below K)))), fun K => decide (PySem.W.specialIn K (.ref (V.p_below K)) "__get__" = some (some (.builtin "member_descriptor.__get__"))), fun K => decide (PySem.W.takesIn K (.ref (V.p_below K)) = some true), fun K => decide (PySem.W.typeIn K (.ref (V.p_below K)) = some (.type "member_descriptor")), fun K => decide (PySem.W.slotIn K (V.p_below K) (V.C_Worth K) = some 1), fun K => decide (PySem.W.nsIn K mainGlobals "str" = some none), fun K => decide (PySem.W.findIn K (.ref (V.C_Worth K)) "__init__" = some (some (.ref (V.x_Winit K)))), fun K => PySem.W.isFn K (.ref (V.x_Winit K)), fun K => decide ((fdA K (V.x_Winit K)).closure = []), fun K => decide ((fdA K (V.x_Winit K)).defaults = (.ref (V.T_Winit K))), fun K => PySem.W.codeIn K (V.cd_Winit K) "Worth.__init__", fun K => PySem.W.keepIn K (.ref (V.x_Winit K)), fun K => seqB K (V.T_Winit K) #[.int 1 (V.tk_Winit0 K)], fun K => PySem.W.makesIn K (V.C_Worth K), fun K => PySem.W.keepIn K (.ref (V.C_Worth K)), fun K => decide (PySem.W.nsIn K mainGlobals "len" = some none), fun K => decide (PySem.W.nsIn K mainGlobals "MOST_LETTERS" = some (some (.int 8 (V.t_MOST_LETTERS K)))), fun K => decide (PySem.W.nsIn K mainGlobals "WORDS" = some (some (.ref (V.T_WORDS K)))), fun K => seqB K (V.T_WORDS K) #[.str "thing" (V.t_WORDS0 K), .str "fact" (V.t_WORDS1 K), .str "free" (V.t_WORDS2 K), .str "gauge" (V.t_WORDS3 K), .str "part" (V.t_WORDS4 K), .str "run" (V.t_WORDS5 K), .str "read" (V.t_WORDS6 K), .str "let" (V.t_WORDS7 K), .str "call" (V.t_WORDS8 K), .str "if" (V.t_WORDS9 K), .str "else" (V.t_WORDS10 K), .str "again" (V.t_WORDS11 K), .str "accept" (V.t_WORDS12 K), .str "reject" (V.t_WORDS13 K), .str "tell" (V.t_WORDS14 K), .str "give" (V.t_WORDS15 K)], fun K => decide (ocA K (V.T_WORDS K) = .type "tuple"), fun K => decide (PySem.W.nsIn K mainGlobals "all" = some none), fun K => decide (PySem.W.nsIn K mainGlobals "LETTERS" = some (some (.str "abcdefghijklmnopqrstuvwxyz" (V.t_LETTERS K)))), fun K => decide (PySem.W.nsIn K mainGlobals "COUNTED" = some (some (.ref (V.T_COUNTED K)))), fun K => seqB K (V.T_COUNTED K) #[.str "f" (V.t_COUNTED0 K), .str "l" (V.t_COUNTED1 K), .str "s" (V.t_COUNTED2 K)], fun K => decide (ocA K (V.T_COUNTED K) = .type "tuple"), fun K => decide (PySem.W.nsIn K mainGlobals "DIGITS" = some (some (.str "0123456789" (V.t_DIGITS K)))), fun K => decide (PySem.W.nsIn K mainGlobals "PAIR" = some (some (.int 2 (V.t_PAIR K)))), fun K => decide (PySem.W.nsIn K mainGlobals "sorted" = some none), fun K => decide (PySem.W.nsIn K mainGlobals "tuple" = some none), fun K => decide (PySem.W.findIn K (.ref (V.C_Worth K)) "number" = some (some (.ref (V.p_Wnumber K)))), fun K => decide (PySem.W.specialIn K (.ref (V.p_Wnumber K)) "__get__" = some (some (.builtin "property.__get__"))), fun K => decide (PySem.W.takesIn K (.ref (V.p_Wnumber K)) = some true), fun K => decide (PySem.W.recIn K (V.p_Wnumber K) "property" = some (.ref (V.x_Wnumber K) :: (V.rc_Wnumber K))), fun K => decide ((fdA K (V.x_Wnumber K)).closure = []), fun K => decide ((fdA K (V.x_Wnumber K)).defaults = .none), fun K => PySem.W.codeIn K (V.cd_Wnumber K) "Worth.number", fun K => decide (PySem.W.findIn K (.ref (V.C_Form K)) "table" = some none), fun K => decide (PySem.W.findIn K (.ref (V.C_Form K)) "last" = some none), fun K => PySem.W.selfFirst K (V.C_Worth K), fun K => decide (PySem.W.findIn K (.ref (V.C_Worth K)) "__eq__" = some (some (.ref (V.x_Weq K)))), fun K => PySem.W.isFn K (.ref (V.x_Weq K)), fun K => decide ((fdA K (V.x_Weq K)).closure = []), fun K => decide ((fdA K (V.x_Weq K)).defaults = .none), fun K => PySem.W.codeIn K (V.cd_Weq K) "Worth.__eq__", fun K => decide (PySem.W.findIn K (.ref (V.C_Worth K)) "text" = some (some (.ref (V.p_Wtext K)))), fun K => decide (PySem.W.specialIn K (.ref (V.p_Wtext K)) "__get__" = some (some (.builtin "property.__get__"))), fun K => decide (PySem.W.takesIn K (.ref (V.p_Wtext K)) = some true), fun K => decide (PySem.W.recIn K (V.p_Wtext K) "property" = some (.ref (V.x_Wtext K) :: (V.rc_Wtext K))), fun K => decide ((fdA K (V.x_Wtext K)).closure = []), fun K => decide ((fdA K (V.x_Wtext K)).defaults = .none), fun K => PySem.W.codeIn K (V.cd_Wtext K) "Worth.text", fun K => decide (PySem.W.findIn K (.ref (V.C_Worth K)) "__abs__" = some (some (.ref (V.x_Wabs K)))), fun K => PySem.W.isFn K (.ref (V.x_Wabs K)), fun K => decide ((fdA K (V.x_Wabs K)).closure = []), fun K => decide ((fdA K (V.x_Wabs K)).defaults = .none), fun K => PySem.W.codeIn K (V.cd_Wabs K) "Worth.__abs__", fun K => decide (PySem.W.nsIn K mainGlobals "repr" = some none), fun K => decide (PySem.W.findIn K (.ref (V.C_Form K)) "__init__" = some (some (.ref (V.x_Finit K)))), fun K => PySem.W.isFn K (.ref (V.x_Finit K)), fun K => decide ((fdA K (V.x_Finit K)).closure = []), fun K => decide ((fdA K (V.x_Finit K)).defaults = (.ref (V.T_Finit K))), fun K => PySem.W.codeIn K (V.cd_Finit K) "Form.__init__", fun K => PySem.W.keepIn K (.ref (V.x_Finit K)), fun K => seqB K (V.T_Finit K) #[.ref (V.e_Finit K), .int 0 (V.tk_Finit1 K)], fun K => seqB K (V.e_Finit K) #[], fun K => decide (ocA K (V.e_Finit K) = .type "tuple"), fun K => PySem.W.makesIn K (V.C_Form K), fun K => PySem.W.keepIn K (.ref (V.C_Form K)), fun K => decide (PySem.W.nsIn K mainGlobals "enumerate" = some none), fun K => decide (PySem.W.nsIn K mainGlobals "range" = some none), fun K => decide (PySem.W.nsIn K mainGlobals "ValueError" = some none), fun K => decide (PySem.W.nsIn K mainGlobals "max" = some none), fun K => decide (PySem.W.nsIn K mainGlobals "min" = some none), fun K => decide (PySem.W.nsIn K mainGlobals "is_integer" = some (some (.ref (V.x_is_integer K)))), fun K => decide ((fdA K (V.x_is_integer K)).closure = []), fun K => decide ((fdA K (V.x_is_integer K)).defaults = .none), fun K => PySem.W.codeIn K (V.cd_is_integer K) "is_integer", fun K => PySem.W.keepIn K (.ref (V.x_is_integer K)), fun K => decide (PySem.W.nsIn K mainGlobals "common_divisor" = some (some (.ref (V.x_common_divisor K)))), fun K => decide ((fdA K (V.x_common_divisor K)).closure = []), fun K => decide ((fdA K (V.x_common_divisor K)).defaults = .none), fun K => PySem.W.codeIn K (V.cd_common_divisor K) "common_divisor", fun K => PySem.W.keepIn K (.ref (V.x_common_divisor K)), fun K => decide (PySem.W.findIn K (.ref (V.C_Worth K)) "under" = some (some (.ref (V.p_Wunder K)))), fun K => decide (PySem.W.specialIn K (.ref (V.p_Wunder K)) "__get__" = some (some (.builtin "property.__get__"))), fun K => decide (PySem.W.takesIn K (.ref (V.p_Wunder K)) = some true), fun K => decide (PySem.W.recIn K (V.p_Wunder K) "property" = some (.ref (V.x_Wunder K) :: (V.rc_Wunder K))), fun K => decide ((fdA K (V.x_Wunder K)).closure = []), fun K => decide ((fdA K (V.x_Wunder K)).defaults = .none), fun K => PySem.W.codeIn K (V.cd_Wunder K) "Worth.under", fun K => decide (PySem.W.findIn K (.ref (V.C_Worth K)) "__repr__" = some (some (.ref (V.x_Wrepr K)))), fun K => PySem.W.isFn K (.ref (V.x_Wrepr K)), fun K => decide ((fdA K (V.x_Wrepr K)).closure = []), fun K => decide ((fdA K (V.x_Wrepr K)).defaults = .none), fun K => PySem.W.codeIn K (V.cd_Wrepr K) "Worth.__repr__", fun K => decide (PySem.W.nsIn K mainGlobals "is_number" = some (some (.ref (V.x_is_number K)))), fun K => decide ((fdA K (V.x_is_number K)).closure = []), fun K => decide ((fdA K (V.x_is_number K)).defaults = .none), fun K => PySem.W.codeIn K (V.cd_is_number K) "is_number", fun K => PySem.W.keepIn K (.ref (V.x_is_number K)), fun K => decide (PySem.W.nsIn K mainGlobals "worth_of" = some (some (.ref (V.x_worth_of K)))), fun K => decide ((fdA K (V.x_worth_of K)).closure = []), fun K => decide ((fdA K (V.x_worth_of K)).defaults = .none), fun K => PySem.W.codeIn K (V.cd_worth_of K) "worth_of", fun K => PySem.W.keepIn K (.ref (V.x_worth_of K)), fun K => decide (PySem.W.nsIn K mainGlobals "is_name" = some (some (.ref (V.x_is_name K)))), fun K => decide ((fdA K (V.x_is_name K)).closure = []), fun K => decide ((fdA K (V.x_is_name K)).defaults = .none), fun K => PySem.W.codeIn K (V.cd_is_name K) "is_name", fun K => PySem.W.keepIn K (.ref (V.x_is_name K)), fun K => decide (PySem.W.nsIn K mainGlobals "is_unknown" = some (some (.ref (V.x_is_unknown K)))), fun K => decide ((fdA K (V.x_is_unknown K)).closure = []), fun K => decide ((fdA K (V.x_is_unknown K)).defaults = .none), fun K => PySem.W.codeIn K (V.cd_is_unknown K) "is_unknown", fun K => PySem.W.keepIn K (.ref (V.x_is_unknown K)), fun K => decide (PySem.W.nsIn K mainGlobals "names_of" = some (some (.ref (V.x_names_of K)))), fun K => decide ((fdA K (V.x_names_of K)).closure = []), fun K => decide ((fdA K (V.x_names_of K)).defaults = .none), fun K => PySem.W.codeIn K (V.cd_names_of K) "names_of", fun K => PySem.W.keepIn K (.ref (V.x_names_of K)), fun K => decide (PySem.W.nsIn K mainGlobals "is_pair" = some (some (.ref (V.x_is_pair K)))), fun K => decide ((fdA K (V.x_is_pair K)).closure = []), fun K => decide ((fdA K (V.x_is_pair K)).defaults = .none), fun K => PySem.W.codeIn K (V.cd_is_pair K) "is_pair", fun K => PySem.W.keepIn K (.ref (V.x_is_pair K)), fun K => decide (PySem.W.nsIn K mainGlobals "is_point" = some (some (.ref (V.x_is_point K)))), fun K => decide ((fdA K (V.x_is_point K)).closure = []), fun K => decide ((fdA K (V.x_is_point K)).defaults = .none), fun K => PySem.W.codeIn K (V.cd_is_point K) "is_point", fun K => PySem.W.keepIn K (.ref (V.x_is_point K)), fun K => decide (PySem.W.nsIn K mainGlobals "is_parts" = some (some (.ref (V.x_is_parts K)))), fun K => decide ((fdA K (V.x_is_parts K)).closure = []), fun K => decide ((fdA K (V.x_is_parts K)).defaults = .none), fun K => PySem.W.codeIn K (V.cd_is_parts K) "is_parts", fun K => PySem.W.keepIn K (.ref (V.x_is_parts K)), fun K => decide (PySem.W.nsIn K mainGlobals "without_noughts" = some (some (.ref (V.x_wnn K)))), fun K => decide ((fdA K (V.x_wnn K)).closure = []), fun K => decide ((fdA K (V.x_wnn K)).defaults = .none), fun K => PySem.W.codeIn K (V.cd_wnn K) "without_noughts", fun K => PySem.W.keepIn K (.ref (V.x_wnn K)), fun K => decide (PySem.W.nsIn K mainGlobals "part_text" = some (some (.ref (V.x_part_text K)))), fun K => decide ((fdA K (V.x_part_text K)).closure = []), fun K => decide ((fdA K (V.x_part_text K)).defaults = .none), fun K => PySem.W.codeIn K (V.cd_part_text K) "part_text", fun K => PySem.W.keepIn K (.ref (V.x_part_text K)), fun K => decide (PySem.W.nsIn K mainGlobals "signed_text" = some (some (.ref (V.x_signed_text K)))), fun K => decide ((fdA K (V.x_signed_text K)).closure = []), fun K => decide ((fdA K (V.x_signed_text K)).defaults = .none), fun K => PySem.W.codeIn K (V.cd_signed_text K) "signed_text", fun K => PySem.W.keepIn K (.ref (V.x_signed_text K)), fun K => decide (PySem.W.nsIn K mainGlobals "text_of" = some (some (.ref (V.x_text_of K)))), fun K => decide ((fdA K (V.x_text_of K)).closure = []), fun K => decide ((fdA K (V.x_text_of K)).defaults = .none), fun K => PySem.W.codeIn K (V.cd_text_of K) "text_of", fun K => PySem.W.keepIn K (.ref (V.x_text_of K)), fun K => decide (PySem.W.findIn K (.ref (V.C_Form K)) "__repr__" = some (some (.ref (V.x_Frepr K)))), fun K => PySem.W.isFn K (.ref (V.x_Frepr K)), fun K => decide ((fdA K (V.x_Frepr K)).closure = [])],
  [fun K => (V.f_slip K), fun K => (V.f_im K), fun K => (V.x_Winit K), fun K => (V.x_Wnumber K), fun K => (V.x_Weq K), fun K => (V.x_Wtext K), fun K => (V.x_Wabs K), fun K => (V.x_Finit K), fun K => (V.x_is_integer K), fun K => (V.x_common_divisor K), fun K => (V.x_Wunder K), fun K => (V.x_Wrepr K), fun K => (V.x_is_number K), fun K => (V.x_worth_of K), fun K => (V.x_is_name K), fun K => (V.x_is_unknown K), fun K => (V.x_names_of K), fun K => (V.x_is_pair K), fun K => (V.x_is_point K), fun K => (V.x_is_parts K), fun K => (V.x_wnn K), fun K => (V.x_part_text K), fun K => (V.x_signed_text K), fun K => (V.x_text_of K), fun K => (V.x_Frepr K), fun K => (V.x_l_jar K), fun K => (V.x_l_take K), fun K => (V.x_l_of K), fun K => (V.x_l_odd K), fun K => (V.x_l_kinds_of K), fun K => (V.x_l_created K), fun K => (V.x_l_is_raised K), fun K => (V.x_l_fine K), fun K => (V.x_law K)],
  [vW "__init__" "SlipError.__init__" (defArgs s_slip) (defBody s_slip) (defScope s_slip), vW "__init__" "Impossible.__init__" (defArgs s_im) (defBody s_im) (defScope s_im), vW "__init__" "Worth.__init__" (defArgs s_Winit) (defBody s_Winit) (defScope s_Winit), vW "number" "Worth.number" (defArgs s_Wnumber) (defBody s_Wnumber) (defScope s_Wnumber), vW "__eq__" "Worth.__eq__" (defArgs s_Weq) (defBody s_Weq) (defScope s_Weq), vW "text" "Worth.text" (defArgs s_Wtext) (defBody s_Wtext) (defScope s_Wtext), vW "__abs__" "Worth.__abs__" (defArgs s_Wabs) (defBody s_Wabs) (defScope s_Wabs), vW "__init__" "Form.__init__" (defArgs s_Finit) (defBody s_Finit) (defScope s_Finit), vW "is_integer" "is_integer" (defArgs s_is_integer) (defBody s_is_integer) (defScope s_is_integer), vW "common_divisor" "common_divisor" (defArgs s_common_divisor) (defBody s_common_divisor) (defScope s_common_divisor), vW "under" "Worth.under" (defArgs s_Wunder) (defBody s_Wunder) (defScope s_Wunder), vW "__repr__" "Worth.__repr__" (defArgs s_Wrepr) (defBody s_Wrepr) (defScope s_Wrepr), vW "is_number" "is_number" (defArgs s_is_number) (defBody s_is_number) (defScope s_is_number), vW "worth_of" "worth_of" (defArgs s_worth_of) (defBody s_worth_of) (defScope s_worth_of), vW "is_name" "is_name" (defArgs s_is_name) (defBody s_is_name) (defScope s_is_name), vW "is_unknown" "is_unknown" (defArgs s_is_unknown) (defBody s_is_unknown) (defScope s_is_unknown), vW "names_of" "names_of" (defArgs s_names_of) (defBody s_names_of) (defScope s_names_of), vW "is_pair" "is_pair" (defArgs s_is_pair) (defBody s_is_pair) (defScope s_is_pair), vW "is_point" "is_point" (defArgs s_is_point) (defBody s_is_point) (defScope s_is_point), vW "is_parts" "is_parts" (defArgs s_is_parts) (defBody s_is_parts) (defScope s_is_parts), vW "without_noughts" "without_noughts" (defArgs s_wnn) (defBody s_wnn) (defScope s_wnn), vW "part_text" "part_text" (defArgs s_part_text) (defBody s_part_text) (defScope s_part_text), vW "signed_text" "signed_text" (defArgs s_signed_text) (defBody s_signed_text) (defScope s_signed_text), vW "text_of" "text_of" (defArgs s_text_of) (defBody s_text_of) (defScope s_text_of), vW "__repr__" "Form.__repr__" (defArgs s_Frepr) (defBody s_Frepr) (defScope s_Frepr), vW "_law_jar" "_law_jar" (defArgs s_l_jar) (defBody s_l_jar) (defScope s_l_jar), vW "_law_take" "_law_take" (defArgs s_l_take) (defBody s_l_take) (defScope s_l_take), vW "_law_of" "_law_of" (defArgs s_l_of) (defBody s_l_of) (defScope s_l_of), vW "_law_odd" "_law_odd" (defArgs s_l_odd) (defBody s_l_odd) (defScope s_l_odd), vW "_law_kinds_of" "_law_kinds_of" (defArgs s_l_kinds_of) (defBody s_l_kinds_of) (defScope s_l_kinds_of), vW "_law_created" "_law_created" (defArgs s_l_created) (defBody s_l_created) (defScope s_l_created), vW "_law_is_raised" "_law_is_raised" (defArgs s_l_is_raised) (defBody s_l_is_raised) (defScope s_l_is_raised), vW "_law_fine" "_law_fine" (defArgs s_l_fine) (defBody s_l_fine) (defScope s_l_fine), vW "law" "law" (defArgs s_law) (defBody s_law) (defScope s_law)]⟩
def ch1 : Ch := ⟨[fun K => decide ((fdA K (V.x_Frepr K)).defaults = .none), fun K => PySem.W.codeIn K (V.cd_Frepr K) "Form.__repr__", fun K => decide (PySem.W.nsIn K mainGlobals "_law_jar" = some (some (.ref (V.x_l_jar K)))), fun K => decide ((fdA K (V.x_l_jar K)).closure = []), fun K => decide ((fdA K (V.x_l_jar K)).defaults = .none), fun K => PySem.W.codeIn K (V.cd_l_jar K) "_law_jar", fun K => PySem.W.keepIn K (.ref (V.x_l_jar K)), fun K => decide (PySem.W.nsIn K mainGlobals "_law_take" = some (some (.ref (V.x_l_take K)))), fun K => decide ((fdA K (V.x_l_take K)).closure = []), fun K => decide ((fdA K (V.x_l_take K)).defaults = .none), fun K => PySem.W.codeIn K (V.cd_l_take K) "_law_take", fun K => PySem.W.keepIn K (.ref (V.x_l_take K)), fun K => decide (PySem.W.nsIn K mainGlobals "_law_of" = some (some (.ref (V.x_l_of K)))), fun K => decide ((fdA K (V.x_l_of K)).closure = []), fun K => decide ((fdA K (V.x_l_of K)).defaults = .none), fun K => PySem.W.codeIn K (V.cd_l_of K) "_law_of", fun K => PySem.W.keepIn K (.ref (V.x_l_of K)), fun K => decide (PySem.W.nsIn K mainGlobals "_law_odd" = some (some (.ref (V.x_l_odd K)))), fun K => decide ((fdA K (V.x_l_odd K)).closure = []), fun K => decide ((fdA K (V.x_l_odd K)).defaults = .none), fun K => PySem.W.codeIn K (V.cd_l_odd K) "_law_odd", fun K => PySem.W.keepIn K (.ref (V.x_l_odd K)), fun K => decide (PySem.W.nsIn K mainGlobals "_law_kinds_of" = some (some (.ref (V.x_l_kinds_of K)))), fun K => decide ((fdA K (V.x_l_kinds_of K)).closure = []), fun K => decide ((fdA K (V.x_l_kinds_of K)).defaults = .none), fun K => PySem.W.codeIn K (V.cd_l_kinds_of K) "_law_kinds_of", fun K => PySem.W.keepIn K (.ref (V.x_l_kinds_of K)), fun K => decide (PySem.W.nsIn K mainGlobals "_law_created" = some (some (.ref (V.x_l_created K)))), fun K => decide ((fdA K (V.x_l_created K)).closure = []), fun K => decide ((fdA K (V.x_l_created K)).defaults = .none), fun K => PySem.W.codeIn K (V.cd_l_created K) "_law_created", fun K => PySem.W.keepIn K (.ref (V.x_l_created K)), fun K => decide (PySem.W.nsIn K mainGlobals "_law_is_raised" = some (some (.ref (V.x_l_is_raised K)))), fun K => decide ((fdA K (V.x_l_is_raised K)).closure = []), fun K => decide ((fdA K (V.x_l_is_raised K)).defaults = .none), fun K => PySem.W.codeIn K (V.cd_l_is_raised K) "_law_is_raised", fun K => PySem.W.keepIn K (.ref (V.x_l_is_raised K)), fun K => decide (PySem.W.nsIn K mainGlobals "_law_fine" = some (some (.ref (V.x_l_fine K)))), fun K => decide ((fdA K (V.x_l_fine K)).closure = []), fun K => decide ((fdA K (V.x_l_fine K)).defaults = .none), fun K => PySem.W.codeIn K (V.cd_l_fine K) "_law_fine", fun K => PySem.W.keepIn K (.ref (V.x_l_fine K)), fun K => decide (PySem.W.nsIn K mainGlobals "law" = some (some (.ref (V.x_law K)))), fun K => decide ((fdA K (V.x_law K)).closure = []), fun K => decide ((fdA K (V.x_law K)).defaults = .none), fun K => PySem.W.codeIn K (V.cd_law K) "law", fun K => PySem.W.keepIn K (.ref (V.x_law K)), fun K => decide (PySem.W.subIn K (.ref (V.C_Worth K)) (.type "str") = some false), fun K => decide (PySem.W.subIn K (.ref (V.C_Worth K)) (.type "tuple") = some false), fun K => decide (PySem.W.subIn K (.ref (V.C_Worth K)) (.type "list") = some false), fun K => decide (PySem.W.subIn K (.ref (V.C_Worth K)) (.type "dict") = some false), fun K => decide (PySem.W.subIn K (.ref (V.C_Worth K)) (.ref (V.C_Form K)) = some false), fun K => decide (PySem.W.subIn K (.ref (V.C_Form K)) (.ref (V.C_Worth K)) = some false), fun K => decide (((V.C_Form K) == (V.C_Worth K)) = false), fun K => decide (PySem.W.subIn K (.ref (V.C_SlipError K)) (.type "BaseException") = some true), fun K => PySem.W.isClsIn K (V.C_SlipError K), fun K => decide (PySem.W.typeIn K (.ref (V.C_SlipError K)) = some (.type "type")), fun K => decide (PySem.W.subIn K (.ref (V.C_Impossible K)) (.type "BaseException") = some true), fun K => PySem.W.isClsIn K (V.C_Impossible K), fun K => decide (PySem.W.typeIn K (.ref (V.C_Impossible K)) = some (.type "type")), fun K => decide (PySem.W.subIn K (.ref (V.C_NoLine K)) (.ref (V.C_SlipError K)) = some true), fun K => decide (PySem.W.subIn K (.ref (V.C_Impossible K)) (.ref (V.C_Impossible K)) = some true)],
  [],
  []⟩
def chs : List Ch := [ch0, ch1]
end K1
set_option maxHeartbeats 0
namespace K1
open PySem PySem.Spec PyProof.Rows L2 VX OH
theorem run_0 (w : World) : HandSHeadRun.RunEq RR qv PySem.W.Hook.none (fun _ => ()) 30000 nms w := by
  intro os
  kernel_rfl
theorem rch_0 (w : World) : OH.RunC RR 5 30000 ch0 w := by
  intro os
  kernel_rfl
theorem rch_1 (w : World) : OH.RunC RR 5 30000 ch1 w := by
  intro os
  kernel_rfl
theorem run (w : World) : HandSHeadRun.RunEq RR qv (OH.hook 5 chs) (OH.ob 5 chs) 30000 nms w := OH.run_all (run_0 w) (List.forall_mem_cons.2 ⟨rch_0 w, (List.forall_mem_cons.2 ⟨rch_1 w, (fun _ z => nomatch z)⟩)⟩)
end K1
set_option maxHeartbeats 0
namespace K1
open PySem PySem.Spec PyProof.Rows L2 VX OH
theorem all_c {w : World} {K : PySem.W.Frag} {h : Heap} {mg : Str -> Option Value} {fa : Addr} (X : K.In h) (G : h.Ns mainGlobals mg) (hfa : mg "law" = some (.ref fa))
    (TAB : ∀ d x c P, (recsOf qv).find? (fun e => e.name == x) = some d -> PySem.W.tabIn K x = some (c, P) -> PySem.W.CodeHd h c P /\ h.get? P = some { cls := .none, data := .fields #[] })
    (c : OH.Says chs K) :
    ∃ (cs : List (Addr × Addr × Str)) (sp : DL.SpD), (∀ p ∈ cs, h.get? p.2.1 = some { cls := .none, data := .fields #[] }) /\ (∀ p ∈ cs, K.lookup p.2.1 = none) /\ (∀ p ∈ cs, PySem.W.CodeHd h p.1 p.2.1) /\
        (∀ base : Heap, K.In base -> base.Ns mainGlobals mg -> (∀ p ∈ cs, LamX.TabB base mg p.1 p.2.1) -> DL.GR PySem.Challenge.pw_sharedslip_k00_errors w K mg base fa 50 sp) /\
        ∀ ns : List Int, ns.length <= 63 -> (∀ z ∈ ns, Builtin.Int.intBits z <= 1048576) -> sp [.lst (ns.map DL.D.int)] (DL.T0 cs) (fun x _ => x = .bl true) fun _ _ => False :=
  all_mk X G hfa TAB
    (of_decide_eq_true (c.bo 0 0 rfl rfl))
    (of_decide_eq_true (c.bo 0 1 rfl rfl))
    (of_decide_eq_true (c.bo 0 2 rfl rfl))
    (of_decide_eq_true (c.bo 0 3 rfl rfl))
    (of_decide_eq_true (c.bo 0 4 rfl rfl))
    (of_decide_eq_true (c.bo 0 5 rfl rfl))
    (of_decide_eq_true (c.bo 0 6 rfl rfl))
    (of_decide_eq_true (c.bo 0 7 rfl rfl))
    (of_decide_eq_true (c.bo 0 8 rfl rfl))
    (of_decide_eq_true (c.bo 0 9 rfl rfl))
    (of_decide_eq_true (c.bo 0 10 rfl rfl))
    (of_decide_eq_true (c.bo 0 11 rfl rfl))
    (of_decide_eq_true (c.bo 0 12 rfl rfl))
    (of_decide_eq_true (c.bo 0 13 rfl rfl))
    (of_decide_eq_true (c.bo 0 14 rfl rfl))
    (of_decide_eq_true (c.bo 0 15 rfl rfl))
    (of_decide_eq_true (c.bo 0 16 rfl rfl))
    (of_decide_eq_true (c.bo 0 17 rfl rfl))
    (of_decide_eq_true (c.bo 0 18 rfl rfl))
    (of_decide_eq_true (c.bo 0 19 rfl rfl))
    (of_decide_eq_true (c.bo 0 20 rfl rfl))
    (of_decide_eq_true (c.bo 0 21 rfl rfl))
    (of_decide_eq_true (c.bo 0 22 rfl rfl))
    (of_decide_eq_true (c.bo 0 23 rfl rfl))
    (of_decide_eq_true (c.bo 0 24 rfl rfl))
    (of_decide_eq_true (c.bo 0 25 rfl rfl))
    (of_decide_eq_true (c.bo 0 26 rfl rfl))
    (of_decide_eq_true (c.bo 0 27 rfl rfl))
    (of_decide_eq_true (c.bo 0 28 rfl rfl))
    (of_decide_eq_true (c.bo 0 29 rfl rfl))
    (of_decide_eq_true (c.bo 0 30 rfl rfl))
    (of_decide_eq_true (c.bo 0 31 rfl rfl))
    (of_decide_eq_true (c.bo 0 32 rfl rfl))
    (of_decide_eq_true (c.bo 0 33 rfl rfl))
    (of_decide_eq_true (c.bo 0 34 rfl rfl))
    (of_decide_eq_true (c.bo 0 35 rfl rfl))
    (of_decide_eq_true (c.bo 0 36 rfl rfl))
    (of_decide_eq_true (c.bo 0 37 rfl rfl))
    (fn_l (c.fw 0 0 rfl rfl rfl) (of_decide_eq_true (c.bo 0 38 rfl rfl)) (of_decide_eq_true (c.bo 0 39 rfl rfl)) (of_decide_eq_true (c.bo 0 40 rfl rfl)))
    (c.bo 0 41 rfl rfl)
    (fie_l (c.bo 0 42 rfl rfl))
    (of_decide_eq_true (c.bo 0 43 rfl rfl))
    (c.bo 0 44 rfl rfl)
    (cel_l (c.bo 0 45 rfl rfl))
    (cls_l (c.bo 0 46 rfl rfl))
    (of_decide_eq_true (c.bo 0 47 rfl rfl))
    (of_decide_eq_true (c.bo 0 48 rfl rfl))
    (c.bo 0 49 rfl rfl)
    (c.bo 0 50 rfl rfl)
    (of_decide_eq_true (c.bo 0 51 rfl rfl))
    (c.bo 0 52 rfl rfl)
    (c.bo 0 53 rfl rfl)
    (of_decide_eq_true (c.bo 0 54 rfl rfl))
    (of_decide_eq_true (c.bo 0 55 rfl rfl))
    (fn_l (c.fw 0 1 rfl rfl rfl) (of_decide_eq_true (c.bo 0 56 rfl rfl)) (of_decide_eq_true (c.bo 0 57 rfl rfl)) (of_decide_eq_true (c.bo 0 58 rfl rfl)))
    (c.bo 0 59 rfl rfl)
    (fie_l (c.bo 0 60 rfl rfl))
    (of_decide_eq_true (c.bo 0 61 rfl rfl))
    (c.bo 0 62 rfl rfl)
    (cel_l (c.bo 0 63 rfl rfl))
    (cls_l (c.bo 0 64 rfl rfl))
    (c.bo 0 65 rfl rfl)
    (of_decide_eq_true (c.bo 0 66 rfl rfl))
    (of_decide_eq_true (c.bo 0 67 rfl rfl))
    (of_decide_eq_true (c.bo 0 68 rfl rfl))
    (c.bo 0 69 rfl rfl)
    (c.bo 0 70 rfl rfl)
    (c.bo 0 71 rfl rfl)
    (of_decide_eq_true (c.bo 0 72 rfl rfl))
    (of_decide_eq_true (c.bo 0 73 rfl rfl))
    (of_decide_eq_true (c.bo 0 74 rfl rfl))
    (of_decide_eq_true (c.bo 0 75 rfl rfl))
    (of_decide_eq_true (c.bo 0 76 rfl rfl))
    (of_decide_eq_true (c.bo 0 77 rfl rfl))
    (of_decide_eq_true (c.bo 0 78 rfl rfl))
    (c.bo 0 79 rfl rfl)
    (c.bo 0 80 rfl rfl)
    (c.bo 0 81 rfl rfl)
    (of_decide_eq_true (c.bo 0 82 rfl rfl))
    (of_decide_eq_true (c.bo 0 83 rfl rfl))
    (of_decide_eq_true (c.bo 0 84 rfl rfl))
    (of_decide_eq_true (c.bo 0 85 rfl rfl))
    (c.bo 0 86 rfl rfl)
    (of_decide_eq_true (c.bo 0 87 rfl rfl))
    (of_decide_eq_true (c.bo 0 88 rfl rfl))
    (of_decide_eq_true (c.bo 0 89 rfl rfl))
    (of_decide_eq_true (c.bo 0 90 rfl rfl))
    (of_decide_eq_true (c.bo 0 91 rfl rfl))
    (of_decide_eq_true (c.bo 0 92 rfl rfl))
    (of_decide_eq_true (c.bo 0 93 rfl rfl))
    (of_decide_eq_true (c.bo 0 94 rfl rfl))
    (of_decide_eq_true (c.bo 0 95 rfl rfl))
    (of_decide_eq_true (c.bo 0 96 rfl rfl))
    (of_decide_eq_true (c.bo 0 97 rfl rfl))
    (of_decide_eq_true (c.bo 0 98 rfl rfl))
    (of_decide_eq_true (c.bo 0 99 rfl rfl))
    (of_decide_eq_true (c.bo 0 100 rfl rfl))
    (of_decide_eq_true (c.bo 0 101 rfl rfl))
    (of_decide_eq_true (c.bo 0 102 rfl rfl))
    (of_decide_eq_true (c.bo 0 103 rfl rfl))
    (of_decide_eq_true (c.bo 0 104 rfl rfl))
    (of_decide_eq_true (c.bo 0 105 rfl rfl))
    (of_decide_eq_true (c.bo 0 106 rfl rfl))
    (of_decide_eq_true (c.bo 0 107 rfl rfl))
    (of_decide_eq_true (c.bo 0 108 rfl rfl))
    (c.bo 0 109 rfl rfl)
    (fn_l (c.fw 0 2 rfl rfl rfl) (of_decide_eq_true (c.bo 0 110 rfl rfl)) (of_decide_eq_true (c.bo 0 111 rfl rfl)) rfl)
    (c.bo 0 112 rfl rfl)
    (c.bo 0 113 rfl rfl)
    (seq_l (c.bo 0 114 rfl rfl))
    (c.bo 0 115 rfl rfl)
    (c.bo 0 116 rfl rfl)
    (of_decide_eq_true (c.bo 0 117 rfl rfl))
    (of_decide_eq_true (c.bo 0 118 rfl rfl))
    (of_decide_eq_true (c.bo 0 119 rfl rfl))
    (seq_lc (c.bo 0 120 rfl rfl) (of_decide_eq_true (c.bo 0 121 rfl rfl)))
    (of_decide_eq_true (c.bo 0 122 rfl rfl))
    (of_decide_eq_true (c.bo 0 123 rfl rfl))
    (of_decide_eq_true (c.bo 0 124 rfl rfl))
    (seq_lc (c.bo 0 125 rfl rfl) (of_decide_eq_true (c.bo 0 126 rfl rfl)))
    (of_decide_eq_true (c.bo 0 127 rfl rfl))
    (of_decide_eq_true (c.bo 0 128 rfl rfl))
    (of_decide_eq_true (c.bo 0 129 rfl rfl))
    (of_decide_eq_true (c.bo 0 130 rfl rfl))
    (of_decide_eq_true (c.bo 0 131 rfl rfl))
    (of_decide_eq_true (c.bo 0 132 rfl rfl))
    (of_decide_eq_true (c.bo 0 133 rfl rfl))
    (of_decide_eq_true (c.bo 0 134 rfl rfl))
    (fn_l (c.fw 0 3 rfl rfl rfl) (of_decide_eq_true (c.bo 0 135 rfl rfl)) (of_decide_eq_true (c.bo 0 136 rfl rfl)) rfl)
    (c.bo 0 137 rfl rfl)
    (of_decide_eq_true (c.bo 0 138 rfl rfl))
    (of_decide_eq_true (c.bo 0 139 rfl rfl))
    (c.bo 0 140 rfl rfl)
    (of_decide_eq_true (c.bo 0 141 rfl rfl))
    (c.bo 0 142 rfl rfl)
    (fn_l (c.fw 0 4 rfl rfl rfl) (of_decide_eq_true (c.bo 0 143 rfl rfl)) (of_decide_eq_true (c.bo 0 144 rfl rfl)) rfl)
    (c.bo 0 145 rfl rfl)
    (of_decide_eq_true (c.bo 0 146 rfl rfl))
    (of_decide_eq_true (c.bo 0 147 rfl rfl))
    (of_decide_eq_true (c.bo 0 148 rfl rfl))
    (of_decide_eq_true (c.bo 0 149 rfl rfl))
    (fn_l (c.fw 0 5 rfl rfl rfl) (of_decide_eq_true (c.bo 0 150 rfl rfl)) (of_decide_eq_true (c.bo 0 151 rfl rfl)) rfl)
    (c.bo 0 152 rfl rfl)
    (of_decide_eq_true (c.bo 0 153 rfl rfl))
    (c.bo 0 154 rfl rfl)
    (fn_l (c.fw 0 6 rfl rfl rfl) (of_decide_eq_true (c.bo 0 155 rfl rfl)) (of_decide_eq_true (c.bo 0 156 rfl rfl)) rfl)
    (c.bo 0 157 rfl rfl)
    (of_decide_eq_true (c.bo 0 158 rfl rfl))
    (of_decide_eq_true (c.bo 0 159 rfl rfl))
    (c.bo 0 160 rfl rfl)
    (fn_l (c.fw 0 7 rfl rfl rfl) (of_decide_eq_true (c.bo 0 161 rfl rfl)) (of_decide_eq_true (c.bo 0 162 rfl rfl)) rfl)
    (c.bo 0 163 rfl rfl)
    (c.bo 0 164 rfl rfl)
    (seq_l (c.bo 0 165 rfl rfl))
    (seq_lc (c.bo 0 166 rfl rfl) (of_decide_eq_true (c.bo 0 167 rfl rfl)))
    (c.bo 0 168 rfl rfl)
    (c.bo 0 169 rfl rfl)
    (of_decide_eq_true (c.bo 0 170 rfl rfl))
    (of_decide_eq_true (c.bo 0 171 rfl rfl))
    (of_decide_eq_true (c.bo 0 172 rfl rfl))
    (of_decide_eq_true (c.bo 0 173 rfl rfl))
    (of_decide_eq_true (c.bo 0 174 rfl rfl))
    (of_decide_eq_true (c.bo 0 175 rfl rfl))
    (fn_l (c.fw 0 8 rfl rfl rfl) (of_decide_eq_true (c.bo 0 176 rfl rfl)) (of_decide_eq_true (c.bo 0 177 rfl rfl)) rfl)
    (c.bo 0 178 rfl rfl)
    (c.bo 0 179 rfl rfl)
    (of_decide_eq_true (c.bo 0 180 rfl rfl))
    (fn_l (c.fw 0 9 rfl rfl rfl) (of_decide_eq_true (c.bo 0 181 rfl rfl)) (of_decide_eq_true (c.bo 0 182 rfl rfl)) rfl)
    (c.bo 0 183 rfl rfl)
    (c.bo 0 184 rfl rfl)
    (of_decide_eq_true (c.bo 0 185 rfl rfl))
    (of_decide_eq_true (c.bo 0 186 rfl rfl))
    (of_decide_eq_true (c.bo 0 187 rfl rfl))
    (of_decide_eq_true (c.bo 0 188 rfl rfl))
    (fn_l (c.fw 0 10 rfl rfl rfl) (of_decide_eq_true (c.bo 0 189 rfl rfl)) (of_decide_eq_true (c.bo 0 190 rfl rfl)) rfl)
    (c.bo 0 191 rfl rfl)
    (of_decide_eq_true (c.bo 0 192 rfl rfl))
    (c.bo 0 193 rfl rfl)
    (fn_l (c.fw 0 11 rfl rfl rfl) (of_decide_eq_true (c.bo 0 194 rfl rfl)) (of_decide_eq_true (c.bo 0 195 rfl rfl)) rfl)
    (c.bo 0 196 rfl rfl)
    (of_decide_eq_true (c.bo 0 197 rfl rfl))
    (fn_l (c.fw 0 12 rfl rfl rfl) (of_decide_eq_true (c.bo 0 198 rfl rfl)) (of_decide_eq_true (c.bo 0 199 rfl rfl)) rfl)
    (c.bo 0 200 rfl rfl)
    (c.bo 0 201 rfl rfl)
    (of_decide_eq_true (c.bo 0 202 rfl rfl))
    (fn_l (c.fw 0 13 rfl rfl rfl) (of_decide_eq_true (c.bo 0 203 rfl rfl)) (of_decide_eq_true (c.bo 0 204 rfl rfl)) rfl)
    (c.bo 0 205 rfl rfl)
    (c.bo 0 206 rfl rfl)
    (of_decide_eq_true (c.bo 0 207 rfl rfl))
    (fn_l (c.fw 0 14 rfl rfl rfl) (of_decide_eq_true (c.bo 0 208 rfl rfl)) (of_decide_eq_true (c.bo 0 209 rfl rfl)) rfl)
    (c.bo 0 210 rfl rfl)
    (c.bo 0 211 rfl rfl)
    (of_decide_eq_true (c.bo 0 212 rfl rfl))
    (fn_l (c.fw 0 15 rfl rfl rfl) (of_decide_eq_true (c.bo 0 213 rfl rfl)) (of_decide_eq_true (c.bo 0 214 rfl rfl)) rfl)
    (c.bo 0 215 rfl rfl)
    (c.bo 0 216 rfl rfl)
    (of_decide_eq_true (c.bo 0 217 rfl rfl))
    (fn_l (c.fw 0 16 rfl rfl rfl) (of_decide_eq_true (c.bo 0 218 rfl rfl)) (of_decide_eq_true (c.bo 0 219 rfl rfl)) rfl)
    (c.bo 0 220 rfl rfl)
    (c.bo 0 221 rfl rfl)
    (of_decide_eq_true (c.bo 0 222 rfl rfl))
    (fn_l (c.fw 0 17 rfl rfl rfl) (of_decide_eq_true (c.bo 0 223 rfl rfl)) (of_decide_eq_true (c.bo 0 224 rfl rfl)) rfl)
    (c.bo 0 225 rfl rfl)
    (c.bo 0 226 rfl rfl)
    (of_decide_eq_true (c.bo 0 227 rfl rfl))
    (fn_l (c.fw 0 18 rfl rfl rfl) (of_decide_eq_true (c.bo 0 228 rfl rfl)) (of_decide_eq_true (c.bo 0 229 rfl rfl)) rfl)
    (c.bo 0 230 rfl rfl)
    (c.bo 0 231 rfl rfl)
    (of_decide_eq_true (c.bo 0 232 rfl rfl))
    (fn_l (c.fw 0 19 rfl rfl rfl) (of_decide_eq_true (c.bo 0 233 rfl rfl)) (of_decide_eq_true (c.bo 0 234 rfl rfl)) rfl)
    (c.bo 0 235 rfl rfl)
    (c.bo 0 236 rfl rfl)
    (of_decide_eq_true (c.bo 0 237 rfl rfl))
    (fn_l (c.fw 0 20 rfl rfl rfl) (of_decide_eq_true (c.bo 0 238 rfl rfl)) (of_decide_eq_true (c.bo 0 239 rfl rfl)) rfl)
    (c.bo 0 240 rfl rfl)
    (c.bo 0 241 rfl rfl)
    (of_decide_eq_true (c.bo 0 242 rfl rfl))
    (fn_l (c.fw 0 21 rfl rfl rfl) (of_decide_eq_true (c.bo 0 243 rfl rfl)) (of_decide_eq_true (c.bo 0 244 rfl rfl)) rfl)
    (c.bo 0 245 rfl rfl)
    (c.bo 0 246 rfl rfl)
    (of_decide_eq_true (c.bo 0 247 rfl rfl))
    (fn_l (c.fw 0 22 rfl rfl rfl) (of_decide_eq_true (c.bo 0 248 rfl rfl)) (of_decide_eq_true (c.bo 0 249 rfl rfl)) rfl)
    (c.bo 0 250 rfl rfl)
    (c.bo 0 251 rfl rfl)
    (of_decide_eq_true (c.bo 0 252 rfl rfl))
    (fn_l (c.fw 0 23 rfl rfl rfl) (of_decide_eq_true (c.bo 0 253 rfl rfl)) (of_decide_eq_true (c.bo 0 254 rfl rfl)) rfl)
    (c.bo 0 255 rfl rfl)
    (c.bo 0 256 rfl rfl)
    (of_decide_eq_true (c.bo 0 257 rfl rfl))
    (c.bo 0 258 rfl rfl)
    (fn_l (c.fw 0 24 rfl rfl rfl) (of_decide_eq_true (c.bo 0 259 rfl rfl)) (of_decide_eq_true (c.bo 1 0 rfl rfl)) rfl)
    (c.bo 1 1 rfl rfl)
    (of_decide_eq_true (c.bo 1 2 rfl rfl))
    (fn_l (c.fw 0 25 rfl rfl rfl) (of_decide_eq_true (c.bo 1 3 rfl rfl)) (of_decide_eq_true (c.bo 1 4 rfl rfl)) rfl)
    (c.bo 1 5 rfl rfl)
    (c.bo 1 6 rfl rfl)
    (of_decide_eq_true (c.bo 1 7 rfl rfl))
    (fn_l (c.fw 0 26 rfl rfl rfl) (of_decide_eq_true (c.bo 1 8 rfl rfl)) (of_decide_eq_true (c.bo 1 9 rfl rfl)) rfl)
    (c.bo 1 10 rfl rfl)
    (c.bo 1 11 rfl rfl)
    (of_decide_eq_true (c.bo 1 12 rfl rfl))
    (fn_l (c.fw 0 27 rfl rfl rfl) (of_decide_eq_true (c.bo 1 13 rfl rfl)) (of_decide_eq_true (c.bo 1 14 rfl rfl)) rfl)
    (c.bo 1 15 rfl rfl)
    (c.bo 1 16 rfl rfl)
    (of_decide_eq_true (c.bo 1 17 rfl rfl))
    (fn_l (c.fw 0 28 rfl rfl rfl) (of_decide_eq_true (c.bo 1 18 rfl rfl)) (of_decide_eq_true (c.bo 1 19 rfl rfl)) rfl)
    (c.bo 1 20 rfl rfl)
    (c.bo 1 21 rfl rfl)
    (of_decide_eq_true (c.bo 1 22 rfl rfl))
    (fn_l (c.fw 0 29 rfl rfl rfl) (of_decide_eq_true (c.bo 1 23 rfl rfl)) (of_decide_eq_true (c.bo 1 24 rfl rfl)) rfl)
    (c.bo 1 25 rfl rfl)
    (c.bo 1 26 rfl rfl)
    (of_decide_eq_true (c.bo 1 27 rfl rfl))
    (fn_l (c.fw 0 30 rfl rfl rfl) (of_decide_eq_true (c.bo 1 28 rfl rfl)) (of_decide_eq_true (c.bo 1 29 rfl rfl)) rfl)
    (c.bo 1 30 rfl rfl)
    (c.bo 1 31 rfl rfl)
    (of_decide_eq_true (c.bo 1 32 rfl rfl))
    (fn_l (c.fw 0 31 rfl rfl rfl) (of_decide_eq_true (c.bo 1 33 rfl rfl)) (of_decide_eq_true (c.bo 1 34 rfl rfl)) rfl)
    (c.bo 1 35 rfl rfl)
    (c.bo 1 36 rfl rfl)
    (of_decide_eq_true (c.bo 1 37 rfl rfl))
    (fn_l (c.fw 0 32 rfl rfl rfl) (of_decide_eq_true (c.bo 1 38 rfl rfl)) (of_decide_eq_true (c.bo 1 39 rfl rfl)) rfl)
    (c.bo 1 40 rfl rfl)
    (c.bo 1 41 rfl rfl)
    (of_decide_eq_true (c.bo 1 42 rfl rfl))
    (fn_l (c.fw 0 33 rfl rfl rfl) (of_decide_eq_true (c.bo 1 43 rfl rfl)) (of_decide_eq_true (c.bo 1 44 rfl rfl)) rfl)
    (c.bo 1 45 rfl rfl)
    (c.bo 1 46 rfl rfl)
    (of_decide_eq_true (c.bo 1 47 rfl rfl))
    (of_decide_eq_true (c.bo 1 48 rfl rfl))
    (of_decide_eq_true (c.bo 1 49 rfl rfl))
    (of_decide_eq_true (c.bo 1 50 rfl rfl))
    (of_decide_eq_true (c.bo 1 51 rfl rfl))
    (of_decide_eq_true (c.bo 1 52 rfl rfl))
    (of_decide_eq_true (c.bo 1 53 rfl rfl))
    (of_decide_eq_true (c.bo 1 54 rfl rfl))
    (c.bo 1 55 rfl rfl)
    (of_decide_eq_true (c.bo 1 56 rfl rfl))
    (of_decide_eq_true (c.bo 1 57 rfl rfl))
    (c.bo 1 58 rfl rfl)
    (of_decide_eq_true (c.bo 1 59 rfl rfl))
    (of_decide_eq_true (c.bo 1 60 rfl rfl))
    (of_decide_eq_true (c.bo 1 61 rfl rfl))
end K1
open PySem PySem.W PySem.Calls PyProof.Rows
set_option maxRecDepth 100000 in
set_option maxHeartbeats 0 in
theorem PySem.Challenge.cw_sharedslip_k00_errors_holds : PySem.Challenge.rw_sharedslip_k00_errors.Holds := by
  w_on; o_law
  refine HandSHeadRun.head_any (r := K1.RR) (q := K1.qv) (H := OH.hook 5 K1.chs) (ob := OH.ob 5 K1.chs) (M := 30000) (loose := K1.nms) (d := HandSHeadRun.topDef K1.RR.prog 86) (kwd := []) (OH.ob_eq 5 K1.chs)
    (by kernel_rfl) (fun s => by kernel_rfl) K1.run (by kernel_rfl) (by kernel_rfl) (by kernel_rfl) (by rfl) (by first | assumption | decide +kernel) (by decide +kernel) ⟨rfl, rfl, rfl, rfl, rfl, by decide +kernel⟩ ?hw ?hc
  case hw => w_witness2
  case hc =>
    refine DL.walk_endH (l := PySem.Challenge.rw_sharedslip_k00_errors) (n := 63) (k := 50) rfl (by decide) (by kernel_rfl) ⟨rfl, by decide, by decide⟩ ?F
    intro w mg fa h Y G hmg0 TAB
    obtain ⟨K, KX, c⟩ := Y
    have hmg : mg ("law" : PySem.Str) = some (.ref fa) := by
      have e : (HandSHeadRun.topDef K1.RR.prog 86).name = ("law" : PySem.Str) := by kernel_rfl
      rw [<- e]
      exact hmg0
    obtain ⟨cs, sp, r⟩ := K1.all_c KX G hmg (TAB K KX) c
    exact ⟨K, cs, sp, KX, r⟩
#print axioms PySem.Challenge.cw_sharedslip_k00_errors_holds
