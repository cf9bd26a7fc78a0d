import PyProof.Rows.All
import Wide.All
import OpenK.AllK
import Wide.FinOn
import HandS.ForMost
import HandS.Exc
import HandS.ExcOwn
import HandS.ExcInit
import HandS.ExcField
import HandS.ExcValue
import HandS.HotCalls
import HandS.Style
import KE.KExcIs
import KE.KIsAll
import HandS.CallSlots
import HandS.TryOnly
import HandS.WordsExc
import HandS.TupAny
import HandS.TupLe
import HandS.TupMul
import HandS.Flow
import HandS.IsInst
import HandS.Rev
import HandS.Zip
import HandS.Deep
import HandS.More
import HandS.Walk
import HandS.Wide
import HandS.Small
import PyProof.P3Eq
import PyProof.ReprRoads
import KE.KDictZip
import HandS.Defaults
import KE.GoesMore
import KE.GoesEnum
import KE.KUnpackStar
import HandS.SetFor
import HandS.Conv
import HandS.RaiseMore
import HandS.CallRecv
import HandS.FStr
import HandS.MakeKw
import KE.KFmtOwn
import PyProof.InstEq
import HandS.OwnEq
import PyProof.Raises
import PyProof.EqKinds
import HandS.ExcIs
import PySem.Challenge.RW_leastmaker_k24_bounds_alike
set_option Elab.async false
set_option linter.all false
set_option maxRecDepth 100000
set_option maxHeartbeats 4000000
namespace Z
open PySem PySem.Spec PyProof.Rows L2

inductive D where
  | non | bl (b : Bool) | int (i : Int) | str (x : Str) | tup (xs : List D) | ref (a : Addr) | ty (n : String) | cd (kvs : List (Str × Int)) | kl (xs : List D) | exn (n : Str) (ns : List Str) (ds : List D)
inductive Ob where
  | lst (xs : List D)
  | dct (kvs : List (Key × D))
  | ins (c : Str) (fs : List (Str × D))
abbrev Sto := Addr → Option Ob
def updS (S : Sto) (a : Addr) (o : Ob) : Sto := fun b => if b = a then some o else S b
theorem updS_same {S : Sto} {a : Addr} {o : Ob} : updS S a o a = some o := by unfold updS; rw [if_pos rfl]
theorem updS_ne {S : Sto} {a b : Addr} {o : Ob} (h : b ≠ a) : updS S a o b = S b := by unfold updS; rw [if_neg h]
def CdAt (K : PySem.W.Frag) (w : World) (a : Addr) (kvs : List (Str × Int)) : Prop :=
  (∃ es n, KDict K w a es n) ∧ ∀ z : Str, ∃ r, PySem.W.nsIn K a z = some r ∧ (match kvs.lookup z with | none => r = none | some i => ∃ t, r = some (Value.int i t))

def FL (K : PySem.W.Frag) (H : Hp) (a : Addr) (vs : List V) : Prop := (∃ o, H a = some (.frz o (.lst vs))) ∨
  ∃ (o : Obj) (its : Array Value) (n : Nat), K.lookup a = some o ∧ o.cls = .type "list" ∧ o.dict = none ∧ o.data = .seq its n ∧ its.size ≤ sizeLine ∧ Vals vs its.toList
theorem FL.sq {K : PySem.W.Frag} {H : Hp} {a : Addr} {vs : List V} (h : FL K H a vs) : SqL K H a vs := h.elim (fun ⟨o, e⟩ => .inl (.inr ⟨o, e⟩)) .inr
def xnames : List Str := ["NoHead", "NoProgram", "NoText", "NoStock", "NoAnswer", "NoInputs", "Clash", "NoRow", "NoQuestion", "NoDoer", "NotKept", "NoName"]
def xflds : List Str := ["word", "at", "answer", "number"]
structure XCls (K : PySem.W.Frag) (n : Str) (C : Addr) : Prop where
  ga : PySem.W.findIn K (.ref C) "__getattribute__" = some (some (.builtin "BaseException.__getattribute__"))
  gt : PySem.W.findIn K (.ref C) "__getattr__" = some none
  be : PySem.W.subIn K (.ref C) (.type "BaseException") = some true
  hd : PySem.W.hasDictIn K C = true
  cl : PySem.W.findIn K (.ref C) "__class__" = some (some (.builtin "object.__class__"))
  sg : PySem.W.specialIn K (.builtin "object.__class__") "__get__" = some (some (.builtin "getset_descriptor.__get__"))
  tk : PySem.W.takesIn K (.builtin "object.__class__") = some true
  mr : PySem.W.mroIn K C (.type "object") = some true
  fl : ∀ f ∈ xflds, PySem.W.findIn K (.ref C) f = some none
  is : ∀ m ∈ xnames, ∀ M, PySem.W.nsIn K mainGlobals m = some (some (.ref M)) → PySem.W.kitOne K (.ref C) (.ref M) = some (decide (n = m)) ∧ PySem.W.exmOne K (.ref C) (.ref M) = some (decide (n = m))
def cflds : List Str := ["many", "given", "sums", "words", "at", "points", "seeds", "makers", "table", "known"]
def btys : List String := ["NoneType", "int", "str", "tuple", "list"]
structure ClsF (K : PySem.W.Frag) (c : Str) (C : Addr) : Prop where
  ns : PySem.W.nsIn K mainGlobals c = some (some (.ref C))
  cl : Cls K C
  na : ∀ f ∈ cflds, NoAttr K C f
  ha : PySem.W.findIn K (.ref C) "__class__" = some (some (.builtin "object.__class__"))
  hn : PySem.W.specialIn K (.builtin "object.__class__") "__get__" = some (some (.builtin "getset_descriptor.__get__"))
  htk : PySem.W.takesIn K (.builtin "object.__class__") = some true
  hm : PySem.W.mroIn K C (.type "object") = some true
  me : PySem.W.kitOne K (.ref C) (.ref C) = some true
  ne : PySem.W.findIn K (.ref C) "__ne__" = some (some (.builtin "object.__ne__"))
  nb : ∀ T ∈ btys, PySem.W.subIn K (.ref C) (.type T) = some false ∧ PySem.W.subIn K (.type T) (.ref C) = some false
  ty : PySem.W.typeIn K (.ref C) = some (.type "type")
  it : PySem.W.instIn K (.ref C) (.type "type") = some true
abbrev kept (oe : Obj) : HO := .frz oe (.ext fun _ => True)
section
variable (K : PySem.W.Frag) (w : World)
mutual
def RelD (H : Hp) : D → V → Prop
  | .non, v => v = .non
  | .bl b, v => v = .bl b
  | .int i, v => v = .int i
  | .str x, v => v = .str x
  | .ty n, v => v = .ty n
  | .ref a, v => v = .ref a
  | .cd kvs, v => ∃ a, v = .ref a ∧ CdAt K w a kvs
  | .tup ds, v => ∃ a vs, v = .ref a ∧ SqT K H a vs ∧ RelDs H ds vs
  | .kl ds, v => ∃ a vs, v = .ref a ∧ FL K H a vs ∧ RelDs H ds vs
  | .exn n ns ds, v => ∃ a oe C dx vs, v = .ref a ∧ XCls K n C ∧ H a = some (kept oe) ∧ oe.cls = .ref C ∧ oe.dict = some dx ∧ (∃ fv, oe.data = .fields fv) ∧ H dx = some (.xd (ns.zip vs)) ∧ RelDs H ds vs
def RelDs (H : Hp) : List D → List V → Prop
  | [], vs => vs = []
  | d :: ds, vs => ∃ v r, vs = v :: r ∧ RelD H d v ∧ RelDs H ds r
end
def RelKV (H : Hp) : List (Key × D) → List (Key × V) → Prop
  | [], vs => vs = []
  | (k, d) :: ds, vs => ∃ v r, vs = (k, v) :: r ∧ RelD K w H d v ∧ RelKV H ds r
def RelF (H : Hp) : List (Str × D) → List (Str × V) → Prop
  | [], vs => vs = []
  | (k, d) :: ds, vs => ∃ v r, vs = (k, v) :: r ∧ RelD K w H d v ∧ RelF H ds r
def ObR (H : Hp) (a : Addr) : Ob → Prop
  | .lst ds => ∃ vs, H a = some (.lst vs) ∧ RelDs K w H ds vs
  | .dct kvs => ∃ kv, H a = some (.dK kv) ∧ RelKV K w H kvs kv
  | .ins c fs => ∃ C dx fv, ClsF K c C ∧ H a = some (.ins C dx fv) ∧ RelF K w H fs fv
def HR (H : Hp) (S : Sto) : Prop := ∀ a ob, S a = some ob → ObR K w H a ob
end

structure Ext (H H' : Hp) : Prop where
  tp : ∀ a xs, Rd H a (.tup xs) → Rd H' a (.tup xs)
  fz : ∀ a o u, H a = some (.frz o u) → H' a = some (.frz o u)
  xd : ∀ a fs, H a = some (.xd fs) → H' a = some (.xd fs)
theorem Ext.refl (H : Hp) : Ext H H := ⟨fun _ _ h => h, fun _ _ _ h => h, fun _ _ h => h⟩
theorem Ext.trans {H H1 H2 : Hp} (a : Ext H H1) (b : Ext H1 H2) : Ext H H2 := ⟨fun x y h => b.tp x y (a.tp x y h), fun x o y h => b.fz x o y (a.fz x o y h), fun x y h => b.xd x y (a.xd x y h)⟩
def Fm (H : Hp) (S : Sto) (H' : Hp) (S' : Sto) : Prop := ∀ a o, H a = some o → S a = none → H' a = some o ∧ S' a = none
theorem Fm.refl (H : Hp) (S : Sto) : Fm H S H S := fun _ _ h1 h2 => ⟨h1, h2⟩
theorem Fm.trans {H H1 H2 : Hp} {S S1 S2 : Sto} (a : Fm H S H1 S1) (b : Fm H1 S1 H2 S2) : Fm H S H2 S2 := fun x o h1 h2 =>
  let ⟨q1, q2⟩ := a x o h1 h2
  b x o q1 q2

section
variable {K : PySem.W.Frag} {w : World} {H H' : Hp} {S S' : Sto}
theorem Ext.seqT {a : Addr} {xs : List V} (e : Ext H H') (h : SqT K H a xs) : SqT K H' a xs := by
  rcases h with h | h
  · exact .inl (e.tp _ _ h)
  · exact .inr h
theorem Ext.fl {a : Addr} {xs : List V} (e : Ext H H') (h : FL K H a xs) : FL K H' a xs := by
  rcases h with ⟨o, h⟩ | h
  · exact .inl ⟨o, e.fz _ _ _ h⟩
  · exact .inr h
mutual
theorem RelD.mono (e : Ext H H') : ∀ (d : D) (v : V), RelD K w H d v → RelD K w H' d v
  | .non, _, h => h
  | .bl _, _, h => h
  | .int _, _, h => h
  | .str _, _, h => h
  | .ty _, _, h => h
  | .ref _, _, h => h
  | .cd _, _, h => h
  | .tup ds, v, h => by
    simp only [RelD] at h ⊢
    obtain ⟨a, vs, h1, h2, h3⟩ := h
    exact ⟨a, vs, h1, e.seqT h2, RelDs.mono e ds vs h3⟩
  | .kl ds, v, h => by
    simp only [RelD] at h ⊢
    obtain ⟨a, vs, h1, h2, h3⟩ := h
    exact ⟨a, vs, h1, e.fl h2, RelDs.mono e ds vs h3⟩
  | .exn n ns ds, v, h => by
    simp only [RelD] at h ⊢
    obtain ⟨a, oe, C, dx, vs, h1, h2, h3, h4, h5, h6, h7, h8⟩ := h
    exact ⟨a, oe, C, dx, vs, h1, h2, e.fz _ _ _ h3, h4, h5, h6, e.xd _ _ h7, RelDs.mono e ds vs h8⟩
theorem RelDs.mono (e : Ext H H') : ∀ (ds : List D) (vs : List V), RelDs K w H ds vs → RelDs K w H' ds vs
  | [], _, h => h
  | d :: ds, vs, h => by
    simp only [RelDs] at h ⊢
    obtain ⟨v, r, h1, h2, h3⟩ := h
    exact ⟨v, r, h1, RelD.mono e d v h2, RelDs.mono e ds r h3⟩
end
theorem RelKV.mono (e : Ext H H') : ∀ (ds : List (Key × D)) (vs : List (Key × V)), RelKV K w H ds vs → RelKV K w H' ds vs
  | [], _, h => h
  | (k, d) :: ds, vs, h => by
    simp only [RelKV] at h ⊢
    obtain ⟨v, r, h1, h2, h3⟩ := h
    exact ⟨v, r, h1, RelD.mono e d v h2, RelKV.mono e ds r h3⟩
theorem RelF.mono (e : Ext H H') : ∀ (ds : List (Str × D)) (vs : List (Str × V)), RelF K w H ds vs → RelF K w H' ds vs
  | [], _, h => h
  | (k, d) :: ds, vs, h => by
    simp only [RelF] at h ⊢
    obtain ⟨v, r, h1, h2, h3⟩ := h
    exact ⟨v, r, h1, RelD.mono e d v h2, RelF.mono e ds r h3⟩
theorem HR.notup (h : HR K w H S) {a : Addr} {xs : List V} (t : Rd H a (.tup xs)) : S a = none := by
  cases q : S a with
  | none => rfl
  | some ob =>
    have r := h a ob q
    rcases t with t | ⟨o, t⟩
    · cases ob with
      | lst ds => obtain ⟨_, e, _⟩ := r; rw [t] at e; cases e
      | dct ds => obtain ⟨_, e, _⟩ := r; rw [t] at e; cases e
      | ins C ds => obtain ⟨_, _, _, _, e, _⟩ := r; rw [t] at e; cases e
    · cases ob with
      | lst ds => obtain ⟨_, e, _⟩ := r; rw [t] at e; cases e
      | dct ds => obtain ⟨_, e, _⟩ := r; rw [t] at e; cases e
      | ins C ds => obtain ⟨_, _, _, _, e, _⟩ := r; rw [t] at e; cases e
theorem HR.noxd (h : HR K w H S) {a : Addr} {fs : List (Str × V)} (t : H a = some (.xd fs)) : S a = none := by
  cases q : S a with
  | none => rfl
  | some ob =>
    have r := h a ob q
    cases ob with
    | lst ds => obtain ⟨_, e, _⟩ := r; rw [t] at e; cases e
    | dct ds => obtain ⟨_, e, _⟩ := r; rw [t] at e; cases e
    | ins C ds => obtain ⟨_, _, _, _, e, _⟩ := r; rw [t] at e; cases e
theorem HR.nofz (h : HR K w H S) {a : Addr} {o : Obj} {u : HO} (t : H a = some (.frz o u)) : S a = none := by
  cases q : S a with
  | none => rfl
  | some ob =>
    have r := h a ob q
    cases ob with
    | lst ds => obtain ⟨_, e, _⟩ := r; rw [t] at e; cases e
    | dct ds => obtain ⟨_, e, _⟩ := r; rw [t] at e; cases e
    | ins C ds => obtain ⟨_, _, _, _, e, _⟩ := r; rw [t] at e; cases e
theorem Fm.ext (f : Fm H S H' S') (h : HR K w H S) : Ext H H' := ⟨fun a xs t => by
  have n := h.notup t
  rcases t with t | ⟨o, t⟩
  · exact .inl (f a _ t n).1
  · exact .inr ⟨o, (f a _ t n).1⟩, fun a o xs t => (f a _ t (h.nofz t)).1, fun a fs t => (f a _ t (h.noxd t)).1⟩
theorem HR.fresh (h : HR K w H S) {p : Addr} (n : H p = none) : S p = none := by
  cases q : S p with
  | none => rfl
  | some ob =>
    have r := h p ob q
    cases ob with
    | lst ds => obtain ⟨_, e, _⟩ := r; rw [n] at e; cases e
    | dct ds => obtain ⟨_, e, _⟩ := r; rw [n] at e; cases e
    | ins C ds => obtain ⟨_, _, _, _, e, _⟩ := r; rw [n] at e; cases e
theorem ObR.mono {a : Addr} {ob : Ob} (e : Ext H H') (ha : H' a = H a) (h : ObR K w H a ob) : ObR K w H' a ob := by
  cases ob with
  | lst ds => obtain ⟨vs, e1, r⟩ := h; exact ⟨vs, ha.trans e1, RelDs.mono e _ _ r⟩
  | dct ds => obtain ⟨vs, e1, r⟩ := h; exact ⟨vs, ha.trans e1, RelKV.mono e _ _ r⟩
  | ins C ds => obtain ⟨C, dx, vs, cf, e1, r⟩ := h; exact ⟨C, dx, vs, cf, ha.trans e1, RelF.mono e _ _ r⟩
theorem ext_new {p : Addr} {o : HO} (n : H p = none) : Ext H (upd H p o) := ⟨fun a xs t => by
  rcases t with t | ⟨u, t⟩
  · exact .inl (by rw [upd_ne (ne_of_none t n)]; exact t)
  · exact .inr ⟨u, by rw [upd_ne (ne_of_none t n)]; exact t⟩, fun a u xs t => by rw [upd_ne (ne_of_none t n)]; exact t, fun a u t => by rw [upd_ne (ne_of_none t n)]; exact t⟩
theorem HR.tup (h : HR K w H S) {p : Addr} {vs : List V} (n : H p = none) : HR K w (upd H p (.tup vs)) S := fun a ob q => by
  have ne : a ≠ p := fun z => by subst z; rw [h.fresh n] at q; cases q
  exact (h a ob q).mono (ext_new n) (upd_ne ne)
theorem Fm.tup (h : HR K w H S) {p : Addr} {o : HO} (n : H p = none) : Fm H S (upd H p o) S := fun a u e q => ⟨by rw [upd_ne (ne_of_none e n)]; exact e, q⟩
theorem HR.new (h : HR K w H S) {p : Addr} {o : HO} {ob : Ob} (n : H p = none) (r : ObR K w (upd H p o) p ob) : HR K w (upd H p o) (updS S p ob) := fun a u q => by
  by_cases ne : a = p
  · subst ne; rw [updS_same] at q; cases q; exact r
  · rw [updS_ne ne] at q
    exact (h a u q).mono (ext_new n) (upd_ne ne)
theorem Fm.new {p : Addr} {o : HO} {ob : Ob} (n : H p = none) : Fm H S (upd H p o) (updS S p ob) := fun a u e q =>
  ⟨by rw [upd_ne (ne_of_none e n)]; exact e, by rw [updS_ne (ne_of_none e n)]; exact q⟩
theorem ext_mut {p : Addr} {o : HO} {ob : Ob} (h : HR K w H S) (m : S p = some ob) : Ext H (upd H p o) := by
  refine ⟨fun a xs t => ?_, fun a u xs t => ?_, fun a fs t => ?_⟩
  · have ne : a ≠ p := fun z => by
      subst z
      rw [h.notup t] at m
      cases m
    rcases t with t | ⟨u, t⟩
    · exact .inl (by rw [upd_ne ne]; exact t)
    · exact .inr ⟨u, by rw [upd_ne ne]; exact t⟩
  · have ne : a ≠ p := fun z => by
      subst z
      rw [h.nofz t] at m
      cases m
    rw [upd_ne ne]
    exact t
  · have ne : a ≠ p := fun z => by
      subst z
      rw [h.noxd t] at m
      cases m
    rw [upd_ne ne]
    exact t
theorem HR.mut (h : HR K w H S) {p : Addr} {o : HO} {ob ob' : Ob} (m : S p = some ob') (r : ObR K w (upd H p o) p ob) : HR K w (upd H p o) (updS S p ob) := fun a u q => by
  by_cases ne : a = p
  · subst ne; rw [updS_same] at q; cases q; exact r
  · rw [updS_ne ne] at q
    exact (h a u q).mono (ext_mut h m) (upd_ne ne)
theorem Fm.mut {p : Addr} {o : HO} {ob ob' : Ob} (m : S p = some ob') : Fm H S (upd H p o) (updS S p ob) := fun a u e q => by
  have ne : a ≠ p := fun z => by subst z; rw [q] at m; cases m
  exact ⟨by rw [upd_ne ne]; exact e, by rw [updS_ne ne]; exact q⟩
end

abbrev StD := List (Option D)
def RelSt (K : PySem.W.Frag) (w : World) (H : Hp) (σd : StD) (σ : L2.St) : Prop := σd.length = σ.length ∧ ∀ (i : Nat) (d : D), σd[i]? = some (some d) → ∃ v, σ[i]? = some (some v) ∧ RelD K w H d v
section
variable {K : PySem.W.Frag} {w : World} {H H' : Hp} {S S' : Sto} {σd : StD} {σ : L2.St}
theorem RelSt.mono (e : Ext H H') (h : RelSt K w H σd σ) : RelSt K w H' σd σ := ⟨h.1, fun i d q => let ⟨v, h1, h2⟩ := h.2 i d q; ⟨v, h1, RelD.mono e d v h2⟩⟩
theorem RelSt.set {i : Nat} {d : D} {v : V} (h : RelSt K w H σd σ) (r : RelD K w H d v) : RelSt K w H (σd.set i (some d)) (σ.set i (some v)) := by
  refine ⟨by rw [List.length_set, List.length_set]; exact h.1, fun j e q => ?_⟩
  by_cases hj : i = j
  · subst hj
    have hl : i < σd.length := by
      rw [List.getElem?_set] at q
      simp only [if_true] at q
      split at q
      · assumption
      · cases q
    rw [List.getElem?_set_self hl] at q
    cases q
    exact ⟨v, by rw [List.getElem?_set_self (h.1 ▸ hl)], r⟩
  · rw [List.getElem?_set_ne hj] at q
    rw [List.getElem?_set_ne hj]
    exact h.2 j e q
theorem RelSt.unset {i : Nat} (h : RelSt K w H σd σ) : RelSt K w H (σd.set i none) (σ.set i none) := by
  refine ⟨by rw [List.length_set, List.length_set]; exact h.1, fun j e q => ?_⟩
  by_cases hj : i = j
  · subst hj
    rw [List.getElem?_set] at q
    simp only [if_true] at q
    split at q <;> cases q
  · rw [List.getElem?_set_ne hj] at q
    rw [List.getElem?_set_ne hj]
    exact h.2 j e q
theorem RelDs.length : ∀ {ds : List D} {vs : List V}, RelDs K w H ds vs → ds.length = vs.length
  | [], _, h => by simp only [RelDs] at h; subst h; rfl
  | d :: ds, vs, h => by
    simp only [RelDs] at h
    obtain ⟨v, r, rfl, _, h3⟩ := h
    rw [List.length_cons, List.length_cons, RelDs.length h3]
theorem RelDs.get : ∀ {ds : List D} {vs : List V} {i : Nat} {d : D}, RelDs K w H ds vs → ds[i]? = some d → ∃ v, vs[i]? = some v ∧ RelD K w H d v
  | [], _, _, _, _, e => by simp at e
  | d :: ds, vs, 0, x, h, e => by
    simp only [RelDs] at h
    obtain ⟨v, r, rfl, h2, _⟩ := h
    simp at e; subst e
    exact ⟨v, rfl, h2⟩
  | d :: ds, vs, i + 1, x, h, e => by
    simp only [RelDs] at h
    obtain ⟨v, r, rfl, _, h3⟩ := h
    exact RelDs.get (i := i) h3 (by simpa using e)
theorem RelDs.append : ∀ {a b : List D} {x y : List V}, RelDs K w H a x → RelDs K w H b y → RelDs K w H (a ++ b) (x ++ y)
  | [], b, x, y, h, h' => by simp only [RelDs] at h; subst h; exact h'
  | d :: a, b, x, y, h, h' => by
    simp only [RelDs] at h
    obtain ⟨v, r, rfl, h2, h3⟩ := h
    show RelDs K w H (d :: (a ++ b)) (v :: (r ++ y))
    simp only [RelDs]
    exact ⟨v, r ++ y, rfl, h2, RelDs.append h3 h'⟩
theorem RelDs.take : ∀ {a : List D} {x : List V} (n : Nat), RelDs K w H a x → RelDs K w H (a.take n) (x.take n)
  | _, _, 0, _ => by simp [RelDs]
  | [], x, n + 1, h => by simp only [RelDs] at h; subst h; simp [RelDs]
  | d :: a, x, n + 1, h => by
    simp only [RelDs] at h
    obtain ⟨v, r, rfl, h2, h3⟩ := h
    simp only [List.take_succ_cons, RelDs]
    exact ⟨v, _, rfl, h2, RelDs.take n h3⟩
theorem RelDs.drop : ∀ {a : List D} {x : List V} (n : Nat), RelDs K w H a x → RelDs K w H (a.drop n) (x.drop n)
  | _, _, 0, h => by simpa using h
  | [], x, n + 1, h => by simp only [RelDs] at h; subst h; simp [RelDs]
  | d :: a, x, n + 1, h => by
    simp only [RelDs] at h
    obtain ⟨v, r, rfl, h2, h3⟩ := h
    simp only [List.drop_succ_cons]
    exact RelDs.drop n h3
theorem RelDs.set : ∀ {a : List D} {x : List V} (n : Nat) {d : D} {v : V}, RelDs K w H a x → RelD K w H d v → RelDs K w H (a.set n d) (x.set n v)
  | [], x, n, d, v, h, r => by simp only [RelDs] at h; subst h; simp [RelDs]
  | e :: a, x, 0, d, v, h, r => by
    simp only [RelDs] at h
    obtain ⟨v', t, rfl, h2, h3⟩ := h
    simp only [List.set_cons_zero, RelDs]
    exact ⟨v, t, rfl, r, h3⟩
  | e :: a, x, n + 1, d, v, h, r => by
    simp only [RelDs] at h
    obtain ⟨v', t, rfl, h2, h3⟩ := h
    simp only [List.set_cons_succ, RelDs]
    exact ⟨v', _, rfl, h2, RelDs.set n h3 r⟩
theorem RelDs.snoc {a : List D} {x : List V} {d : D} {v : V} (h : RelDs K w H a x) (r : RelD K w H d v) : RelDs K w H (a ++ [d]) (x ++ [v]) :=
  RelDs.append h (by simp only [RelDs]; exact ⟨v, [], rfl, r, rfl⟩)
theorem RelDs.dropLast {a : List D} {x : List V} (h : RelDs K w H a x) : RelDs K w H a.dropLast x.dropLast := by
  rw [List.dropLast_eq_take, List.dropLast_eq_take, ← h.length]
  exact h.take _
theorem RelDs.reverse : ∀ {a : List D} {x : List V}, RelDs K w H a x → RelDs K w H a.reverse x.reverse
  | [], x, h => by simp only [RelDs] at h; subst h; simp [RelDs]
  | d :: a, x, h => by
    simp only [RelDs] at h
    obtain ⟨v, t, rfl, h2, h3⟩ := h
    rw [List.reverse_cons, List.reverse_cons]
    exact (RelDs.reverse h3).snoc h2
theorem RelDs.of_ints : ∀ (ns : List Int), RelDs K w H (ns.map D.int) (ns.map V.int)
  | [] => by simp only [List.map_nil, RelDs]
  | n :: ns => by
    simp only [List.map_cons, RelDs, RelD]
    exact ⟨_, _, rfl, rfl, RelDs.of_ints ns⟩
theorem RelSt.get {i : Nat} {d : D} (h : RelSt K w H σd σ) (e : σd[i]? = some (some d)) : ∃ v, σ[i]? = some (some v) ∧ RelD K w H d v := h.2 i d e
end

def Kont (K : PySem.W.Frag) (w : World) (H : Hp) (S : Sto) (R : D → Sto → Prop) (Q : VK) : Prop := ∀ d S', R d S' → ∀ v H', Fm H S H' S' → RelD K w H' d v → HR K w H' S' → Q v H'
abbrev WE := StD → Sto → (D → Sto → Prop) → Prop
abbrev WT := StD → Sto → (Bool → Sto → Prop) → Prop
abbrev WA := StD → Sto → (List D → Sto → Prop) → Prop
abbrev W2 := D → D → Sto → (D → Sto → Prop) → Prop
abbrev W1 := D → Sto → (D → Sto → Prop) → Prop
abbrev WC := List D → Sto → (D → Sto → Prop) → Prop
def rD2 (K : PySem.W.Frag) (w : World) (f : W2) : R2 := fun x y H Q => ∃ dx dy S R, RelD K w H dx x ∧ RelD K w H dy y ∧ HR K w H S ∧ f dx dy S R ∧ Kont K w H S R Q
def rD1 (K : PySem.W.Frag) (w : World) (f : W1) : V → Hp → VK → Prop := fun x H Q => ∃ dx S R, RelD K w H dx x ∧ HR K w H S ∧ f dx S R ∧ Kont K w H S R Q
def rDC (K : PySem.W.Frag) (w : World) (f : WC) : List V → Hp → VK → Prop := fun xs H Q => ∃ ds S R, RelDs K w H ds xs ∧ HR K w H S ∧ f ds S R ∧ Kont K w H S R Q
def rDM (K : PySem.W.Frag) (w : World) (f : D → WC) : V → List V → Hp → VK → Prop := fun x xs H Q => ∃ dx ds S R, RelD K w H dx x ∧ RelDs K w H ds xs ∧ HR K w H S ∧ f dx ds S R ∧ Kont K w H S R Q
section
variable {K : PySem.W.Frag} {w : World} {H H' : Hp} {S S' : Sto} {R : D → Sto → Prop} {Q : VK}
theorem Kont.same (k : Kont K w H S R Q) {d : D} {v : V} (r : R d S) (rv : RelD K w H d v) (h : HR K w H S) : Q v H := k d S r v H (Fm.refl H S) rv h
theorem Kont.tup (k : Kont K w H S R Q) {ds : List D} {vs : List V} {p : Addr} (r : R (.tup ds) S) (h : HR K w H S) (rv : RelDs K w H ds vs) (n : H p = none) : Q (.ref p) (upd H p (.tup vs)) :=
  k _ S r _ _ (Fm.tup h n) (by simp only [RelD]; exact ⟨p, vs, rfl, SqT.of upd_same, RelDs.mono (ext_new n) _ _ rv⟩) (h.tup n)
theorem Kont.lst (k : Kont K w H S R Q) {ds : List D} {vs : List V} {p : Addr} (r : R (.ref p) (updS S p (.lst ds))) (h : HR K w H S) (rv : RelDs K w H ds vs) (n : H p = none) : Q (.ref p) (upd H p (.lst vs)) :=
  k _ _ r _ _ (Fm.new n) (by simp only [RelD]) (h.new n ⟨vs, upd_same, RelDs.mono (ext_new n) _ _ rv⟩)
theorem Kont.mutl (k : Kont K w H S R Q) {ds : List D} {vs : List V} {p : Addr} {ob : Ob} {d : D} {v : V} (m : S p = some ob) (r : R d (updS S p (.lst ds))) (h : HR K w H S) (rv : RelDs K w H ds vs) (rd : RelD K w H d v) : Q v (upd H p (.lst vs)) :=
  k _ _ r _ _ (Fm.mut m) (RelD.mono (ext_mut h m) _ _ rd) (h.mut m ⟨vs, upd_same, RelDs.mono (ext_mut h m) _ _ rv⟩)
theorem Kont.next {R' : D → Sto → Prop} (k : Kont K w H S R Q) (f : Fm H S H' S') (h : ∀ d S2, R' d S2 → R d S2) : Kont K w H' S' R' Q := fun d S2 r v H2 f2 => k d S2 (h d S2 r) v H2 (f.trans f2)
end
end Z

set_option Elab.async false
set_option linter.all false
set_option maxRecDepth 100000
set_option maxHeartbeats 4000000
namespace Z
open PySem PySem.Spec PyProof.Rows L2

inductive Bi where
  | len | isinst | tuple | list | int | max | min | abs | all | any | sum | str | repr | sorted
inductive Me where
  | append | pop | extend | count | clear | reverse | get | insert
inductive Tg where
  | nm (i : Nat)
  | tup (gs : List Tg)
mutual
inductive T where
  | var (i : Nat) | int (i : Int) | bl (b : Bool) | non | str (x : Str) | glob (x : Str) | bty (x : String)
  | bin (op : Operator) (a b : T) | neg (a : T)
  | cmp (op : CmpOp) (a b : T) | chain (op op2 : CmpOp) (a b c : T)
  | bop (op : BoolOp) (ts : List T) | nt (a : T) | ite (c a b : T)
  | tup (ts : List T) | lst (ts : List T)
  | sub (a i : T) | slice (a : T) (lo hi : Option T)
  | call (f : Str) (ts : List T) | callK (f : Str) (ts : List T) (ks : List Str) (us : List T)
  | blt (f : Bi) (ts : List T)
  | lrev (a : T) | lzip (a b : T) | lset (a : T) | lrng (a : T)
  | mth (m : Me) (a : T) (ts : List T)
  | lc (g : Tg) (it : Ti) (ifs : List T) (own : List (Str × Nat)) (e : T)
  | dct (ks : List Str) (vs : List T)
  | isx (a : T) (m : Str) | atr (a : T) (f : Str) | back (a : T)
  | new (q c : Str) (ts : List T) | fld (a : T) (f : Str) | meth (q c m : Str) (a : T) (ts : List T)
  | eqo (q c : Str) (a b : T) | isc (a : T) (m : Str) | cmpo (op : CmpOp) (q c : Str) (a b : T)
  | lno (q c : Str) (a : T) | rpo (q c : Str) (a : T) | fs2 (x : Str) (a : T) (y : Str) (b : T) (z : Str) | newK (q c : Str) (ts : List T) (ks : List Str) (us : List T)
inductive Ti where
  | seq (e : T) | rng1 (a : T) | rng2 (a b : T) | enm (e : T) | zip (a b : T) | rev (e : T)
end
inductive TS where
  | ex (e : T) | asg (g : Tg) (e : T) | par (i j : Nat) (a b : T) | set (a i e : T) | aug (op : Operator) (i : Nat) (e : T)
  | ife (c : T) (a b : List TS) | whil (c : T) (b : List TS) | fr (g : Tg) (it : Ti) (b : List TS)
  | ret (e : T) | retN | pass | brk | cont | never
  | setf (a : T) (f : Str) (e : T)
  | star (is : List Nat) (i : Nat) (js : List Nat) (e : T) | par3 (i j l : Nat) (a b c : T)
  | rais (n : Str) (ts : List T) | tryx (b : List TS) (m : Str) (i : Nat) (h : List TS)

def tru (S : Sto) : D → Option Bool
  | .non => some false
  | .bl b => some b
  | .int i => some (i != 0)
  | .str y => if y.length ≤ sizeLine then some ((y.length : Int) != 0) else none
  | .tup xs => some (!xs.isEmpty)
  | .kl xs => some (!xs.isEmpty)
  | .ref a => match S a with
    | some (.lst xs) => some (!xs.isEmpty)
    | some (.dct kvs) => some (!kvs.isEmpty)
    | _ => none
  | _ => none
def itemsD (S : Sto) : D → Option (List D)
  | .tup xs => some xs
  | .kl xs => some xs
  | .ref a => match S a with
    | some (.lst xs) => some xs
    | _ => none
  | _ => none
def lenD (S : Sto) : D → Option Nat
  | .tup xs => some xs.length
  | .kl xs => some xs.length
  | .str y => if y.length ≤ sizeLine then some y.length else none
  | .ref a => match S a with
    | some (.lst xs) => some xs.length
    | some (.dct kvs) => some kvs.length
    | _ => none
  | _ => none
def tyD (S : Sto) : D → Option String
  | .non => some "NoneType"
  | .bl _ => some "bool"
  | .int _ => some "int"
  | .str _ => some "str"
  | .tup _ => some "tuple"
  | .ref a => match S a with
    | some (.lst _) => some "list"
    | some (.dct _) => some "dict"
    | _ => none
  | _ => none
def cutD (xs : List D) (lo hi : Option Int) : List D := (xs.drop (HT.sIx xs.length 0 lo)).take (HT.sIx xs.length xs.length hi - HT.sIx xs.length 0 lo)
def keyD : D → Option Key
  | .int i => some (.inl i)
  | .str x => some (.inr x)
  | _ => none
def lookD (kvs : List (Key × D)) (k : Key) : Option D := (kvs.find? fun kv => decide (kv.1 = k)).map (·.2)
def putD (kvs : List (Key × D)) (k : Key) (v : D) : List (Key × D) :=
  if kvs.any (fun kv => decide (kv.1 = k)) then kvs.map (fun kv => if kv.1 = k then (kv.1, v) else kv) else kvs ++ [(k, v)]
mutual
/-- as the library's data -/
def toP : D → Option PyData
  | .non => some .none
  | .bl b => some (.bool b)
  | .int i => some (.int i)
  | .str x => some (.str x)
  | .tup xs => (toPs xs).map PyData.tuple
  | _ => none
def toPs : List D → Option (List PyData)
  | [] => some []
  | d :: ds => match toP d, toPs ds with
    | some p, some ps => some (p :: ps)
    | _, _ => none
end
def toP1 (S : Sto) : D → Option PyData
  | .ref a => match S a with
    | some (.lst xs) => (toPs xs).map PyData.list
    | _ => none
  | d => toP d
def toP1s (S : Sto) : List D → Option (List PyData)
  | [] => some []
  | d :: ds => match toP1 S d, toP1s S ds with
    | some p, some ps => some (p :: ps)
    | _, _ => none
def toPS (S : Sto) : D → Option PyData
  | .ref a => match S a with
    | some (.lst xs) => (match toPs xs with
      | some ps => some (PyData.list ps)
      | none => (toP1s S xs).map PyData.list)
    | _ => none
  | d => toP d
def flatD : D → Bool
  | .non => true
  | .bl _ => true
  | .int _ => true
  | .str _ => true
  | _ => false
def eqF : D → D → Bool
  | .non, .non => true
  | .bl a, .bl b => a == b
  | .bl a, .int b => (if a then 1 else 0) == b
  | .int a, .bl b => a == (if b then 1 else 0)
  | .int a, .int b => a == b
  | .str a, .str b => a == b
  | _, _ => false
def inF (x : D) (xs : List D) : Bool := xs.any fun y => eqF y x
def blsOf : List D → Option (List Bool)
  | [] => some []
  | .bl b :: r => (blsOf r).map (b :: ·)
  | _ => none
def intsOf : List D → Option (List Int)
  | [] => some []
  | .int b :: r => (intsOf r).map (b :: ·)
  | _ => none

def wBin (op : Operator) (x y : D) (S : Sto) (Q : D → Sto → Prop) : Prop :=
  match op, x, y with
  | .Add, .int i, .int j => Q (.int (i + j)) S
  | .Add, .tup a, .tup b => a.length + b.length ≤ sizeLine ∧ Q (.tup (a ++ b)) S
  | .Add, .str a, .str b => a.length + b.length ≤ sizeLine ∧ Q (.str (a ++ b)) S
  | .Add, .ref a, .ref b => (match S a, S b with
    | some (.lst xs), some (.lst ys) => xs.length + ys.length ≤ sizeLine ∧ ∀ p, S p = none → Q (.ref p) (updS S p (.lst (xs ++ ys)))
    | _, _ => False)
  | .Sub, .int i, .int j => Q (.int (i - j)) S
  | .Mult, .int i, .int j => CMul i j ∧ Q (.int (i * j)) S
  | .Mult, .tup xs, .int n => xs ≠ [] ∧ xs.length ≤ 1000 ∧ 1 ≤ n ∧ n ≤ 1000 ∧ Q (.tup (List.replicate n.toNat xs).flatten) S
  | .Mult, .ref a, .int n => (match S a with
    | some (.lst xs) => 0 ≤ n ∧ n ≤ 1000 ∧ xs.length ≤ 1000 ∧ ∀ p, S p = none → Q (.ref p) (updS S p (.lst (List.replicate n.toNat xs).flatten))
    | _ => False)
  | .FloorDiv, .int i, .int j => CDiv i j ∧ Q (.int (i / j)) S
  | .Mod, .int i, .int j => 0 < j ∧ Q (.int (i % j)) S
  | .Pow, .int i, .int j => CPow i j ∧ Q (.int (i ^ j.toNat)) S
  | _, _, _ => False
def wEq (neg : Bool) (x y : D) (S : Sto) (Q : D → Sto → Prop) : Prop :=
  match toPS S x, toPS S y with
  | some p, some q => SeqAt.shaped p = true ∧ SeqAt.shaped q = true ∧ Q (.bl (if neg then !PyData.eqv p q else PyData.eqv p q)) S
  | _, _ => False
def wInP (neg : Bool) (x : D) (ys : List D) (S : Sto) (Q : D → Sto → Prop) : Prop :=
  match toP x, toPs ys with
  | some q, some ps => q.canLay0 = true ∧ q.depth ≤ 60 ∧ PyData.canLayAll0 ps = true ∧ Q (.bl (if neg then !(ps.any fun p => PyData.eqv p q) else ps.any fun p => PyData.eqv p q)) S
  | _, _ => False
def wCmp (op : CmpOp) (x y : D) (S : Sto) (Q : D → Sto → Prop) : Prop :=
  match op with
  | .Eq => wEq false x y S Q
  | .NotEq => wEq true x y S Q
  | .Lt => (match x, y with | .int i, .int j => Q (.bl (decide (i < j))) S | _, _ => False)
  | .LtE => (match x, y with | .int i, .int j => Q (.bl (decide (i ≤ j))) S | _, _ => False)
  | .Gt => (match x, y with | .int i, .int j => Q (.bl (decide (j < i))) S | _, _ => False)
  | .GtE => (match x, y with | .int i, .int j => Q (.bl (decide (j ≤ i))) S | _, _ => False)
  | .Is => (match y, x with
    | .non, .ref _ => Q (.bl false) S
    | .non, .non => Q (.bl true) S
    | .non, .bl _ => Q (.bl false) S
    | .non, .int _ => Q (.bl false) S
    | .non, .str _ => Q (.bl false) S
    | .non, .tup _ => Q (.bl false) S
    | .bl b, .bl a => Q (.bl (decide (a = b))) S
    | _, _ => False)
  | .IsNot => (match y, x with
    | .non, .ref _ => Q (.bl true) S
    | .non, .non => Q (.bl false) S
    | .non, .bl _ => Q (.bl true) S
    | .non, .int _ => Q (.bl true) S
    | .non, .str _ => Q (.bl true) S
    | .non, .tup _ => Q (.bl true) S
    | .bl b, .bl a => Q (.bl (!decide (a = b))) S
    | _, _ => False)
  | .In => (match y with
    | .cd kvs => (match x with | .str z => Q (.bl (kvs.lookup z).isSome) S | _ => False)
    | _ => match itemsD S y with
      | some ys => (flatD x = true ∧ ys.all flatD = true ∧ Q (.bl (inF x ys)) S) ∨ wInP false x ys S Q
      | none => False)
  | .NotIn => (match y with
    | .cd kvs => (match x with | .str z => Q (.bl (!(kvs.lookup z).isSome)) S | _ => False)
    | _ => match itemsD S y with
      | some ys => (flatD x = true ∧ ys.all flatD = true ∧ Q (.bl (!inF x ys)) S) ∨ wInP true x ys S Q
      | none => False)
def wSub (x y : D) (S : Sto) (Q : D → Sto → Prop) : Prop :=
  match x with
  | .cd kvs => (match y with
    | .str z => (match kvs.lookup z with | some i => Q (.int i) S | none => False)
    | _ => False)
  | .str z => (match y with
    | .int i => z.length ≤ sizeLine ∧ (match atI z.cps.toList i with | some c => Q (.str ⟨#[c]⟩) S | none => False)
    | _ => False)
  | .tup xs => (match y with
    | .int i => (match atI xs i with | some v => Q v S | none => False)
    | _ => False)
  | .kl xs => (match y with
    | .int i => (match atI xs i with | some v => Q v S | none => False)
    | _ => False)
  | .ref a => (match S a with
    | some (.lst xs) => (match y with
      | .int i => (match atI xs i with | some v => Q v S | none => False)
      | _ => False)
    | some (.dct kvs) => (match keyD y with
      | some k => (match lookD kvs k with | some v => Q v S | none => False)
      | none => False)
    | _ => False)
  | _ => False
def wSlice (x : D) (lo hi : Option Int) (S : Sto) (Q : D → Sto → Prop) : Prop :=
  match x with
  | .tup xs => Q (.tup (cutD xs lo hi)) S
  | .kl xs => ∀ p, S p = none → Q (.ref p) (updS S p (.lst (cutD xs lo hi)))
  | .ref a => (match S a with
    | some (.lst xs) => ∀ p, S p = none → Q (.ref p) (updS S p (.lst (cutD xs lo hi)))
    | _ => False)
  | _ => False
def wSet (o i v : D) (S : Sto) (Q : Sto → Prop) : Prop :=
  match o with
  | .ref a => (match S a with
    | some (.lst xs) => (match i with
      | .int k => (match ixN xs.length k with | some j => Q (updS S a (.lst (xs.set j v))) | none => False)
      | _ => False)
    | some (.dct kvs) => (match keyD i with
      | some k => kvs.length < sizeLine ∧ Q (updS S a (.dct (putD kvs k v)))
      | none => False)
    | _ => False)
  | _ => False
def flatP : PyData → Bool
  | .none => true
  | .bool _ => true
  | .int _ => true
  | _ => false
def wBlt (f : Bi) (ds : List D) (S : Sto) (Q : D → Sto → Prop) : Prop :=
  match f, ds with
  | .len, [d] => (match lenD S d with | some n => Q (.int n) S | none => False)
  | .isinst, [d, .ty n] => (match tyD S d with
    | some t => (match kitB t n with | some b => Q (.bl b) S | none => False)
    | none => False)
  | .tuple, [d] => (match itemsD S d with | some xs => Q (.tup xs) S | none => False)
  | .list, [d] => (match itemsD S d with | some xs => ∀ p, S p = none → Q (.ref p) (updS S p (.lst xs)) | none => False)
  | .int, [.int i] => Q (.int i) S
  | .int, [.bl b] => Q (.int (if b then 1 else 0)) S
  | .max, [.int i, .int j] => Q (.int (if j > i then j else i)) S
  | .min, [.int i, .int j] => Q (.int (if j < i then j else i)) S
  | .max, [.ref a] => (match S a with
    | some (.lst xs) => (match intsOf xs with | some ns => 0 < ns.length ∧ ∀ m, m ∈ ns → (∀ x, x ∈ ns → x ≤ m) → Q (.int m) S | none => False)
    | _ => False)
  | .min, [.ref a] => (match S a with
    | some (.lst xs) => (match intsOf xs with | some ns => 0 < ns.length ∧ ∀ m, m ∈ ns → (∀ x, x ∈ ns → m ≤ x) → Q (.int m) S | none => False)
    | _ => False)
  | .abs, [.int i] => Q (.int (if i < 0 then -i else i)) S
  | .all, [.ref a] => (match S a with
    | some (.lst xs) => (match blsOf xs with | some bs => Q (.bl (bs.all id)) S | none => False)
    | _ => False)
  | .any, [.ref a] => (match S a with
    | some (.lst xs) => (match blsOf xs with | some bs => Q (.bl (bs.any id)) S | none => False)
    | _ => False)
  | .sum, [.ref a] => (match S a with
    | some (.lst xs) => (match intsOf xs with | some bs => Q (.int bs.sum) S | none => False)
    | _ => False)
  | .str, [.int i] => i.natAbs.log2 < 1920 ∧ Q (.str (toString i)) S
  | .sorted, [.ref a] => (match S a with
    | some (.lst xs) => (match intsOf xs with | some ns => ns.length < 64 ∧ ∀ (ns' : List Int) p, ns'.Perm ns → ns'.Pairwise (· ≤ ·) → S p = none → Q (.ref p) (updS S p (.lst (ns'.map D.int))) | none => False)
    | _ => False)
  | .repr, [d] => (match toPS S d with | some p => p.canLay0 = true ∧ p.showable = true ∧ p.depth ≤ 60 ∧ (flatP p = true ∨ p.shown.length ≤ sizeLine) ∧ Q (.str p.shown) S | none => False)
  | _, _ => False
def okI : D → Prop
  | .int i => i.natAbs.log2 < 1920
  | _ => False
def fs2T (x : Str) (d : D) (y : Str) (e : D) (z : Str) : Str :=
  match d, e with
  | .int i, .int j => Str.empty ++ x ++ Str.ofString (toString i) ++ y ++ Str.ofString (toString j) ++ z
  | _, _ => x
def wLrev (d : D) (S : Sto) (Q : D → Sto → Prop) : Prop :=
  match itemsD S d with | some xs => ∀ p, S p = none → Q (.ref p) (updS S p (.lst xs.reverse)) | none => False
def wLzip (d e : D) (S : Sto) (Q : D → Sto → Prop) : Prop :=
  match d, e with
  | .tup xs, .tup ys => ∀ p, S p = none → Q (.ref p) (updS S p (.lst ((xs.zip ys).map fun z => .tup [z.1, z.2])))
  | _, _ => False
def wMth (m : Me) (o : D) (ds : List D) (S : Sto) (Q : D → Sto → Prop) : Prop :=
  match o with
  | .ref a => (match S a with
    | some (.lst xs) => (match m, ds with
      | .append, [d] => xs.length < sizeLine ∧ Q .non (updS S a (.lst (xs ++ [d])))
      | .pop, [] => (match xs[xs.length - 1]? with | some y => Q y (updS S a (.lst xs.dropLast)) | none => False)
      | .pop, [.int i] => 0 ≤ i ∧ i < 2 ^ 62 ∧ (match xs[i.toNat]? with | some y => Q y (updS S a (.lst (xs.eraseIdx i.toNat))) | none => False)
      | .insert, [.int i, d] => 0 ≤ i ∧ i < 2 ^ 62 ∧ xs.length < sizeLine ∧ Q .non (updS S a (.lst (xs.take i.toNat ++ [d] ++ xs.drop i.toNat)))
      | .extend, [.ref b] => (match S b with
        | some (.lst ys) => xs.length + ys.length ≤ sizeLine ∧ Q .non (updS S a (.lst (xs ++ ys)))
        | _ => False)
      | .clear, [] => Q .non (updS S a (.lst []))
      | .reverse, [] => Q .non (updS S a (.lst xs.reverse))
      | .count, [d] => flatD d = true ∧ xs.all flatD = true ∧ Q (.int (xs.countP fun y => eqF y d : Nat)) S
      | _, _ => False)
    | some (.dct kvs) => (match m, ds with
      | .get, [k] => (match keyD k with | some k => Q ((lookD kvs k).getD .non) S | none => False)
      | .get, [k, d] => (match keyD k with | some k => Q ((lookD kvs k).getD d) S | none => False)
      | _, _ => False)
    | _ => False)
  | _ => False

def Me.ofDict : Me → Bool
  | .get => true
  | _ => false
def okRecv (m : Me) (S : Sto) : D → Bool
  | .ref a => match S a with
    | some (.lst _) => !m.ofDict
    | some (.dct _) => m.ofDict
    | _ => false
  | _ => false

mutual
def wpG : Tg → D → StD → Sto → (StD → Prop) → Prop
  | .nm i, d, σ, _, Q => Q (σ.set i (some d))
  | .tup gs, d, σ, S, Q => match itemsD S d with
    | some ds => ds.length = gs.length ∧ wpGs gs ds σ S Q
    | none => False
def wpGs : List Tg → List D → StD → Sto → (StD → Prop) → Prop
  | [], _, σ, _, Q => Q σ
  | g :: gs, d :: ds, σ, S, Q => wpG g d σ S fun σ' => wpGs gs ds σ' S Q
  | _ :: _, [], _, _, _ => False
end
def wipeD (σ : StD) : List Nat → StD
  | [] => σ
  | v :: vs => (wipeD σ vs).set v none

structure Exc where
  cls : Str
  ns : List Str
  ds : List D
def xclT : List (Str × List Str) := [("NoHead", ["word", "at"]), ("NoProgram", ["word", "at"]), ("NoText", ["at"]), ("NoStock", ["word", "at"]), ("NoAnswer", ["answer"]), ("NoInputs", ["at"]), ("Clash", ["at", "number"])]
def xcl (n : Str) : Option (List Str) := xclT.lookup n
def wBack (d : D) (S : Sto) (Q : D → Sto → Prop) : Prop :=
  match d with | .ref a => (match S a with | some (.lst xs) => ∀ p, S p = none → Q (.ref p) (updS S p (.lst xs.reverse)) | _ => False) | .tup xs => Q (.tup xs.reverse) S | _ => False
def wLset (d : D) (S : Sto) (Q : D → Sto → Prop) : Prop :=
  match d with | .tup xs => (match intsOf xs with | some ns => ns.length ≤ 1000 ∧ ∀ out : List Int, out.Nodup → (∀ k, k ∈ out ↔ k ∈ ns) → Q (.int out.length) S | none => False) | _ => False
def wLrng (d : D) (S : Sto) (Q : D → Sto → Prop) : Prop :=
  match d with | .int n => 0 ≤ n ∧ n ≤ 1000 ∧ ∀ p, S p = none → Q (.ref p) (updS S p (.lst ((List.range n.toNat).map fun i => .int (i : Nat)))) | _ => False
def wIsx (m : Str) (d : D) (S : Sto) (Q : D → Sto → Prop) : Prop :=
  match d with | .exn n _ _ => Q (.bl (decide (n = m))) S | _ => False
def wAtr (f : Str) (d : D) (S : Sto) (Q : D → Sto → Prop) : Prop :=
  match d with | .exn _ ns ds => (match (ns.zip ds).lookup f with | some v => Q v S | none => False) | _ => False
def wFld (f : Str) (d : D) (S : Sto) (Q : D → Sto → Prop) : Prop :=
  match d with | .ref a => (match S a with | some (.ins _ fs) => (match fs.lookup f with | some v => Q v S | none => False) | _ => False) | _ => False
def putFD (f : Str) (v : D) : List (Str × D) → List (Str × D)
  | [] => [(f, v)]
  | (g, x) :: r => if g = f then (g, v) :: r else (g, x) :: putFD f v r
def wSetf (f : Str) (o v : D) (S : Sto) (Q : Sto → Prop) : Prop :=
  match o with | .ref a => (match S a with | some (.ins c fs) => fs.length < 100 ∧ Q (updS S a (.ins c (putFD f v fs))) | _ => False) | _ => False
def okSelf (c m : Str) (S : Sto) : D → Bool
  | .ref a => match S a with
    | some (.ins c' fs) => decide (c' = c) && (fs.lookup m).isNone
    | _ => false
  | _ => false
def isIns (c : Str) (S : Sto) : D → Bool
  | .ref a => match S a with
    | some (.ins c' _) => decide (c' = c)
    | _ => false
  | _ => false
def btOk (S : Sto) (d : D) : Bool := match tyD S d with
  | some t => btys.contains t
  | none => false
def wIsc (m : Str) (x : D) (S : Sto) (Q : Bool → Sto → Prop) : Prop := (isIns m S x = true ∧ Q true S) ∨ (btOk S x = true ∧ Q false S)
def padT (q : Str) (n : Nat) : List D := if q = "Bounds.__init__" ∧ n = 1 then [.tup []] else []
def kwL : List (Str × (Nat × List Str)) := [("met_by", (2, ["many"]))]
def kwT (f : Str) : Option (Nat × List Str) := kwL.lookup f
def mkL : List (Str × (Nat × List Str)) := [("Bounds.__init__", (1, ["rows"]))]
def mkT (f : Str) : Option (Nat × List Str) := mkL.lookup f
abbrev EX := Exc → StD → Sto → Prop
abbrev Cal := Str → List D → Sto → (D → Sto → Prop) → (Exc → Sto → Prop) → Prop
def inOL (cal : Cal) (q c : Str) (x : D) (l : Addr) (ys : List D) (Q : D → Sto → Prop) : List D → Sto → Prop
  | [], S => S l = some (.lst ys) ∧ isIns c S x = true ∧ Q (.bl false) S
  | y :: r, S => S l = some (.lst ys) ∧ isIns c S x = true ∧ ((y = x ∧ Q (.bl true) S) ∨ (y ≠ x ∧ isIns c S y = true ∧ cal q [y, x] S (fun d S' => ∃ k, d = .bl k ∧ if k = true then Q (.bl true) S' else inOL cal q c x l ys Q r S') fun _ _ => False) ∨
      ((∃ t, tyD S y = some t ∧ t ∈ ["NoneType", "int", "str", "tuple"]) ∧ cal q [x, y] S (fun d S' => ∃ k, d = .bl k ∧ if k = true then Q (.bl true) S' else inOL cal q c x l ys Q r S') fun _ _ => False))
def wOwn (cal : Cal) (q c : Str) (op : CmpOp) (x y : D) (S : Sto) (Q : D → Sto → Prop) : Prop :=
  match op with
  | .Eq => isIns c S x = true ∧ (isIns c S y = true ∨ btOk S y = true) ∧ cal q [x, y] S (fun d S' => ∃ k, d = .bl k ∧ Q (.bl k) S') fun _ _ => False
  | .NotEq => isIns c S x = true ∧ isIns c S y = true ∧ cal q [x, y] S (fun d S' => ∃ k, d = .bl k ∧ Q (.bl (!k)) S') fun _ _ => False
  | .In => (match y with
    | .ref l => (match S l with
      | some (.lst ys) => inOL cal q c x l ys Q ys S
      | _ => False)
    | _ => False)
  | _ => False
structure Cw where
  cal : Cal
  gl : Str → Option D
structure EndD where
  nx : StD → Sto → Prop
  rt : D → Sto → Prop
  bk : StD → Sto → Prop
  ct : StD → Sto → Prop
def lcL (turn : D → Sto → (Option D → Sto → Prop) → Prop) (G : Sto → Prop) (Q : D → Sto → Prop) : List D → List D → Sto → Prop
  | [], acc, S => G S ∧ ∀ p, S p = none → Q (.ref p) (updS S p (.lst acc))
  | d :: ds, acc, S => G S ∧ acc.length < sizeLine ∧ turn d S fun o S' => match o with
    | some v => lcL turn G Q ds (acc ++ [v]) S'
    | none => lcL turn G Q ds acc S'
def forL (turn : D → (StD → Sto → Prop) → StD → Sto → Prop) (G : Sto → Prop) (E : StD → Sto → Prop) : List D → StD → Sto → Prop
  | [], σ, S => G S ∧ E σ S
  | d :: ds, σ, S => G S ∧ turn d (forL turn G E ds) σ S
def pairD (x y : D) : D := .tup [x, y]
section
variable (C : Cw)
mutual
def wpE (ex : EX) : T → WE
  | .var i => fun σ S Q => match σ[i]? with | some (some d) => Q d S | _ => False
  | .int i => fun _ S Q => Q (.int i) S
  | .bl b => fun _ S Q => Q (.bl b) S
  | .non => fun _ S Q => Q .non S
  | .str x => fun _ S Q => Q (.str x) S
  | .bty x => fun _ S Q => Q (.ty x) S
  | .glob x => fun _ S Q => match C.gl x with | some d => Q d S | none => False
  | .bin op a b => fun σ S Q => wpE ex a σ S fun x S1 => wpE ex b σ S1 fun y S2 => wBin op x y S2 Q
  | .neg a => fun σ S Q => wpE ex a σ S fun x S1 => match x with | .int i => Q (.int (-i)) S1 | _ => False
  | .cmp op a b => fun σ S Q => wpE ex a σ S fun x S1 => wpE ex b σ S1 fun y S2 => wCmp op x y S2 Q
  | .chain op op2 a b c => fun σ S Q => wpE ex a σ S fun x S1 => wpE ex b σ S1 fun y S2 => wCmp op x y S2 fun z S3 => match z with
    | .bl k => if k = true then wpE ex c σ S3 fun u S4 => wCmp op2 y u S4 Q else Q (.bl false) S3
    | _ => False
  | .bop op ts => fun σ S Q => wpB ex op ts σ S Q
  | .nt a => fun σ S Q => wpE ex a σ S fun d S1 => match tru S1 d with | some k => Q (.bl (!k)) S1 | none => False
  | .ite c a b => fun σ S Q => wpT ex c σ S fun k S1 => if k = true then wpE ex a σ S1 Q else wpE ex b σ S1 Q
  | .tup ts => fun σ S Q => wpEs ex ts σ S fun ds S1 => ds.length ≤ 100 ∧ Q (.tup ds) S1
  | .lst ts => fun σ S Q => wpEs ex ts σ S fun ds S1 => ds.length ≤ 100 ∧ ∀ p, S1 p = none → Q (.ref p) (updS S1 p (.lst ds))
  | .sub a i => fun σ S Q => wpE ex a σ S fun x S1 => wpE ex i σ S1 fun y S2 => wSub x y S2 Q
  | .slice a lo hi => fun σ S Q => wpE ex a σ S fun x S1 => wpO ex lo σ S1 fun l S2 => wpO ex hi σ S2 fun h S3 => wSlice x l h S3 Q
  | .call f ts => fun σ S Q => wpEs ex ts σ S fun ds S1 => C.cal f ds S1 Q fun x S2 => ex x σ S2
  | .callK f ts ks us => fun σ S Q => wpEs ex ts σ S fun ds S1 => ds.length = ts.length ∧ wpEs ex us σ S1 fun es S2 => es.length = us.length ∧ C.cal f (ds ++ es) S2 Q fun x S3 => ex x σ S3
  | .blt f ts => fun σ S Q => wpEs ex ts σ S fun ds S1 => wBlt f ds S1 Q
  | .lrev a => fun σ S Q => wpE ex a σ S fun x S1 => wLrev x S1 Q
  | .lzip a b => fun σ S Q => wpE ex a σ S fun x S1 => wpE ex b σ S1 fun y S2 => wLzip x y S2 Q
  | .lset a => fun σ S Q => wpE ex a σ S fun x S1 => wLset x S1 Q
  | .lrng a => fun σ S Q => wpE ex a σ S fun x S1 => wLrng x S1 Q
  | .mth m a ts => fun σ S Q => wpE ex a σ S fun x S1 => okRecv m S1 x = true ∧ wpEs ex ts σ S1 fun ds S2 => wMth m x ds S2 Q
  | .lc g it ifs own e => fun σ S Q => wpI ex it σ S fun ds G S1 =>
      lcL (fun d S2 k => wpG g d (wipeD σ (own.map (·.2))) S2 fun σ2 => wpTs ifs σ2 S2 fun b S3 => if b = true then wpE (fun _ _ _ => False) e σ2 S3 fun v S4 => k (some v) S4 else k none S3) G Q ds [] S1
  | .dct ks vs => fun σ S Q => wpEs ex vs σ S fun ds S1 => ds.length = ks.length ∧ 
      ∀ p, S1 p = none → Q (.ref p) (updS S1 p (.dct ((ks.zip ds).foldl (fun acc kv => putD acc (.inr kv.1) kv.2) [])))
  | .isx a m => fun σ S Q => wpE ex a σ S fun x S1 => wIsx m x S1 Q
  | .atr a f => fun σ S Q => wpE ex a σ S fun x S1 => wAtr f x S1 Q
  | .back a => fun σ S Q => wpE ex a σ S fun x S1 => wBack x S1 Q
  | .new q c ts => fun σ S Q => wpEs ex ts σ S fun ds S1 => ∀ x, S1 x = none → C.cal q (.ref x :: (ds ++ padT q ts.length)) (updS S1 x (.ins c [])) (fun v S2 => v = .non ∧ Q (.ref x) S2) fun xx S2 => ex xx σ S2
  | .fld a f => fun σ S Q => wpE ex a σ S fun x S1 => wFld f x S1 Q
  | .meth q c m a ts => fun σ S Q => wpE ex a σ S fun x S1 => okSelf c m S1 x = true ∧ wpEs ex ts σ S1 fun ds S2 => C.cal q (x :: ds) S2 Q fun xx S3 => ex xx σ S3
  | .eqo q c a b => fun σ S Q => wpE ex a σ S fun x S1 => wpE ex b σ S1 fun y S2 => isIns c S2 x = true ∧ isIns c S2 y = true ∧ C.cal q [x, y] S2 (fun d S3 => ∃ k, d = .bl k ∧ Q (.bl k) S3) fun xx S3 => ex xx σ S3
  | .isc a m => fun σ S Q => wpE ex a σ S fun x S1 => wIsc m x S1 fun b S2 => Q (.bl b) S2
  | .cmpo op q c a b => fun σ S Q => wpE ex a σ S fun x S1 => wpE ex b σ S1 fun y S2 => wOwn C.cal q c op x y S2 Q
  | .lno q c a => fun σ S Q => wpE ex a σ S fun x S1 => isIns c S1 x = true ∧ C.cal q [x] S1 (fun d S2 => ∃ n : Nat, d = .int n ∧ n < 1000000 ∧ Q (.int n) S2) fun _ _ => False
  | .rpo q c a => fun σ S Q => wpE ex a σ S fun x S1 => isIns c S1 x = true ∧ C.cal q [x] S1 (fun d S2 => ∃ z, d = .str z ∧ Q (.str z) S2) fun _ _ => False
  | .fs2 x a y b z => fun σ S Q => wpE ex a σ S fun d S1 => okI d ∧ wpE ex b σ S1 fun e S2 => okI e ∧ Q (.str (fs2T x d y e z)) S2
  | .newK q c ts ks us => fun σ S Q => wpEs ex ts σ S fun ds S1 => ds.length = ts.length ∧ wpEs ex us σ S1 fun es S2 => es.length = us.length ∧ ∀ x, S2 x = none → C.cal q (.ref x :: (ds ++ es)) (updS S2 x (.ins c [])) (fun v S3 => v = .non ∧ Q (.ref x) S3) fun xx S3 => ex xx σ S3
def wpEs (ex : EX) : List T → WA
  | [] => fun _ S Q => Q [] S
  | t :: ts => fun σ S Q => wpE ex t σ S fun d S1 => wpEs ex ts σ S1 fun ds S2 => Q (d :: ds) S2
def wpO (ex : EX) : Option T → StD → Sto → (Option Int → Sto → Prop) → Prop
  | none => fun _ S Q => Q none S
  | some t => fun σ S Q => wpE ex t σ S fun d S1 => match d with | .int i => Q (some i) S1 | _ => False
def wpB (ex : EX) (op : BoolOp) : List T → WE
  | [] => fun _ _ _ => False
  | [t] => fun σ S Q => wpE ex t σ S Q
  | t :: ts => fun σ S Q => wpE ex t σ S fun d S1 => match tru S1 d with
    | some k => (match op with
      | .And => if k = true then wpB ex op ts σ S1 Q else Q d S1
      | .Or => if k = true then Q d S1 else wpB ex op ts σ S1 Q)
    | none => False
def wpT (ex : EX) : T → WT
  | .bop op ts => fun σ S Q => wpTB ex op ts σ S Q
  | .nt a => fun σ S Q => wpT ex a σ S fun k S1 => Q (!k) S1
  | .var i => fun σ S Q => match σ[i]? with
    | some (some d) => (match tru S d with | some k => Q k S | none => False)
    | _ => False
  | .cmp op a b => fun σ S Q => wpE ex a σ S fun x S1 => wpE ex b σ S1 fun y S2 => wCmp op x y S2 fun z S3 => match z with
    | .bl k => Q k S3
    | _ => False
  | .chain op op2 a b c => fun σ S Q => wpE ex a σ S fun x S1 => wpE ex b σ S1 fun y S2 => wCmp op x y S2 fun z S3 => match z with
    | .bl k => if k = true then wpE ex c σ S3 fun u S4 => wCmp op2 y u S4 fun z S5 => (match z with | .bl k => Q k S5 | _ => False) else Q false S3
    | _ => False
  | .call f ts => fun σ S Q => wpEs ex ts σ S fun ds S1 => C.cal f ds S1 (fun d S2 => match tru S2 d with | some k => Q k S2 | none => False) fun x S2 => ex x σ S2
  | .meth q c m a ts => fun σ S Q => wpE ex a σ S fun x S1 => okSelf c m S1 x = true ∧ wpEs ex ts σ S1 fun ds S2 => C.cal q (x :: ds) S2 (fun d S3 => match tru S3 d with | some k => Q k S3 | none => False) fun xx S3 => ex xx σ S3
  | .isc a m => fun σ S Q => wpE ex a σ S fun x S1 => wIsc m x S1 Q
  | .cmpo op q c a b => fun σ S Q => wpE ex a σ S fun x S1 => wpE ex b σ S1 fun y S2 => wOwn C.cal q c op x y S2 fun z S3 => match z with
    | .bl k => Q k S3
    | _ => False
  | .sub a i => fun σ S Q => wpE ex a σ S fun x S1 => wpE ex i σ S1 fun y S2 => wSub x y S2 fun d S3 => match tru S3 d with | some k => Q k S3 | none => False
  | .blt f ts => fun σ S Q => wpEs ex ts σ S fun ds S1 => wBlt f ds S1 fun d S2 => match tru S2 d with | some k => Q k S2 | none => False
  | _ => fun _ _ _ => False
def wpTB (ex : EX) (op : BoolOp) : List T → WT
  | [] => fun _ _ _ => False
  | [t] => fun σ S Q => wpT ex t σ S Q
  | t :: ts => fun σ S Q => wpT ex t σ S fun k S1 => match op with
    | .And => if k = true then wpTB ex op ts σ S1 Q else Q false S1
    | .Or => if k = true then Q true S1 else wpTB ex op ts σ S1 Q
def wpTs : List T → WT
  | [] => fun _ S Q => Q true S
  | [t] => fun σ S Q => wpT (fun _ _ _ => False) t σ S Q
  | _ => fun _ _ _ => False
def wpI (ex : EX) : Ti → StD → Sto → (List D → (Sto → Prop) → Sto → Prop) → Prop
  | .seq e => fun σ S Q => wpE ex e σ S fun d S1 => match d with
    | .tup ds => Q ds (fun _ => True) S1
    | .kl ds => Q ds (fun _ => True) S1
    | .ref a => (match S1 a with
      | some (.lst ds) => Q ds (fun S => S a = some (.lst ds)) S1
      | _ => False)
    | _ => False
  | .rng1 a => fun σ S Q => wpE ex a σ S fun d S1 => match d with
    | .int n => -(2 ^ 62) ≤ n ∧ n < 2 ^ 62 ∧ Q ((List.range n.toNat).map fun i => .int (i : Nat)) (fun _ => True) S1
    | _ => False
  | .rng2 a b => fun σ S Q => wpE ex a σ S fun x S1 => wpE ex b σ S1 fun y S2 => match x, y with
    | .int i, .int j => (-(2 ^ 62) ≤ i ∧ i < 2 ^ 62 ∧ -(2 ^ 62) ≤ j ∧ j < 2 ^ 62) ∧ Q ((List.range (j - i).toNat).map fun k => .int (i + (k : Nat))) (fun _ => True) S2
    | _, _ => False
  | .enm e => fun σ S Q => wpE ex e σ S fun d S1 => match d with
    | .ref a => (match S1 a with
      | some (.lst ds) => Q ((List.range ds.length).zipWith (fun i d => pairD (.int (i : Nat)) d) ds) (fun S => S a = some (.lst ds)) S1
      | _ => False)
    | .tup ds => Q ((List.range ds.length).zipWith (fun i d => pairD (.int (i : Nat)) d) ds) (fun _ => True) S1
    | _ => False
  | .zip a b => fun σ S Q => wpE ex a σ S fun x S1 => wpE ex b σ S1 fun y S2 => match x, y with
    | .tup xs, .tup ys => Q ((xs.zip ys).map fun z => pairD z.1 z.2) (fun _ => True) S2
    | .ref a, .ref b => (match S2 a, S2 b with
      | some (.lst xs), some (.lst ys) => Q ((xs.zip ys).map fun z => pairD z.1 z.2) (fun S => S a = some (.lst xs) ∧ S b = some (.lst ys)) S2
      | _, _ => False)
    | _, _ => False
  | .rev e => fun σ S Q => wpE ex e σ S fun d S1 => match d with
    | .tup ds => Q ds.reverse (fun _ => True) S1
    | .ref a => (match S1 a with
      | some (.lst ds) => Q ds.reverse (fun S => S a = some (.lst ds)) S1
      | _ => False)
    | _ => False
end
mutual
def wpS (ex : EX) : TS → EndD → StD → Sto → Prop
  | .ex e => fun D σ S => wpE C ex e σ S fun _ S1 => D.nx σ S1
  | .asg g e => fun D σ S => wpE C ex e σ S fun d S1 => wpG g d σ S1 fun σ' => D.nx σ' S1
  | .par i j a b => fun D σ S => wpE C ex a σ S fun x S1 => wpE C ex b σ S1 fun y S2 => D.nx ((σ.set i (some x)).set j (some y)) S2
  | .par3 i j l a b c => fun D σ S => wpE C ex a σ S fun x S1 => wpE C ex b σ S1 fun y S2 => wpE C ex c σ S2 fun z S3 => D.nx (((σ.set i (some x)).set j (some y)).set l (some z)) S3
  | .star is i js e => fun D σ S => wpE C ex e σ S fun d S1 => match itemsD S1 d with
    | some ds => is.length + js.length ≤ ds.length ∧ ds.length ≤ 16384 ∧ ∀ p, S1 p = none → wpGs ((is ++ [i] ++ js).map Tg.nm) (ds.take is.length ++ [.ref p] ++ ds.drop (ds.length - js.length)) σ
        (updS S1 p (.lst ((ds.drop is.length).take (ds.length - is.length - js.length)))) fun σ' => D.nx σ' (updS S1 p (.lst ((ds.drop is.length).take (ds.length - is.length - js.length))))
    | none => False
  | .set a i e => fun D σ S => wpE C ex e σ S fun v S1 => wpE C ex a σ S1 fun o S2 => wpE C ex i σ S2 fun k S3 => wSet o k v S3 fun S4 => D.nx σ S4
  | .setf a f e => fun D σ S => wpE C ex e σ S fun v S1 => wpE C ex a σ S1 fun o S2 => wSetf f o v S2 fun S3 => D.nx σ S3
  | .aug op i e => fun D σ S => match σ[i]? with
    | some (some (.int x)) => wpE C ex e σ S fun d S1 => (match op, d with
      | .Add, .int y => D.nx (σ.set i (some (.int (x + y)))) S1
      | .Sub, .int y => D.nx (σ.set i (some (.int (x - y)))) S1
      | _, _ => False)
    | _ => False
  | .ife c a b => fun D σ S => wpT C ex c σ S fun k S1 => if k = true then wpSs ex a D σ S1 else wpSs ex b D σ S1
  | .whil c b => fun D σ S => ∃ W : Nat → StD → Sto → Prop, (∃ m, W m σ S) ∧ ∀ m σ S, W m σ S → wpT C ex c σ S fun k S1 =>
      if k = true then wpSs ex b { D with nx := fun σ' S' => ∃ m', m' < m ∧ W m' σ' S', ct := fun σ' S' => ∃ m', m' < m ∧ W m' σ' S', bk := D.nx } σ S1 else D.nx σ S1
  | .fr g it b => fun D σ S => wpI C ex it σ S fun ds G S1 => forL (fun d N σ S => wpG g d σ S fun σ' => wpSs ex b { D with nx := N, ct := N, bk := D.nx } σ' S) G D.nx ds σ S1
  | .ret e => fun D σ S => wpE C ex e σ S D.rt
  | .retN => fun D _ S => D.rt .non S
  | .pass => fun D σ S => D.nx σ S
  | .brk => fun D σ S => D.bk σ S
  | .cont => fun D σ S => D.ct σ S
  | .never => fun _ _ _ => False
  | .rais n ts => fun _ σ S => wpEs C ex ts σ S fun ds S1 => match xcl n with
    | some ns => ds.length = ns.length ∧ ex ⟨n, ns.reverse, ds.reverse⟩ σ S1
    | none => False
  | .tryx b m i h => fun D σ S => wpSs (fun x σ' S' => if x.cls = m then
      wpSs (fun _ _ _ => False) h ⟨fun σ2 S2 => D.nx (σ2.set i none) S2, D.rt, fun σ2 S2 => D.bk (σ2.set i none) S2, fun σ2 S2 => D.ct (σ2.set i none) S2⟩ (σ'.set i (some (.exn x.cls x.ns x.ds))) S'
      else ex x σ' S') b D σ S
def wpSs (ex : EX) : List TS → EndD → StD → Sto → Prop
  | [] => fun D σ S => D.nx σ S
  | s :: ss => fun D σ S => wpS ex s { D with nx := wpSs ex ss D } σ S
end
end
structure DefT where
  np : Nat
  ns : Nat
  body : List TS
def startD (ns : Nat) (ds : List D) : StD := ds.map some ++ List.replicate (ns - ds.length) none
def sem (defs : Str → Option DefT) (gl : Str → Option D) : Nat → Cal
  | 0 => fun _ _ _ _ _ => False
  | k + 1 => fun f ds S Q E => match defs f with
    | some d => ds.length = d.np ∧ wpSs ⟨sem defs gl k, gl⟩ (fun x _ S' => E x S') d.body ⟨fun _ S' => Q .non S', Q, fun _ _ => False, fun _ _ => False⟩ (startD d.ns ds) S
    | none => False
end Z

set_option Elab.async false
set_option linter.all false
set_option maxRecDepth 100000
set_option maxHeartbeats 4000000
namespace Z
open PySem PySem.Spec PyProof.Rows L2
section
variable {K : PySem.W.Frag} {w : World} {H H' : Hp} {S S' : Sto} {R : D → Sto → Prop} {Q : VK} {X : Cx}

theorem relds_nil : RelDs K w H [] [] := by simp only [RelDs]
theorem relds_cons {d : D} {ds : List D} {v : V} {vs : List V} (a : RelD K w H d v) (b : RelDs K w H ds vs) : RelDs K w H (d :: ds) (v :: vs) := by
  simp only [RelDs]; exact ⟨v, vs, rfl, a, b⟩
theorem relds_one {d : D} {vs : List V} (h : RelDs K w H [d] vs) : ∃ v, vs = [v] ∧ RelD K w H d v := by
  simp only [RelDs] at h
  obtain ⟨v, r, rfl, h1, rfl⟩ := h
  exact ⟨v, rfl, h1⟩
theorem relds_two {d e : D} {vs : List V} (h : RelDs K w H [d, e] vs) : ∃ v u, vs = [v, u] ∧ RelD K w H d v ∧ RelD K w H e u := by
  simp only [RelDs] at h
  obtain ⟨v, r, rfl, h1, u, r', rfl, h2, rfl⟩ := h
  exact ⟨v, u, rfl, h1, h2⟩
theorem HR.lst (h : HR K w H S) {a : Addr} {ds : List D} (e : S a = some (.lst ds)) : ∃ vs, H a = some (.lst vs) ∧ RelDs K w H ds vs := h a _ e
theorem HR.sql (h : HR K w H S) {a : Addr} {ds : List D} (e : S a = some (.lst ds)) : ∃ vs, SqL K H a vs ∧ RelDs K w H ds vs := by
  obtain ⟨vs, h1, h2⟩ := h a _ e
  exact ⟨vs, SqL.of h1, h2⟩
theorem items_of (h : HR K w H S) {d : D} {v : V} {ds : List D} (e : itemsD S d = some ds) (r : RelD K w H d v) : ∃ a vs, v = .ref a ∧ RelDs K w H ds vs ∧ (SqL K H a vs ∨ SqT K H a vs) ∧ (d = .tup ds → SqT K H a vs) := by
  unfold itemsD at e
  split at e
  · cases e
    simp only [RelD] at r
    obtain ⟨a, vs, r1, r2, r3⟩ := r
    exact ⟨a, vs, r1, r3, .inr r2, fun _ => r2⟩
  · cases e
    simp only [RelD] at r
    obtain ⟨a, vs, r1, r2, r3⟩ := r
    exact ⟨a, vs, r1, r3, .inl r2.sq, fun z => nomatch z⟩
  · rename_i a
    simp only [RelD] at r
    subst r
    split at e
    · cases e
      rename_i q
      obtain ⟨vs, h1, h2⟩ := h.sql q
      exact ⟨a, vs, rfl, h2, .inl h1, fun z => nomatch z⟩
    · cases e
  · cases e

theorem tup_once (l : Addr) (items : Array Value) (n : Nat) (dd : Option Addr) (sl : Array (Option Value)) (u : Tok) :
    Meets (Builtin.«tuple.__mul__» ⟨[.ref l, .int 1 u], []⟩) (fun _ R s => s.heap.get? l = some { cls := .type "tuple", dict := dd, data := .seq items n, slots := sl } ∧ R (.ok (.ret (Value.ref l))) s) :=
  .of_wp fun prog w A R s h => by
    obtain ⟨hp, g, d, tk, os⟩ := s
    obtain ⟨hl, h⟩ := h
    have f1 := AutoSeq1.idx_int
    wp_walk using wpAny_loadPart' hl
    repeat (first
      | (refine wpAny_ite_false (decide_eq_false (by decide)) ?_; wp_walk using wpAny_loadPart' hl)
      | (refine wpAny_ite_true (decide_eq_true (by simp)) ?_; wp_walk using wpAny_loadPart' hl))
    exact ⟨_, rfl, h⟩
def rOnce (K : PySem.W.Frag) : R2 := fun x y H Q => ∃ l xs, x = .ref l ∧ y = .int 1 ∧ SqT K H l xs ∧ Q (.ref l) H
theorem op_once : OpR X (binaryOp .Mult) (rOnce X.K) := by
  intro pins s σ H x y v u Q I rx ry h
  obtain ⟨l, xs, rfl, rfl, hT, q⟩ := h
  cases rx
  obtain ⟨t, rfl⟩ := ry
  obtain ⟨its, r, ⟨⟨cls, dd, data, sl⟩, ho, hc, n, hd⟩, hs⟩ := I.tuple hT
  simp only at hc hd
  subst hc hd
  refine wpAny_binaryOp_repeat_ref (T := "tuple") (U := "int") (by decide) ⟨_, ho, rfl⟩ (fun s' => typeIs_int s' 1 t) noFill_tuple_mul F.fills_int_mul F.slot_int_rmul repeat_tuple F.slot_int_index.lookup
    (call_meets F.slot_int_rmul (typeIs_int s 1 t) F.entry_int_rmul (F.args_int_rmul_2 _ _) (int_rmul_tuple 1 t l its.toArray n dd sl)
      ⟨ho, rfl, ⟨_, ho, rfl⟩, call_meets F.slot_tuple_mul ⟨_, ho, rfl⟩ F.entry_tuple_mul (F.args_tuple_mul_2 _ _) (tup_once l its.toArray n dd sl t) ⟨ho, ?_⟩⟩)
  exact ⟨.ref l, H, I, rfl, q⟩
theorem RelDs.rep {ds : List D} {vs : List V} (h : RelDs K w H ds vs) : ∀ n : Nat, RelDs K w H (List.replicate n ds).flatten (List.replicate n vs).flatten
  | 0 => by simp only [List.replicate_zero, List.flatten_nil, RelDs]
  | n + 1 => by
    simp only [List.replicate_succ, List.flatten_cons]
    exact RelDs.append h (RelDs.rep h n)
theorem bin_ok (op : Operator) : OpR X (binaryOp op) (rD2 X.K X.w (wBin op)) := by
  intro pins s σ H x y v u Q I rx ry hh
  obtain ⟨dx, dy, S, R, r1, r2, h, f, k⟩ := hh
  unfold wBin at f
  split at f
  · simp only [RelD] at r1 r2
    exact op_add pins s σ H x y v u Q I rx ry ⟨_, _, r1, r2, k.same f (by simp only [RelD]) h⟩
  · rename_i a b
    simp only [RelD] at r1 r2
    obtain ⟨p, vs, rfl, t1, q1⟩ := r1
    obtain ⟨p', vs', rfl, t2, q2⟩ := r2
    obtain ⟨f0, f⟩ := f
    refine op_catA pins s σ H _ _ v u Q I rx ry ⟨p, p', vs, vs', rfl, rfl, t1, t2, by rw [← q1.length, ← q2.length]; exact f0, fun e => ?_, fun e1 e2 => ?_, fun e1 e2 q nq => ?_⟩
    · subst e
      have e0 : a = [] := List.eq_nil_of_length_eq_zero (by rw [q1.length]; rfl)
      subst e0
      exact k.same f (by simp only [RelD, List.nil_append]; exact ⟨_, _, rfl, t2, q2⟩) h
    · subst e2
      have e0 : b = [] := List.eq_nil_of_length_eq_zero (by rw [q2.length]; rfl)
      subst e0
      exact k.same f (by simp only [RelD, List.append_nil]; exact ⟨_, _, rfl, t1, q1⟩) h
    · exact k.tup f h (RelDs.append q1 q2) nq
  · simp only [RelD] at r1 r2
    obtain ⟨f0, f⟩ := f
    exact op_add_str pins s σ H x y v u Q I rx ry ⟨_, _, r1, r2, f0, k.same f (by simp only [RelD]) h⟩
  · simp only [RelD] at r1 r2
    split at f
    · rename_i e1 e2
      obtain ⟨f0, f⟩ := f
      obtain ⟨vs, h1, q1⟩ := h.lst e1
      obtain ⟨vs', h2, q2⟩ := h.lst e2
      exact op_cat pins s σ H x y v u Q I rx ry ⟨_, _, _, _, r1, r2, h1, h2, by rw [← q1.length, ← q2.length]; exact f0, fun p np => k.lst (f p (h.fresh np)) h (RelDs.append q1 q2) np⟩
    · exact f.elim
  · simp only [RelD] at r1 r2
    exact op_sub pins s σ H x y v u Q I rx ry ⟨_, _, r1, r2, k.same f (by simp only [RelD]) h⟩
  · simp only [RelD] at r1 r2
    exact op_mul pins s σ H x y v u Q I rx ry ⟨_, _, r1, r2, f.1, k.same f.2 (by simp only [RelD]) h⟩
  · simp only [RelD] at r1 r2
    obtain ⟨a, vs, e1, e2, e3⟩ := r1
    obtain ⟨f1, f2, f3, f4, f⟩ := f
    rename_i xs n
    by_cases h1 : n = 1
    · subst h1
      refine op_once pins s σ H x y v u Q I rx ry ⟨a, vs, e1, r2, e2, k.same f ?_ h⟩
      simp only [RelD]
      exact ⟨a, vs, e1 ▸ rfl, e2, by simpa using e3⟩
    · refine op_repT pins s σ H x y v u Q I rx ry ⟨a, n, vs, e1, r2, e2, fun z => f1 ?_, by omega, f4, by rw [← e3.length]; exact f2, fun p np => k.tup f h (e3.rep _) np⟩
      subst z
      exact List.eq_nil_of_length_eq_zero (by rw [e3.length]; rfl)
  · simp only [RelD] at r1 r2
    split at f
    · rename_i n _ xs e1
      obtain ⟨f1, f2, f3, f⟩ := f
      obtain ⟨vs, h1, q1⟩ := h.lst e1
      refine op_rep pins s σ H x y v u Q I rx ry ⟨_, _, vs, r1, r2, h1, by omega, by omega, ?_, fun p np => k.lst (f p (h.fresh np)) h (q1.rep _) np⟩
      have hl := q1.length
      rw [sizeLine_eq, ← hl]
      have : ∀ a b : Nat, a ≤ 1000 → b ≤ 1000 → a * b ≤ 1000 * 1000 := fun a b => Nat.mul_le_mul
      have := this _ _ f3 (by omega : n.toNat ≤ 1000)
      omega
    · exact f.elim
  · simp only [RelD] at r1 r2
    exact op_fdiv pins s σ H x y v u Q I rx ry ⟨_, _, r1, r2, f.1, k.same f.2 (by simp only [RelD]) h⟩
  · simp only [RelD] at r1 r2
    exact op_mod pins s σ H x y v u Q I rx ry ⟨_, _, r1, r2, f.1, k.same f.2 (by simp only [RelD]) h⟩
  · simp only [RelD] at r1 r2
    exact op_pow pins s σ H x y v u Q I rx ry ⟨_, _, r1, r2, f.1, k.same f.2 (by simp only [RelD]) h⟩
  · exact f.elim

mutual
theorem dp_of : ∀ (d : D) (v : V) (p : PyData), RelD K w H d v → toP d = some p → Dp K H v p
  | .non, v, p, r, e => by simp only [RelD] at r; subst r; simp only [toP] at e; cases e; exact .non
  | .bl b, v, p, r, e => by simp only [RelD] at r; subst r; simp only [toP] at e; cases e; exact .bl b
  | .int b, v, p, r, e => by simp only [RelD] at r; subst r; simp only [toP] at e; cases e; exact .int b
  | .str b, v, p, r, e => by simp only [RelD] at r; subst r; simp only [toP] at e; cases e; exact .str b
  | .tup ds, v, p, r, e => by
    simp only [RelD] at r
    obtain ⟨a, vs, rfl, t, q⟩ := r
    simp only [toP] at e
    cases e2 : toPs ds with
    | none => rw [e2] at e; cases e
    | some ps =>
      rw [e2] at e
      cases e
      exact .tup t (dps_of ds vs ps q e2)
  | .ref _, v, p, r, e => by simp only [toP] at e; cases e
  | .ty _, v, p, r, e => by simp only [toP] at e; cases e
  | .cd _, v, p, r, e => by simp only [toP] at e; cases e
  | .kl _, v, p, r, e => by simp only [toP] at e; cases e
  | .exn _ _ _, v, p, r, e => by simp only [toP] at e; cases e
theorem dps_of : ∀ (ds : List D) (vs : List V) (ps : List PyData), RelDs K w H ds vs → toPs ds = some ps → DpAll K H vs ps
  | [], vs, ps, r, e => by simp only [RelDs] at r; subst r; simp only [toPs] at e; cases e; exact .nil
  | d :: ds, vs, ps, r, e => by
    simp only [RelDs] at r
    obtain ⟨v, t, rfl, r1, r2⟩ := r
    simp only [toPs] at e
    split at e
    · rename_i e1 e2
      cases e
      exact .cons (dp_of d v _ r1 e1) (dps_of ds t _ r2 e2)
    · cases e
end
theorem dp1_of (h : HR K w H S) {d : D} {v : V} {p : PyData} (r : RelD K w H d v) (e : toP1 S d = some p) : Dp K H v p := by
  unfold toP1 at e
  split at e
  · rename_i a
    simp only [RelD] at r
    subst r
    split at e
    · rename_i q
      obtain ⟨vs, h1, h2⟩ := h.sql q
      cases e2 : toPs _ with
      | none => rw [e2] at e; cases e
      | some ps => rw [e2] at e; cases e; exact .lst h1 (dps_of _ _ _ h2 e2)
    · cases e
  · exact dp_of _ _ _ r e
theorem dp1s_of (h : HR K w H S) : ∀ (ds : List D) (vs : List V) (ps : List PyData), RelDs K w H ds vs → toP1s S ds = some ps → DpAll K H vs ps
  | [], vs, ps, r, e => by simp only [RelDs] at r; subst r; simp only [toP1s] at e; cases e; exact .nil
  | d :: ds, vs, ps, r, e => by
    simp only [RelDs] at r
    obtain ⟨v, t, rfl, r1, r2⟩ := r
    simp only [toP1s] at e
    split at e
    · rename_i e1 e2
      cases e
      exact .cons (dp1_of h r1 e1) (dp1s_of h ds t _ r2 e2)
    · cases e
theorem dpS_of (h : HR K w H S) {d : D} {v : V} {p : PyData} (r : RelD K w H d v) (e : toPS S d = some p) : Dp K H v p := by
  unfold toPS at e
  split at e
  · rename_i a
    simp only [RelD] at r
    subst r
    split at e
    · rename_i q
      obtain ⟨vs, h1, h2⟩ := h.sql q
      split at e
      · rename_i e2
        cases e
        exact .lst h1 (dps_of _ _ _ h2 e2)
      · cases e2 : toP1s S _ with
        | none => rw [e2] at e; cases e
        | some ps => rw [e2] at e; cases e; exact .lst h1 (dp1s_of h _ _ _ h2 e2)
    · cases e
  · exact dp_of _ _ _ r e
theorem flat_of {d : D} {v : V} (r : RelD K w H d v) (f : flatD d = true) : flatV v = true := by
  cases d <;> simp only [RelD, flatD] at r f <;> first | (subst r; rfl) | cases f
theorem flats_of : ∀ {ds : List D} {vs : List V}, RelDs K w H ds vs → ds.all flatD = true → vs.all flatV = true
  | [], vs, r, f => by simp only [RelDs] at r; subst r; rfl
  | d :: ds, vs, r, f => by
    simp only [RelDs] at r
    obtain ⟨v, t, rfl, r1, r2⟩ := r
    rw [List.all_cons, Bool.and_eq_true] at f ⊢
    exact ⟨flat_of r1 f.1, flats_of r2 f.2⟩
theorem eqF_of {d e : D} {v u : V} (r1 : RelD K w H d v) (r2 : RelD K w H e u) (f1 : flatD d = true) (f2 : flatD e = true) : eqV v u = eqF d e := by
  cases d <;> first | exact absurd (show false = true from f1) Bool.false_ne_true | (simp only [RelD] at r1; subst r1; cases e <;> first | exact absurd (show false = true from f2) Bool.false_ne_true | (simp only [RelD] at r2; subst r2; rfl))
theorem inF_of {x : D} {v : V} (r1 : RelD K w H x v) (f1 : flatD x = true) : ∀ {ds : List D} {vs : List V}, RelDs K w H ds vs → ds.all flatD = true → inV v vs = inF x ds
  | [], vs, r, f => by simp only [RelDs] at r; subst r; rfl
  | d :: ds, vs, r, f => by
    simp only [RelDs] at r
    obtain ⟨u, t, rfl, q1, q2⟩ := r
    rw [List.all_cons, Bool.and_eq_true] at f
    have ih := inF_of r1 f1 q2 f.2
    unfold inV inF at ih ⊢
    rw [List.any_cons, List.any_cons, ih, eqF_of q1 r1 f.1 f1]
theorem readsAll_at {h : Heap} : ∀ {vs : List Value} {ps : List PyData} {as : List Addr}, ReadsAll h vs ps as → ∀ y ∈ vs, ∃ p bs, p ∈ ps ∧ Reads h y p bs
  | _, _, _, .nil, y, hy => nomatch hy
  | _, _, _, .cons r rs, y, hy => by
    rcases List.mem_cons.mp hy with rfl | hy
    · exact ⟨_, _, List.mem_cons_self, r⟩
    · obtain ⟨p, bs, hp, q⟩ := readsAll_at rs y hy
      exact ⟨p, bs, List.mem_cons_of_mem _ hp, q⟩
theorem canLay_mem : ∀ {ps : List PyData}, PyData.canLayAll0 ps = true → ∀ p ∈ ps, p.canLay0 = true
  | [], _, p, hp => nomatch hp
  | q :: ps, h, p, hp => by
    have h' : q.canLay0 = true ∧ PyData.canLayAll0 ps = true := by simpa [PyData.canLayAll0] using h
    rcases List.mem_cons.mp hp with rfl | hp
    · exact h'.1
    · exact canLay_mem h'.2 p hp
noncomputable def eqBy (h : Heap) (q : PyData) (y : Value) : Bool := by
  classical exact if z : ∃ p as, Reads h y p as ∧ p.canLay0 = true then PyData.eqv z.choose q else false
theorem eqBy_of {h : Heap} {q p : PyData} {y : Value} {as : List Addr} (r : Reads h y p as) (hp : p.canLay0 = true) : eqBy h q y = PyData.eqv p q := by
  classical
  have z : ∃ p as, Reads h y p as ∧ p.canLay0 = true := ⟨p, as, r, hp⟩
  unfold eqBy
  rw [dif_pos z]
  obtain ⟨bs, r2, hc⟩ := z.choose_spec
  rw [PySem.SeqAt.Reads.unique _ _ _ _ _ hc r2 r]
theorem any_eqBy {h : Heap} {q : PyData} : ∀ {vs : List Value} {ps : List PyData} {as : List Addr}, ReadsAll h vs ps as → PyData.canLayAll0 ps = true → vs.any (eqBy h q) = ps.any fun p => PyData.eqv p q
  | _, _, _, .nil, _ => rfl
  | _, _, _, .cons (d := p) (ds := ps) r rs, hc => by
    have h' : p.canLay0 = true ∧ PyData.canLayAll0 ps = true := by simpa [PyData.canLayAll0] using hc
    rw [List.any_cons, List.any_cons, eqBy_of r h'.1, any_eqBy rs h'.2]
def rInD (K : PySem.W.Frag) (neg : Bool) : R2 := fun x y H Q => ∃ a xs q ps, y = .ref a ∧ (SqL K H a xs ∨ SqT K H a xs) ∧ Dp K H x q ∧ DpAll K H xs ps ∧ q.canLay0 = true ∧ q.depth ≤ 60 ∧ PyData.canLayAll0 ps = true ∧ Q (.bl (if neg then !(ps.any fun p => PyData.eqv p q) else ps.any fun p => PyData.eqv p q)) H
theorem op_inD (hu : X.A.units + 64 < cLine) (neg : Bool) : OpR X (compareOp (if neg then .NotIn else .In)) (rInD X.K neg) := by
  intro pins s σ H x y v u Q I rx ry h
  obtain ⟨a, xs, q, ps, rfl, hq, hx, hp, c1, c2, c3, qq⟩ := h
  cases ry
  obtain ⟨as, r1⟩ := Dp.reads I q x v hx rx
  rcases hq with hq | hq
  · obtain ⟨its, r, pl, hz⟩ := I.list hq
    obtain ⟨bs, r2⟩ := Dp.readsAll I ps _ its hp r
    have he : ∀ y, y ∈ its.toArray → SeqAt.EqAt X.A.in1 s y v (eqBy s.heap q y) := fun y hy => by
      obtain ⟨p, cs, h1, h2⟩ := readsAll_at r2 y (by simpa using hy)
      rw [eqBy_of h2 (canLay_mem c3 p h1)]
      exact SeqAt.eqAt_reads p q X.A.in1 s y v cs as h2 r1 (canLay_mem c3 p h1) c1 (by have : min p.depth q.depth ≤ q.depth := Nat.min_le_right _ _; show X.A.units + 1 + _ < cLine; omega)
    have ea : its.toArray.any (eqBy s.heap q) = ps.any fun p => PyData.eqv p q := by rw [show its.toArray.any (eqBy s.heap q) = its.any (eqBy s.heap q) by simp, any_eqBy r2 c3]
    cases neg
    · exact SeqAt.in_listAt (eqBy s.heap q) pl.isList he ⟨.bl _, H, I, rfl, by rw [ea]; exact qq⟩
    · exact SeqAt.notIn_listAt (eqBy s.heap q) pl.isList he ⟨.bl _, H, I, rfl, by rw [ea]; exact qq⟩
  · obtain ⟨its, r, pl, hz⟩ := I.tuple hq
    obtain ⟨bs, r2⟩ := Dp.readsAll I ps _ its hp r
    have he : ∀ y, y ∈ its.toArray → SeqAt.EqAt X.A.in1 s y v (eqBy s.heap q y) := fun y hy => by
      obtain ⟨p, cs, h1, h2⟩ := readsAll_at r2 y (by simpa using hy)
      rw [eqBy_of h2 (canLay_mem c3 p h1)]
      exact SeqAt.eqAt_reads p q X.A.in1 s y v cs as h2 r1 (canLay_mem c3 p h1) c1 (by have : min p.depth q.depth ≤ q.depth := Nat.min_le_right _ _; show X.A.units + 1 + _ < cLine; omega)
    have ea : its.toArray.any (eqBy s.heap q) = ps.any fun p => PyData.eqv p q := by rw [show its.toArray.any (eqBy s.heap q) = its.any (eqBy s.heap q) by simp, any_eqBy r2 c3]
    cases neg
    · exact SeqAt.in_tupleAt (eqBy s.heap q) pl he ⟨.bl _, H, I, rfl, by rw [ea]; exact qq⟩
    · exact SeqAt.notIn_tupleAt (eqBy s.heap q) pl he ⟨.bl _, H, I, rfl, by rw [ea]; exact qq⟩
theorem rInD_of {K : PySem.W.Frag} {w : World} {H : Hp} {S : Sto} {neg : Bool} {dx : D} {ys : List D} {x : V} {a : Addr} {vs : List V} {R : D → Sto → Prop} {Q : VK} (h : HR K w H S) (r1 : RelD K w H dx x) (q1 : RelDs K w H ys vs) (q2 : SqL K H a vs ∨ SqT K H a vs) (f : wInP neg dx ys S R) (k : Kont K w H S R Q) : rInD K neg x (.ref a) H Q := by
  unfold wInP at f
  split at f
  · rename_i q ps e1 e2
    exact ⟨a, vs, q, ps, rfl, q2, dp_of _ _ _ r1 e1, dps_of _ _ _ q1 e2, f.1, f.2.1, f.2.2.1, k.same f.2.2.2 (by simp only [RelD]) h⟩
  · exact f.elim
theorem cmp_ok (hu : X.A.units + 64 < cLine) (op : CmpOp) : OpR X (compareOp op) (rD2 X.K X.w (wCmp op)) := by
  intro pins s σ H x y v u Q I rx ry hh
  obtain ⟨dx, dy, S, R, r1, r2, h, f, k⟩ := hh
  have eqs : ∀ neg, wEq neg dx dy S R → ∃ d e, Dp X.K H x d ∧ Dp X.K H y e ∧ SeqAt.shaped d = true ∧ SeqAt.shaped e = true ∧ Q (.bl (if neg then !PyData.eqv d e else PyData.eqv d e)) H := fun neg f => by
    unfold wEq at f
    split at f
    · rename_i e1 e2
      exact ⟨_, _, dpS_of h r1 e1, dpS_of h r2 e2, f.1, f.2.1, k.same f.2.2 (by simp only [RelD]) h⟩
    · exact f.elim
  cases op with
  | Eq => exact op_eqD hu pins s σ H x y v u Q I rx ry (eqs false f)
  | NotEq => exact op_neD hu pins s σ H x y v u Q I rx ry (eqs true f)
  | Lt =>
    simp only [wCmp] at f
    split at f
    · simp only [RelD] at r1 r2
      exact op_lt pins s σ H x y v u Q I rx ry ⟨_, _, r1, r2, k.same f (by simp only [RelD]) h⟩
    · exact f.elim
  | LtE =>
    simp only [wCmp] at f
    split at f
    · simp only [RelD] at r1 r2
      exact op_le pins s σ H x y v u Q I rx ry ⟨_, _, r1, r2, k.same f (by simp only [RelD]) h⟩
    · exact f.elim
  | Gt =>
    simp only [wCmp] at f
    split at f
    · simp only [RelD] at r1 r2
      exact op_gt pins s σ H x y v u Q I rx ry ⟨_, _, r1, r2, k.same f (by simp only [RelD]) h⟩
    · exact f.elim
  | GtE =>
    simp only [wCmp] at f
    split at f
    · simp only [RelD] at r1 r2
      exact op_ge pins s σ H x y v u Q I rx ry ⟨_, _, r1, r2, k.same f (by simp only [RelD]) h⟩
    · exact f.elim
  | Is =>
    simp only [wCmp] at f
    split at f
    case h_8 => exact f.elim
    case h_7 =>
      simp only [RelD] at r1 r2
      exact op_is_bl pins s σ H x y v u Q I rx ry ⟨_, _, r1, r2, k.same f (by simp only [RelD]) h⟩
    all_goals (refine op_isN pins s σ H x y v u Q I rx ry ⟨by simpa only [RelD] using r2, k.same f ?_ h⟩; simp only [RelD] at r1 ⊢; first | (obtain ⟨a, vs, rfl, _⟩ := r1; simp) | (subst r1; simp))
  | IsNot =>
    simp only [wCmp] at f
    split at f
    case h_8 => exact f.elim
    case h_7 =>
      simp only [RelD] at r1 r2
      exact op_isnot_bl pins s σ H x y v u Q I rx ry ⟨_, _, r1, r2, k.same f (by simp only [RelD]) h⟩
    all_goals (refine op_notN pins s σ H x y v u Q I rx ry ⟨by simpa only [RelD] using r2, k.same f ?_ h⟩; simp only [RelD] at r1 ⊢; first | (obtain ⟨a, vs, rfl, _⟩ := r1; simp) | (subst r1; simp))
  | In =>
    simp only [wCmp] at f
    split at f
    · split at f
      · simp only [RelD] at r1 r2
        obtain ⟨a, rfl, ⟨es, n, kd⟩, hz⟩ := r2
        rename_i kvs _ z
        obtain ⟨r, e1, e2⟩ := hz z
        refine op_in_kd kd pins s σ H x _ v u Q I rx ry ⟨z, r, r1, rfl, e1, k.same f ?_ h⟩
        simp only [RelD]
        cases e3 : kvs.lookup z with
        | none => rw [e3] at e2; subst e2; rfl
        | some i => rw [e3] at e2; obtain ⟨t, rfl⟩ := e2; rfl
      · exact f.elim
    · split at f
      · rename_i ys e
        obtain ⟨a, vs, rfl, q1, q2, _⟩ := items_of h e r2
        rcases f with f | f
        rotate_left
        · exact op_inD hu false pins s σ H x _ v u Q I rx ry (rInD_of h r1 q1 q2 f k)
        refine op_in_seq pins s σ H x _ v u Q I rx ry ⟨a, vs, rfl, q2, flat_of r1 f.1, flats_of q1 f.2.1, k.same f.2.2 ?_ h⟩
        simp only [RelD]
        rw [if_neg Bool.false_ne_true, inF_of r1 f.1 q1 f.2.1]
      · exact f.elim
  | NotIn =>
    simp only [wCmp] at f
    split at f
    · split at f
      · simp only [RelD] at r1 r2
        obtain ⟨a, rfl, ⟨es, n, kd⟩, hz⟩ := r2
        rename_i kvs _ z
        obtain ⟨r, e1, e2⟩ := hz z
        refine op_notIn_kd kd pins s σ H x _ v u Q I rx ry ⟨z, r, r1, rfl, e1, k.same f ?_ h⟩
        simp only [RelD]
        cases e3 : kvs.lookup z with
        | none => rw [e3] at e2; subst e2; rfl
        | some i => rw [e3] at e2; obtain ⟨t, rfl⟩ := e2; rfl
      · exact f.elim
    · split at f
      · rename_i ys e
        obtain ⟨a, vs, rfl, q1, q2, _⟩ := items_of h e r2
        rcases f with f | f
        rotate_left
        · exact op_inD hu true pins s σ H x _ v u Q I rx ry (rInD_of h r1 q1 q2 f k)
        refine op_notIn_seq pins s σ H x _ v u Q I rx ry ⟨a, vs, rfl, q2, flat_of r1 f.1, flats_of q1 f.2.1, k.same f.2.2 ?_ h⟩
        simp only [RelD, if_true, inF_of r1 f.1 q1 f.2.1]
      · exact f.elim
end
end Z

set_option Elab.async false
set_option linter.all false
set_option maxRecDepth 100000
set_option maxHeartbeats 4000000
namespace Z
open PySem PySem.Spec PyProof.Rows L2
section
variable {K : PySem.W.Frag} {w : World} {H H' : Hp} {S S' : Sto} {R : D → Sto → Prop} {Q : VK} {X : Cx}
theorem relkv_val : ∀ {kvs : List (Key × D)} {kv : List (Key × V)} (k : Key), RelKV K w H kvs kv → (match lookD kvs k with | none => valV kv k = none | some d => ∃ v, valV kv k = some v ∧ RelD K w H d v)
  | [], kv, k, r => by simp only [RelKV] at r; subst r; rfl
  | (k', d) :: kvs, kv, k, r => by
    simp only [RelKV] at r
    obtain ⟨v, t, rfl, r1, r2⟩ := r
    by_cases e : k' = k
    · have e1 : lookD ((k', d) :: kvs) k = some d := by simp [lookD, List.find?_cons, e]
      rw [e1]
      exact ⟨v, valV_pos e, r1⟩
    · have e1 : lookD ((k', d) :: kvs) k = lookD kvs k := by simp [lookD, List.find?_cons, e]
      rw [e1, valV_neg (p := (k', v)) e]
      exact relkv_val k r2
theorem relkv_any : ∀ {kvs : List (Key × D)} {kv : List (Key × V)} (k : Key), RelKV K w H kvs kv → (kvs.any fun p => decide (p.1 = k)) = kv.any fun p => decide (p.1 = k)
  | [], kv, k, r => by simp only [RelKV] at r; subst r; rfl
  | (k', d) :: kvs, kv, k, r => by
    simp only [RelKV] at r
    obtain ⟨v, t, rfl, r1, r2⟩ := r
    rw [List.any_cons, List.any_cons, relkv_any k r2]
theorem relkv_repl : ∀ {kvs : List (Key × D)} {kv : List (Key × V)} (k : Key) {d : D} {v : V}, RelD K w H d v → RelKV K w H kvs kv → RelKV K w H (kvs.map fun p => if p.1 = k then (p.1, d) else p) (kv.map fun p => if p.1 = k then (p.1, v) else p)
  | [], kv, k, d, v, rd, r => by simp only [RelKV] at r; subst r; simp [RelKV]
  | (k', e) :: kvs, kv, k, d, v, rd, r => by
    simp only [RelKV] at r
    obtain ⟨u, t, rfl, r1, r2⟩ := r
    have ih := relkv_repl k rd r2
    rw [List.map_cons, List.map_cons]
    by_cases e1 : k' = k
    · simp only [e1, if_true, RelKV]
      exact ⟨v, _, rfl, rd, ih⟩
    · simp only [e1, if_false, RelKV]
      exact ⟨u, _, rfl, r1, ih⟩
theorem relkv_snoc : ∀ {kvs : List (Key × D)} {kv : List (Key × V)} (k : Key) {d : D} {v : V}, RelD K w H d v → RelKV K w H kvs kv → RelKV K w H (kvs ++ [(k, d)]) (kv ++ [(k, v)])
  | [], kv, k, d, v, rd, r => by simp only [RelKV] at r; subst r; simp only [List.nil_append, RelKV]; exact ⟨v, [], rfl, rd, rfl⟩
  | (k', e) :: kvs, kv, k, d, v, rd, r => by
    simp only [RelKV] at r
    obtain ⟨u, t, rfl, r1, r2⟩ := r
    simp only [List.cons_append, RelKV]
    exact ⟨u, _, rfl, r1, relkv_snoc k rd r2⟩
theorem relkv_put {kvs : List (Key × D)} {kv : List (Key × V)} (k : Key) {d : D} {v : V} (rd : RelD K w H d v) (r : RelKV K w H kvs kv) : RelKV K w H (putD kvs k d) (putK kv k v) := by
  unfold putD putK
  rw [relkv_any k r]
  split
  · exact relkv_repl k rd r
  · exact relkv_snoc k rd r
theorem relkv_len : ∀ {kvs : List (Key × D)} {kv : List (Key × V)}, RelKV K w H kvs kv → kvs.length = kv.length
  | [], kv, r => by simp only [RelKV] at r; subst r; rfl
  | (k', e) :: kvs, kv, r => by
    simp only [RelKV] at r
    obtain ⟨u, t, rfl, r1, r2⟩ := r
    rw [List.length_cons, List.length_cons, relkv_len r2]
theorem key_rel {d : D} {v : V} {k : Key} (r : RelD K w H d v) (e : keyD d = some k) : v = kV k := by
  cases d <;> simp only [keyD] at e <;> cases e <;> simpa only [RelD, kV] using r
theorem HR.dct (h : HR K w H S) {a : Addr} {kvs : List (Key × D)} (e : S a = some (.dct kvs)) : ∃ kv, H a = some (.dK kv) ∧ RelKV K w H kvs kv := h a _ e
theorem atI_len {α β : Type} (xs : List α) (ys : List β) (i : Int) (h : xs.length = ys.length) {v : α} (e : atI xs i = some v) : ∃ j : Nat, xs[j]? = some v ∧ ∀ u, ys[j]? = some u → atI ys i = some u := by
  unfold atI at e ⊢
  rw [← h]
  cases q : ixN xs.length i with
  | none => rw [q] at e; cases e
  | some j => rw [q] at e; exact ⟨j, e, fun u hu => hu⟩
theorem relds_at {ds : List D} {vs : List V} {i : Int} {d : D} (r : RelDs K w H ds vs) (e : atI ds i = some d) : ∃ v, atI vs i = some v ∧ RelD K w H d v := by
  obtain ⟨j, h1, h2⟩ := atI_len ds vs i r.length e
  obtain ⟨v, q1, q2⟩ := r.get h1
  exact ⟨v, h2 v q1, q2⟩

theorem ix_dict (hu : X.A.units + 1 < cLine) : IxR X (fun x y H Q => ∃ a v, x = .ref a ∧ DGet H a y (some v) ∧ Q v H) := by
  intro value slice pins s σ H x y v u Q I rx ry hh hs
  obtain ⟨a, r, rfl, g, q⟩ := hh
  obtain rfl : v = Value.ref a := rx
  exact tail_any (dict_typeIs I g) slot_dict_getitem.lookup (d_getItem hu I g ry fun w' s' I' r' => ⟨r, H, I', r', q⟩) hs
theorem sub_ok (hu : X.A.units + 1 < cLine) : IxR X (rD2 X.K X.w wSub) := by
  intro value slice pins s σ H x y v u Q I rx ry hh hs
  obtain ⟨dx, dy, S, R, r1, r2, h, f, k⟩ := hh
  have seqs : ∀ {a : Addr} {xs : List D} {i : Int}, x = .ref a → y = .int i → S a = some (.lst xs) → (match atI xs i with | some v => R v S | none => False) → wpAny (model X.prog X.w) X.A (subscriptTail value slice v u) (EP X pins σ Q) X.xe s := fun {a xs i} ex ey e f => by
    subst ex ey
    split at f
    · rename_i d ea
      obtain ⟨vs, h1, h2⟩ := h.sql e
      obtain ⟨z, q1, q2⟩ := relds_at h2 ea
      exact ix_list value slice pins s σ H _ _ v u Q I rx ry ⟨a, vs, i, z, rfl, rfl, h1, q1, k.same f q2 h⟩ hs
    · exact f.elim
  unfold wSub at f
  split at f
  · split at f
    · simp only [RelD] at r1 r2
      obtain ⟨a, rfl, ⟨es, n, kd⟩, hz⟩ := r1
      rename_i kvs _ z
      obtain ⟨r, e1, e2⟩ := hz z
      split at f
      · rename_i i e3
        rw [e3] at e2
        obtain ⟨t, rfl⟩ := e2
        exact ix_kdict value slice pins s σ H _ y v u Q I rx ry ⟨a, z, .int i, rfl, r2, ⟨es, n, _, kd.at_, kd.lit, e1, ⟨t, rfl⟩⟩, k.same f (by simp only [RelD]) h⟩ hs
      · exact f.elim
    · exact f.elim
  · split at f
    · simp only [RelD] at r1 r2
      obtain ⟨f0, f⟩ := f
      split at f
      · rename_i c ea
        exact ix_str value slice pins s σ H x y v u Q I rx ry ⟨_, _, c, r1, r2, f0, ea, k.same f (by simp only [RelD]) h⟩ hs
      · exact f.elim
    · exact f.elim
  · split at f
    · simp only [RelD] at r1 r2
      obtain ⟨a, vs, rfl, t, q⟩ := r1
      split at f
      · rename_i d ea
        obtain ⟨z, q1, q2⟩ := relds_at q ea
        exact ix_tup value slice pins s σ H _ y v u Q I rx ry ⟨a, vs, _, z, rfl, r2, t, q1, k.same f q2 h⟩ hs
      · exact f.elim
    · exact f.elim
  · split at f
    · simp only [RelD] at r1 r2
      obtain ⟨a, vs, rfl, t, q⟩ := r1
      split at f
      · rename_i d ea
        obtain ⟨z, q1, q2⟩ := relds_at q ea
        exact ix_list value slice pins s σ H _ y v u Q I rx ry ⟨a, vs, _, z, rfl, r2, t.sq, q1, k.same f q2 h⟩ hs
      · exact f.elim
    · exact f.elim
  · simp only [RelD] at r1
    split at f
    · split at f
      · simp only [RelD] at r2
        rename_i e _ _
        exact seqs r1 r2 e f
      · exact f.elim
    · rename_i e
      split at f
      · rename_i key ek
        have ey := key_rel r2 ek
        subst r1 ey
        obtain ⟨kv, h1, h2⟩ := h.dct e
        split at f
        · rename_i d el
          have q := relkv_val key h2
          rw [el] at q
          obtain ⟨z, q1, q2⟩ := q
          exact ix_dict hu value slice pins s σ H _ _ v u Q I rx ry ⟨_, z, rfl, by rw [← q1]; exact DGet.k h1, k.same f q2 h⟩ hs
        · exact f.elim
      · exact f.elim
    · exact f.elim
  · exact f.elim

theorem cut_len {α β : Type} (xs : List α) (ys : List β) (h : xs.length = ys.length) (lo hi : Option Int) : HT.sIx xs.length 0 lo = HT.sIx ys.length 0 lo ∧ HT.sIx xs.length xs.length hi = HT.sIx ys.length ys.length hi := by rw [h]; exact ⟨rfl, rfl⟩
theorem relds_cut {ds : List D} {vs : List V} (r : RelDs K w H ds vs) (lo hi : Option Int) : RelDs K w H (cutD ds lo hi) (cutV vs lo hi) := by
  unfold cutD cutV
  obtain ⟨e1, e2⟩ := cut_len ds vs r.length lo hi
  rw [e1, e2]
  exact (r.drop _).take _
def rDSl (K : PySem.W.Frag) (w : World) : V → Option Int → Option Int → Hp → VK → Prop := fun x lo hi H Q => ∃ dx S R, RelD K w H dx x ∧ HR K w H S ∧ wSlice dx lo hi S R ∧ Kont K w H S R Q
theorem cutD_whole {xs : List D} {lo hi : Option Int} (e : HT.sIx xs.length 0 lo = 0 ∧ HT.sIx xs.length xs.length hi = xs.length) : cutD xs lo hi = xs := by
  unfold cutD
  rw [e.1, e.2]
  simp
theorem slice_ok : SlR X (rDSl X.K X.w) := by
  intro pins s σ H x v vl vu lo hi sl Q I rx hs pl pu hh
  obtain ⟨dx, S, R, r1, h, f, k⟩ := hh
  unfold wSlice at f
  split at f
  · rename_i xs
    simp only [RelD] at r1
    obtain ⟨a, vs, rfl, t, q⟩ := r1
    refine sl_tupA pins s σ H _ v vl vu lo hi sl Q I rx hs pl pu ⟨a, vs, rfl, t, fun e => ?_, fun _ p np => ?_⟩
    · obtain ⟨e1, e2⟩ := cut_len xs vs q.length lo hi
      rw [cutD_whole (by rw [e1, e2, q.length]; exact e)] at f
      exact k.same f (by simp only [RelD]; exact ⟨a, vs, rfl, t, q⟩) h
    · exact k.tup f h (relds_cut q lo hi) np
  · simp only [RelD] at r1
    obtain ⟨a, vs, rfl, t, q⟩ := r1
    exact sl_list pins s σ H _ v vl vu lo hi sl Q I rx hs pl pu ⟨_, vs, rfl, t.sq, fun p np => k.lst (f p (h.fresh np)) h (relds_cut q lo hi) np⟩
  · simp only [RelD] at r1
    split at f
    · rename_i e
      obtain ⟨vs, h1, h2⟩ := h.sql e
      exact sl_list pins s σ H x v vl vu lo hi sl Q I rx hs pl pu ⟨_, vs, r1, h1, fun p np => k.lst (f p (h.fresh np)) h (relds_cut h2 lo hi) np⟩
    · exact f.elim
  · exact f.elim

def rDSet (K : PySem.W.Frag) (w : World) : TSet := fun o i v H Q => ∃ d1 d2 d3 S R, RelD K w H d1 o ∧ RelD K w H d2 i ∧ RelD K w H d3 v ∧ HR K w H S ∧ wSet d1 d2 d3 S R ∧ ∀ S', R S' → ∀ H', Fm H S H' S' → HR K w H' S' → Q H'
theorem set_ok (hu : X.A.units + 1 < cLine) : PSet X (rDSet X.K X.w) := by
  intro pins s σ H o i v ov iv u Q I ro ri rv hh
  obtain ⟨d1, d2, d3, S, R, r1, r2, r3, h, f, k⟩ := hh
  unfold wSet at f
  split at f
  · simp only [RelD] at r1
    split at f
    · rename_i e
      split at f
      · simp only [RelD] at r2
        split at f
        · rename_i j ej
          obtain ⟨vs, h1, h2⟩ := h.lst e
          rw [h2.length] at ej
          exact set_list pins s σ H o i v ov iv u Q I ro ri rv ⟨_, vs, _, j, r1, r2, h1, ej, k _ f _ (Fm.mut e) (h.mut e ⟨_, upd_same, RelDs.mono (ext_mut h e) _ _ (h2.set j r3)⟩)⟩
        · exact f.elim
      · exact f.elim
    · rename_i e
      split at f
      · rename_i key ek
        obtain ⟨f0, f⟩ := f
        have ei := key_rel r2 ek
        subst r1 ei
        obtain ⟨kv, h1, h2⟩ := h.dct e
        refine set_dict hu pins s σ H _ _ v ov iv u Q I ro ri rv ⟨_, _, rfl, DPut.k h1 (by rw [← relkv_len h2]; exact f0), k _ f _ (Fm.mut e) (h.mut e ⟨_, upd_same, ?_⟩)⟩
        exact RelKV.mono (ext_mut h e) _ _ (relkv_put key r3 h2)
      · exact f.elim
    · exact f.elim
  · exact f.elim

theorem tru_of (h : HR K w H S) {d : D} {v : V} {b : Bool} (r : RelD K w H d v) (e : tru S d = some b) : TruV K v H b := by
  unfold tru at e
  split at e
  · simp only [RelD] at r; subst r; cases e; rfl
  · simp only [RelD] at r; subst r; cases e; rfl
  · simp only [RelD] at r; subst r; cases e; rfl
  · simp only [RelD] at r; subst r
    split at e
    · rename_i hl
      cases e
      exact ⟨hl, rfl⟩
    · cases e
  · rename_i xs
    simp only [RelD] at r
    obtain ⟨a, vs, rfl, t, q⟩ := r
    cases e
    refine .inr (.inl ⟨vs, t, ?_⟩)
    have hl := q.length
    cases xs <;> cases vs <;> simp_all
  · rename_i xs
    simp only [RelD] at r
    obtain ⟨a, vs, rfl, t, q⟩ := r
    cases e
    refine .inl ⟨vs, t.sq, ?_⟩
    have hl := q.length
    cases xs <;> cases vs <;> simp_all
  · simp only [RelD] at r; subst r
    split at e
    · rename_i xs q
      cases e
      obtain ⟨vs, h1, h2⟩ := h.sql q
      refine .inl ⟨vs, h1, ?_⟩
      have hl := h2.length
      cases xs <;> cases vs <;> simp_all
    · rename_i xs q
      cases e
      obtain ⟨vs, h1, h2⟩ := h.dct q
      refine .inr (.inr ⟨vs, h1, ?_⟩)
      have hl := relkv_len h2
      cases xs <;> cases vs <;> simp_all
    · cases e
  · cases e
end
end Z

set_option Elab.async false
set_option linter.all false
set_option maxRecDepth 100000
set_option maxHeartbeats 4000000
namespace Z
open PySem PySem.Spec PyProof.Rows L2
section
variable {K : PySem.W.Frag} {w : World} {H H' : Hp} {S S' : Sto} {R : D → Sto → Prop} {Q : VK} {X : Cx}
theorem HR.len (h : HR K w H S) {d : D} {v : V} {n : Nat} (r : RelD K w H d v) (e : lenD S d = some n) : LenV K v H n ∨ ∃ a kv, v = .ref a ∧ H a = some (.dK kv) ∧ n = kv.length := by
  unfold lenD at e
  split at e
  · simp only [RelD] at r
    obtain ⟨a, vs, rfl, t, q⟩ := r
    cases e
    exact .inl (.inr ⟨vs, t, q.length⟩)
  · simp only [RelD] at r
    obtain ⟨a, vs, rfl, t, q⟩ := r
    cases e
    exact .inl (.inl ⟨vs, t.sq, q.length⟩)
  · simp only [RelD] at r; subst r
    split at e
    · rename_i hl
      cases e
      exact .inl ⟨hl, rfl⟩
    · cases e
  · simp only [RelD] at r; subst r
    split at e
    · rename_i q
      cases e
      obtain ⟨vs, h1, h2⟩ := h.sql q
      exact .inl (.inl ⟨vs, h1, h2.length⟩)
    · rename_i q
      cases e
      obtain ⟨kv, h1, h2⟩ := h.dct q
      exact .inr ⟨_, kv, rfl, h1, relkv_len h2⟩
    · cases e
  · cases e
theorem HR.ty (h : HR K w H S) {d : D} {v : V} {t : String} (r : RelD K w H d v) (e : tyD S d = some t) : TyX K H v (.type t) := by
  unfold tyD at e
  split at e
  · simp only [RelD] at r; subst r; cases e; exact .base .non
  · simp only [RelD] at r; subst r; cases e; exact .base (.bl _)
  · simp only [RelD] at r; subst r; cases e; exact .base (.int _)
  · simp only [RelD] at r; subst r; cases e; exact .base (.str _)
  · simp only [RelD] at r
    obtain ⟨a, vs, rfl, t, q⟩ := r
    cases e
    rcases t with (t | ⟨o, t⟩) | ⟨o, its, n, hk, hc, _⟩
    · exact .base (.tup t)
    · exact .fTuple t
    · exact .kTuple hk hc
  · simp only [RelD] at r; subst r
    split at e
    · rename_i q
      cases e
      obtain ⟨vs, h1, h2⟩ := h.lst q
      exact .base (.lst h1)
    · rename_i q
      cases e
      obtain ⟨vs, h1, h2⟩ := h.dct q
      exact .base (.dK h1)
    · cases e
  · cases e
theorem bls_of : ∀ {ds : List D} {vs : List V} {bs : List Bool}, RelDs K w H ds vs → blsOf ds = some bs → vs = bs.map V.bl
  | [], vs, bs, r, e => by simp only [RelDs] at r; subst r; simp only [blsOf] at e; cases e; rfl
  | .bl b :: ds, vs, bs, r, e => by
    simp only [RelDs, RelD] at r
    obtain ⟨v, t, rfl, rfl, r2⟩ := r
    simp only [blsOf] at e
    cases e2 : blsOf ds with
    | none => rw [e2] at e; cases e
    | some cs =>
      rw [e2] at e
      cases e
      rw [List.map_cons, bls_of r2 e2]
  | .non :: _, _, _, _, e => by simp only [blsOf] at e; cases e
  | .int _ :: _, _, _, _, e => by simp only [blsOf] at e; cases e
  | .str _ :: _, _, _, _, e => by simp only [blsOf] at e; cases e
  | .tup _ :: _, _, _, _, e => by simp only [blsOf] at e; cases e
  | .ref _ :: _, _, _, _, e => by simp only [blsOf] at e; cases e
  | .ty _ :: _, _, _, _, e => by simp only [blsOf] at e; cases e
  | .cd _ :: _, _, _, _, e => by simp only [blsOf] at e; cases e
  | .kl _ :: _, _, _, _, e => by simp only [blsOf] at e; cases e
  | .exn _ _ _ :: _, _, _, _, e => by simp only [blsOf] at e; cases e
theorem ints_of : ∀ {ds : List D} {vs : List V} {bs : List Int}, RelDs K w H ds vs → intsOf ds = some bs → vs = bs.map V.int
  | [], vs, bs, r, e => by simp only [RelDs] at r; subst r; simp only [intsOf] at e; cases e; rfl
  | .int b :: ds, vs, bs, r, e => by
    simp only [RelDs, RelD] at r
    obtain ⟨v, t, rfl, rfl, r2⟩ := r
    simp only [intsOf] at e
    cases e2 : intsOf ds with
    | none => rw [e2] at e; cases e
    | some cs =>
      rw [e2] at e
      cases e
      rw [List.map_cons, ints_of r2 e2]
  | .non :: _, _, _, _, e => by simp only [intsOf] at e; cases e
  | .bl _ :: _, _, _, _, e => by simp only [intsOf] at e; cases e
  | .str _ :: _, _, _, _, e => by simp only [intsOf] at e; cases e
  | .tup _ :: _, _, _, _, e => by simp only [intsOf] at e; cases e
  | .ref _ :: _, _, _, _, e => by simp only [intsOf] at e; cases e
  | .ty _ :: _, _, _, _, e => by simp only [intsOf] at e; cases e
  | .cd _ :: _, _, _, _, e => by simp only [intsOf] at e; cases e
  | .kl _ :: _, _, _, _, e => by simp only [intsOf] at e; cases e
  | .exn _ _ _ :: _, _, _, _, e => by simp only [intsOf] at e; cases e

theorem call_lenD2 : CallR X (.builtin "len") (fun xs H Q => ∃ a kv, xs = [.ref a] ∧ H a = some (.dK kv) ∧ Q (.int kv.length) H) := by
  intro pins s σ H xs us Q I r hh
  obtain ⟨a, kv, rfl, e, q⟩ := hh
  obtain ⟨u, rfl, ru⟩ := vals1 r
  cases (show u = Value.ref a from ru)
  exact d_len I (.inl e) fun t s' I' => ⟨.int kv.length, H, I', ⟨t, rfl⟩, q⟩
def Bi.fn : Bi → Option String
  | .len => some "len"
  | .isinst => some "isinstance"
  | .max => some "max"
  | .min => some "min"
  | .abs => some "abs"
  | .all => some "all"
  | .any => some "any"
  | .sum => some "sum"
  | .repr => some "repr"
  | .sorted => some "sorted"
  | _ => none
def Bi.tyn : Bi → Option String
  | .tuple => some "tuple"
  | .list => some "list"
  | .int => some "int"
  | .str => some "str"
  | _ => none
theorem call_reprD (hgd : X.A.guards = some []) (hu : X.A.units + 64 < cLine) : CallR X (.builtin "repr") (fun xs H Q => ∃ x p, xs = [x] ∧ Dp X.K H x p ∧ p.canLay0 = true ∧ p.showable = true ∧ p.depth ≤ 60 ∧ (flatP p = true ∨ p.shown.length ≤ sizeLine) ∧ Q (.str p.shown) H) := by
  intro pins s σ H xs us Q I r h
  obtain ⟨x, p, rfl, hd, hc, hs, hdp, hz, q⟩ := h
  obtain ⟨u, rfl, ru⟩ := vals1 r
  obtain ⟨as, rd⟩ := Dp.reads I p x u hd ru
  have big : ∀ a, u = .ref a → p.shown.length ≤ sizeLine → wpAny (model X.prog X.w) X.A (call (.builtin "repr") [u]) (EP X pins σ Q) X.xe s := fun a e hz => by
    subst e
    exact repr_of_reads' rd hs (PyData.noDict_hsm (PyData.hasDict_of_canLay p hc)) hgd (by omega) (fun _ _ z => z) (fun h' u tk k => ⟨.str p.shown, H, I.kept (t' := tk) k, ⟨_, rfl⟩, q⟩) hz
  cases rd with
  | none => exact PySem.P.repr_of_none ⟨.str _, H, I.tok _, ⟨_, rfl⟩, q⟩
  | bool b => exact PySem.P.repr_of_bool ⟨.str _, H, I.tok _, ⟨_, rfl⟩, q⟩
  | int i t => exact PySem.P.repr_of_int (of_decide_eq_true hs) ⟨.str _, H, I.tok _, ⟨_, rfl⟩, q⟩
  | str x t => exact PySem.P.repr_of_str ⟨.str _, H, I.tok _, ⟨_, rfl⟩, q⟩ (hz.resolve_left (fun z => Bool.noConfusion z))
  | list _ _ _ _ => exact big _ rfl (hz.resolve_left (fun z => Bool.noConfusion z))
  | tuple _ _ _ _ => exact big _ rfl (hz.resolve_left (fun z => Bool.noConfusion z))
  | dict _ _ _ _ _ => exact big _ rfl (hz.resolve_left (fun z => Bool.noConfusion z))
theorem bfn_ok (hc : X.calm = true) (hgd : X.A.guards = some []) (hu : X.A.units + 64 < cLine) (b : Bi) {n : String} (hb : b.fn = some n) : CallR X (.builtin n) (rDC X.K X.w (wBlt b)) := by
  intro pins s σ H xs us Q I r hh
  obtain ⟨ds, S, R, r1, h, f, k⟩ := hh
  unfold wBlt at f
  cases b <;> simp only [Bi.fn] at hb <;> cases hb
  · -- len
    split at f <;> try exact f.elim
    all_goals first | (rename_i e; cases e; done) | skip
    rename_i d _
    obtain ⟨v, rfl, rv⟩ := relds_one r1
    split at f
    · rename_i n e
      rcases h.len rv e with hl | ⟨a, kv, rfl, hl, rfl⟩
      · exact call_len pins s σ H _ us Q I r ⟨v, n, rfl, hl, k.same f (by simp only [RelD]) h⟩
      · exact call_lenD2 pins s σ H _ us Q I r ⟨a, kv, rfl, hl, k.same f (by simp only [RelD]) h⟩
    · exact f.elim
  · -- isinstance
    split at f <;> try exact f.elim
    all_goals first | (rename_i e; cases e; done) | skip
    obtain ⟨v, u, rfl, rv, ru⟩ := relds_two r1
    simp only [RelD] at ru
    subst ru
    split at f
    · rename_i t e
      split at f
      · rename_i b eb
        exact call_isi pins s σ H _ us Q I r ⟨v, _, .type t, _, b, rfl, .ty _, h.ty rv e, kit_ty eb, k.same f (by simp only [RelD]) h⟩
      · exact f.elim
    · exact f.elim
  · -- max
    split at f <;> try exact f.elim
    all_goals first | (rename_i e; cases e; done) | skip
    · obtain ⟨v, u, rfl, rv, ru⟩ := relds_two r1
      simp only [RelD] at rv ru
      subst rv ru
      exact call_max2 hc pins s σ H _ us Q I r ⟨_, _, rfl, k.same f (by simp only [RelD]) h⟩
    · obtain ⟨v, rfl, rv⟩ := relds_one r1
      simp only [RelD] at rv
      subst rv
      split at f
      · rename_i e
        obtain ⟨vs, h1, h2⟩ := h.sql e
        split at f
        · rename_i bs eb
          have ev := ints_of h2 eb
          subst ev
          exact cr_max hc pins s σ H _ us Q I r ⟨_, bs, rfl, h1, f.1, fun m m1 m2 => k.same (f.2 m m1 m2) (by simp only [RelD]) h⟩
        · exact f.elim
      · exact f.elim
  · split at f <;> try exact f.elim
    all_goals first | (rename_i e; cases e; done) | skip
    · obtain ⟨v, u, rfl, rv, ru⟩ := relds_two r1
      simp only [RelD] at rv ru
      subst rv ru
      exact call_min2 hc pins s σ H _ us Q I r ⟨_, _, rfl, k.same f (by simp only [RelD]) h⟩
    · obtain ⟨v, rfl, rv⟩ := relds_one r1
      simp only [RelD] at rv
      subst rv
      split at f
      · rename_i e
        obtain ⟨vs, h1, h2⟩ := h.sql e
        split at f
        · rename_i bs eb
          have ev := ints_of h2 eb
          subst ev
          exact cr_min hc pins s σ H _ us Q I r ⟨_, bs, rfl, h1, f.1, fun m m1 m2 => k.same (f.2 m m1 m2) (by simp only [RelD]) h⟩
        · exact f.elim
      · exact f.elim
  · split at f <;> try exact f.elim
    all_goals first | (rename_i e; cases e; done) | skip
    obtain ⟨v, rfl, rv⟩ := relds_one r1
    simp only [RelD] at rv
    subst rv
    exact call_abs pins s σ H _ us Q I r ⟨_, rfl, k.same f (by simp only [RelD]) h⟩
  · split at f <;> try exact f.elim
    all_goals first | (rename_i e; cases e; done) | skip
    obtain ⟨v, rfl, rv⟩ := relds_one r1
    simp only [RelD] at rv
    subst rv
    split at f
    · rename_i e
      obtain ⟨vs, h1, h2⟩ := h.sql e
      split at f
      · rename_i bs eb
        have ev := bls_of h2 eb
        subst ev
        exact cr_all hc pins s σ H _ us Q I r ⟨_, bs, rfl, h1, k.same f (by simp only [RelD]) h⟩
      · exact f.elim
    · exact f.elim
  · split at f <;> try exact f.elim
    all_goals first | (rename_i e; cases e; done) | skip
    obtain ⟨v, rfl, rv⟩ := relds_one r1
    simp only [RelD] at rv
    subst rv
    split at f
    · rename_i e
      obtain ⟨vs, h1, h2⟩ := h.sql e
      split at f
      · rename_i bs eb
        have ev := bls_of h2 eb
        subst ev
        exact cr_any hc pins s σ H _ us Q I r ⟨_, bs, rfl, h1, k.same f (by simp only [RelD]) h⟩
      · exact f.elim
    · exact f.elim
  · split at f <;> try exact f.elim
    all_goals first | (rename_i e; cases e; done) | skip
    obtain ⟨v, rfl, rv⟩ := relds_one r1
    simp only [RelD] at rv
    subst rv
    split at f
    · rename_i e
      obtain ⟨vs, h1, h2⟩ := h.sql e
      split at f
      · rename_i bs eb
        have ev := ints_of h2 eb
        subst ev
        exact cr_sum hc pins s σ H _ us Q I r ⟨_, bs, rfl, h1, k.same f (by simp only [RelD]) h⟩
      · exact f.elim
    · exact f.elim
  · -- repr
    split at f <;> try exact f.elim
    all_goals first | (rename_i e; cases e; done) | skip
    obtain ⟨v, rfl, rv⟩ := relds_one r1
    split at f
    · rename_i p e
      exact call_reprD hgd hu pins s σ H _ us Q I r ⟨v, p, rfl, dpS_of h rv e, f.1, f.2.1, f.2.2.1, f.2.2.2.1, k.same f.2.2.2.2 (by simp only [RelD]) h⟩
    · exact f.elim
  · -- sorted
    split at f <;> try exact f.elim
    all_goals first | (rename_i e; cases e; done) | skip
    obtain ⟨v, rfl, rv⟩ := relds_one r1
    simp only [RelD] at rv
    subst rv
    split at f
    · rename_i e
      obtain ⟨vs, h1, h2⟩ := h.sql e
      split at f
      · rename_i ns eb
        have ev := ints_of h2 eb
        subst ev
        exact cr_sorted pins s σ H _ us Q I r ⟨_, ns, rfl, h1, f.1, fun ns' p hp hs np => k.lst (f.2 ns' p hp hs (h.fresh np)) h (RelDs.of_ints ns') np⟩
      · exact f.elim
    · exact f.elim
theorem bty_ok (b : Bi) {n : String} (hb : b.tyn = some n) : CallR X (.type n) (rDC X.K X.w (wBlt b)) := by
  intro pins s σ H xs us Q I r hh
  obtain ⟨ds, S, R, r1, h, f, k⟩ := hh
  unfold wBlt at f
  cases b <;> simp only [Bi.tyn] at hb <;> cases hb
  · split at f <;> try exact f.elim
    all_goals first | (rename_i e; cases e; done) | skip
    obtain ⟨v, rfl, rv⟩ := relds_one r1
    split at f
    · rename_i e
      obtain ⟨a, vs, rfl, q1, q2, _⟩ := items_of h e rv
      refine call_tuple_of pins s σ H _ us Q I r ⟨a, vs, rfl, ?_⟩
      rcases q2 with q2 | q2
      · exact .inl ⟨q2, fun p np => k.tup f h q1 np⟩
      · exact .inr ⟨q2, k.same f (by simp only [RelD]; exact ⟨a, vs, rfl, q2, q1⟩) h⟩
    · exact f.elim
  · split at f <;> try exact f.elim
    all_goals first | (rename_i e; cases e; done) | skip
    obtain ⟨v, rfl, rv⟩ := relds_one r1
    split at f
    · rename_i e
      obtain ⟨a, vs, rfl, q1, q2, _⟩ := items_of h e rv
      exact call_list_of pins s σ H _ us Q I r ⟨a, vs, rfl, q2, fun p np => k.lst (f p (h.fresh np)) h q1 np⟩
    · exact f.elim
  · split at f <;> try exact f.elim
    all_goals first | (rename_i e; cases e; done) | skip
    · obtain ⟨v, rfl, rv⟩ := relds_one r1
      simp only [RelD] at rv
      subst rv
      exact call_int1 pins s σ H _ us Q I r (.inl ⟨_, rfl, k.same f (by simp only [RelD]) h⟩)
    · obtain ⟨v, rfl, rv⟩ := relds_one r1
      simp only [RelD] at rv
      subst rv
      exact call_int1 pins s σ H _ us Q I r (.inr ⟨_, rfl, k.same f (by simp only [RelD]) h⟩)
  · split at f <;> try exact f.elim
    all_goals first | (rename_i e; cases e; done) | skip
    obtain ⟨v, rfl, rv⟩ := relds_one r1
    simp only [RelD] at rv
    subst rv
    exact call_str_int pins s σ H _ us Q I r ⟨_, rfl, f.1, k.same f.2 (by simp only [RelD]) h⟩
end
end Z

set_option Elab.async false
set_option linter.all false
set_option maxRecDepth 100000
set_option maxHeartbeats 4000000
namespace Z
open PySem PySem.Spec PyProof.Rows L2

theorem inv_many {X : Cx} {pins : List (Addr × Obj)} {σ : L2.St} {H H' : Hp} {s : Shared} {h' : Heap} {t' : Nat} (I : Inv X pins σ H s)
    (k : ∀ b u, s.heap.get? b = some u → h'.get? b = some u) (up : ∀ b o, H b = some o → H' b = some o)
    (new : ∀ b o, H' b = some o → H b = none → s.heap.get? b = none ∧ ObjOk X.prog X.w H' h' b o) : Inv X pins σ H' { s with heap := h', toks := t' } := by
  refine I.un ⟨fun b u q _ _ _ => k b u q, fun b u q _ _ _ => ⟨u.slots, k b u q⟩, fun b u q n _ => ?_, fun b u q _ => ⟨u, k b u q⟩, fun b xs q => up b _ q, fun b u xs q => up b _ q, fun b ps q => ⟨#[], by rw [up b _ q]; simp⟩⟩ fun b o e => ?_
  · cases e : H' b with
    | none => rfl
    | some o =>
      have := (new b o e n).1
      rw [this] at q
      cases q
  · cases e1 : H b with
    | none => exact (new b o e e1).2
    | some o1 =>
      have := up b o1 e1
      rw [e] at this
      cases this
      exact (I.hok b o e1).stay (fun c v _ q => k c v q) (fun c q => up c _ q) fun c xs q => up c _ q

section
variable {prog : Program} {w : World} {A : Around} {E : Value → Shared → Prop} {s : Shared}
def KeepZ (s s' : Shared) : Prop := ∃ h tk, s' = { s with heap := h, toks := tk } ∧ s.toks ≤ tk ∧ ∀ b o, s.heap.get? b = some o → h.get? b = some o
theorem KeepZ.refl (s : Shared) : KeepZ s s := ⟨s.heap, s.toks, rfl, Nat.le_refl _, fun _ _ e => e⟩
theorem KeepZ.heap {s s' : Shared} (k : KeepZ s s') {b : Addr} {o : Obj} (e : s.heap.get? b = some o) : s'.heap.get? b = some o := by
  obtain ⟨h, tk, rfl, _, hk⟩ := k
  exact hk b o e
theorem KeepZ.type {s s' : Shared} {a : Addr} {T : String} (k : KeepZ s s') (h : s.TypeIs (.ref a) T) : s'.TypeIs (.ref a) T := by
  obtain ⟨o, e, c⟩ := h
  exact ⟨o, k.heap e, c⟩
theorem KeepZ.trans {s s' s'' : Shared} (a : KeepZ s s') (b : KeepZ s' s'') : KeepZ s s'' := by
  obtain ⟨h, tk, rfl, t1, hk⟩ := a
  obtain ⟨h2, tk2, rfl, t2, hk2⟩ := b
  exact ⟨h2, tk2, rfl, Nat.le_trans t1 t2, fun b o e => hk2 b o (hk b o e)⟩

theorem list_any {I : Addr} {T : String} {Q : Value → Shared → Prop} (hT : s.TypeIs (.ref I) T) (hT1 : (Value.type T == Value.type "list") = false) (hT2 : (Value.type T == Value.type "tuple") = false)
    (hit : ∀ (A : Around) (E : Value → Shared → Prop) (s' : Shared) (Q : Value → Shared → Prop), KeepZ s s' → Q (.ref I) s' → wpAny (model prog w) A (pyIter (.ref I)) Q E s')
    (hint : ∀ (A : Around) (E : Value → Shared → Prop) (s' : Shared) (Q : Bool → Shared → Prop), KeepZ s s' → (∀ b tk, s'.toks ≤ tk → Q b { s' with toks := tk }) → wpAny (model prog w) A (Builtin.List.listLengthHint (.ref I)) Q E s')
    (loop : ∀ (R : Result → Shared → Prop) (s' : Shared) (c : Nat), KeepZ s s' → s'.heap.get? s.heap.objs.size = some { cls := .type "list", data := .seq #[] c } →
      (∀ s'', Q (.ref s.heap.objs.size) s'' → R (.ok (.ret .none)) s'') → codeAny (model prog w) A.in1 (.builtin "list.extend.loop" ⟨[.ref s.heap.objs.size, .ref I, .none], []⟩) R s') :
    wpAny (model prog w) A (call (.type "list") [.ref I]) Q E s := by
  refine callType_codes (Q₁ := fun obj s₁ => obj = .ref s.heap.objs.size ∧ s₁ = { s with heap := s.heap.push { cls := .type "list", data := .seq #[] } }) F.called_list (F.typeCall_list_1 _) F.entry_list_init
    (code_list_new _ ⟨rfl, rfl⟩) fun obj s₁ h₁ => ?_
  obtain ⟨rfl, rfl⟩ := h₁
  have hS : (s.heap.push { cls := .type "list", data := .seq #[] }).get? s.heap.objs.size = some { cls := .type "list", data := .seq #[] } := Heap.get?_push_size _ rfl
  have hI : s.heap.objs.size ≠ I := fun e => by
    obtain ⟨o, ho, _⟩ := hT
    exact absurd (Heap.lt_size ho) (by rw [e]; exact Nat.lt_irrefl _)
  have hSn : ∀ b o, s.heap.get? b = some o → b ≠ s.heap.objs.size := fun b o e => Nat.ne_of_lt (Heap.lt_size e)
  refine ⟨⟨_, hS, rfl⟩, F.args_list_init_2 _ _, ?_⟩
  show wpAny _ A.in1.in1 (do let old ← Builtin.List.listItems (.ref s.heap.objs.size); Builtin.List.listUpdate (.ref s.heap.objs.size) (fun _ => #[]); letGo old.toList.reverse; Builtin.List.listExtendWith (.ref s.heap.objs.size) (.ref I) .none) _ _ _
  refine wpAny_bind ?_
  unfold Builtin.List.listItems
  refine wpAny_bind (wpAny_seqItems hS rfl (wpAny_pure ?_))
  show wpAny _ A.in1.in1 (updateSeq s.heap.objs.size (fun _ => #[]) >>= fun _ => letGo (#[] : Array Value).toList.reverse >>= fun _ => Builtin.List.listExtendWith (.ref s.heap.objs.size) (.ref I) .none) _ _ _
  refine wpAny_bind (wpAny_updateSeq hS rfl ?_)
  have hS₂ := Heap.get?_update_self (Obj.mapSeq (fun _ => (#[] : Array Value))) hS rfl
  refine wpAny_bind (wpAny_letGo ?_)
  generalize es2 : ((s.heap.push { cls := .type "list", data := .seq #[] }).update s.heap.objs.size (Obj.mapSeq (fun _ => (#[] : Array Value)))) = h2 at hS₂
  have k2 : KeepZ s { s with heap := h2 } := ⟨h2, s.toks, rfl, Nat.le_refl _, fun b o e => by
    rw [← es2]
    exact (Heap.get?_update_other _ _ (Ne.symm (hSn b o e))).trans (Heap.get?_push_of_some _ e)⟩
  unfold Builtin.List.listExtendWith
  refine wpAny_bind (wpAny_typeOf (k2.type hT) ?_)
  have h1 : Builtin.List.listSameRef (.ref s.heap.objs.size) (.ref I) = false := by simp [Builtin.List.listSameRef, hI]
  simp only [h1, hT1, hT2, Bool.or_false, Bool.false_eq_true, if_false]
  refine wpAny_bind (hit _ _ _ _ k2 ?_)
  refine wpAny_bind (wpAny_holding ?_)
  refine hint _ _ _ _ k2 fun b tk htk => ?_
  have k3 : KeepZ s { s with heap := h2, toks := tk } := ⟨h2, tk, rfl, htk, fun c o e => k2.heap e⟩
  refine wpAny_ite_split (fun _ => ?_) fun _ => ?_
  · refine wpAny_bind (wpAny_rule ?_)
    refine wpAny_bind ?_
    show wpAny _ A.in1.in1 (updateSeq s.heap.objs.size (·.push .none) >>= fun _ => updateSeq s.heap.objs.size (·.pop)) _ _ _
    refine wpAny_bind (wpAny_updateSeq hS₂ rfl ?_)
    have hS₄ := Heap.get?_update_self (Obj.mapSeq (·.push Value.none)) hS₂ rfl
    refine wpAny_updateSeq (hz := by seq_fits) hS₄ rfl ?_
    have hS₅ := Heap.get?_update_self (Obj.mapSeq (·.pop)) hS₄ rfl
    refine wpAny_pure ⟨plainId_quiet F.plain_extend_loop _, loop _ _ _ ?_ hS₅ fun s'' q => ⟨rfl, q⟩⟩
    exact ⟨_, _, rfl, htk, fun c o e => (Heap.get?_update_other _ _ (Ne.symm (hSn c o e))).trans ((Heap.get?_update_other _ _ (Ne.symm (hSn c o e))).trans (k2.heap e))⟩
  · exact wpAny_pure ⟨plainId_quiet F.plain_extend_loop _, loop _ _ _ k3 hS₂ fun s'' q => ⟨rfl, q⟩⟩
end
end Z

set_option Elab.async false
set_option linter.all false
set_option maxRecDepth 100000
set_option maxHeartbeats 4000000
namespace Z
open PySem PySem.Spec PyProof.Rows L2 RT

theorem rt_nolen : typeLookup (.type "reversed") "__len__" = pure none := by rw [typeLookup_type, builtinLookup_eq_fast]; kernel_rfl
theorem slot_rt_hint : Slot "reversed" "__length_hint__" "reversed.__length_hint__" :=
  .of (owner := "reversed") (n := "__length_hint__") (by rw [typeLookup_type, builtinLookup_eq_fast]; kernel_rfl) (by decide +kernel) (by decide +kernel) (by decide +kernel)
    (by first | exact .inl (by decide +kernel) | exact .inr (by decide +kernel)) (by rw [isSubtype_type]; kernel_rfl)
theorem entry_rt_hint : entryFor table "reversed.__length_hint__" = some Builtin.«reversed.__length_hint__» := entryFor_of_tree (by kernel_rfl)
theorem args_rt_hint (a : Value) : argsOk "reversed.__length_hint__" ⟨[a], []⟩ := by
  unfold argsOk; rw [signature?_of (id := "reversed.__length_hint__") (n := ['_', '_', 't', 'n', 'i', 'h', '_', 'h', 't', 'g', 'n', 'e', 'l', '_', '_']) (o := ['d', 'e', 's', 'r', 'e', 'v', 'e', 'r']) (by kernel_rfl) owner_rt]; kernel_rfl
section
variable {prog : Program} {w : World} {A : Around} {E : Value → Shared → Prop} {s : Shared}
theorem hint_rt {it t : Addr} {items : Array Value} {Q : Bool → Shared → Prop} (hit : IsRt s.heap it t ((items.size : Int) - 1)) (ht : IsTup s.heap t items) (hsz : items.size ≤ sizeLine)
    (hQ : ∀ b tk, s.toks ≤ tk → Q b { s with toks := tk }) : wpAny (model prog w) A (Builtin.List.listLengthHint (.ref it)) Q E s := by
  obtain ⟨o, ho, hc, hd⟩ := id hit
  have hT := hit.typeIs
  have hz := hsz
  rw [sizeLine_eq] at hsz
  unfold Builtin.List.listLengthHint
  refine wpAny_bind (wpAny_specialOf hT rt_nolen ?_)
  show wpAny _ A (specialOf (Value.ref it) (Str.ofString "__length_hint__") >>= _) _ _ _
  refine wpAny_bind (wpAny_specialOf hT slot_rt_hint.lookup ?_)
  generalize hid : ("reversed.__length_hint__" : String) = id0
  wp_delta
  rw [show splitId id0 = some ("reversed", "__length_hint__") from by subst hid; decide +kernel]
  subst hid
  refine wpAny_bind (wpAny_isInstance (b := true) hT (by rw [isSubtype_type]; kernel_rfl) ?_)
  refine wpAny_ite_split (fun hab => absurd hab (by decide)) (fun _ => ?_)
  refine wpAny_ite_split (fun hab => absurd hab (by decide +kernel)) (fun _ => ?_)
  refine wpAny_bind (wpAny_rule ?_)
  rw [slot_rt_hint.bind]
  refine wpAny_bind (wpAny_pure ?_)
  dsimp only
  refine wpAny_bind (wpAny_attempt (wpAny_call_entry slot_rt_hint hT entry_rt_hint ?_ (args_rt_hint _)))
  unfold Builtin.«reversed.__length_hint__»
  refine wpAny_bind (wpAny_of_eq (a := Value.ref it) rfl ?_)
  refine wpAny_bind (wpAny_field ho hd (x := .ref t) rfl ?_)
  rw [if_neg (show ¬ ((Value.ref t == Value.none) = true) from Bool.false_ne_true)]
  refine wpAny_bind (len_tuple ht (by omega) ?_)
  refine wpAny_bind (wpAny_of_eq (a := some ((items.size : Nat) : Int)) rfl ?_)
  dsimp only
  refine wpAny_bind (wpAny_field (s := { s with toks := s.toks + 1 + 1 }) ho hd (x := rawInt ((items.size : Int) - 1)) rfl ?_)
  show wpAny _ _ (if ((items.size : Nat) : Int) < ((items.size : Int) - 1) + 1 then _ else _) _ _ _
  rw [if_neg (by omega)]
  unfold retInt
  refine wpAny_bind (wpAny_mkInt ?_)
  refine wpAny_pure ⟨_, rfl, ?_⟩
  dsimp only
  refine wpAny_bind (wpAny_of_eq (a := some (((items.size : Nat) : Int) - 1 + 1)) rfl ?_)
  dsimp only
  have e1 : ((items.size : Nat) : Int) - 1 + 1 = (items.size : Int) := by omega
  rw [e1]
  have f1 : Builtin.List.listFitsIndex ((items.size : Nat) : Int) = true := by
    unfold Builtin.List.listFitsIndex
    rw [Bool.and_eq_true, decide_eq_true_eq, decide_eq_true_eq]
    omega
  have f2 : Builtin.List.listTooLong ((items.size : Nat) : Int).toNat = false := by
    unfold Builtin.List.listTooLong
    rw [decide_eq_false_iff_not, Int.toNat_natCast]
    exact Nat.not_lt.mpr hz
  rw [f1, f2, if_neg (by decide), if_neg (by omega), if_neg (by decide)]
  exact wpAny_pure (hQ _ _ (by show s.toks ≤ s.toks + 1 + 1 + 1; omega))
theorem walks_tupRev (hh : A.handled = none) (I t : Addr) (hne : t ≠ I) (items : Array Value) (hsz : items.size ≤ sizeLine) :
    Walks prog w A I [I, t] [I] items.size (fun i v => items[items.size - 1 - i]? = some v) (fun i h => i ≤ items.size ∧ IsRt h I t ((items.size : Int) - 1 - (i : Int)) ∧ IsTup h t items) where
  sub := fun b hb => by simp at hb; simp [hb]
  frame := fun _ _ _ x hk => ⟨x.1, x.2.1.at fun o e => hk I (by simp) o e, let ⟨o, ho, r⟩ := x.2.2; ⟨o, hk t (by simp) o ho, r⟩⟩
  item := fun i s Q E hi x hQ => by
    have e : (items.size : Int) - 1 - (i : Int) = ((items.size - 1 - i : Nat) : Int) := by omega
    have hit := x.2.1
    rw [e] at hit
    have hx : items[items.size - 1 - i]? = some (items[items.size - 1 - i]'(by omega)) := Array.getElem?_eq_getElem (by omega)
    refine next_rt_item hit x.2.2 hx hsz fun h' hit' hs' => ?_
    have e2 : ((items.size - 1 - i : Nat) : Int) - 1 = (items.size : Int) - 1 - ((i + 1 : Nat) : Int) := by omega
    rw [e2] at hit'
    exact hQ _ h' _ hx ⟨hi, hit', let ⟨o, ho, r⟩ := x.2.2; ⟨o, (hs'.2 t hne).trans ho, r⟩⟩ fun b o hb eo => hs'.extBut b o (fun h => hb (by simp [h])) eo
  done := fun s Q E x hQ => by
    have e : (items.size : Int) - 1 - (items.size : Int) = -1 := by omega
    have hit := x.2.1
    rw [e] at hit
    exact next_rt_end hh hit fun h' he' => hQ h' s.toks fun b o hb eo => he' b o (fun h => hb (by simp [h])) eo
  self := fun _ _ _ _ x hQ => iter_rt x.2.1 hQ
theorem call_list_rt {it t : Addr} {items : Array Value} {Q : Value → Shared → Prop} (hh : A.handled = none) (hit : IsRt s.heap it t ((items.size : Int) - 1)) (ht : IsTup s.heap t items) (hne : t ≠ it) (hn : items.size ≤ sizeLine)
    (hQ : ∀ (h' : Heap) (tk : Nat) (acc : Array Value) (c : Nat), (∀ b o, b ≠ it → s.heap.get? b = some o → h'.get? b = some o) → h'.get? s.heap.objs.size = some { cls := .type "list", data := .seq acc c } →
      ItemsOf (fun i v => items[items.size - 1 - i]? = some v) acc items.size → Q (.ref s.heap.objs.size) { s with heap := h', toks := tk }) :
    wpAny (model prog w) A (call (.type "list") [.ref it]) Q E s := by
  have kt : ∀ s', KeepZ s s' → IsTup s'.heap t items := fun s' k => let ⟨o, ho, r⟩ := ht; ⟨o, k.heap ho, r⟩
  obtain ⟨oi, hoi, _⟩ := id hit
  obtain ⟨ot, hot, _⟩ := id ht
  have hSf : s.heap.objs.size ∉ [it, t] := by
    simp only [List.mem_cons, List.not_mem_nil, or_false, not_or]
    exact ⟨Nat.ne_of_gt (Heap.lt_size hoi), Nat.ne_of_gt (Heap.lt_size hot)⟩
  refine list_any hit.typeIs (by decide) (by decide) (fun A E s' Q k q => iter_rt (hit.at fun o e => k.heap e) q) (fun A E s' Q k q => hint_rt (hit.at fun o e => k.heap e) (kt s' k) hn q) fun R s' c k hS hR => ?_
  have W := (walks_tupRev (prog := prog) (w := w) (A := A.in1.in1) hh it t hne items hn).toS
  have e0 : ((items.size : Nat) : Int) - 1 - ((0 : Nat) : Int) = (items.size : Int) - 1 := by omega
  refine codeAny_extend_loopS W hn _ hSf _ items.size 0 _ _ _ rfl (Nat.zero_le _) ⟨Nat.zero_le _, by rw [e0]; exact hit.at fun o e => k.heap e, kt s' k⟩ hS (ItemsOf.nil _) fun s'' acc' c' hm hS' hacc => hR _ ?_
  obtain ⟨h1, t1, rfl, ht1, hk1⟩ := k
  rw [Moved.eq_with hm]
  refine hQ s''.heap s''.toks acc' c' (fun b o hb e => hm.heap b o (fun hmem => ?_) (hk1 b o e)) hS' hacc
  rcases List.mem_cons.mp hmem with e' | hmem
  · exact absurd (Heap.lt_size e) (by rw [e']; exact Nat.lt_irrefl _)
  · exact hb (List.mem_singleton.mp hmem)
theorem hint_rl {it l : Addr} {i : Int} {Q : Bool → Shared → Prop} (hit : s.heap.IsRevIter it l i)
    (hQ : ∀ b tk, s.toks ≤ tk → Q b { s with toks := tk }) : wpAny (model prog w) A (Builtin.List.listLengthHint (.ref it)) Q E s := by
  have hT := hit.typeIs
  unfold Builtin.List.listLengthHint
  refine wpAny_bind (wpAny_specialOf hT nolen_lri ?_)
  show wpAny _ A (specialOf (Value.ref it) (Str.ofString "__length_hint__") >>= _) _ _ _
  refine wpAny_bind (wpAny_specialOf hT hint_lri ?_)
  generalize hid : ("list_reverseiterator.__length_hint__" : String) = id0
  wp_delta
  rw [show splitId id0 = some ("list_reverseiterator", "__length_hint__") from by subst hid; decide +kernel]
  subst hid
  refine wpAny_bind (wpAny_isInstance (b := true) hT (by rw [isSubtype_type]; kernel_rfl) ?_)
  exact wpAny_pure (hQ _ _ (Nat.le_refl _))
theorem call_list_rl {it l : Addr} {items : Array Value} {Q : Value → Shared → Prop} (hh : A.handled = none) (hit : s.heap.IsRevIter it l ((items.size : Int) - 1)) (hl : s.heap.IsList l items) (hne : l ≠ it) (hn : items.size ≤ sizeLine)
    (hQ : ∀ (h' : Heap) (tk : Nat) (acc : Array Value) (c : Nat), (∀ b o, b ≠ it → s.heap.get? b = some o → h'.get? b = some o) → h'.get? s.heap.objs.size = some { cls := .type "list", data := .seq acc c } →
      ItemsOf (fun i v => items[items.size - 1 - i]? = some v) acc items.size → Q (.ref s.heap.objs.size) { s with heap := h', toks := tk }) :
    wpAny (model prog w) A (call (.type "list") [.ref it]) Q E s := by
  have kt : ∀ s', KeepZ s s' → s'.heap.IsList l items := fun s' k => hl.at fun o e => k.heap e
  obtain ⟨oi, hoi, _⟩ := id hit
  obtain ⟨ot, hot, _⟩ := id hl
  have hSf : s.heap.objs.size ∉ [it, l] := by
    simp only [List.mem_cons, List.not_mem_nil, or_false, not_or]
    exact ⟨Nat.ne_of_gt (Heap.lt_size hoi), Nat.ne_of_gt (Heap.lt_size hot)⟩
  refine list_any hit.typeIs (by decide) (by decide) (fun A E s' Q k q => wpAny_pyIter_revIter (hit.at fun o e => k.heap e) q) (fun A E s' Q k q => hint_rl (hit.at fun o e => k.heap e) q) fun R s' c k hS hR => ?_
  have W := (Walks.listRev (prog := prog) (w := w) (A := A.in1.in1) hh it l hne items).toS
  have e0 : ((items.size : Nat) : Int) - 1 - ((0 : Nat) : Int) = (items.size : Int) - 1 := by omega
  refine codeAny_extend_loopS W hn _ hSf _ items.size 0 _ _ _ rfl (Nat.zero_le _) ⟨Nat.zero_le _, by rw [e0]; exact hit.at fun o e => k.heap e, kt s' k⟩ hS (ItemsOf.nil _) fun s'' acc' c' hm hS' hacc => hR _ ?_
  obtain ⟨h1, t1, rfl, ht1, hk1⟩ := k
  rw [Moved.eq_with hm]
  refine hQ s''.heap s''.toks acc' c' (fun b o hb e => hm.heap b o (fun hmem => ?_) (hk1 b o e)) hS' hacc
  rcases List.mem_cons.mp hmem with e' | hmem
  · exact absurd (Heap.lt_size e) (by rw [e']; exact Nat.lt_irrefl _)
  · exact hb (List.mem_singleton.mp hmem)
end
end Z

set_option Elab.async false
set_option linter.all false
set_option maxRecDepth 100000
set_option maxHeartbeats 4000000
namespace Z
open PySem PySem.Spec PyProof.Rows L2 RZ

theorem zip_nolen : typeLookup (.type "zip") "__len__" = pure none := by rw [typeLookup_type, builtinLookup_eq_fast]; kernel_rfl
theorem zip_nohint : typeLookup (.type "zip") "__length_hint__" = pure none := by rw [typeLookup_type, builtinLookup_eq_fast]; kernel_rfl
section
variable {prog : Program} {w : World} {A : Around} {E : Value → Shared → Prop} {s : Shared}
theorem hint_zip {z : Addr} {Q : Bool → Shared → Prop} (hT : s.TypeIs (.ref z) "zip") (hQ : ∀ b tk, s.toks ≤ tk → Q b { s with toks := tk }) : wpAny (model prog w) A (Builtin.List.listLengthHint (.ref z)) Q E s := by
  unfold Builtin.List.listLengthHint
  refine wpAny_bind (wpAny_specialOf hT zip_nolen ?_)
  show wpAny _ A (specialOf (Value.ref z) (Str.ofString "__length_hint__") >>= _) _ _ _
  refine wpAny_bind (wpAny_specialOf hT zip_nohint ?_)
  exact wpAny_pure (hQ _ _ (Nat.le_refl _))
theorem zipT_next_item_held {z TI TO T i1 i2 l1 l2 : Addr} {f : Bool} {oT : Obj} {k1 k2 : Nat} {xs ys : Array Value} {x y : Value} {Q : Value → Shared → Prop} (D : ZipApart z TI TO i1 i2 l1 l2)
    (hz : IsZipHeld s.heap z TI TO T f) (hT : s.heap.get? T = some oT) (hTI : IsPair s.heap TI (.ref i1) (.ref i2))
    (h1 : s.heap.IsTupleIter i1 l1 k1) (h2 : s.heap.IsTupleIter i2 l2 k2) (hl1 : s.heap.IsTuple l1 xs) (hl2 : s.heap.IsTuple l2 ys) (hx : xs[k1]? = some x) (hy : ys[k2]? = some y)
    (hQ : ∀ h', IsZipHeld h' z TI TO T true → h'.IsTupleIter i1 l1 (k1 + 1) → h'.IsTupleIter i2 l2 (k2 + 1) → IsPair h' s.heap.objs.size x y → h'.objs.size = s.heap.objs.size + 1 →
      (∀ c o, c ≠ z → c ≠ i1 → c ≠ i2 → s.heap.get? c = some o → h'.get? c = some o) → Q (.ref s.heap.objs.size) { s with heap := h' }) :
    wpAny (model prog w) A (Builtin.«zip.__next__» ⟨[.ref z], []⟩) (fun fin s' => ∃ v, fin = .done (.ret v) ∧ Q v s') E s := by
  show wpAny _ _ (field (.ref z) 2 >>= _) _ _ _
  refine wpAny_bind (wpAny_field hz rfl (x := .bool false) rfl ?_)
  show wpAny _ _ (field (.ref z) 3 >>= _) _ _ _
  refine wpAny_bind (wpAny_field hz rfl (x := .ref TI) rfl ?_)
  refine wpAny_bind (wpAny_seqItems hTI rfl ?_)
  show wpAny _ _ (Builtin.SmallTypes.ownedTupleIsFree (.ref z) >>= _) _ _ _
  refine wpAny_bind (wpAny_tupleHeld_zip hz hT fun h₁ hz₁ hs₁ => ?_)
  simp only [Bool.false_eq_true, if_false]
  refine wpAny_bind ?_
  rw [← Array.forIn_toList]
  simp only [List.forIn_cons, List.forIn_nil]
  refine wpAny_bind (wpAny_bind (wpAny_holding ?_))
  show wpAny _ _ (Builtin.SmallTypes.nextOf (.ref i1) >>= _) _ _ _
  refine wpAny_bind (nextOf_tuple_item (s := { s with heap := h₁ }) (h1.extBut hs₁.extBut D.i1z) (hl1.extBut hs₁.extBut D.l1z) hx fun h₂ h1₂ hs₂ => wpAny_pure ?_)
  refine wpAny_pure ?_
  refine wpAny_bind (wpAny_bind (wpAny_holding ?_))
  show wpAny _ _ (Builtin.SmallTypes.nextOf (.ref i2) >>= _) _ _ _
  refine wpAny_bind (nextOf_tuple_item (s := { s with heap := h₂ }) ((h2.extBut hs₁.extBut D.i2z).extBut hs₂.extBut D.i12.symm) ((hl2.extBut hs₁.extBut D.l2z).extBut hs₂.extBut D.l2i1) hy fun h₃ h2₃ hs₃ => wpAny_pure ?_)
  refine wpAny_pure (wpAny_pure ?_)
  show wpAny _ _ (newTuple [x, y] >>= _) _ _ _
  refine wpAny_bind (wpAny_newTuple ?_)
  have hsz : h₃.objs.size = s.heap.objs.size := by rw [hs₃.1, hs₂.1, hs₁.1]
  have hz₃ : IsZipHeld h₃ z TI TO T true := hs₃.extBut _ _ D.i2z.symm (hs₂.extBut _ _ D.i1z.symm hz₁)
  have hk : ∀ c o, c ≠ z → c ≠ i1 → c ≠ i2 → s.heap.get? c = some o → h₃.get? c = some o := fun c o c1 c2 c3 e => hs₃.extBut _ _ c3 (hs₂.extBut _ _ c2 (hs₁.extBut _ _ c1 e))
  have h1₃ : h₃.IsTupleIter i1 l1 (k1 + 1) := h1₂.extBut hs₃.extBut D.i12
  refine wpAny_pure ⟨_, rfl, ?_⟩
  show Q (.ref h₃.objs.size) _
  have hp : IsPair (h₃.push { cls := .type "tuple", data := .seq #[x, y] }) h₃.objs.size x y := Heap.get?_push_size _ rfl
  have hz4 : (h₃.push { cls := .type "tuple", data := .seq #[x, y] }).objs.size = h₃.objs.size + 1 := Heap.size_push ..
  rw [hsz] at hp hz4 ⊢
  exact hQ _ (Heap.get?_push_of_some _ hz₃) (h1₃.at fun o e => Heap.get?_push_of_some _ e) (h2₃.at fun o e => Heap.get?_push_of_some _ e) hp hz4 fun c o c1 c2 c3 e => Heap.get?_push_of_some _ (hk c o c1 c2 c3 e)

theorem zipT_next_end_held {z TI TO T i1 i2 l1 l2 : Addr} {f : Bool} {oT : Obj} {k1 k2 : Nat} {xs ys : Array Value} {Q : Fin → Shared → Prop} (hh : A.handled = none) (D : ZipApart z TI TO i1 i2 l1 l2)
    (hz : IsZipHeld s.heap z TI TO T f) (hT : s.heap.get? T = some oT) (hTI : IsPair s.heap TI (.ref i1) (.ref i2))
    (h1 : s.heap.IsTupleIter i1 l1 k1) (h2 : s.heap.IsTupleIter i2 l2 k2) (hl1 : s.heap.IsTuple l1 xs) (hl2 : s.heap.IsTuple l2 ys) (hend : xs[k1]? = none ∨ ys[k2]? = none)
    (hE : ∀ h' e, (∀ c o, c ≠ z → c ≠ i1 → c ≠ i2 → s.heap.get? c = some o → h'.get? c = some o) → (∃ o, h'.get? e = some o ∧ o.cls = .type "StopIteration") → E (.ref e) { s with heap := h' }) :
    wpAny (model prog w) A (Builtin.«zip.__next__» ⟨[.ref z], []⟩) Q E s := by
  show wpAny _ _ (field (.ref z) 2 >>= _) _ _ _
  refine wpAny_bind (wpAny_field hz rfl (x := .bool false) rfl ?_)
  show wpAny _ _ (field (.ref z) 3 >>= _) _ _ _
  refine wpAny_bind (wpAny_field hz rfl (x := .ref TI) rfl ?_)
  refine wpAny_bind (wpAny_seqItems hTI rfl ?_)
  show wpAny _ _ (Builtin.SmallTypes.ownedTupleIsFree (.ref z) >>= _) _ _ _
  refine wpAny_bind (wpAny_tupleHeld_zip hz hT fun h₁ hz₁ hs₁ => ?_)
  simp only [Bool.false_eq_true, if_false]
  refine wpAny_bind ?_
  rw [← Array.forIn_toList]
  simp only [List.forIn_cons, List.forIn_nil]
  refine wpAny_bind (wpAny_bind (wpAny_holding ?_))
  show wpAny _ _ (Builtin.SmallTypes.nextOf (.ref i1) >>= _) _ _ _
  cases hx : xs[k1]? with
  | none =>
    refine wpAny_bind (nextOf_tuple_end (s := { s with heap := h₁ }) hh (h1.extBut hs₁.extBut D.i1z) (hl1.extBut hs₁.extBut D.l1z) hx fun h₂ e hs₂ he => ?_)
    exact hE h₂ e (fun c o c1 c2 _ x => hs₂ _ _ c2 (hs₁.extBut _ _ c1 x)) he
  | some x =>
    have hy : ys[k2]? = none := by rcases hend with h | h; rw [hx] at h; cases h; exact h
    refine wpAny_bind (nextOf_tuple_item (s := { s with heap := h₁ }) (h1.extBut hs₁.extBut D.i1z) (hl1.extBut hs₁.extBut D.l1z) hx fun h₂ h1₂ hs₂ => wpAny_pure ?_)
    refine wpAny_pure ?_
    refine wpAny_bind (wpAny_bind (wpAny_holding ?_))
    show wpAny _ _ (Builtin.SmallTypes.nextOf (.ref i2) >>= _) _ _ _
    refine wpAny_bind (nextOf_tuple_end (s := { s with heap := h₂ }) hh ((h2.extBut hs₁.extBut D.i2z).extBut hs₂.extBut D.i12.symm) ((hl2.extBut hs₁.extBut D.l2z).extBut hs₂.extBut D.l2i1) hy fun h₃ e hs₃ he => ?_)
    exact hE h₃ e (fun c o c1 c2 c3 x => hs₃ _ _ c3 (hs₂.extBut _ _ c2 (hs₁.extBut _ _ c1 x))) he

theorem pyNext_zipT_item_held {z TI TO T i1 i2 l1 l2 : Addr} {f : Bool} {oT : Obj} {k1 k2 : Nat} {xs ys : Array Value} {x y : Value} {Q : Option Value → Shared → Prop} (D : ZipApart z TI TO i1 i2 l1 l2)
    (hz : IsZipHeld s.heap z TI TO T f) (hT : s.heap.get? T = some oT) (hTI : IsPair s.heap TI (.ref i1) (.ref i2))
    (h1 : s.heap.IsTupleIter i1 l1 k1) (h2 : s.heap.IsTupleIter i2 l2 k2) (hl1 : s.heap.IsTuple l1 xs) (hl2 : s.heap.IsTuple l2 ys) (hx : xs[k1]? = some x) (hy : ys[k2]? = some y)
    (hQ : ∀ h', IsZipHeld h' z TI TO T true → h'.IsTupleIter i1 l1 (k1 + 1) → h'.IsTupleIter i2 l2 (k2 + 1) → IsPair h' s.heap.objs.size x y → h'.objs.size = s.heap.objs.size + 1 →
      (∀ c o, c ≠ z → c ≠ i1 → c ≠ i2 → s.heap.get? c = some o → h'.get? c = some o) → Q (some (.ref s.heap.objs.size)) { s with heap := h' }) :
    wpAny (model prog w) A (pyNext (.ref z)) Q E s := by
  have hTy : s.TypeIs (.ref z) "zip" := ⟨_, hz, rfl⟩
  unfold pyNext
  exact wpAny_bind (wpAny_attempt (wpAny_callSpecial?_slot (name := Str.ofString "__next__") hTy F.slot_zip_next
    (wpAny_call_entry F.slot_zip_next hTy F.entry_zip_next
      (zipT_next_item_held D hz hT hTI h1 h2 hl1 hl2 hx hy fun h' a1 a3 a4 a5 a6 a7 => wpAny_pure (hQ h' a1 a3 a4 a5 a6 a7)) (F.args_zip_next_1 _))))
theorem pyNext_zipT_end_held {z TI TO T i1 i2 l1 l2 : Addr} {f : Bool} {oT : Obj} {k1 k2 : Nat} {xs ys : Array Value} {Q : Option Value → Shared → Prop} (hh : A.handled = none) (D : ZipApart z TI TO i1 i2 l1 l2)
    (hz : IsZipHeld s.heap z TI TO T f) (hT : s.heap.get? T = some oT) (hTI : IsPair s.heap TI (.ref i1) (.ref i2))
    (h1 : s.heap.IsTupleIter i1 l1 k1) (h2 : s.heap.IsTupleIter i2 l2 k2) (hl1 : s.heap.IsTuple l1 xs) (hl2 : s.heap.IsTuple l2 ys) (hend : xs[k1]? = none ∨ ys[k2]? = none)
    (hQ : ∀ h', (∀ c o, c ≠ z → c ≠ i1 → c ≠ i2 → s.heap.get? c = some o → h'.get? c = some o) → Q none { s with heap := h' }) : wpAny (model prog w) A (pyNext (.ref z)) Q E s := by
  have hTy : s.TypeIs (.ref z) "zip" := ⟨_, hz, rfl⟩
  unfold pyNext
  refine wpAny_bind (wpAny_attempt (wpAny_callSpecial?_slot (name := Str.ofString "__next__") hTy F.slot_zip_next
    (wpAny_call_entry F.slot_zip_next hTy F.entry_zip_next (zipT_next_end_held hh D hz hT hTI h1 h2 hl1 hl2 hend fun h' e hk he => ?_) (F.args_zip_next_1 _))))
  obtain ⟨o, ho, hc⟩ := he
  refine wpAny_bind (wpAny_isInstance (T := "StopIteration") (b := true) ⟨o, ho, hc⟩ isSubtype_stop ?_)
  exact wpAny_pure (hQ _ hk)

structure ZJ (P : Program) (w : World) (H0 : Hp) (s0 : Shared) (z TI TO i1 i2 l1 l2 S : Addr) (xs ys : Array Value) (Xs Ys : List V) (i : Nat) (acc : Array Value) (s : Shared) : Prop where
  eq : s = { s0 with heap := s.heap, toks := s.toks }
  keep : ∀ b o, s0.heap.get? b = some o → s.heap.get? b = some o
  lst : ∃ c, s.heap.get? S = some { cls := .type "list", data := .seq acc c }
  ti : IsPair s.heap TI (.ref i1) (.ref i2)
  it1 : s.heap.IsTupleIter i1 l1 i
  it2 : s.heap.IsTupleIter i2 l2 i
  zs : (IsZip s.heap z TI TO .none ∧ ∃ a b, IsPair s.heap TO a b) ∨ ∃ T f oT, IsZipHeld s.heap z TI TO T f ∧ s.heap.get? T = some oT ∧ T ≠ z ∧ T ≠ i1 ∧ T ≠ i2 ∧ T ≠ S
  tolt : TO < s.heap.objs.size
  len : acc.size = i
  got : ∃ (H : Hp) (vs : List V), (∀ b o, H0 b = some o → H b = some o) ∧ Vals vs acc.toList ∧
    (∀ b o, H b = some o → H0 b = none → s0.heap.objs.size ≤ b ∧ b ≠ S ∧ b ≠ z ∧ b ≠ TO ∧ b ≠ i1 ∧ b ≠ i2 ∧ ∃ x y u v, o = .tup [x, y] ∧ RelV x u ∧ RelV y v ∧ IsPair s.heap b u v) ∧
    ∀ (j : Nat) v, vs[j]? = some v → ∃ t x y, v = .ref t ∧ H t = some (.tup [x, y]) ∧ Xs[j]? = some x ∧ Ys[j]? = some y
end
end Z

set_option Elab.async false
set_option linter.all false
set_option maxRecDepth 100000
set_option maxHeartbeats 4000000
namespace Z
open PySem PySem.Spec PyProof.Rows L2 RZ
section
variable {prog : Program} {w : World} {A : Around} {E : Value → Shared → Prop} {s0 : Shared} {R : Result → Shared → Prop}
variable {H0 : Hp} {z TI TO i1 i2 l1 l2 S : Addr} {xs ys : Array Value} {Xs Ys : List V}

theorem vals_back : ∀ {xs : List V} {us : List Value} {i : Nat} {u : Value}, Vals xs us → us[i]? = some u → ∃ x, xs[i]? = some x ∧ RelV x u := fun {xs us i u} r e => by
  have hi : i < us.length := by
    by_cases h : i < us.length
    · exact h
    · rw [List.getElem?_eq_none (by omega)] at e; cases e
  have e1 : xs[i]? = some (xs[i]'(by rw [r.length]; exact hi)) := List.getElem?_eq_getElem _
  obtain ⟨u', e2, r2⟩ := r.get e1
  rw [e] at e2
  cases e2
  exact ⟨_, e1, r2⟩
theorem zj_push {i : Nat} {acc : Array Value} {s s' : Shared} {x y : Value} {c : Nat} (D : ZipApart z TI TO i1 i2 l1 l2) (hSz : S ≠ z) (hSTI : S ≠ TI) (hSTO : S ≠ TO) (hS1 : S ≠ i1) (hS2 : S ≠ i2)
    (f0 : s0.heap.objs.size ≤ S) (f1 : s0.heap.objs.size ≤ z) (f2 : s0.heap.objs.size ≤ TO) (f3 : s0.heap.objs.size ≤ i1) (f4 : s0.heap.objs.size ≤ i2)
    (hb0 : ∀ b o, H0 b = some o → b < s0.heap.objs.size) (hTO : s.heap.objs.size ≠ TO) (hsz' : TO < (s'.heap.update S (Obj.mapSeq (·.push (.ref s.heap.objs.size)))).objs.size) (r1 : Vals Xs xs.toList) (r2 : Vals Ys ys.toList) (hx : xs[i]? = some x) (hy : ys[i]? = some y) (J : ZJ prog w H0 s0 z TI TO i1 i2 l1 l2 S xs ys Xs Ys i acc s)
    (hk : ∀ c o, c ≠ z → c ≠ TO → c ≠ i1 → c ≠ i2 → s.heap.get? c = some o → s'.heap.get? c = some o) (hS : s'.heap.get? S = some { cls := .type "list", data := .seq acc c })
    (heq : s' = { s with heap := s'.heap, toks := s'.toks }) (a3 : s'.heap.IsTupleIter i1 l1 (i + 1)) (a4 : s'.heap.IsTupleIter i2 l2 (i + 1)) (hp : IsPair s'.heap s.heap.objs.size x y)
    (hz : ∃ T f oT, IsZipHeld s'.heap z TI TO T f ∧ s'.heap.get? T = some oT ∧ T ≠ z ∧ T ≠ i1 ∧ T ≠ i2 ∧ T ≠ S) {t' : Nat} :
    ZJ prog w H0 s0 z TI TO i1 i2 l1 l2 S xs ys Xs Ys (i + 1) (acc.push (.ref s.heap.objs.size)) { s' with heap := s'.heap.update S (Obj.mapSeq (·.push (.ref s.heap.objs.size))), toks := t' } := by
  have up : ∀ b o, b ≠ S → s'.heap.get? b = some o → (s'.heap.update S (Obj.mapSeq (·.push (.ref s.heap.objs.size)))).get? b = some o := fun b o hb e => (Heap.get?_update_other _ _ (Ne.symm hb)).trans e
  have lt : ∀ {c o}, s.heap.get? c = some o → c < s.heap.objs.size := fun e => Heap.lt_size e
  obtain ⟨cS, hS0⟩ := J.lst
  have n0 : ∀ b o, s0.heap.get? b = some o → b < s0.heap.objs.size := fun b o e => Heap.lt_size e
  have hs0 : s0.heap.objs.size ≤ s.heap.objs.size := Nat.le_trans f0 (Nat.le_of_lt (lt hS0))
  have nz : z < s.heap.objs.size := by
    rcases J.zs with ⟨h, _⟩ | ⟨_, _, _, h, _⟩ <;> exact lt h
  have n1 : i1 < s.heap.objs.size := by obtain ⟨_, e, _⟩ := J.it1; exact lt e
  have n2 : i2 < s.heap.objs.size := by obtain ⟨_, e, _⟩ := J.it2; exact lt e
  have nS : S < s.heap.objs.size := lt hS0
  refine { eq := ?_, keep := ?_, lst := ⟨_, Heap.get?_update_self _ hS rfl⟩, ti := ?_, it1 := ?_, it2 := ?_, zs := ?_, tolt := ?_, len := ?_, got := ?_ }
  · have e1 := J.eq
    have e2 : s'.gens = s0.gens ∧ s'.drawn = s0.drawn ∧ s'.os = s0.os := by
      rw [heq]
      show s.gens = _ ∧ s.drawn = _ ∧ s.os = _
      rw [e1]
      exact ⟨rfl, rfl, rfl⟩
    show ({ heap := _, gens := s'.gens, drawn := s'.drawn, toks := _, os := s'.os } : Shared) = _
    rw [e2.1, e2.2.1, e2.2.2]
  · intro b o e
    have hb := n0 b o e
    have hb' : ∀ {c : Addr}, s0.heap.objs.size ≤ c → b ≠ c := fun q => Nat.ne_of_lt (Nat.lt_of_lt_of_le hb q)
    exact up b o (hb' f0) (hk b o (hb' f1) (hb' f2) (hb' f3) (hb' f4) (J.keep b o e))
  · exact up _ _ hSTI.symm (hk _ _ D.TIz D.TITO D.TIi1 D.TIi2 J.ti)
  · exact a3.at fun o e => up _ o hS1.symm e
  · exact a4.at fun o e => up _ o hS2.symm e
  · obtain ⟨T, f, oT, q1, q2, q3, q4, q5, q6⟩ := hz
    exact .inr ⟨T, f, oT, up _ _ hSz.symm q1, up _ _ q6 q2, q3, q4, q5, q6⟩
  · exact hsz'
  · rw [Array.size_push, J.len]
  · obtain ⟨H, vs, hup, hv, hnew, hat⟩ := J.got
    have hx' : xs.toList[i]? = some x := by rw [Array.getElem?_toList]; exact hx
    have hy' : ys.toList[i]? = some y := by rw [Array.getElem?_toList]; exact hy
    obtain ⟨X, hX, rX⟩ := vals_back r1 hx'
    obtain ⟨Y, hY, rY⟩ := vals_back r2 hy'
    have hTn : H0 s.heap.objs.size = none ∨ True := .inr trivial
    have hfr : H s.heap.objs.size = none := by
      cases e : H s.heap.objs.size with
      | none => rfl
      | some o =>
        cases e0 : H0 s.heap.objs.size with
        | some o0 => exact absurd (hb0 _ _ e0) (Nat.not_lt.mpr hs0)
        | none =>
          obtain ⟨_, _, _, _, _, _, _, _, _, _, _, _, _, hp⟩ := hnew _ _ e e0
          exact absurd (lt hp) (Nat.lt_irrefl _)
    refine ⟨upd H s.heap.objs.size (.tup [X, Y]), vs ++ [.ref s.heap.objs.size], fun b o e => ?_, ?_, fun b o e e0 => ?_, fun j v e => ?_⟩
    · rw [upd_ne (ne_of_none (hup b o e) hfr)]
      exact hup b o e
    · rw [Array.toList_push]
      exact hv.append (.cons rfl .nil)
    · by_cases hb : b = s.heap.objs.size
      · subst hb
        rw [upd_same] at e
        cases e
        refine ⟨hs0, Nat.ne_of_gt nS, Nat.ne_of_gt nz, ?_, Nat.ne_of_gt n1, Nat.ne_of_gt n2, X, Y, x, y, rfl, rX, rY, up _ _ (Nat.ne_of_gt nS) hp⟩
        exact hTO
      · rw [upd_ne hb] at e
        obtain ⟨q0, q1, q2, q3, q4, q5, X', Y', u, v, rfl, q6, q7, q8⟩ := hnew b o e e0
        exact ⟨q0, q1, q2, q3, q4, q5, X', Y', u, v, rfl, q6, q7, up _ _ q1 (hk _ _ q2 q3 q4 q5 q8)⟩
    · have hl : vs.length = i := by rw [hv.length, Array.length_toList]; exact J.len
      rcases Nat.lt_trichotomy j vs.length with h | h | h
      · rw [List.getElem?_append_left h] at e
        obtain ⟨t, x', y', rfl, q1, q2, q3⟩ := hat j v e
        exact ⟨t, x', y', rfl, by rw [upd_ne (ne_of_none q1 hfr)]; exact q1, q2, q3⟩
      · subst h
        rw [List.getElem?_append_right (Nat.le_refl _), Nat.sub_self] at e
        simp at e
        subst e
        exact ⟨_, X, Y, rfl, upd_same, by rw [hl]; exact hX, by rw [hl]; exact hY⟩
      · rw [List.getElem?_eq_none (by rw [List.length_append, List.length_singleton]; omega)] at e
        cases e

theorem zip_loop (hh : A.handled = none) (D : ZipApart z TI TO i1 i2 l1 l2) (hSz : S ≠ z) (hSTI : S ≠ TI) (hSTO : S ≠ TO) (hS1 : S ≠ i1) (hS2 : S ≠ i2)
    (f0 : s0.heap.objs.size ≤ S) (f1 : s0.heap.objs.size ≤ z) (f2 : s0.heap.objs.size ≤ TO) (f3 : s0.heap.objs.size ≤ i1) (f4 : s0.heap.objs.size ≤ i2)
    (hb0 : ∀ b o, H0 b = some o → b < s0.heap.objs.size) (hl1 : s0.heap.IsTuple l1 xs) (hl2 : s0.heap.IsTuple l2 ys) (hn : xs.size ≤ sizeLine)
    (r1 : Vals Xs xs.toList) (r2 : Vals Ys ys.toList)
    (hR : ∀ acc s, s = { s0 with heap := s.heap, toks := s.toks } → (∀ b o, s0.heap.get? b = some o → s.heap.get? b = some o) → (∃ c, s.heap.get? S = some { cls := .type "list", data := .seq acc c }) → acc.size = min xs.size ys.size →
      (∃ (H : Hp) (vs : List V), (∀ b o, H0 b = some o → H b = some o) ∧ Vals vs acc.toList ∧
        (∀ b o, H b = some o → H0 b = none → s0.heap.objs.size ≤ b ∧ b ≠ S ∧ ∃ x y u v, o = .tup [x, y] ∧ RelV x u ∧ RelV y v ∧ IsPair s.heap b u v) ∧
        ∀ (j : Nat) v, vs[j]? = some v → ∃ t x y, v = .ref t ∧ H t = some (.tup [x, y]) ∧ Xs[j]? = some x ∧ Ys[j]? = some y) → R (.ok (.ret .none)) s) :
    ∀ (k i : Nat) (acc : Array Value) (s : Shared), min xs.size ys.size - i = k → i ≤ min xs.size ys.size → ZJ prog w H0 s0 z TI TO i1 i2 l1 l2 S xs ys Xs Ys i acc s →
    codeAny (model prog w) A (.builtin "list.extend.loop" ⟨[.ref S, .ref z, .none], []⟩) R s := by
  have n0 : ∀ b o, s0.heap.get? b = some o → b < s0.heap.objs.size := fun b o e => Heap.lt_size e
  intro k
  induction k with
  | zero =>
    intro i acc s hk hi J
    have hin : i = min xs.size ys.size := by omega
    have hend : xs[i]? = none ∨ ys[i]? = none := by
      rw [hin]
      rcases Nat.le_total xs.size ys.size with h | h
      · exact .inl (Array.getElem?_eq_none (by rw [Nat.min_eq_left h]; exact Nat.le_refl _))
      · exact .inr (Array.getElem?_eq_none (by rw [Nat.min_eq_right h]; exact Nat.le_refl _))
    refine codeAny_builtin F.entry_extend_loop ?_
    rw [Around.under_plainId F.plain_extend_loop _]
    show wpAny _ A.in1 (pyNext (.ref z) >>= _) _ _ s
    have fin : ∀ h', (∀ c o, c ≠ z → c ≠ TO → c ≠ i1 → c ≠ i2 → s.heap.get? c = some o → h'.get? c = some o) → R (.ok (.ret .none)) { s with heap := h' } := fun h' hk => by
      obtain ⟨cS, hS0⟩ := J.lst
      refine hR acc _ ?_ (fun b o e => ?_) ⟨cS, hk _ _ hSz hSTO hS1 hS2 hS0⟩ (J.len.trans hin) ?_
      · rw [J.eq]
      · have hb := n0 b o e
        have hb' : ∀ {c : Addr}, s0.heap.objs.size ≤ c → b ≠ c := fun q => Nat.ne_of_lt (Nat.lt_of_lt_of_le hb q)
        exact hk b o (hb' f1) (hb' f2) (hb' f3) (hb' f4) (J.keep b o e)
      · obtain ⟨H, vs, hup, hv, hnew, hat⟩ := J.got
        refine ⟨H, vs, hup, hv, fun b o e e0 => ?_, hat⟩
        obtain ⟨q0, q1, q2, q3, q4, q5, X', Y', u, v, rfl, q6, q7, q8⟩ := hnew b o e e0
        exact ⟨q0, q1, X', Y', u, v, rfl, q6, q7, hk _ _ q2 q3 q4 q5 q8⟩
    rcases J.zs with ⟨hz, a, b, hTO⟩ | ⟨T, f, oT, hz, hT, q3, q4, q5, q6⟩
    · exact wpAny_bind (pyNext_zipT_end hh D hz J.ti hTO J.it1 J.it2 (hl1.at fun o e => J.keep _ o e) (hl2.at fun o e => J.keep _ o e) hend fun h' hk => wpAny_pure (fin h' hk))
    · exact wpAny_bind (pyNext_zipT_end_held hh D hz hT J.ti J.it1 J.it2 (hl1.at fun o e => J.keep _ o e) (hl2.at fun o e => J.keep _ o e) hend fun h' hk => wpAny_pure (fin h' fun c o c1 _ c3 c4 e => hk c o c1 c3 c4 e))
  | succ k ih =>
    intro i acc s hk hi J
    have hix : i < xs.size := by omega
    have hiy : i < ys.size := by omega
    have ex := Array.getElem?_eq_getElem hix
    have ey := Array.getElem?_eq_getElem hiy
    refine codeAny_builtin F.entry_extend_loop ?_
    rw [Around.under_plainId F.plain_extend_loop _]
    show wpAny _ A.in1 (pyNext (.ref z) >>= _) _ _ s
    obtain ⟨cS, hS0⟩ := J.lst
    have hTO0 : TO < s.heap.objs.size := J.tolt
    have n1 : s.heap.objs.size ≠ i1 := by obtain ⟨_, e, _⟩ := J.it1; exact Nat.ne_of_gt (Heap.lt_size e)
    have n2 : s.heap.objs.size ≠ i2 := by obtain ⟨_, e, _⟩ := J.it2; exact Nat.ne_of_gt (Heap.lt_size e)
    have nS : s.heap.objs.size ≠ S := Nat.ne_of_gt (Heap.lt_size hS0)
    have step : ∀ h', h'.objs.size = s.heap.objs.size + 1 → (∀ c o, c ≠ z → c ≠ TO → c ≠ i1 → c ≠ i2 → s.heap.get? c = some o → h'.get? c = some o) → h'.IsTupleIter i1 l1 (i + 1) → h'.IsTupleIter i2 l2 (i + 1) → IsPair h' s.heap.objs.size xs[i] ys[i] →
        (∃ T f oT, IsZipHeld h' z TI TO T f ∧ h'.get? T = some oT ∧ T ≠ z ∧ T ≠ i1 ∧ T ≠ i2 ∧ T ≠ S) →
        wpAny (model prog w) A.in1 (updateSeq S (·.push (.ref s.heap.objs.size)) >>= fun _ => again (.builtin "list.extend.loop" ⟨[.ref S, .ref z, .none], []⟩))
          (fun fin s' => match fin with | .done f => R (.ok f) s' | .again c' => c'.quiet = true ∧ codeAny (model prog w) A c' R s') (fun e s' => R (.error e) s') { s with heap := h' } := fun h' hsz hk a3 a4 hp hz => by
      have hS' : h'.get? S = some { cls := .type "list", data := .seq acc cS } := hk _ _ hSz hSTO hS1 hS2 hS0
      refine wpAny_bind ?_
      refine wpAny_updateSeq (s := { s with heap := h' }) hS' rfl (wpAny_pure ⟨plainId_quiet F.plain_extend_loop _, ih (i + 1) (acc.push (.ref s.heap.objs.size)) _ (by omega) (by omega) (zj_push (s' := { s with heap := h' }) D hSz hSTI hSTO hS1 hS2 f0 f1 f2 f3 f4 hb0 (Nat.ne_of_gt hTO0) (by rw [(Heap.SameBut.update (h := h') (a := S) (f := Obj.mapSeq (·.push (.ref s.heap.objs.size)))).1, hsz]; exact Nat.lt_succ_of_lt hTO0) r1 r2 ex ey J hk hS' rfl a3 a4 hp hz)⟩)
        (by rw [J.len]; omega) (by show (acc.push _).size ≤ sizeLine + 1; rw [Array.size_push, J.len]; omega)
    rcases J.zs with ⟨hz, a, b, hTO⟩ | ⟨T, f, oT, hz, hT, q3, q4, q5, q6⟩
    · refine wpAny_bind (pyNext_zipT_item D hz J.ti hTO J.it1 J.it2 (hl1.at fun o e => J.keep _ o e) (hl2.at fun o e => J.keep _ o e) ex ey fun h' a1 a2 a3 a4 a5 a6 hk => ?_)
      exact step h' a6 hk a3 a4 a5 ⟨_, false, _, a1, a5, Nat.ne_of_gt (Heap.lt_size hz), n1, n2, nS⟩
    · refine wpAny_bind (pyNext_zipT_item_held D hz hT J.ti J.it1 J.it2 (hl1.at fun o e => J.keep _ o e) (hl2.at fun o e => J.keep _ o e) ex ey fun h' a1 a3 a4 a5 a6 hk => ?_)
      exact step h' a6 (fun c o c1 _ c3 c4 e => hk c o c1 c3 c4 e) a3 a4 a5 ⟨T, true, oT, a1, hk _ _ q3 q4 q5 hT, q3, q4, q5, q6⟩
end
end Z

set_option Elab.async false
set_option linter.all false
set_option maxRecDepth 100000
set_option maxHeartbeats 4000000
namespace Z
open PySem PySem.Spec PyProof.Rows L2
section
variable {X : Cx}
def tLrev (K : PySem.W.Frag) (te : TE) : TE := fun σ H Q => te σ H fun v H1 => ∃ (a : Addr) (xs : List V), v = .ref a ∧ (SqL K H1 a xs ∨ SqT K H1 a xs) ∧ ∀ q, H1 q = none → Q (.ref q) (upd H1 q (.lst xs.reverse))
theorem boot_list0 : bootBuiltins "list" = some (.type "list") := by decide +kernel
theorem pe_listRev {e : Expr} {te : TE} {p p2 pos pos2 : Pos} (hc : X.calm = true) (hg : Gl X "list") (hm : X.mg "list" = none) (hg2 : Gl X "reversed") (hm2 : X.mg "reversed" = none) (he : PE X e te)
    (hs : starEach [e] X.env = (false, eval e X.env) :: starEach [] X.env)
    (hs2 : starEach [.Call (.Name "reversed" p2) [e] [] pos2] X.env = (false, eval (.Call (.Name "reversed" p2) [e] [] pos2) X.env) :: starEach [] X.env := by rfl) :
    PE X (.Call (.Name "list" p) [.Call (.Name "reversed" p2) [e] [] pos2] [] pos) (tLrev X.K te) := by
  refine ⟨fun pins s σ H Q I h => ?_⟩
  refine Call_ (ld_blt I hg hm boot_list0 (PyProof.Rows.callWith_type1 (args_cons (Call_ (ld_blt I hg2 hm2 PyProof.Rows.boot_reversed (PyProof.Rows.callWith_type1 (args_cons (thn (he.run pins s σ H _ I h) fun u s1 ⟨v, H1, I1, r1, q1⟩ => args_nil ?_) hs) hs rfl))) hs2) hs2 rfl))
  obtain ⟨a, xs, ev, hq, q⟩ := q1
  subst ev
  obtain rfl : u = Value.ref a := r1
  rcases hq with hq | hq
  · obtain ⟨its, rv, p', hz⟩ := I1.list hq
    refine call_reversed_list p'.isList (args_nil ?_)
    have hl := p'.isList
    obtain ⟨ol, hol, _⟩ := id hl
    have hne : a ≠ s1.heap.objs.size := Nat.ne_of_lt (Heap.lt_size hol)
    have hn : its.toArray.size ≤ sizeLine := by rw [List.size_toArray, ← rv.length]; exact hz
    have k0 : ∀ b o, s1.heap.get? b = some o → (s1.heap.push (revObj a ((its.toArray.size : Int) - 1))).get? b = some o := fun b o e => Heap.get?_push_of_some _ e
    refine call_list_rl (s := { s1 with heap := s1.heap.push (revObj a ((its.toArray.size : Int) - 1)) }) (I1.ok.hd hc) ⟨_, Heap.get?_push_size _ rfl, rfl, rfl⟩ (hl.push _) hne hn fun h' tk acc c hk hS hi => ?_
    have hsz : (s1.heap.push (revObj a ((its.toArray.size : Int) - 1))).objs.size = s1.heap.objs.size + 1 := Heap.size_push ..
    have hS2 := hS
    rw [show ({ s1 with heap := s1.heap.push (revObj a ((its.toArray.size : Int) - 1)) } : Shared).heap.objs.size = s1.heap.objs.size + 1 from hsz] at hS ⊢
    refine ⟨.ref (s1.heap.objs.size + 1), upd H1 (s1.heap.objs.size + 1) (.lst xs.reverse), I1.laid (t' := tk) (fun b o e => hk b o (Nat.ne_of_lt (Heap.lt_size e)) (k0 b o e)) (Nat.le_succ _) (show ObjOk X.prog X.w _ _ _ (.lst xs.reverse) from ⟨by rw [List.length_reverse]; exact hz, acc.toList, c, RT.vals_rev rv hi, ?_⟩), rfl, q _ (I1.hok.fresh (Nat.le_succ _))⟩
    rw [Array.toArray_toList]
    exact hS
  · obtain ⟨its, rv, p', hz⟩ := I1.tuple hq
    have hl := rv.length
    have hn : its.toArray.size ≤ sizeLine := by rw [List.size_toArray, ← rv.length]; exact hz
    have hn' := hn
    rw [sizeLine_eq] at hn'
    obtain ⟨ol, hol, _⟩ := id p'
    have hne : a ≠ s1.heap.objs.size := Nat.ne_of_lt (Heap.lt_size hol)
    refine RT.call_reversed_tup p' (fun A E Q k => len_tuple p' (by omega) k) (args_nil ?_)
    have k0 : ∀ b o, s1.heap.get? b = some o → (s1.heap.push (RT.rtObj a ((its.toArray.size : Int) - 1))).get? b = some o := fun b o e => Heap.get?_push_of_some _ e
    refine call_list_rt (s := { s1 with heap := s1.heap.push (RT.rtObj a ((its.toArray.size : Int) - 1)), toks := s1.toks + 1 + 1 }) (I1.ok.hd hc) ⟨_, Heap.get?_push_size _ rfl, rfl, rfl⟩ (let ⟨o, ho, r⟩ := p'; ⟨o, k0 _ _ ho, r⟩) hne hn fun h' tk acc c hk hS hi => ?_
    have hsz : (s1.heap.push (RT.rtObj a ((its.toArray.size : Int) - 1))).objs.size = s1.heap.objs.size + 1 := Heap.size_push ..
    rw [show ({ s1 with heap := s1.heap.push (RT.rtObj a ((its.toArray.size : Int) - 1)), toks := s1.toks + 1 + 1 } : Shared).heap.objs.size = s1.heap.objs.size + 1 from hsz] at hS ⊢
    refine ⟨.ref (s1.heap.objs.size + 1), upd H1 (s1.heap.objs.size + 1) (.lst xs.reverse), I1.laid (t' := tk) (fun b o e => hk b o (Nat.ne_of_lt (Heap.lt_size e)) (k0 b o e)) (Nat.le_succ _) (show ObjOk X.prog X.w _ _ _ (.lst xs.reverse) from ⟨by rw [List.length_reverse]; exact hz, acc.toList, c, RT.vals_rev rv hi, ?_⟩), rfl, q _ (I1.hok.fresh (Nat.le_succ _))⟩
    rw [Array.toArray_toList]
    exact hS
def tLzip (K : PySem.W.Frag) (ta : TA) : TE := fun σ H Q => ta σ H fun vs H1 => ∃ (a b : Addr) (xs ys : List V), vs = [.ref a, .ref b] ∧ SqT K H1 a xs ∧ SqT K H1 b ys ∧ ∀ (q : Addr) (H' : Hp) (us : List V),
  H1 q = none → (∀ c o, H1 c = some o → H' c = some o) → H' q = some (.lst us) → us.length = min xs.length ys.length →
  (∀ (j : Nat) v, us[j]? = some v → ∃ t x y, v = .ref t ∧ H' t = some (.tup [x, y]) ∧ xs[j]? = some x ∧ ys[j]? = some y) → Q (.ref q) H'
theorem pe_listZip {e e2 : Expr} {ta : TA} {p p2 pos pos2 : Pos} (hc : X.calm = true) (hg : Gl X "list") (hm : X.mg "list" = none) (hg2 : Gl X "zip") (hm2 : X.mg "zip" = none) (ha : PA X [e, e2] ta)
    (hs : starEach [e, e2] X.env = (false, eval e X.env) :: starEach [e2] X.env) (hpl : (backTo pos2 (starEach [e2] X.env)).any (·.1) = false)
    (hs2 : starEach [.Call (.Name "zip" p2) [e, e2] [] pos2] X.env = (false, eval (.Call (.Name "zip" p2) [e, e2] [] pos2) X.env) :: starEach [] X.env := by rfl) :
    PE X (.Call (.Name "list" p) [.Call (.Name "zip" p2) [e, e2] [] pos2] [] pos) (tLzip X.K ta) := by
  refine ⟨fun pins s σ H Q I h => ?_⟩
  refine Call_ (ld_blt I hg hm boot_list0 (PyProof.Rows.callWith_type1 (args_cons (Call_ (ld_blt I hg2 hm2 PyProof.Rows.boot_zip (PyProof.Rows.callWith_type1 (thn (ha.run pos2 pins s σ H _ I h) fun us s1 ⟨vs, H1, I1, r1, q1⟩ => ?_) hs hpl))) hs2) hs2 rfl))
  obtain ⟨a, b, xs, ys, ex, hqx, hqy, q⟩ := q1
  subst ex
  cases r1 with
  | cons r rr =>
  cases rr with
  | cons r' rr =>
  cases rr
  cases r
  cases r'
  obtain ⟨its, rv, p1, z1⟩ := I1.tuple hqx
  obtain ⟨its2, rv2, p2', z2⟩ := I1.tuple hqy
  obtain ⟨o1, ho1, _⟩ := id p1
  obtain ⟨o2, ho2, _⟩ := id p2'
  have D := PySem.W.ktu_apart s1.heap.objs.size a b (Heap.lt_size ho1) (Heap.lt_size ho2)
  have t1 : s1.heap.IsTuple a its.toArray := p1
  have t2 : s1.heap.IsTuple b its2.toArray := p2'
  have hb0 : ∀ b o, H1 b = some o → b < s1.heap.objs.size := fun b o e => (I1.hok b o e).lt
  refine RZ.call_zipT t1 t2 fun h' hz hTI hTO h1 h2 hsz hk => args_nil ?_
  have hTy : ({ s1 with heap := h' } : Shared).TypeIs (.ref (s1.heap.objs.size + 4)) "zip" := ⟨_, hz, rfl⟩
  refine list_any (s := { s1 with heap := h' }) hTy (by decide) (by decide) (fun A E s' Q k q => wpAny_pyIter_zip (k.heap hz) q) (fun A E s' Q k q => hint_zip (k.type hTy) q) fun R s' c k hS hR => ?_
  have eS : ({ s1 with heap := h' } : Shared).heap.objs.size = s1.heap.objs.size + 5 := hsz
  rw [eS] at hS hR ⊢
  have ne : ∀ {m n : Nat}, m ≠ n → s1.heap.objs.size + m ≠ s1.heap.objs.size + n := fun h e => h (by omega)
  have hn1 : its.toArray.size ≤ sizeLine := by rw [List.size_toArray, ← rv.length]; exact z1
  refine zip_loop (A := X.A.in1) (s0 := s1) (H0 := H1) (Xs := xs) (Ys := ys) (xs := its.toArray) (ys := its2.toArray) (I1.ok.hd hc) D (ne (by decide)) (ne (by decide)) (ne (by decide)) (Nat.ne_of_gt (by omega)) (ne (by decide)) (Nat.le_add_right _ _) (Nat.le_add_right _ _) (Nat.le_add_right _ _) (Nat.le_refl _) (Nat.le_add_right _ _) hb0 t1 t2 hn1
    (by simpa using rv) (by simpa using rv2) (fun acc s' he hkp hl hln hg => hR s' ?_) (min its.toArray.size its2.toArray.size) 0 #[] s' rfl (Nat.zero_le _) ?_
  · obtain ⟨Hn, us, hup, hv, hnew, hat⟩ := hg
    obtain ⟨cl, hl⟩ := hl
    have hSn : Hn (s1.heap.objs.size + 5) = none := by
      cases e : Hn (s1.heap.objs.size + 5) with
      | none => rfl
      | some o =>
        cases e0 : H1 (s1.heap.objs.size + 5) with
        | some o0 => exact absurd (hb0 _ _ e0) (Nat.not_lt.mpr (Nat.le_add_right _ _))
        | none => exact absurd rfl (hnew _ _ e e0).2.1
    have hfr : H1 (s1.heap.objs.size + 5) = none := I1.hok.fresh (Nat.le_add_right _ _)
    have hlen : us.length = min xs.length ys.length := by
      have l1 := rv.length
      have l2 := rv2.length
      rw [hv.length, Array.length_toList, hln, List.size_toArray, List.size_toArray, ← l1, ← l2]
    have hup' : ∀ c o, H1 c = some o → upd Hn (s1.heap.objs.size + 5) (.lst us) c = some o := fun c o e => by
      rw [upd_ne (ne_of_none (hup c o e) hSn)]
      exact hup c o e
    refine ⟨.ref (s1.heap.objs.size + 5), upd Hn (s1.heap.objs.size + 5) (.lst us), ?_, rfl, q _ _ us hfr hup' upd_same hlen fun j v e => ?_⟩
    · rw [he]
      refine inv_many I1 hkp hup' fun b' o e e0 => ?_
      by_cases hb : b' = s1.heap.objs.size + 5
      · subst hb
        rw [upd_same] at e
        cases e
        refine ⟨?_, show ObjOk X.prog X.w _ _ _ (.lst us) from ⟨by rw [hlen]; exact Nat.le_trans (Nat.min_le_left _ _) z1, acc.toList, cl, hv, ?_⟩⟩
        · cases e5 : s1.heap.get? (s1.heap.objs.size + 5) with
          | none => rfl
          | some o5 => exact absurd (Heap.lt_size e5) (Nat.not_lt.mpr (Nat.le_add_right _ _))
        · rw [Array.toArray_toList]; exact hl
      · rw [upd_ne hb] at e
        obtain ⟨q0, _, x, y, u, v, rfl, q1, q2, q3⟩ := hnew b' o e e0
        refine ⟨?_, show ObjOk X.prog X.w _ _ _ (.tup [x, y]) from ⟨by show 2 ≤ sizeLine; rw [sizeLine_eq]; decide, [u, v], .cons q1 (.cons q2 .nil), ⟨_, q3, rfl, _, rfl⟩⟩⟩
        cases e5 : s1.heap.get? b' with
        | none => rfl
        | some o5 => exact absurd (Heap.lt_size e5) (Nat.not_lt.mpr q0)
    · obtain ⟨t, x, y, rfl, a1, a2, a3⟩ := hat j v e
      exact ⟨t, x, y, rfl, by rw [upd_ne (ne_of_none a1 hSn)]; exact a1, a2, a3⟩
  · obtain ⟨h2', tk2, rfl, htk, hk2⟩ := k
    refine { eq := rfl, keep := fun b o e => hk2 b o (hk b o e), lst := ⟨c, hS⟩, ti := hk2 _ _ hTI, it1 := h1.at fun o e => hk2 _ o e, it2 := h2.at fun o e => hk2 _ o e, zs := .inl ⟨hk2 _ _ hz, _, _, hk2 _ _ hTO⟩, tolt := Heap.lt_size (hk2 _ _ hTO), len := rfl, got := ⟨H1, [], fun _ _ e => e, .nil, fun b o e e0 => ?_, fun j v e => ?_⟩ }
    · rw [e] at e0; cases e0
    · cases j <;> cases e
end
end Z

set_option Elab.async false
set_option linter.all false
set_option maxRecDepth 100000
set_option maxHeartbeats 4000000
namespace Z
open PySem PySem.Spec PyProof.Rows L2
section
variable {K : PySem.W.Frag} {w : World} {H H' : Hp} {S S' : Sto} {R : D → Sto → Prop} {Q : VK} {X : Cx}
def Me.nm : Me → String
  | .append => "append"
  | .pop => "pop"
  | .extend => "extend"
  | .count => "count"
  | .clear => "clear"
  | .reverse => "reverse"
  | .get => "get"
  | .insert => "insert"
def Me.id : Me → String
  | .append => "list.append"
  | .pop => "list.pop"
  | .extend => "list.extend"
  | .count => "list.count"
  | .clear => "list.clear"
  | .reverse => "list.reverse"
  | .get => "dict.get"
  | .insert => "list.insert"
def Me.T : Me → String
  | .get => "dict"
  | _ => "list"
theorem Me.slot (m : Me) : Slot m.T (Str.ofString m.nm) m.id := by
  cases m
  · exact PySem.F.slot_list_append
  · exact PySem.F.slot_list_pop
  · exact PySem.F.slot_list_extend
  · exact PySem.F.slot_list_count
  · exact PySem.F.slot_list_clear
  · exact PySem.F.slot_list_reverse
  · exact PySem.F.slot_dict_get
  · exact PySem.F.slot_list_insert
theorem Me.typ (m : Me) : typeOf (.builtin m.id) = pure (.type "method_descriptor") := by
  cases m
  · exact PySem.F.type_list_append
  · exact PySem.F.type_list_pop
  · exact PySem.F.type_list_extend
  · exact PySem.F.type_list_count
  · exact PySem.F.type_list_clear
  · exact PySem.F.type_list_reverse
  · exact PySem.F.type_dict_get
  · exact PySem.F.type_list_insert
theorem Me.plain (m : Me) : PlainAttrs m.T := by
  cases m <;> first | exact PySem.F.plainAttrs_list | exact PySem.F.plainAttrs_dict
theorem count_of : ∀ {x : V} {xs : List V} {us : List Value}, Vals xs us → xs.all flatV = true → us.countP (eqU x) = xs.countP fun y => eqV y x
  | _, _, _, .nil, _ => rfl
  | x, y :: xs, u :: us, .cons r t, f => by
    rw [List.all_cons, Bool.and_eq_true] at f
    rw [List.countP_cons, List.countP_cons, eqU_of r f.1, count_of t f.2]
theorem mt_countF : MtR X "list.count" (fun x xs H Q => ∃ (p : Addr) (ys : List V) (y : V), x = .ref p ∧ xs = [y] ∧ SqL X.K H p ys ∧ flatV y = true ∧ ys.all flatV = true ∧ Q (.int (ys.countP fun z => eqV z y : Nat)) H) := by
  intro pins s σ H x xs v us Q I rx rs hh
  obtain ⟨p, ys, y, rfl, rfl, hq, fy, fs, q⟩ := hh
  obtain ⟨u, rfl, ru⟩ := vals1 rs
  cases (show v = Value.ref p from rx)
  obtain ⟨its, r, ⟨o, n, ho, hc, hd, hs⟩, hz⟩ := I.list hq
  obtain ⟨cls, dd, data, sl⟩ := o
  simp only at hc hd hs
  subst hc hd hs
  refine call_meets PySem.F.slot_list_count ⟨_, ho, rfl⟩ PySem.F.entry_list_count (PySem.F.args_list_count_2 _ _)
    (SeqAt.list_countAt p its.toArray n _ sl u (eqU y)) ⟨ho, fun z hz => mem_eqAt ru fy r fs z (by simpa using hz), ?_⟩
  have ec : its.toArray.toList.countP (eqU y) = ys.countP fun z => eqV z y := count_of r fs
  refine ⟨.int (ys.countP fun z => eqV z y : Nat), H, I.tok _, ⟨s.toks, ?_⟩, q⟩
  show Value.int ((its.toArray.toList.countP (eqU y) : Nat) : Int) s.toks = Value.int _ s.toks
  rw [ec]
theorem countF_of {x : D} {v : V} (r1 : RelD K w H x v) (f1 : flatD x = true) : ∀ {ds : List D} {vs : List V}, RelDs K w H ds vs → ds.all flatD = true → (vs.countP fun z => eqV z v) = ds.countP fun y => eqF y x
  | [], vs, r, f => by simp only [RelDs] at r; subst r; rfl
  | d :: ds, vs, r, f => by
    simp only [RelDs] at r
    obtain ⟨u, t, rfl, q1, q2⟩ := r
    rw [List.all_cons, Bool.and_eq_true] at f
    rw [List.countP_cons, List.countP_cons, countF_of r1 f1 q2 f.2, eqF_of q1 r1 f.1 f1]
theorem relds_erase {ds : List D} {vs : List V} (r : RelDs K w H ds vs) (i : Nat) : RelDs K w H (ds.eraseIdx i) (vs.eraseIdx i) := by
  rw [List.eraseIdx_eq_take_drop_succ, List.eraseIdx_eq_take_drop_succ]
  exact (r.take i).append (r.drop _)
theorem relds_ins {ds : List D} {vs : List V} {d : D} {v : V} (r : RelDs K w H ds vs) (rd : RelD K w H d v) (i : Nat) : RelDs K w H (ds.take i ++ [d] ++ ds.drop i) (vs.take i ++ [v] ++ vs.drop i) :=
  ((r.take i).append (by simp only [RelDs]; exact ⟨v, [], rfl, rd, rfl⟩)).append (r.drop i)
theorem mth_ok (hu : X.A.units + 1 < cLine) (m : Me) : MtR X m.id (rDM X.K X.w (wMth m)) := by
  intro pins s σ H x xs v us Q I rx rs hh
  obtain ⟨dx, ds, S, R, r1, r2, h, f, k⟩ := hh
  unfold wMth at f
  split at f
  case h_2 => exact f.elim
  rename_i a
  simp only [RelD] at r1
  subst r1
  split at f
  · rename_i ys e
    obtain ⟨vs, h1, h2⟩ := h.lst e
    split at f
    · obtain ⟨z, rfl, rz⟩ := relds_one r2
      exact mt_append pins s σ H _ _ v us Q I rx rs ⟨a, vs, z, rfl, rfl, h1, by rw [← h2.length]; exact f.1, k.mutl e f.2 h (h2.snoc rz) (by simp only [RelD])⟩
    · simp only [RelDs] at r2
      subst r2
      split at f
      · rename_i y ey
        obtain ⟨z, q1, q2⟩ := h2.get ey
        rw [h2.length] at q1
        exact mt_pop pins s σ H _ _ v us Q I rx rs ⟨a, vs, z, rfl, rfl, h1, q1, k.mutl e f h h2.dropLast q2⟩
      · exact f.elim
    · obtain ⟨z, rfl, rz⟩ := relds_one r2
      simp only [RelD] at rz
      subst rz
      rename_i i
      obtain ⟨f0, f1, f⟩ := f
      split at f
      · rename_i y ey
        obtain ⟨z, q1, q2⟩ := h2.get ey
        have hlt : i.toNat < vs.length := (List.getElem?_eq_some_iff.mp q1).1
        refine mt_popAt pins s σ H _ _ v us Q I rx rs ⟨a, vs, i, i.toNat, z, rfl, rfl, h1, by omega, by omega, ?_, q1, k.mutl e f h (relds_erase h2 i.toNat) q2⟩
        unfold seqIndex?
        simp only []
        split <;> first | omega | (congr 1; done) | (simp; omega)
      · exact f.elim
    · obtain ⟨z, y, rfl, rz, ry⟩ := relds_two r2
      simp only [RelD] at rz
      subst rz
      exact mt_insert pins s σ H _ _ v us Q I rx rs ⟨a, vs, _, y, rfl, rfl, h1, by rw [← h2.length]; exact f.2.2.1, f.1, by omega, k.mutl e f.2.2.2 h (relds_ins h2 ry _) (by simp only [RelD])⟩
    · obtain ⟨z, rfl, rz⟩ := relds_one r2
      simp only [RelD] at rz
      subst rz
      split at f
      · rename_i e2
        obtain ⟨vs2, h3, h4⟩ := h.lst e2
        exact mt_extend pins s σ H _ _ v us Q I rx rs ⟨a, _, vs, vs2, rfl, rfl, h1, h3, by rw [← h2.length, ← h4.length]; exact f.1, k.mutl e f.2 h (h2.append h4) (by simp only [RelD])⟩
      · exact f.elim
    · simp only [RelDs] at r2
      subst r2
      exact mt_clear pins s σ H _ _ v us Q I rx rs ⟨a, vs, rfl, rfl, h1, k.mutl e f h relds_nil (by simp only [RelD])⟩
    · simp only [RelDs] at r2
      subst r2
      exact mt_reverse pins s σ H _ _ v us Q I rx rs ⟨a, vs, rfl, rfl, h1, k.mutl e f h h2.reverse (by simp only [RelD])⟩
    · obtain ⟨z, rfl, rz⟩ := relds_one r2
      exact mt_countF pins s σ H _ _ v us Q I rx rs ⟨a, vs, z, rfl, rfl, SqL.of h1, flat_of rz f.1, flats_of h2 f.2.1, k.same f.2.2 (by simp only [RelD]; rw [countF_of rz f.1 h2 f.2.1]) h⟩
    · exact f.elim
  · rename_i kvs e
    obtain ⟨kv, h1, h2⟩ := h.dct e
    split at f
    · obtain ⟨z, rfl, rz⟩ := relds_one r2
      split at f
      · rename_i key ek
        have ez := key_rel rz ek
        subst ez
        obtain ⟨u, rfl, ru⟩ := vals1 rs
        cases (show v = Value.ref a from rx)
        refine d_get1 hu I (DGet.k h1) ru fun w' s' I' r' => ⟨_, H, I', r', k.same f ?_ h⟩
        have q := relkv_val key h2
        cases el : lookD kvs key with
        | none => rw [el] at q; rw [q]; simp only [Option.getD_none, RelD]
        | some d => rw [el] at q; obtain ⟨z, q1, q2⟩ := q; rw [q1]; exact q2
      · exact f.elim
    · obtain ⟨z, y, rfl, rz, ry⟩ := relds_two r2
      split at f
      · rename_i key ek
        have ez := key_rel rz ek
        subst ez
        obtain ⟨u, u2, rfl, ru, ru2⟩ := vals2 rs
        cases (show v = Value.ref a from rx)
        refine d_get2 hu I (DGet.k h1) ru ru2 fun w' s' I' r' => ⟨_, H, I', r', k.same f ?_ h⟩
        have q := relkv_val key h2
        cases el : lookD kvs key with
        | none => rw [el] at q; rw [q]; simp only [Option.getD_none]; exact ry
        | some d => rw [el] at q; obtain ⟨z, q1, q2⟩ := q; rw [q1]; exact q2
      · exact f.elim
    · exact f.elim
  · exact f.elim
theorem recv_ok (h : HR K w H S) {m : Me} {d : D} {v : V} (r : RelD K w H d v) (e : okRecv m S d = true) : tyV K m.T v H := by
  unfold okRecv at e
  split at e
  · simp only [RelD] at r
    subst r
    split at e
    · rename_i q
      obtain ⟨vs, h1, h2⟩ := h.sql q
      refine .inl ⟨?_, vs, h1⟩
      cases m <;> first | rfl | (simp only [Me.ofDict] at e; cases e)
    · rename_i q
      obtain ⟨kv, h1, h2⟩ := h.dct q
      refine .inr (.inr (.inl ⟨?_, .inl ⟨kv, h1⟩⟩))
      cases m <;> first | rfl | (simp only [Me.ofDict] at e; cases e)
    · cases e
  · cases e
end
end Z

set_option Elab.async false
set_option linter.all false
set_option maxRecDepth 100000
set_option maxHeartbeats 4000000
namespace Z
open PySem PySem.Spec PyProof.Rows L2
structure RoomG (k : Nat) (A : Around) : Prop where
  rm : Room k A
  gd : A.guards = some []
theorem RoomG.mono {j k : Nat} {A : Around} (r : RoomG k A) (h : j ≤ k) : RoomG j A := ⟨r.rm.mono h, r.gd⟩
theorem RoomG.deeper {k : Nat} {A : Around} (r : RoomG (k + 1) A) (env : Env) : RoomG k (A.deeper env) := ⟨r.rm.deeper env, r.gd⟩
structure RoomHG (k : Nat) (A : Around) : Prop where
  rm : L2H.RoomH k A
  gd : A.guards = some []
theorem RoomHG.mono {j k : Nat} {A : Around} (r : RoomHG k A) (h : j ≤ k) : RoomHG j A := ⟨r.rm.mono h, r.gd⟩
theorem RoomHG.deeper {k : Nat} {A : Around} (r : RoomHG (k + 1) A) (env : Env) : RoomHG k (A.deeper env) := ⟨r.rm.deeper env, r.gd⟩
structure FnG (P : Program) (w : World) (K : PySem.W.Frag) (mg : Str → Option Value) (base : Heap) (CX : CXT) (k : Nat) (f : Addr) (fd : FuncData) (ps : List Str) (sp : Sp) : Prop where
  len : ∀ vs H Q E, sp vs H Q E → vs.length = ps.length
  run : ∀ (A : Around) (outer : List Env) (s : Shared) (H : Hp) (args : Args) (us : List Value) (vs : List V) (Q : VK) (E : XK), RoomG k A → Env0 P w K mg base A outer s H → BindsTo s fd args (ps.zip us) → Vals vs us → sp vs H Q E → codeAny (model P w) A (.call (.ref f) args) (CR CX outer P w H s Q E) s
theorem FnG.mono {P : Program} {w : World} {K : PySem.W.Frag} {mg : Str → Option Value} {base : Heap} {CX : CXT} {j k : Nat} {f : Addr} {fd : FuncData} {ps : List Str} {sp : Sp} (F : FnG P w K mg base CX j f fd ps sp) (h : j ≤ k) : FnG P w K mg base CX k f fd ps sp :=
  ⟨F.len, fun A outer s H args us vs Q E hr => F.run A outer s H args us vs Q E (hr.mono h)⟩
theorem fng_of {CX : CXT} {P : Program} {w : World} {K : PySem.W.Frag} {mg : Str → Option Value} {base : Heap} {k : Nat} {x qual : Str} {params : Arguments} {body : List Stmt} {scope : Scope} {dvs : List V} {kws : List (Str × V)} {f : Addr} {fd : FuncData} {N ps : List Str} {sp : Sp}
    (F : FunD K x qual params body scope dvs kws f fd) (Sc : FnScope N ps scope) (hln : ∀ vs H Q E, sp vs H Q E → vs.length = ps.length)
    (hbody : ∀ (cdv : Value) (A : Around) (outer : List Env) (s : Shared) (H : Hp) (vs : List V) (Q : VK) (E : XK), RoomG k (A.deeper (envOfC qual scope s.heap.objs.size f cdv)) → sp vs H Q E → ∃ t, PSs (cxOf CX P w K mg base N qual scope f cdv A outer s H E) body t ∧ t { nx := fun _ H' => Q .non H', rt := Q } (L2.start N vs) H) :
    FnG P w K mg base CX (k + 1) f fd ps sp := by
  obtain ⟨oc, od, dV, kV, doc, pm, an, cdv, ct, osl, rfl, lk, hcd, _, _⟩ := F.ex
  refine ⟨hln, fun A outer s H args us vs Q E hr e0 hb r hsp => ?_⟩
  have hlv := hln _ _ _ _ hsp
  have KX : K.In s.heap := e0.mod.kin.keeps fun b o z => (e0.bs b o z).1
  have limN : s.heap.NoLimit := e0.mod.nolimit.keeps fun b o z => (e0.bs b o z).1
  have hkd : ∀ y ∈ ps.zip us, scope.names.lookup y.1 = some .local ∨ (scope.names.lookup y.1 = some .cell ∧ ((cellsFrom (s.heap.objs.size + 1) scope.names []).lookup y.1).isSome = true) := fun ⟨n, v⟩ hy =>
    (Sc.par n (List.of_mem_zip hy).1).elim (fun q => .inl q) fun q => .inr ⟨q, PySem.W.cellsFrom_some _ _ _ (.inl q)⟩
  refine codeAny_call_function hr.rm.depth (KX _ _ lk) rfl Sc.co Sc.gen rfl (PySem.W.codeRec_of KX hcd) (hb _ _ _ _ ?_)
  refine wpAny_newFunctionEnv_cells Sc.kind hkd fun env he s1 x1 => ?_
  subst he
  refine ⟨limN.keeps x1.toInCall.keep, codeAny_func ?_⟩
  obtain ⟨t, ht, hq⟩ := hbody cdv A outer s H vs Q E (hr.deeper _) hsp
  have I : Inv (cxOf CX P w K mg base N qual scope f cdv A outer s H E) [] (L2.start N vs) H s1 := inv_start Sc hr.rm.hd e0 hlv r x1
  refine wpAny_mono (ht.run [] s1 (L2.start N vs) H _ I hq) (fun fl s' hs => ?_) fun e s' hs => hs
  cases fl with
  | ret u => obtain ⟨v, σ', H', J, rv, q⟩ := hs; exact ⟨v, H', J.os, J.bare, J.base, J.hok, rv, q⟩
  | next => obtain ⟨σ', H', J, q⟩ := hs; exact ⟨V.non, H', J.os, J.bare, J.base, J.hok, rfl, q⟩
  | brk => obtain ⟨_, _, _, q⟩ := hs; exact q.elim
  | cont => obtain ⟨_, _, _, q⟩ := hs; exact q.elim
structure FnQ (P : Program) (w : World) (K : PySem.W.Frag) (mg : Str → Option Value) (base : Heap) (CX : CXT) (k : Nat) (f : Addr) (fd : FuncData) (ps : List Str) (sp : Sp) : Prop where
  len : ∀ vs H Q E, sp vs H Q E → vs.length = ps.length
  run : ∀ (A : Around) (outer : List Env) (s : Shared) (H : Hp) (args : Args) (us : List Value) (vs : List V) (Q : VK) (E : XK), RoomHG k A → Env0 P w K mg base A outer s H → BindsTo s fd args (ps.zip us) → Vals vs us → sp vs H Q E → codeAny (model P w) A (.call (.ref f) args) (CR CX outer P w H s Q E) s
theorem fnq_of {CX : CXT} {P : Program} {w : World} {K : PySem.W.Frag} {mg : Str → Option Value} {base : Heap} {k : Nat} {x qual : Str} {st : Stmt} {f : Addr} {fd : FuncData} {N ps : List Str} {sp : Sp} (F : Fun K x qual st f fd) (Sc : FnScope N ps (defScope st)) (hln : ∀ vs H Q E, sp vs H Q E → vs.length = ps.length)
    (hbody : ∀ (cdv : Value) (A : Around) (outer : List Env) (s : Shared) (H : Hp) (vs : List V) (Q : VK) (E : XK) (p : Addr × Obj), RoomHG k (A.deeper (envOfC qual (defScope st) s.heap.objs.size f cdv)) → sp vs H Q E →
      ∃ t, PSs (L2H.cxH CX P w K mg base N qual (defScope st) f cdv A outer s H E p) (defBody st) t ∧ t { nx := fun _ H' => Q .non H', rt := Q } (L2.start N vs) H) : FnQ P w K mg base CX (k + 1) f fd ps sp := by
  obtain ⟨oc, od, kV, doc, pm, an, cdv, ct, osl, rfl, lk, hcd⟩ := F.ex
  refine ⟨hln, fun A outer s H args us vs Q E hr e0 hb r hsp => ?_⟩
  have hlv := hln _ _ _ _ hsp
  have KX : K.In s.heap := e0.mod.kin.keeps fun b o z => (e0.bs b o z).1
  have limN : s.heap.NoLimit := e0.mod.nolimit.keeps fun b o z => (e0.bs b o z).1
  have fb := e0.mod.kin _ _ lk
  have hpin : L2H.PinOk outer H s (f, ⟨oc, od, .func (PySem.W.fnOf x qual (defArgs st) (defBody st) (defScope st) .none kV doc pm an cdv ct), osl⟩) :=
    ⟨KX _ _ lk, (e0.bs _ _ fb).2, (fun z => by have q := (e0.funs.mem z).1; rw [fb] at q; cases q), fun v z => by cases z⟩
  have hkd : ∀ y ∈ ps.zip us, (defScope st).names.lookup y.1 = some .local ∨ ((defScope st).names.lookup y.1 = some .cell ∧ ((cellsFrom (s.heap.objs.size + 1) (defScope st).names []).lookup y.1).isSome = true) := fun ⟨n, v⟩ hy =>
    (Sc.par n (List.of_mem_zip hy).1).elim (fun q => .inl q) fun q => .inr ⟨q, PySem.W.cellsFrom_some _ _ _ (.inl q)⟩
  refine codeAny_call_function hr.rm.depth (KX _ _ lk) rfl Sc.co Sc.gen rfl (PySem.W.codeRec_of KX hcd) (hb _ _ _ _ ?_)
  refine wpAny_newFunctionEnv_cells Sc.kind hkd fun env he s1 x1 => ?_
  subst he
  refine ⟨limN.keeps x1.toInCall.keep, codeAny_func ?_⟩
  obtain ⟨t, ht, hq⟩ := hbody cdv A outer s H vs Q E _ (hr.deeper _) hsp
  have I := L2H.inv_startH (CX := CX) (E := E) Sc hpin e0 hlv r x1
  refine wpAny_mono (ht.run [] s1 (L2.start N vs) H _ I hq) (fun fl s' hs => ?_) fun e s' hs => hs
  cases fl with
  | ret u => obtain ⟨v, σ', H', J, rv, q⟩ := hs; exact ⟨v, H', J.os, J.bare, J.base, J.hok, rv, q⟩
  | next => obtain ⟨σ', H', J, q⟩ := hs; exact ⟨V.non, H', J.os, J.bare, J.base, J.hok, rfl, q⟩
  | brk => obtain ⟨_, _, _, q⟩ := hs; exact q.elim
  | cont => obtain ⟨_, _, _, q⟩ := hs; exact q.elim
section
variable {X : Cx} {CX : CXT} {k : Nat} {f : Addr} {fd : FuncData} {ps : List Str} {sp : Sp} {E : L2.St → XK} {x : Str} {p pos : Pos} {e : Expr} {es : List Expr} {t : TA}
theorem run_fnq {pins : List (Addr × Obj)} {σ : L2.St} {H : Hp} {s : Shared} {Q : VK} {us : List Value} {vs : List V} (F : FnQ X.prog X.w X.K X.mg X.base CX k f fd ps sp) (hr : RoomHG k X.A) (hb : Binds X.K fd ps []) (hx : PassesAt CX X σ (E σ))
    (I : Inv X pins σ H s) (r : Vals vs us) (h : sp vs H Q (E σ)) : wpAny (model X.prog X.w) X.A (call (.ref f) us) (EP X pins σ Q) X.xe s := by
  have hl : us.length = ps.length := by rw [← r.length]; exact F.len _ _ _ _ h
  have b0 := hb s us I.kIn (by rw [List.append_nil]; exact hl)
  rw [List.append_nil] at b0
  refine wpAny_call (codeAny_mono (F.run X.A X.stack s H ⟨us, []⟩ us vs Q (E σ) hr I.env0 b0 r h) fun q s' hq => ?_)
  cases q with
  | error e => exact hx pins H s e s' I hq
  | ok fl => cases fl <;> first | exact I.after hq | exact False.elim hq
theorem run_fng {dvs : List V} {ds : List Value} {pins : List (Addr × Obj)} {σ : L2.St} {H : Hp} {s : Shared} {Q : VK} {us : List Value} {vs : List V} (F : FnG X.prog X.w X.K X.mg X.base CX k f fd ps sp) (hr : RoomG k X.A) (hb : Binds X.K fd ps ds) (hd : Vals dvs ds) (hx : PassesAt CX X σ (E σ))
    (I : Inv X pins σ H s) (r : Vals vs us) (h : sp (vs ++ dvs) H Q (E σ)) : wpAny (model X.prog X.w) X.A (call (.ref f) us) (EP X pins σ Q) X.xe s := by
  have hl : (us ++ ds).length = ps.length := by rw [← (r.append hd).length]; exact F.len _ _ _ _ h
  refine wpAny_call (codeAny_mono (F.run X.A X.stack s H ⟨us, []⟩ (us ++ ds) (vs ++ dvs) Q (E σ) hr I.env0 (hb s us I.kIn hl) (r.append hd) h) fun q s' hq => ?_)
  cases q with
  | error e => exact hx pins H s e s' I hq
  | ok fl => cases fl <;> first | exact I.after hq | exact False.elim hq
theorem pe_callG (F : FnG X.prog X.w X.K X.mg X.base CX k f fd ps sp) (hr : RoomG k X.A) (hg : Gl X x) (hm : X.mg x = some (.ref f)) (hk : PySem.W.keepIn X.K (.ref f) = true) (hb : Binds X.K fd ps []) (hx : ∀ σ, PassesAt CX X σ (E σ))
    (ha : PA X (e :: es) t) (hdb : (x == ("__debug__" : Str)) = false) (he : starEach (e :: es) X.env = (false, eval e X.env) :: starEach es X.env) (hpl : (backTo pos (starEach es X.env)).any (·.1) = false) :
    PE X (.Call (.Name x p) (e :: es) [] pos) (fun σ H Q => t σ H fun vs H1 => sp vs H1 Q (E σ)) := by
  refine ⟨fun pins s σ H Q I h => wpAny_Call_Name_kw (ld_glob I hg hm ?_ hdb)⟩
  exact PySem.W.callWith_K (h₀ := X.base) I.ok.mod.kin hk (thn (ha.run pos pins s σ H _ I h) fun us s1 ⟨vs, H1, I1, r, q⟩ => ⟨I1.kIn, run_fng (dvs := []) (ds := []) (E := E) F hr hb .nil (hx σ) I1 r (by simpa using q)⟩) he hpl
theorem pe_callQ (F : FnQ X.prog X.w X.K X.mg X.base CX k f fd ps sp) (hr : RoomHG k X.A) (hg : Gl X x) (hm : X.mg x = some (.ref f)) (hk : PySem.W.keepIn X.K (.ref f) = true) (hb : Binds X.K fd ps []) (hx : ∀ σ, PassesAt CX X σ (E σ))
    (ha : PA X (e :: es) t) (hdb : (x == ("__debug__" : Str)) = false) (he : starEach (e :: es) X.env = (false, eval e X.env) :: starEach es X.env) (hpl : (backTo pos (starEach es X.env)).any (·.1) = false) :
    PE X (.Call (.Name x p) (e :: es) [] pos) (fun σ H Q => t σ H fun vs H1 => sp vs H1 Q (E σ)) := by
  refine ⟨fun pins s σ H Q I h => wpAny_Call_Name_kw (ld_glob I hg hm ?_ hdb)⟩
  exact PySem.W.callWith_K (h₀ := X.base) I.ok.mod.kin hk (thn (ha.run pos pins s σ H _ I h) fun us s1 ⟨vs, H1, I1, r, q⟩ => ⟨I1.kIn, run_fnq F hr hb (hx σ) I1 r q⟩) he hpl
end
theorem kept_at {P : Program} {w : World} {H : Hp} {h : Heap} {a : Addr} {oe : Obj} (x : HOk P w H h) (ha : H a = some (kept oe)) : h.get? a = some oe := by
  have z := x a _ ha
  unfold kept ObjOk at z
  exact z.1
section
variable {X : Cx}
theorem call_isx {M : Addr} {m : Str} (hm : m ∈ xnames) (hM : PySem.W.nsIn X.K mainGlobals m = some (some (.ref M))) : CallR X (.builtin "isinstance") (fun xs H Q => ∃ n C a oe dx, XCls X.K n C ∧ xs = [.ref a, .ref M] ∧ H a = some (kept oe) ∧ oe.cls = .ref C ∧ oe.dict = some dx ∧ (∃ fv, oe.data = .fields fv) ∧ (∃ fs, H dx = some (.xd fs)) ∧ Q (.bl (decide (n = m))) H) := by
  intro pins s σ H xs us Q I r h
  obtain ⟨n, C, a, oe, dx, xc, rfl, ha, hc, hd, ⟨fv, hf⟩, ⟨fs, hx⟩, q⟩ := h
  cases r with
  | cons rx rr =>
    cases rr with
    | cons rt rr =>
      cases rr
      cases rx
      cases rt
      have hget := kept_at I.hok ha
      obtain ⟨mA, hns, hr⟩ : ∃ mA, s.heap.Ns1 dx mA ∧ _ := I.hok dx _ hx
      obtain ⟨od, ho, hl⟩ := lookIn_ns hns
      have J : PySem.W.InstAt s.heap a oe C (some od) := ⟨hget, hc, by unfold PySem.W.notCls; rw [hf] <;> rfl, by rw [hd]; exact ho⟩
      have hcl : (PySem.W.clsIn X.K C).isSome = true := by obtain ⟨cd, z, _⟩ := PySem.W.any_some xc.hd; rw [z]; rfl
      exact PySem.W.kia_one (PySem.W.kitx_exc (od := some od) (ox := oe) (x := a) hcl xc.ga xc.gt xc.be xc.cl xc.sg xc.tk xc.mr) I.kIn J (xc.is m hm M hM).1 (fun z => nomatch z) fun tk => ⟨.bl _, H, I.kept (t' := tk) fun _ _ z => z, rfl, q⟩
theorem pe_atr {e : Expr} {te : TE} {pos : Pos} {f : Str} (he : PE X e te) (hf : f ∈ xflds) (hb : attributeBase e f X.env (eval e X.env) = eval e X.env) :
    PE X (.Attribute e f pos) (fun σ H Q => te σ H fun x H1 => ∃ a oe dx n C fs v, x = .ref a ∧ XCls X.K n C ∧ H1 a = some (kept oe) ∧ oe.cls = .ref C ∧ oe.dict = some dx ∧ (∃ fv, oe.data = .fields fv) ∧ H1 dx = some (.xd fs) ∧ fs.lookup f = some v ∧ Q v H1) := by
  refine ⟨fun pins s σ H Q I h => attr_of hb (thn (he.run pins s σ H _ I h) fun u s1 hh => ?_)⟩
  obtain ⟨x, H1, I1, rx, a, oe, dx, n, C, fs, v, rfl, xc, ha, hc, hd, ⟨fv, hdt⟩, hx, l, q⟩ := hh
  obtain rfl : u = Value.ref a := rx
  have hget := kept_at I1.hok ha
  obtain ⟨mA, hns, hr⟩ : ∃ mA, s1.heap.Ns1 dx mA ∧ ∀ g, RelO (fs.lookup g) (mA g) := I1.hok dx _ hx
  obtain ⟨od, ho, hl⟩ := lookIn_ns hns
  obtain ⟨u, hu, ru⟩ := RelO.some_of (v := v) (o := mA f) (by rw [← l]; exact hr f)
  have J : PySem.W.InstAt s1.heap a oe C (some od) := ⟨hget, hc, by unfold PySem.W.notCls; rw [hdt] <;> rfl, by rw [hd]; exact ho⟩
  exact PySem.HandSPX.exc_get I1.kIn J xc.ga xc.gt xc.be (PySem.W.findObj_own xc.hd (xc.fl f hf) rfl (by rw [hl, hu])) (handed_of ru) ⟨v, H1, I1.tok _, ru, q⟩
end
end Z

set_option Elab.async false
set_option linter.all false
set_option maxRecDepth 100000
set_option maxHeartbeats 4000000
namespace Z
open PySem PySem.Spec PyProof.Rows L2
section
variable {X : Cx} {pins : List (Addr × Obj)} {σ : L2.St} {H : Hp} {s : Shared} {a : Addr} {oe : Obj}
theorem inv_keep (J : Inv X pins σ H s) {fv : Array Value} (ha : s.heap.get? a = some oe) (hd : oe.data = .fields fv) (na : H a = none) (nL : a ≠ X.env.locals) (h0 : a ∉ X.ex → X.s_0.heap.get? a = none) (np : ∀ p ∈ X.pn ++ pins, p.1 ≠ a) : Inv X pins σ (upd H a (kept oe)) s := by
  have old : ∀ {b : Addr} {o : HO}, H b = some o → upd H a (kept oe) b = some o := fun {b o} e => by rw [upd_ne (ne_of_none e na)]; exact e
  refine ⟨J.ok, J.os, J.bare, ⟨J.base.keep, J.base.slot, fun b o e n hx => ?_, J.base.there, fun b xs e => old (J.base.tups b xs e), fun b o u e => old (J.base.frzs b o u e), fun b ps e => let ⟨more, q⟩ := J.base.tbls b ps e; ⟨more, old q⟩⟩, J.loc, J.cell, by rw [upd_ne (Ne.symm nL)]; exact J.free, fun x c e => ?_, fun p hp => ?_, HOk.laidN J.hok (fun _ _ z => z) na ?_, J.len⟩
  · by_cases hb : b = a
    · subst hb; rw [h0 hx] at e; cases e
    · rw [upd_ne hb]; exact J.base.free b o e n hx
  · have hc : c ≠ a := fun z => by
      subst z
      obtain ⟨v, o', e1, e2⟩ := J.cell x c e
      rw [ha] at e1
      cases e1
      first | (rw [hd] at e2; cases e2) | (rw [hd] at e2; simp at e2)
    rw [upd_ne hc]; exact J.freeC x c e
  · obtain ⟨q1, q2, q3⟩ := J.pin p hp
    exact ⟨q1, by rw [upd_ne (np p hp)]; exact q2, q3⟩
  · unfold kept ObjOk ObjOk
    exact ⟨ha, trivial, ⟨oe, ha⟩, fun _ _ _ _ => trivial⟩
theorem inv_suite (I : Inv X pins σ H s) (a : Addr) : Inv (X.suite a (X.pn ++ pins)) [] σ H s := ⟨I.ok.suite _ _, I.os, I.bare, I.base, I.loc, I.cell, I.free, I.freeC, fun p hp => I.pin p (by simpa using hp), I.hok, I.len⟩
theorem inv_unsuite {pn' : List (Addr × Obj)} (I : Inv (X.suite a (X.pn ++ pins)) pn' σ H s) (ok : X.Ok) : Inv X pins σ H s := ⟨ok, I.os, I.bare, I.base, I.loc, I.cell, I.free, I.freeC, fun p hp => I.pin p (List.mem_append_left _ hp), I.hok, I.len⟩
end
def wKeep (K : PySem.W.Frag) (c : Value) (i : Nat) (ts : Addr → Obj → L2.TS) (Wout : WX) (D : Ends) : WX := fun cls d σ H =>
  ∃ b, PySem.W.exmOne K cls c = some b ∧ (b = true → ∀ a oe, H a = none → Zc cls d oe → (∃ fv, oe.data = .fields fv) → ts a oe { nx := fun σ' H' => D.nx (σ'.set i none) H', rt := D.rt, bk := fun σ' H' => D.bk (σ'.set i none) H', ct := fun σ' H' => D.ct (σ'.set i none) H' } (σ.set i (some (.ref a))) (upd H a (kept oe))) ∧ (b = false → Wout cls d σ H)
section
variable {X : Cx} {x n : Str} {c : Value} {i : Nat} {body suite : List Stmt} {b₀ : Stmt} {np pos pos' : Pos} {tb : WX → L2.TS} {ts : Addr → Obj → L2.TS} {Wout : WX}
theorem ps_tryK (hs : X.stack = X.env :: X.outer) (hf : X.env.frame = some X.env.locals) (hN : X.N.Nodup) (hi : X.N[i]? = some n) (hln : X.env.kindOf n = some .local) (hc : Names X x c) (tk : Takes X Wout)
    (hb : ∀ (W : WX) (pn : List (Addr × Obj)) (xe : Value → Shared → Prop), Takes (X.tr pn xe) W → PassesOwn (model X.prog X.w) X.A X.env xe → PSs (X.tr pn xe) body (tb W)) (hsu : ∀ (a : Addr) (oe : Obj) (pn : List (Addr × Obj)), PSs (X.suite a pn) (b₀ :: suite) (ts a oe)) :
    PS X (.Try body [.ExceptHandler (some (.Name x np)) (some n) (b₀ :: suite) pos'] [] [] pos) (fun D σ H => tb (wKeep X.K c i ts Wout D) D σ H) := by
  refine ⟨fun pins s σ H D I h => ?_⟩
  have ok := I.ok
  have hfr : X.A.frames = some (X.env :: X.outer) := by rw [ok.frames, hs]
  refine wpAny_Try_except ?_
  refine wpAny_mono ((hb (wKeep X.K c i ts Wout D) (X.pn ++ pins) (fun e s₁ => wpAny (model X.prog X.w) X.A (noteFrame e X.env) (fun _ s₂ => wpAny (model X.prog X.w) X.A (setFlight e none) (fun _ s₃ => wpAny (model X.prog X.w) X.A (handleBy e X.env [.ExceptHandler (some (.Name x np)) (some n) (b₀ :: suite) pos']) (SP X pins D) X.xe s₃) X.xe s₂) X.xe s₁) (fun u s' xx => ?_) PassesOwn.looking).run [] s σ H D (I.toTry _) h) (fun f s1 hsp => ?_) (fun e s1 he => he)
  · obtain ⟨a, B, sI, pins', σ', H', cls, d, rfl, J', nb, up, sky, na, os, ag, b, hb1, hyes, hno⟩ := xx
    have J : Inv X pins σ' H' sI := Inv.ofTry J' ok
    have sky2 : Sky B (X.env :: X.outer) a (Zc cls d) X.env.locals s'.heap := hs ▸ sky
    show wpAny (model X.prog X.w) X.A (noteFrame (.ref a) X.env) _ _ _
    refine Sky.land Zc.steady hfr hf sky2 fun h3 fl3 up3 => ?_
    have J3 : Inv X pins σ' H' { s' with heap := h3 } := Inv.landed J nb fl3.1 (up.trans up3) os ag
    obtain ⟨oe3, vs3, he3, hz3, hd3⟩ := HandSPX.FlyingZ.there fl3
    have nfr : a ∉ frs (X.env :: X.outer) := fun hm => by
      obtain ⟨_, o', e', hnf⟩ := fl3.2.2.1.mem hm
      rw [he3] at e'; cases e'; exact hnf _ hd3
    have nL : a ≠ X.env.locals := fun z => nfr (List.mem_filterMap.mpr ⟨X.env, List.mem_cons_self, by rw [hf, z]⟩)
    have nF : a ∉ X.fs := fun hm => let ⟨e, he, q⟩ := List.mem_filterMap.mp hm; nfr (List.mem_filterMap.mpr ⟨e, List.mem_cons_of_mem _ he, q⟩)
    have nB : B.get? a = none := fl3.2.1
    have nO : ∀ o, sI.heap.get? a ≠ some o := fun o e => by
      have q := nb a o e (by rw [hs]; exact nfr)
      rw [nB] at q; cases q
    have h0 : a ∉ X.ex → X.s_0.heap.get? a = none := fun hx => by
      cases e : X.s_0.heap.get? a with
      | none => rfl
      | some o => obtain ⟨o', e'⟩ := J.base.there a o e hx; exact absurd e' (nO o')
    have hnp : ∀ p ∈ X.pn ++ pins, p.1 ≠ a := fun p hp z => nO p.2 (z ▸ (J.pin p hp).1)
    have S3 := inv_suite J3 a
    refine wpAny_handleBy_cons (codeAny_handlers_test ?_) (by intro q; cases q)
    have LT : PySem.W.Looks (model X.prog X.w) h3 (typeOf (.ref a)) cls := fun A Q E s k q => wpAny_typeOf_ref (k _ _ he3) (hz3.1.symm ▸ q)
    have LM := PySem.W.exm_one (M := model X.prog X.w) J3.kIn LT hb1
    have test : ∀ {Q : Value → Shared → Prop} {E : Value → Shared → Prop}, Q c { s' with heap := h3 } → wpAny (model X.prog X.w) (X.A.mark (some (.ref a))) (eval (.Name x np) X.env) Q E { s' with heap := h3 } := fun {Q E} q => by
      obtain ⟨hg, hdbg, hm | ⟨hm, hv, hnn⟩⟩ := hc
      · exact ld_glob (X := X.suite a (X.pn ++ pins)) S3 hg hm q hdbg
      · exact ld_blt (X := X.suite a (X.pn ++ pins)) S3 hg hm hv q hnn hdbg
    refine test (LM.here ?_)
    cases b with
    | true =>
      refine codeAny_handlers_suite_as ?_
      refine HandSPX.lands_againZ fl3 fun h4 fl4 up4 => ?_
      have J4 : Inv X pins σ' H' { s' with heap := h4 } := Inv.landed J nb fl4.1 ((up.trans up3).trans up4) os ag
      obtain ⟨oe4, vs4, he4, hz4, hd4⟩ := HandSPX.FlyingZ.there fl4
      have S4 := inv_suite (inv_keep J4 he4 hd4 na nL h0 hnp) a
      refine store_ok (X := X.suite a (X.pn ++ pins)) (v := .ref a) S4 hN hi (.inl hln) rfl (fun s5 S5 => ?_) (.inr hln)
      refine wpAny_mono ((hsu a oe4 (X.pn ++ pins)).run [] s5 _ _ _ S5 (hyes rfl a oe4 na hz4 ⟨_, hd4⟩)) (fun f s6 hsp => ?_) (fun _ _ z => z.elim)
      have fin : ∀ {σ6 : L2.St} {H6 : Hp} {Q : Shared → Prop}, Inv (X.suite a (X.pn ++ pins)) [] σ6 H6 s6 → (∀ s7, Inv X pins (σ6.set i none) H6 s7 → Q s7) → wpAny (model X.prog X.w) X.A (do bindName X.env n .none; unbindBehindTheSuite X.env n pos') (fun _ s7 => Q s7) X.xe s6 := fun {σ6 H6 Q} S6 hq => gone_ok (inv_unsuite S6 ok) hN hi hln hq
      cases f with
      | next => obtain ⟨σ6, H6, S6, q6⟩ := hsp; exact fin S6 fun s7 J7 => ⟨_, _, J7, q6⟩
      | brk => obtain ⟨σ6, H6, S6, q6⟩ := hsp; exact fin S6 fun s7 J7 => ⟨_, _, J7, q6⟩
      | cont => obtain ⟨σ6, H6, S6, q6⟩ := hsp; exact fin S6 fun s7 J7 => ⟨_, _, J7, q6⟩
      | ret u => obtain ⟨v6, σ6, H6, S6, r6, q6⟩ := hsp; exact fin S6 fun s7 J7 => ⟨_, _, _, J7, r6, q6⟩
    | false =>
      show wpAny _ X.A (handleBy (.ref a) X.env []) _ _ _
      refine wpAny_handleBy_nil ?_
      obtain ⟨k1, k2, k3, oe, vs, T, oT, ts', he, hz, hd, h1, hr⟩ := id fl3
      unfold PySem.passOn
      refine wpAny_bind (wpAny_field he hd h1 ?_)
      rw [if_neg (show ¬ ((Value.ref T == Value.none) = true) from by simp)]
      have last : wpAny (model X.prog X.w) X.A (setFlight (.ref a) X.env.frame) (fun _ s4 => wpAny (model X.prog X.w) X.A (throw (.ref a) : Sem Flow) (SP X pins D) X.xe s4) X.xe { s' with heap := h3 } := by
        rw [hf]
        exact HandSPX.setFlight_upZ fl3 fun h4 hh4 up4 => wpAny_throw (tk _ _ ⟨a, B, sI, pins, σ', H', cls, d, rfl, J, nb, (up.trans up3).trans up4, .inr (.inr (by rw [hs]; exact hh4)), na, os, ag, hno rfl⟩)
      first | exact wpAny_bind (wpAny_pure (wpAny_bind last)) | exact wpAny_bind last
  · cases f with
    | next => obtain ⟨σ', H', J', q⟩ := hsp; exact wpAny_execs_nil ⟨σ', H', J'.ofTry ok, q⟩
    | brk => obtain ⟨σ', H', J', q⟩ := hsp; exact ⟨σ', H', J'.ofTry ok, q⟩
    | cont => obtain ⟨σ', H', J', q⟩ := hsp; exact ⟨σ', H', J'.ofTry ok, q⟩
    | ret u => obtain ⟨v, σ', H', J', r, q⟩ := hsp; exact ⟨v, σ', H', J'.ofTry ok, r, q⟩
end
end Z

set_option Elab.async false
set_option linter.all false
set_option maxRecDepth 100000
set_option maxHeartbeats 4000000
namespace Z
open PySem PySem.Spec PyProof.Rows L2
theorem pe_binit {X : Cx} {M : Addr} {x : Str} {e : Expr} {es : List Expr} {ta : TA} {p1 p2 pos : Pos} (hg : Gl X x) (hdb : (x == ("__debug__" : Str)) = false) (hm : X.mg x = some (.ref M)) (sg : PySem.W.specialIn X.K (.ref M) "__getattribute__" = some (some (.builtin "type.__getattribute__"))) (rd : PySem.W.readsIn X.K M (.type "type") = true)
    (vV : PySem.W.findCls X.K (.ref M) (.type "type") "__init__" = some (.val (.builtin "ValueError.__init__"))) (ha : PA X (e :: es) ta)
    (hfew : ((backTo pos (starEach (e :: es) X.env)).all (fun x => !x.1) && (backToKw pos (keywordEach [] X.env)).all (fun x => x.1.isSome) && decide ((e :: es).length + ([] : List Keyword).length + (if ([] : List Keyword).isEmpty then 0 else 1) < 30)) = true) (hline : (p2.endLine == pos.line) = true)
    (he : starEach (e :: es) X.env = (false, eval e X.env) :: starEach es X.env := by rfl) (hpl : (backTo pos (starEach es X.env)).any (·.1) = false := by rfl) :
    PE X (.Call (.Attribute (.Name x p1) "__init__" p2) (e :: es) [] pos) (tVeI X.K ta) := by
  refine ⟨fun pins s σ H Q I h => ?_⟩
  have hbase : attributeBase (.Name x p1) ("__init__" : Str) X.env (eval (.Name x p1) X.env) = eval (.Name x p1) X.env := by rfl
  rw [arm_eval_Call, hbase]
  refine wpAny_bind (ld_glob I hg hm ?_ hdb)
  refine wpAny_bind (wpAny_standAt ?_)
  have hform : methodCallForm ((e :: es).length + ([] : List Keyword).length) (backTo pos (starEach (e :: es) X.env)) (backToKw pos (keywordEach [] X.env)) = true := hfew
  have hpos : methodCallPos true (.Name x p1) X.env p2 pos = pure pos := by unfold methodCallPos; simp [hline]
  unfold methodCall
  rw [hform]
  refine wpAny_bind (wpAny_holding (PySem.W.method_cls I.kIn sg (PySem.W.cls_value I.kIn rd vV (by decide +kernel) ?_)))
  refine wpAny_bind (wpAny_of_eq hpos ?_)
  show wpAny _ _ (callWith pos (Value.builtin "ValueError.__init__") [] (backTo pos (starEach (e :: es) X.env)) []) _ _ _
  refine PyProof.Rows.callWith_method1 (thn (ha.run pos pins _ σ H _ (I.tok _) h) fun us s1 ⟨vs, H1, I1, r1, a, C, ws, ev, hl, T, ea, q⟩ => ?_) he hpl
  subst ev
  cases r1 with
  | @cons _ u0 _ ur ra rw' =>
    obtain rfl : u0 = Value.ref a := ra
    exact oinit_ok T I1 ea (by rw [← Paired.length rw', sizeLine_eq]; omega) fun s' J => ⟨.non, H1, J, rfl, q⟩
def initS : List Str → List Stmt → Bool
  | [f], [.Expr (.Call (.Attribute (.Name m _) i ap) [.Name s _, .Name a _] [] cp) _, .Assign [.Attribute (.Name s1 _) g _] (.Name b _) _] =>
    (ap.endLine == cp.line) && decide (m = "MakeError") && decide (i = "__init__") && decide (s = "self") && decide (a = f) && decide (s1 = "self") && decide (g = f) && decide (b = f)
  | [f, f2], [.Expr (.Call (.Attribute (.Name m _) i ap) [.Name s _, .Name a _, .Name a2 _] [] cp) _, .Assign [.Attribute (.Name s1 _) g _] (.Name b _) _, .Assign [.Attribute (.Name s2 _) g2 _] (.Name b2 _) _] =>
    (ap.endLine == cp.line) && decide (m = "MakeError") && decide (i = "__init__") && decide (s = "self") && decide (a = f) && decide (s1 = "self") && decide (g = f) && decide (b = f) && decide (a2 = f2) && decide (s2 = "self") && decide (g2 = f2) && decide (b2 = f2)
  | _, _ => false
def spI (C : Addr) (ns : List Str) : Sp := fun vs H Q _ => ∃ a ws, vs = .ref a :: ws ∧ ws.length = ns.length ∧ H a = some (exo a C none) ∧ ∀ dx, H dx = none → dx ≠ a → Q .non (upd (upd H a (exo a C (some dx))) dx (exd dx (ns.zip ws).reverse))
structure RFact (K : PySem.W.Frag) (mg : Str → Option Value) (n : Str) (ns : List Str) (C fI : Addr) (fd : FuncData) : Prop where
  cls : XCls K n C
  mgn : mg n = some (.ref C)
  ok : OexC K C
  base : ∃ M, mg "MakeError" = some (.ref M) ∧ PySem.W.specialIn K (.ref M) "__getattribute__" = some (some (.builtin "type.__getattribute__")) ∧ PySem.W.readsIn K M (.type "type") = true ∧ PySem.W.findCls K (.ref M) (.type "type") "__init__" = some (.val (.builtin "ValueError.__init__"))
  ini : PySem.W.findIn K (.ref C) "__init__" = some (some (.ref fI))
  tin : PySem.W.typeIn K (.ref fI) = some (.type "function")
  bd : Binds K fd ("self" :: ns) []
  fl : ∀ f ∈ ns, f ∈ xflds
  fn : ∃ qual st, Fun K "__init__" qual st fI fd ∧ FnScope ("self" :: ns) ("self" :: ns) (defScope st) ∧ initS ns (defBody st) = true ∧ (defScope st).names.lookup ("MakeError" : Str) = some .globalImplicit
theorem upd_comm {H : Hp} {a b : Addr} {o u : HO} (h : a ≠ b) : upd (upd H a o) b u = upd (upd H b u) a o := by
  funext c
  unfold upd
  by_cases h1 : c = b
  · subst h1; rw [if_pos rfl, if_neg (Ne.symm h), if_pos rfl]
  · rw [if_neg h1, if_neg h1]
theorem init_ok {P : Program} {w : World} {K : PySem.W.Frag} {mg : Str → Option Value} {base : Heap} {n : Str} {ns : List Str} {C fI : Addr} {fd : FuncData} (R : RFact K mg n ns C fI fd) : FnOk P w K mg base (L2.CX P w) 1 fI fd ("self" :: ns) (spI C ns) := by
  obtain ⟨qual, st, F, Sc, sh, hgl⟩ := R.fn
  obtain ⟨M, m1, m2, m3, m4⟩ := R.base
  have vis : ∀ y : Str, y ∈ (("self" : Str) :: ns) → Vis (defScope st) y := fun y hy => by
    rcases Sc.par y hy with q | q
    · exact .inl q
    · exact .inr (.inl q)
  have fno : ∀ f ∈ ns, PySem.W.findIn K (.ref C) f = some none := fun f hf => R.cls.fl f (R.fl f hf)
  have ndb : ∀ f ∈ ns, (f == ("__debug__" : Str)) = false ∧ (f == ("__classdict__" : Str)) = false := fun f hf => by
    have := R.fl f hf
    simp only [xflds, List.mem_cons, List.not_mem_nil, or_false] at this
    rcases this with rfl | rfl | rfl | rfl <;> exact ⟨by decide, by decide⟩
  refine Fun.okX (k := 0) F Sc (fun vs H Q E h => ?_) fun cdv A outer s H vs Q E hr h => ?_
  · obtain ⟨a, ws, rfl, hl, _⟩ := h
    simp [hl]
  · obtain ⟨a, ws, rfl, hl, ha, hq⟩ := h
    unfold initS at sh
    split at sh
    · rename_i f m _ i _ _ _ a1 _ _ _ s1 _ g _ b _ _ eb
      simp only [Bool.and_eq_true, decide_eq_true_eq] at sh
      obtain ⟨⟨⟨⟨⟨⟨⟨hli, rfl⟩, rfl⟩, rfl⟩, rfl⟩, rfl⟩, rfl⟩, rfl⟩ := sh
      match ws, hl with
      | [y], _ =>
      rw [eb]
      refine ⟨_, pss_cons (ps_expr (pe_binit hgl (by decide) m1 m2 m3 m4 (pa_cons (pe_var (i := 0) rfl (vis _ (by simp))) (pa_cons (pe_var (i := 1) rfl (vis _ (by simp)) (ndb _ (by simp)).1 (ndb _ (by simp)).2) pa_nil)) (by rfl) hli)) (pss_cons (ps_ost (pe_var (i := 0) rfl (vis _ (by simp))) (pe_var (i := 1) rfl (vis _ (by simp)) (ndb _ (by simp)).1 (ndb _ (by simp)).2)) pss_nil), ?_⟩
      refine ⟨.ref a, rfl, y, rfl, a, C, [y], rfl, by simp, R.ok, ha, y, rfl, .ref a, rfl, a, C, rfl, R.ok, fno _ (by simp), .inl ⟨ha, fun dx nd ne => ?_⟩⟩
      show Q .non _
      rw [upd_comm ne]
      exact hq dx nd ne
    · rename_i f f2 m _ i _ _ _ a1 _ a2 _ _ _ s1 _ g _ b _ _ s2 _ g2 _ b2 _ _ eb
      simp only [Bool.and_eq_true, decide_eq_true_eq] at sh
      obtain ⟨⟨⟨⟨⟨⟨⟨⟨⟨⟨⟨hli, rfl⟩, rfl⟩, rfl⟩, rfl⟩, rfl⟩, rfl⟩, rfl⟩, rfl⟩, rfl⟩, rfl⟩, rfl⟩ := sh
      match ws, hl with
      | [y, z], _ =>
      rw [eb]
      refine ⟨_, pss_cons (ps_expr (pe_binit hgl (by decide) m1 m2 m3 m4 (pa_cons (pe_var (i := 0) rfl (vis _ (by simp))) (pa_cons (pe_var (i := 1) rfl (vis _ (by simp)) (ndb _ (by simp)).1 (ndb _ (by simp)).2) (pa_cons (pe_var (i := 2) rfl (vis _ (by simp)) (ndb _ (by simp)).1 (ndb _ (by simp)).2) pa_nil))) (by rfl) hli))
        (pss_cons (ps_ost (pe_var (i := 0) rfl (vis _ (by simp))) (pe_var (i := 1) rfl (vis _ (by simp)) (ndb _ (by simp)).1 (ndb _ (by simp)).2)) (pss_cons (ps_ost (pe_var (i := 0) rfl (vis _ (by simp))) (pe_var (i := 2) rfl (vis _ (by simp)) (ndb _ (by simp)).1 (ndb _ (by simp)).2)) pss_nil)), ?_⟩
      refine ⟨.ref a, rfl, y, rfl, z, rfl, a, C, [y, z], rfl, by simp, R.ok, ha, y, rfl, .ref a, rfl, a, C, rfl, R.ok, fno _ (by simp), .inl ⟨ha, fun dx nd ne => ?_⟩⟩
      refine ⟨z, rfl, .ref a, rfl, a, C, rfl, R.ok, fno _ (by simp), .inr ⟨dx, _, upd_same, by rw [upd_ne ne, upd_same], by simp, ?_⟩⟩
      show Q .non _
      rw [upd_comm ne, upd_upd]
      exact hq dx nd ne
    · cases sh
def rInner (C : Addr) (ns : List Str) (W : WX) (σ : L2.St) (vs : List V) (H1 : Hp) : Prop := vs.length ≤ 1000 ∧ ∀ a, H1 a = none → spI C ns (.ref a :: (vs ++ [])) (upd H1 a (exo a C none))
  (fun v H2 => v = .non ∧ ∃ (d : Addr) (fs : List (Str × V)), H2 a = some (exo a C (some d)) ∧ H2 d = some (exd d fs) ∧ H1 d = none ∧ W (.ref C) (some d) σ (upd (del H2 a) d (.xd fs))) (fun _ _ _ => False)
theorem rInner_of {C : Addr} {ns : List Str} {W : WX} {σ : L2.St} {vs : List V} {H1 : Hp} (h1 : vs.length = ns.length) (h2 : vs.length ≤ 1000) (h3 : ∀ dx, H1 dx = none → W (.ref C) (some dx) σ (upd H1 dx (.xd (ns.zip vs).reverse))) : rInner C ns W σ vs H1 := by
  refine ⟨h2, fun a na => ⟨a, vs, by simp, h1, upd_same, fun dx nd ne => ?_⟩⟩
  rw [upd_ne ne] at nd
  refine ⟨rfl, dx, _, by rw [upd_ne (Ne.symm ne), upd_same], upd_same, nd, ?_⟩
  have eq : upd (del (upd (upd (upd H1 a (exo a C none)) a (exo a C (some dx))) dx (exd dx (ns.zip vs).reverse)) a) dx (.xd (ns.zip vs).reverse) = upd H1 dx (.xd (ns.zip vs).reverse) := by
    funext b
    by_cases hb : b = dx
    · subst hb; rw [upd_same, upd_same]
    · rw [upd_ne hb, upd_ne hb]
      by_cases hb2 : b = a
      · subst hb2; rw [del_same, na]
      · rw [del_ne hb2, upd_ne hb, upd_ne hb2, upd_ne hb2]
  rw [eq]
  exact h3 dx nd
theorem ps_raisD {X : Cx} {W : WX} {n : Str} {ns : List Str} {C fI : Addr} {fd : FuncData} {e : Expr} {es : List Expr} {ta : TA} {p pos pos' : Pos} (R : RFact X.K X.mg n ns C fI fd) (hc : X.calm = true) (tk : Takes X W) (hr : Room 2 X.A) (hg : Gl X n) (hdb : (n == ("__debug__" : Str)) = false) (ha : PA X (e :: es) ta)
    (he : starEach (e :: es) X.env = (false, eval e X.env) :: starEach es X.env) (hpl : (backTo pos (starEach es X.env)).any (·.1) = false) :
    PS X (.Raise (some (.Call (.Name n p) (e :: es) [] pos)) none pos') (fun _ σ H => ta σ H fun vs H1 => rInner C ns W σ vs H1) := by
  have pm := pmk_oex (CX := L2.CX X.prog X.w) (x := n) (p := p) (pos := pos) (dvs := []) (ds := []) R.ok R.ini R.tin (init_ok R) hr R.bd .nil (fun _ _ _ _ _ _ _ z => by obtain ⟨_, _, _, _, _, _, _, _, _, _, _, _, q⟩ := z; exact q.elim) hg R.mgn ha hdb he hpl
  exact ⟨fun pins s σ H D I h => (ps_raise hc tk pm).run pins s σ H D I h⟩
end Z

set_option Elab.async false
set_option linter.all false
set_option maxRecDepth 100000
set_option maxHeartbeats 4000000
namespace Z
open PySem PySem.Spec PyProof.Rows L2
def IteT (K : PySem.W.Frag) (a : Addr) : It :=
  ⟨fun i H => ∃ (xs : List V) (x : V), SqT K H a xs ∧ xs[i]? = some x, fun i H v H' => ∃ T x, v = .ref T ∧ H T = none ∧ H' = upd H T (.tup [.int (i : Nat), x]) ∧ ∀ xs, SqT K H a xs → xs[i]? = some x, fun i H => ∃ xs : List V, SqT K H a xs ∧ xs.length ≤ i⟩
theorem meets_enumB {v0 : Value} {ob : Obj} {HH : Heap → Prop} (B : Begins v0 ob HH) :
    Meets (Builtin.«enumerate.__new__» ⟨[.type "enumerate", v0], []⟩) (fun _ R s => HH s.heap ∧
      R (.ok (.ret (.ref (s.heap.push ob).objs.size))) { s with heap := (s.heap.push ob).push { cls := .type "enumerate", data := .fields #[.none, .bool false, .ref s.heap.objs.size, rawInt 0, .none, .none] } }) :=
  .of_wp fun prog w A R s0 hyp => by
    obtain ⟨hp, gg, dd, tk, os⟩ := s0; obtain ⟨hyp1, hyp⟩ := hyp; have hsb := sub_enumerate
    have it1 : ∀ {A' : Around} {E : Value → Shared → Prop} {Q : Value → Shared → Prop}, Q (.ref hp.objs.size) ⟨hp.push ob, gg, dd, tk, os⟩ → wpAny (model prog w) A' (pyIter v0) Q E ⟨hp, gg, dd, tk, os⟩ := fun z => B.iter prog w _ _ ⟨hp, gg, dd, tk, os⟩ _ hyp1 z
    wp_walk using it1; refine wpAny_stack_any fun stk => wpAny_pure ?_; split
    · rename_i cc _ _ _ _ _; cases (cc == Value.type "enumerate") <;> (wp_walk using it1; exact ⟨_, rfl, hyp⟩)
    · wp_walk using it1; exact ⟨_, rfl, hyp⟩
theorem enumT_begins {prog : Program} {w : World} {A : Around} {E : Value → Shared → Prop} {s : Shared} {v0 : Value} {ob : Obj} {HH : Heap → Prop} {Q : Value → Shared → Prop} (B : Begins v0 ob HH) (h1 : HH s.heap)
    (hyp : ∀ h', IsEnum h' (s.heap.objs.size + 1) s.heap.objs.size 0 .none → h'.get? s.heap.objs.size = some ob → (∀ b o, s.heap.get? b = some o → h'.get? b = some o) → Q (.ref (s.heap.objs.size + 1)) { s with heap := h' }) :
    wpAny (model prog w) A (call (.type "enumerate") [v0]) Q E s := by
  refine callType_new F.called_enumerate (by decide) (F.typeCall_enumerate_1 _) (F.newCall_enumerate_1 _) (fun obj => F.args_object_init_2 obj _) F.entry_enumerate_new (meets_enumB B) ⟨h1, ?_⟩
  have hz : (s.heap.push ob).objs.size = s.heap.objs.size + 1 := Heap.size_push ..
  show _ ∧ _
  rw [hz]
  have he : IsEnum ((s.heap.push ob).push { cls := .type "enumerate", data := .fields #[.none, .bool false, .ref s.heap.objs.size, rawInt 0, .none, .none] }) (s.heap.objs.size + 1) s.heap.objs.size 0 .none := by have z := Heap.get?_push_size (s.heap.push ob) (o := { cls := .type "enumerate", data := .fields #[.none, .bool false, .ref s.heap.objs.size, rawInt 0, .none, .none] }) rfl; rw [hz] at z; exact z
  exact ⟨⟨_, he, rfl⟩, hyp _ he (Heap.get?_push_of_some _ (Heap.get?_push_size _ B.free)) fun b o x => Heap.get?_push_of_some _ (Heap.get?_push_of_some _ x)⟩
theorem turn_enumT {P : Program} {w : World} {K : PySem.W.Frag} {elts : List Expr} {kk : Nat} {tpos : Pos} (a e it : Addr) :
    Turn P w K (.Tuple elts kk tpos) (IteT K a) [e, it] e (fun i h => (∃ old, IsEnum h e it ((i : Nat) : Int) old) ∧ h.IsTupleIter it a i ∧ e ≠ it) where
  mem := by simp
  obj := fun i h st b hb => by
    obtain ⟨⟨old, he⟩, ⟨o, ho, hc, hd⟩, _⟩ := st
    rcases (show b = e ∨ b = it by simpa using hb) with z | z
    · rw [z]; exact ⟨_, he, fun v q => nomatch q⟩
    · rw [z]; exact ⟨o, ho, fun v q => by rw [hd] at q; cases q⟩
  keep := fun i h h' st k => let ⟨⟨old, he⟩, hi, hne⟩ := st; ⟨⟨old, k e (by simp) _ he⟩, hi.at fun o q => k it (by simp) o q, hne⟩
  item := by
    intro X hP hw hK hc i pins s σ H E I hf st hg; subst hP hw hK
    obtain ⟨⟨old, he⟩, hit, hne⟩ := st; obtain ⟨xs, x, hq, hx⟩ := hg; obtain ⟨its, rv, p, hz⟩ := I.tuple hq; obtain ⟨u, hu, ru⟩ := rv.get hx
    have hel : e < s.heap.objs.size := Heap.lt_size he
    have hil : it < s.heap.objs.size := by obtain ⟨_, q, _⟩ := hit; exact Heap.lt_size q
    have hia : a ≠ it := fun z => by
      obtain ⟨o, q, qc, _⟩ := hit; obtain ⟨o2, q2, qc2, _⟩ := p
      rw [z, q] at q2; cases q2; rw [qc] at qc2; simp at qc2
    have hea : e ∉ [it, a] := fun z => by
      rcases (show e = it ∨ e = a by simpa using z) with z | z
      · exact hne z
      · obtain ⟨o2, q2, qc2, _⟩ := p; rw [← z] at q2; have he' : s.heap.get? e = _ := he; rw [q2] at he'; cases he'; simp at qc2
    have hlt : i < its.toArray.size := by simpa using (List.getElem?_eq_some_iff.mp hu).1
    refine wpAny_pyNext_enum_itemD (Draws.tuple (show X.A.in1.handled = none from I.ok.hd hc) it a hia its.toArray) he ⟨hit, p⟩ hlt hne hea fun y h' tk hy ho st' hT hsz hk => ?_
    have hyu : y = u := by rw [show its.toArray[i]? = its[i]? by simp, hu] at hy; exact (Option.some.inj hy).symm
    subst hyu
    refine ⟨_, rfl, wpAny_letOwnedTupleGo_enum (s := { s with heap := h', toks := tk + 1 }) ho fun h'' he' sb => ?_⟩
    have hT2 : h''.get? s.heap.objs.size = some { cls := .type "tuple", data := .seq #[.int i tk, y] } := (sb.2 _ (Nat.ne_of_gt hel)).trans hT
    have new : ObjOk X.prog X.w (upd H s.heap.objs.size (.tup [.int (i : Nat), x])) h'' s.heap.objs.size (.tup [.int (i : Nat), x]) := ⟨by show 2 ≤ sizeLine; decide, [.int i tk, y], .cons ⟨_, rfl⟩ (.cons ru .nil), ⟨_, hT2, rfl, _, rfl⟩⟩
    have I1 : Inv X pins σ (upd H s.heap.objs.size (.tup [.int (i : Nat), x])) { s with heap := h'', toks := tk + 1 } := I.turnedNew (ch := [e, it]) (fun b ob hb q => (sb.2 b (fun z => hb (by simp [z]))).trans (hk b ob (fun z => hb (by simp [z])) (fun z => hb (by simp [z])) q)) hf (Nat.le_refl _) new
    refine ⟨.ref s.heap.objs.size, _, I1, rfl, ⟨_, x, rfl, I.hok.fresh (Nat.le_refl _), rfl, fun ys hy => by rw [I.tuple_inj hy hq]; exact hx⟩, ⟨⟨y, ?_⟩, st'.1.at fun o q => (sb.2 it (Ne.symm hne)).trans q, hne⟩, fun b hb => ?_⟩
    · rw [show ((i + 1 : Nat) : Int) = (i : Int) + 1 by omega]; exact he'
    · have hb' : b < s.heap.objs.size := by
        rcases (show b = e ∨ b = it by simpa using hb) with z | z
        · rw [z]; exact hel
        · rw [z]; exact hil
      rw [upd_ne (Nat.ne_of_lt hb')]; exact (hf b hb).1
  done := by
    intro X hP hw hK hc i pins s σ H E I hf st hg; subst hP hw hK
    obtain ⟨⟨old, he⟩, hit, hne⟩ := st; obtain ⟨xs, hq, hx⟩ := hg; obtain ⟨its, rv, p, hz⟩ := I.tuple hq; obtain ⟨f0, f1, f2, f3, f4, f5⟩ := hf it (by simp)
    have hl := rv.length
    have hia : a ≠ it := fun z => by
      obtain ⟨o, q, qc, _⟩ := hit; obtain ⟨o2, q2, qc2, _⟩ := p
      rw [z, q] at q2; cases q2; rw [qc] at qc2; simp at qc2
    have tE : s.TypeIs (.ref e) "enumerate" := ⟨_, he, rfl⟩
    unfold pyNext; refine wpAny_bind (wpAny_attempt (wpAny_callSpecial?_slot (name := Str.ofString "__next__") tE F.slot_enumerate_next (wpAny_call_entry F.slot_enumerate_next tE F.entry_enumerate_next ?_ (F.args_enumerate_next_1 _))))
    show wpAny _ _ (field (.ref e) 2 >>= _) _ _ _; refine wpAny_bind (wpAny_field he rfl (x := .ref it) rfl ?_)
    refine wpAny_bind (wpAny_nextOf_tuple_end (show X.A.in1.handled = none from I.ok.hd hc) hit p (Array.getElem?_eq_none (by simp; omega)) fun h' x hx he' => ?_)
    obtain ⟨o, ho, hoc⟩ := he'; refine wpAny_bind (wpAny_isInstance (T := "StopIteration") (b := true) ⟨o, ho, hoc⟩ isSubtype_stop ?_)
    exact wpAny_pure ⟨rfl, I.turned (t' := s.toks) (fun b o hb q => hx b o hb q) f0 f1 f3 f4 f5⟩
  self := fun A i s Q E st h => let ⟨⟨_, he⟩, _⟩ := st; wpAny_pyIter_enum he h
def iEnumT (K : PySem.W.Frag) (te : TE) : TI := fun σ H R => te σ H fun v H1 => ∃ a xs, v = .ref a ∧ ((SqL K H1 a xs ∧ R (Ite K a) H1) ∨ (SqT K H1 a xs ∧ R (IteT K a) H1))
theorem pi_enumT {X : Cx} {e : Expr} {te : TE} {p pos tpos : Pos} {elts : List Expr} {kk : Nat} (hg : Gl X "enumerate") (hm : X.mg "enumerate" = none) (he : PE X e te) (hs : starEach [e] X.env = (false, eval e X.env) :: starEach [] X.env) :
    PI X (.Tuple elts kk tpos) (.Call (.Name "enumerate" p) [e] [] pos) (iEnumT X.K te) := by
  refine ⟨fun pins s σ H R I h => ?_⟩
  refine Call_ (ld_blt I hg hm boot_enumerate (PyProof.Rows.callWith_type1 (args_cons (thn (he.run pins s σ H _ I h) fun u s1 ⟨v, H1, I1, r1, q1⟩ => args_nil ?_) hs) hs rfl))
  obtain ⟨a, xs, ev, q⟩ := q1; subst ev; obtain rfl : u = Value.ref a := r1
  rcases q with ⟨hq, q⟩ | ⟨hq, q⟩
  · obtain ⟨its, rv, p', hz⟩ := I1.list hq
    refine call_enumerate_list p'.isList fun h' he hit hsz hk => wpAny_pyIter_enum he ?_
    refine ⟨s1.heap.objs.size + 1, [s1.heap.objs.size + 1, s1.heap.objs.size], _, _, H1, rfl, I1.kept (t' := s1.toks) hk, turn_enum a (s1.heap.objs.size + 1) s1.heap.objs.size, ⟨⟨.none, he⟩, hit, Nat.succ_ne_self _⟩, fun b hb => ?_, q⟩
    have hle : s1.heap.objs.size ≤ b := by
      rcases (show b = s1.heap.objs.size + 1 ∨ b = s1.heap.objs.size by simpa using hb) with z | z
      · rw [z]; exact Nat.le_add_right _ _
      · rw [z]; exact Nat.le_refl _
    exact I1.fpOk hle (I1.hok.fresh hle)
  · obtain ⟨its, rv, p', hz⟩ := I1.tuple hq
    refine enumT_begins (begins_tuple a its.toArray) p' fun h' he hit hk => wpAny_pyIter_enum he ?_
    refine ⟨s1.heap.objs.size + 1, [s1.heap.objs.size + 1, s1.heap.objs.size], _, _, H1, rfl, I1.kept (t' := s1.toks) hk, turn_enumT a (s1.heap.objs.size + 1) s1.heap.objs.size, ⟨⟨.none, he⟩, ⟨_, hit, rfl, rfl⟩, Nat.succ_ne_self _⟩, fun b hb => ?_, q⟩
    have hle : s1.heap.objs.size ≤ b := by
      rcases (show b = s1.heap.objs.size + 1 ∨ b = s1.heap.objs.size by simpa using hb) with z | z
      · rw [z]; exact Nat.le_add_right _ _
      · rw [z]; exact Nat.le_refl _
    exact I1.fpOk hle (I1.hok.fresh hle)
end Z

set_option Elab.async false
set_option linter.all false
set_option maxRecDepth 100000
set_option maxHeartbeats 4000000
namespace Z
open PySem PySem.Spec PyProof.Rows L2
section
variable {prog : Program} {w : World} {A : Around} {E : Value → Shared → Prop} {s : Shared}
theorem star_rest {items : Array Value} {n i : Nat} {Q : List Value → Shared → Prop} {z0 : Sem (List Value)} (hi : i < n) (hn : n ≤ items.size + 1) (hz : items.size ≤ 16384) {h₂ : Heap} {tk : Nat}
    (h : Q (items.toList.take i ++ [.ref h₂.objs.size] ++ (items.toList.drop i).drop (items.size + 1 - n)) { s with heap := h₂.push { cls := .type "list", data := .seq ((items.toList.drop i).take (items.size + 1 - n)).toArray }, toks := tk }) :
    wpAny (model prog w) A (if (items.toList.drop i).length < n - 1 - i then z0 else
      newList ((items.toList.drop i).take ((items.toList.drop i).length - (n - 1 - i))) >>= fun d => pure (items.toList.take i ++ [d] ++ (items.toList.drop i).drop ((items.toList.drop i).length - (n - 1 - i)))) Q E { s with heap := h₂, toks := tk } := by
  have hrl : (items.toList.drop i).length = items.size - i := by rw [List.length_drop, Array.length_toList]
  have hmid : (items.toList.drop i).length - (n - 1 - i) = items.size + 1 - n := by rw [hrl]; omega
  rw [if_neg (by rw [hrl]; omega), hmid]
  exact wpAny_bind (wpAny_newList (wpAny_pure h) (by rw [List.length_take, hrl, sizeLine_eq]; omega))
theorem unpack_starL {l : Addr} {items : Array Value} {n i : Nat} {Q : List Value → Shared → Prop} (hl : s.heap.IsList l items) (hh : A.handled = none) (hi : i < n) (hn : n ≤ items.size + 1) (hz : items.size ≤ 16384)
    (h : ∀ (h₂ : Heap) (tk : Nat), (∀ b o, b ≠ s.heap.objs.size → s.heap.get? b = some o → h₂.get? b = some o) → Q (items.toList.take i ++ [.ref h₂.objs.size] ++ (items.toList.drop i).drop (items.size + 1 - n)) { s with heap := h₂.push { cls := .type "list", data := .seq ((items.toList.drop i).take (items.size + 1 - n)).toArray }, toks := tk }) :
    wpAny (model prog w) A (unpackItems (.ref l) n (some i)) Q E s := by
  have hlt : l ≠ s.heap.objs.size := by obtain ⟨o, ho, _⟩ := hl; exact Nat.ne_of_lt (Heap.lt_size ho)
  unfold unpackItems
  refine wpAny_bind ?_
  unfold notIterableAtAll
  refine wpAny_bind (wpAny_specialOf hl.typeIs slot_list_iter.lookup ?_)
  refine wpAny_pure ?_
  simp only [Bool.false_eq_true, if_false]
  refine wpAny_bind (wpAny_holding (wpAny_pyIter_list hl ?_))
  refine wpAny_bind (wpAny_holding (PySem.W.kun_draw hlt i 0 _ _ ⟨_, Heap.get?_push_size _ rfl, rfl, rfl⟩ (hl.push _) (by omega) fun h₁ hit₁ hs₁ => ?_))
  have hl₁ : h₁.IsList l items := (hl.push _).extBut hs₁.extBut hlt
  rw [Nat.zero_add] at hit₁
  obtain ⟨oi, hoi, _⟩ := id hit₁
  obtain ⟨ol, hol, _⟩ := id hl₁
  rw [List.drop_zero]
  have hfl : (items.toList.take i).length = i := by rw [List.length_take, Array.length_toList]; omega
  rw [if_neg (show ¬ ((items.toList.take i).length < i) by rw [hfl]; omega)]
  refine wpAny_bind (wpAny_holding (PySem.W.kun_collect (s := { s with heap := h₁ }) (T := "list_iterator") (.inr (.inr (.inl rfl))) (Walks.list (A := A.in1) hh s.heap.objs.size l hlt items) (fun j u st => st.1.typeIs) (k := i) (by omega) ⟨hit₁, hl₁⟩ (Heap.lt_size hoi) (Heap.lt_size hol) (fun h₂ tk hk => ?_) (by rw [sizeLine_eq]; omega)))
  refine star_rest (s := { s with heap := h₁ }) hi hn hz (h h₂ tk fun b o hb e => hk b o hb (hs₁.extBut b o hb (Heap.get?_push_of_some _ e)))
theorem unpack_starT {l : Addr} {items : Array Value} {n i : Nat} {Q : List Value → Shared → Prop} (hl : IsTup s.heap l items) (hh : A.handled = none) (hi : i < n) (hn : n ≤ items.size + 1) (hz : items.size ≤ 16384)
    (h : ∀ (h₂ : Heap) (tk : Nat), (∀ b o, b ≠ s.heap.objs.size → s.heap.get? b = some o → h₂.get? b = some o) → Q (items.toList.take i ++ [.ref h₂.objs.size] ++ (items.toList.drop i).drop (items.size + 1 - n)) { s with heap := h₂.push { cls := .type "list", data := .seq ((items.toList.drop i).take (items.size + 1 - n)).toArray }, toks := tk }) :
    wpAny (model prog w) A (unpackItems (.ref l) n (some i)) Q E s := by
  have hlt : l ≠ s.heap.objs.size := by obtain ⟨o, ho, _⟩ := hl; exact Nat.ne_of_lt (Heap.lt_size ho)
  unfold unpackItems
  refine wpAny_bind ?_
  unfold notIterableAtAll
  refine wpAny_bind (wpAny_specialOf hl.typeIs slot_tuple_iter.lookup ?_)
  refine wpAny_pure ?_
  simp only [Bool.false_eq_true, if_false]
  refine wpAny_bind (wpAny_holding (iter_tuple hl ?_))
  refine wpAny_bind (wpAny_holding (draw_tuple hlt i 0 _ _ ⟨_, Heap.get?_push_size _ rfl, rfl, rfl⟩ (hl.push _) (by omega) fun h₁ hit₁ hs₁ => ?_))
  have hl₁ : IsTup h₁ l items := (hl.push _).extBut hs₁.extBut hlt
  rw [Nat.zero_add] at hit₁
  obtain ⟨oi, hoi, _⟩ := id hit₁
  obtain ⟨ol, hol, _⟩ := id hl₁
  rw [List.drop_zero]
  have hfl : (items.toList.take i).length = i := by rw [List.length_take, Array.length_toList]; omega
  rw [if_neg (show ¬ ((items.toList.take i).length < i) by rw [hfl]; omega)]
  refine wpAny_bind (wpAny_holding (PySem.W.kun_collect (s := { s with heap := h₁ }) (T := "tuple_iterator") (.inr (.inr (.inr rfl))) (Walks.tuple (A := A.in1) hh s.heap.objs.size l hlt items) (fun j u st => st.1.typeIs) (k := i) (by omega) ⟨hit₁, hl₁⟩ (Heap.lt_size hoi) (Heap.lt_size hol) (fun h₂ tk hk => ?_) (by rw [sizeLine_eq]; omega)))
  refine star_rest (s := { s with heap := h₁ }) hi hn hz (h h₂ tk fun b o hb e => hk b o hb (hs₁.extBut b o hb (Heap.get?_push_of_some _ e)))
end
section
variable {X : Cx} {pos : Pos}
def gStar (K : PySem.W.Frag) (n i : Nat) (t : TGs) : TG := fun v σ H Q => ∃ a xs, v = .ref a ∧ (SqT K H a xs ∨ SqL K H a xs) ∧ i < n ∧ n ≤ xs.length + 1 ∧ xs.length ≤ 16384 ∧
  ∀ p, H p = none → t (xs.take i ++ [.ref p] ++ (xs.drop i).drop (xs.length + 1 - n)) σ (upd H p (.lst ((xs.drop i).take (xs.length + 1 - n)))) Q
theorem pg_star {es : List Expr} {k : Nat} {t : TGs} {n i : Nat} (hc : X.calm = true) (h : PGs X es t) (hn : (assignEach es X.env).length = n) (hst : (assignEach es X.env).findIdx? (·.1) = some i) : PG X (.Tuple es k pos) (gStar X.K n i t) := by
  refine ⟨fun pins s σ H v u Q I r hw => ?_⟩
  obtain ⟨a, xs, e1, hq, hi, hnx, hz, hw⟩ := hw
  subst e1
  cases r
  rw [PyProof.Rows.assign_Tuple]
  refine wpAny_bind (wpAny_standAt ?_)
  unfold unpack
  rw [hn, hst]
  have fin : ∀ (its : List Value), Vals xs its → ∀ (h₂ : Heap) (tk : Nat), (∀ b o, b ≠ s.heap.objs.size → s.heap.get? b = some o → h₂.get? b = some o) →
      wpAny (model X.prog X.w) X.A (assignInOrder ((assignEach es X.env).map (·.2)) (its.take i ++ [.ref h₂.objs.size] ++ (its.drop i).drop (its.length + 1 - n))) (fun _ s' => ∃ σ' H', Inv X pins σ' H' s' ∧ Q σ' H') X.xe
        { s with heap := h₂.push { cls := .type "list", data := .seq ((its.drop i).take (its.length + 1 - n)).toArray }, toks := tk } := fun its rv h₂ tk hk => by
    have I1 : Inv X pins σ H { s with heap := h₂, toks := tk } := I.kept (t' := tk) fun b o e => hk b o (Nat.ne_of_lt (Heap.lt_size e)) e
    have hfr : H h₂.objs.size = none := I1.hok.fresh (Nat.le_refl _)
    have I2 : Inv X pins σ (upd H h₂.objs.size (.lst ((xs.drop i).take (xs.length + 1 - n)))) { s with heap := h₂.push { cls := .type "list", data := .seq ((its.drop i).take (its.length + 1 - n)).toArray }, toks := tk } :=
      I1.laid (t' := tk) (fun b o e => Heap.get?_push_of_some _ e) (Nat.le_refl _) (show ObjOk X.prog X.w _ _ _ (.lst ((xs.drop i).take (xs.length + 1 - n))) from
        ⟨by rw [List.length_take, List.length_drop, sizeLine_eq]; omega, (its.drop i).take (its.length + 1 - n), 0, by rw [← rv.length]; exact (rv.drop i).take _, Heap.get?_push_size _ rfl⟩)
    refine h.run pins _ σ _ _ _ Q I2 ?_ (hw _ hfr)
    rw [← rv.length]
    exact ((rv.take i).append (Paired.cons (show RelV (.ref h₂.objs.size) (.ref h₂.objs.size) from rfl) .nil)).append ((rv.drop i).drop _)
  rcases hq with hq | hq
  · obtain ⟨its, rv, ht, hzz⟩ := I.tuple hq
    have hsz : its.toArray.size = xs.length := by rw [List.size_toArray, rv.length]
    refine wpAny_bind (wpAny_holding (unpack_starT ht (I.ok.hd hc) hi (by omega) (by omega) fun h₂ tk hk => ?_))
    have := fin its rv h₂ tk hk
    simpa using this
  · obtain ⟨its, rv, pl, hzz⟩ := I.list hq
    have hsz : its.toArray.size = xs.length := by rw [List.size_toArray, rv.length]
    refine wpAny_bind (wpAny_holding (unpack_starL pl.isList (I.ok.hd hc) hi (by omega) (by omega) fun h₂ tk hk => ?_))
    have := fin its rv h₂ tk hk
    simpa using this
def tPar3 (i j l : Nat) (ta : TA) : L2.TS := fun D σ H => ta σ H fun vs H1 => ∃ u v w, vs = [u, v, w] ∧ D.nx (((σ.set i (some u)).set j (some v)).set l (some w)) H1
theorem ps_par3 {i j l : Nat} {x y z : Str} {a b c : Expr} {ta : TA} {px py pz pt : Pos} {kt k2 pt2} (hc : X.calm = true) (hN : X.N.Nodup) (hi : X.N[i]? = some x) (hj : X.N[j]? = some y) (hl : X.N[l]? = some z) (hij : i ≠ j) (hil : i ≠ l) (hjl : j ≠ l)
    (hx : X.env.scope.names.lookup x = some .local) (hy : X.env.scope.names.lookup y = some .local) (hz : X.env.scope.names.lookup z = some .local) (ha : PA X [a, b, c] ta)
    (hw : swappedStores [.Tuple [.Name x px, .Name y py, .Name z pz] kt pt] (.Tuple [a, b, c] k2 pt2) X.env = pure (some [x, y, z]))
    (hs : swapsWithSole [.Tuple [.Name x px, .Name y py, .Name z pz] kt pt] (.Tuple [a, b, c] k2 pt2) pos.line X.env = pure false := by rfl) :
    PS X (.Assign [.Tuple [.Name x px, .Name y py, .Name z pz] kt pt] (.Tuple [a, b, c] k2 pt2) pos) (tPar3 i j l ta) := by
  refine ⟨fun pins s σ H D I h => ?_⟩
  rw [exec_Assign_arm]
  refine wpAny_bind (wpAny_standAt ?_)
  rw [hs]
  refine wpAny_bind (wpAny_pure ?_)
  rw [if_neg (by decide)]
  refine wpAny_bind (Tuple_ (thn (ha.run _ pins s σ H _ I h) fun us s1 ⟨vs, H1, I1, r1, q1⟩ => ?_))
  obtain ⟨u, v, w, e1, q1⟩ := q1
  subst e1
  obtain ⟨u1, u2, u3, rfl, ru, rv, rw'⟩ : ∃ u1 u2 u3, us = [u1, u2, u3] ∧ RelV u u1 ∧ RelV v u2 ∧ RelV w u3 := by
    cases r1 with
    | cons p q =>
      cases q with
      | cons p' q' =>
        cases q' with
        | cons p2 q2 =>
          cases q2
          exact ⟨_, _, _, rfl, p, p', p2⟩
  refine wpAny_newObj_type ?_ (by show 3 ≤ sizeLine; decide)
  have I2 : Inv X pins σ H1 { s1 with heap := s1.heap.push { cls := .type "tuple", data := .seq [u1, u2, u3].toArray } } := I1.kept (t' := s1.toks) fun b o e => Heap.get?_push_of_some _ e
  rw [hw]
  refine wpAny_bind (wpAny_pure ?_)
  show wpAny (model X.prog X.w) X.A (do rule "assign.swapped-stores"; let items ← unpackItems (.ref s1.heap.objs.size) 3 none; assignInOrder [fun v => bindName X.env z v, fun v => bindName X.env y v, fun v => bindName X.env x v] items.reverse; pure Flow.next) _ _ _
  refine wpAny_bind (wpAny_rule (wpAny_bind (unpackItems_tuple (items := #[u1, u2, u3]) (I.ok.hd hc) (IsTup.new s1.heap _) fun h' hx' => ?_)))
  have I3 := I2.kept (h' := h') (t' := s1.toks) fun b o e => hx' b o (Nat.ne_of_lt (Heap.lt_size e)) e
  show wpAny _ _ (assignInOrder [fun v => bindName X.env z v, fun v => bindName X.env y v, fun v => bindName X.env x v] [u3, u2, u1] >>= fun _ => pure Flow.next) _ _ _
  refine wpAny_bind (assignInOrder_cons (wpAny_bindName (store_ok I3 hN hl (.inl hz) rw' (fun s2 I4 => ?_) (.inr hz))))
  refine assignInOrder_cons (wpAny_bindName (store_ok I4 hN hj (.inl hy) rv (fun s3 I5 => ?_) (.inr hy)))
  refine assignInOrder_cons (wpAny_bindName (store_ok I5 hN hi (.inl hx) ru (fun s4 I6 => assignInOrder_nil (wpAny_pure ?_)) (.inr hx)))
  have e : ((σ.set l (some w)).set j (some v)).set i (some u) = ((σ.set i (some u)).set j (some v)).set l (some w) := by
    rw [List.set_comm _ _ (Ne.symm hjl), List.set_comm _ _ (Ne.symm hil), List.set_comm _ _ (Ne.symm hij)]
  rw [e] at I6
  exact ⟨_, H1, I6, q1⟩
end
end Z

set_option Elab.async false
set_option linter.all false
set_option maxRecDepth 100000
set_option maxHeartbeats 4000000
namespace Z
open PySem PySem.Spec PyProof.Rows L2
section
variable {prog : Program} {w : World} {A : Around} {E : Value → Shared → Prop} {s : Shared}
theorem applied_rev {sl : Addr} {vl vu vs : Value} {n : Nat} {Q : Int × Int × Nat → Shared → Prop} (hs : s.heap.IsSliceOf sl vl vu vs) (pl : IsPart vl none) (pu : IsPart vu none) (ps : IsPart vs (some (-1)))
    (h : Q ((n : Int) - 1, -1, n) s) : wpAny (model prog w) A (Builtin.Slice.sliceApplied (.ref sl) (pure (n : Int))) Q E s := by
  obtain ⟨os, hos, hcs, hds⟩ := id hs
  unfold Builtin.Slice.sliceApplied Builtin.Slice.sliceFields
  refine wpAny_bind (wpAny_bind (wpAny_field hos hds (x := vl) rfl (wpAny_bind (wpAny_field hos hds (x := vu) rfl (wpAny_bind (wpAny_field hos hds (x := vs) rfl (wpAny_pure ?_)))))))
  refine wpAny_bind (HT.slicePart_ ps ?_)
  show wpAny _ _ (if ((-1 : Int) == 0) = true then _ else _) _ _ s
  rw [if_neg (by decide)]
  refine wpAny_bind (HT.slicePart_ pl (wpAny_bind (HT.slicePart_ pu (wpAny_bind (wpAny_pure ?_)))))
  show wpAny _ _ (pure ((n : Int) - 1, (-1 : Int), Builtin.Slice.slicePlaces ((n : Int) - 1) (-1) (-1))) _ _ s
  have e : Builtin.Slice.slicePlaces ((n : Int) - 1) (-1) (-1) = n := by
    unfold Builtin.Slice.slicePlaces
    rw [if_neg (by decide)]
    by_cases hn : n = 0
    · subst hn; rw [if_neg (by decide)]; rfl
    · rw [if_pos (by omega)]
      have : ((n : Int) - 1 - -1 - 1) / (- -1) = (n : Int) - 1 := by rw [show (- -1 : Int) = 1 by decide, Int.ediv_one]; omega
      rw [this]
      omega
  rw [e]
  exact wpAny_pure h
theorem fm_congr {α β : Type} {f g : α → Option β} : ∀ l : List α, (∀ x ∈ l, f x = g x) → l.filterMap f = l.filterMap g
  | [], _ => rfl
  | a :: l, h => by rw [List.filterMap_cons, List.filterMap_cons, h a (by simp), fm_congr l fun x hx => h x (by simp [hx])]
theorem pick_rev (xs : Array Value) : ((List.range xs.size).filterMap fun (m : Nat) => xs[((xs.size : Int) - 1 + (m : Int) * -1).toNat]?).toArray = xs.toList.reverse.toArray := by
  have e : (List.range xs.size).filterMap (fun (m : Nat) => xs[((xs.size : Int) - 1 + (m : Int) * -1).toNat]?) = ((List.range xs.size).map fun k => xs.size - 1 - k).filterMap (xs[·]?) := by
    rw [List.filterMap_map]
    refine fm_congr _ fun m hm => ?_
    have hm := List.mem_range.mp hm
    have : ((xs.size : Int) - 1 + (m : Int) * -1).toNat = xs.size - 1 - m := by omega
    rw [this]
    rfl
  rw [e, PySem.W.krv_range, List.filterMap_reverse, PySem.W.krv_all]
theorem getItem_tuple_rev {t sl : Addr} {items : Array Value} {vl vu vs : Value} {Q : Value → Shared → Prop} (ht : IsTup s.heap t items) (hs : s.heap.IsSliceOf sl vl vu vs) (pl : IsPart vl none) (pu : IsPart vu none) (ps : IsPart vs (some (-1)))
    (h : Q (.ref s.heap.objs.size) { s with heap := s.heap.push { cls := .type "tuple", data := .seq items.toList.reverse.toArray } })
    (hsz : items.size ≤ sizeLine) : wpAny (model prog w) A (getItem (.ref t) (.ref sl)) Q E s := by
  have htake : sizeOk (.seq items.toList.reverse.toArray) := by
    show items.toList.reverse.toArray.size ≤ sizeLine
    rw [List.size_toArray, List.length_reverse, Array.length_toList]
    exact hsz
  obtain ⟨os, hos, hcs, hds⟩ := id hs
  have hTs : s.TypeIs (.ref sl) "slice" := ⟨os, hos, hcs⟩
  unfold getItem
  try with_reducible refine wpAny_holding ?_
  first | refine wpAny_bind (wpAny_pure ?_) | skip
  refine wpAny_bind (wpAny_sequenceKey ht.typeIs (by decide) ?_)
  refine wpAny_bind (wpAny_callSpecial?_slot (name := Str.ofString "__getitem__") ht.typeIs PyProof.Rows.slot_tuple_getitem (wpAny_call_entry PyProof.Rows.slot_tuple_getitem ht.typeIs entry_tuple_getitem ?_ (args_tuple_getitem _ _)))
  show wpAny _ _ (Builtin.Tuple.tupleItemsOf (.ref t) >>= _) _ _ s
  refine wpAny_bind (tupleItemsOf_ ht ?_)
  refine wpAny_bind (wpAny_typeOf hTs ?_)
  rw [if_pos (by decide)]
  refine wpAny_bind (applied_rev hs pl pu ps ?_)
  have hno : ¬ ((((items.size : Int) - 1 : Int) == 0 && (-1 : Int) == 1 && items.size == items.size) = true) := by
    intro q
    rw [Bool.and_eq_true, Bool.and_eq_true] at q
    exact absurd q.1.2 (by decide)
  show wpAny _ _ (if (((items.size : Int) - 1 : Int) == 0 && (-1 : Int) == 1 && items.size == items.size) = true then _ else _) _ _ s
  rw [if_neg hno, pick_rev]
  first
    | exact wpAny_bind (m := Builtin.Tuple.tupleExact _) (wpAny_newObj_type (wpAny_pure ⟨_, rfl, wpAny_pure h⟩) htake)
    | exact wpAny_bind (m := Builtin.Tuple.tupleExact _) (wpAny_newObj_type (wpAny_bind (wpAny_pure (wpAny_pure ⟨_, rfl, wpAny_pure h⟩))) htake)
    | exact wpAny_bind (wpAny_bind (m := Builtin.Tuple.tupleExact _) (wpAny_newObj_type (wpAny_pure (wpAny_pure ⟨_, rfl, wpAny_pure h⟩)) htake))
    | exact wpAny_bind (wpAny_bind (m := Builtin.Tuple.tupleExact _) (wpAny_newObj_type (wpAny_pure ⟨_, rfl, wpAny_pure h⟩) htake))
end
section
variable {X : Cx}
def tRevA (K : PySem.W.Frag) (te : TE) : TE := fun σ H Q => te σ H fun x H1 => ∃ a xs, x = .ref a ∧ ((SqL K H1 a xs ∧ ∀ p, H1 p = none → Q (.ref p) (upd H1 p (.lst xs.reverse))) ∨ (SqT K H1 a xs ∧ ∀ p, H1 p = none → Q (.ref p) (upd H1 p (.tup xs.reverse))))
theorem pe_revA {e : Expr} {te : TE} {k : Nat} {p1 p2 p3 pos : Pos} (he : PE X e te) : PE X (.Subscript e (.Slice none none (some (.UnaryOp .USub (.Constant (.int 1) k p1) p2)) p3) pos) (tRevA X.K te) := by
  refine ⟨fun pins s σ H Q I h => ?_⟩
  refine Subscript_ (thn (he.run pins s σ H _ I h) fun v s1 ⟨x, H1, I1, r1, q1⟩ => ?_)
  obtain ⟨a, xs, ex, q⟩ := q1
  subst ex
  cases r1
  have hst : PO X (some (.UnaryOp .USub (.Constant (.int 1) k p1) p2)) (tPart (tUn (rU fun i => .int (-i)) (tC (.int 1)))) := po_some (pe_un un_neg pe_int)
  refine wpAny_Slice (thn (po_none.run pins s1 σ H1 (fun o H2 => o = none ∧ H2 = H1) I1 ⟨rfl, rfl⟩) fun vl s2 ⟨l, H2, I2, pl, el, e2⟩ => ?_)
  subst el e2
  refine thn (po_none.run pins s2 σ H2 (fun o H3 => o = none ∧ H3 = H2) I2 ⟨rfl, rfl⟩) fun vu s3 ⟨u, H3, I3, pu, eu, e3⟩ => ?_
  subst eu e3
  refine thn (hst.run pins s3 σ H3 (fun o H4 => o = some (-1) ∧ H4 = H3) I3 ⟨1, rfl, -1, rfl, rfl, rfl⟩) fun vs s4 ⟨o, H4, I4, ps, eo, e4⟩ => ?_
  subst eo e4
  have I5 : Inv X pins σ H4 { s4 with heap := s4.heap.push { cls := .type "slice", data := .fields #[vl, vu, vs] } } := I4.kept (t' := s4.toks) fun b ob q => Heap.get?_push_of_some _ q
  show wpAny (model X.prog X.w) X.A (subscriptTail e (.Slice none none (some (.UnaryOp .USub (.Constant (.int 1) k p1) p2)) p3) (.ref a) (.ref s4.heap.objs.size)) (EP X pins σ Q) X.xe { s4 with heap := s4.heap.push { cls := .type "slice", data := .fields #[vl, vu, vs] } }
  rcases q with ⟨hx, q⟩ | ⟨hx, q⟩
  · obtain ⟨its, r, ht, hz⟩ := I5.list hx
    have hlen := r.length
    refine tail_any (ops := [.ref a, .ref s4.heap.objs.size]) ht.isList.typeIs (PySem.slot_list_getitem.lookup) ?_ (by with_unfolding_all rfl)
    refine wpAny_getItem_list_slice ht.isList (Heap.IsSliceOf.new _ vl vu vs) pl pu ps (by decide) ?_ (by rw [List.size_toArray]; omega)
    rw [PySem.W.krv_pick]
    exact ⟨.ref _, _, I5.laid (t' := s4.toks) (o := .lst xs.reverse) (fun b ob q => Heap.get?_push_of_some _ q) (Nat.le_refl _) ⟨by rw [List.length_reverse]; exact hz, _, 0, r.reverse, Heap.get?_push_size _ rfl⟩, rfl, q _ (I5.hok.fresh (Nat.le_refl _))⟩
  · obtain ⟨its, r, ht, hz⟩ := I5.tuple hx
    have hlen := r.length
    refine tail_any (ops := [.ref a, .ref s4.heap.objs.size]) ht.typeIs (PyProof.Rows.slot_tuple_getitem.lookup) ?_ (by with_unfolding_all rfl)
    refine getItem_tuple_rev ht (Heap.IsSliceOf.new _ vl vu vs) pl pu ps ?_ (by rw [List.size_toArray]; omega)
    exact ⟨.ref _, _, I5.laid (t' := s4.toks) (o := .tup xs.reverse) (fun b ob q => Heap.get?_push_of_some _ q) (Nat.le_refl _) ⟨by rw [List.length_reverse]; exact hz, _, r.reverse, IsTup.new _ _⟩, rfl, q _ (I5.hok.fresh (Nat.le_refl _))⟩
def tLenSetT (K : PySem.W.Frag) (ta : TE) : TE := fun σ H Q => ta σ H fun x H1 => ∃ (l : Addr) (ns : List Int), x = V.ref l ∧ SqT K H1 l (ns.map V.int) ∧ ns.length ≤ 1000 ∧ ∀ out : List Int, out.Nodup → (∀ k, k ∈ out ↔ k ∈ ns) → Q (.int out.length) H1
theorem pe_lenSetT {a : Expr} {ta : TE} {p p2 q pos : Pos} (hg : Gl X "len") (hm : X.mg "len" = none) (hg2 : Gl X "set") (hm2 : X.mg "set" = none) (ha : PE X a ta) (hc : X.calm = true)
    (na : starEach [a] X.env = (false, eval a X.env) :: starEach [] X.env) : PE X (.Call (.Name "len" p) [.Call (.Name "set" p2) [a] [] q] [] pos) (tLenSetT X.K ta) := by
  refine ⟨fun pins s σ H Q I h => Call_ (ld_blt I hg hm boot_len (PyProof.Rows.callWith_builtin1 (PyProof.Rows.args_cons (Call_ (ld_blt I hg2 hm2 boot_set (PyProof.Rows.callWith_type1 (PyProof.Rows.args_cons (thn (ha.run pins s σ H _ I h) fun v s1 ⟨x, H1, I1, r1, q1⟩ => PyProof.Rows.args_nil ?_) na) na rfl))) rfl) rfl rfl))⟩
  obtain ⟨l, ns, rfl, hq, hl, q1⟩ := q1
  cases r1
  obtain ⟨its, rv, pt, hz⟩ := I1.tuple hq
  have hi : IntsAre its.toArray.toList ns := ints_of_vals rv
  refine call_set_tupI ns (I1.ok.hd hc) (show s1.heap.IsTuple l its.toArray from pt) hi (by unfold scanBound; omega) fun h' tk c R1 hcn k => ?_
  refine PyProof.Rows.args_nil ?_
  obtain ⟨o, es, ep, t, ho, hex, hdt, g, nd, hm2, hb, hf, hn, hr, hl2⟩ := R1
  have I2 : Inv X pins σ H1 { s1 with heap := h', toks := tk } := I1.kept fun b o e => k b o e
  have hsz : es.size < 2 ^ 63 := by rw [hn]; omega
  refine call_len_set ho hex hdt hf (by omega) ⟨.int es.size, H1, I2.tok _, ⟨_, rfl⟩, ?_⟩
  have hlen : (es.size : Int) = ((es.toList.map keyOf).length : Nat) := by rw [List.length_map, Array.length_toList]
  rw [hlen]
  exact q1 (es.toList.map keyOf) nd fun j => by rw [← hm2 j, decide_eq_true_eq]
end
end Z

set_option Elab.async false
set_option linter.all false
set_option maxRecDepth 100000
set_option maxHeartbeats 4000000
namespace Z
open PySem PySem.Spec PyProof.Rows L2

structure Cc where
  N : List Str
  sc : Scope
  fn : Str → Bool
  dfs : List Str
  xs : List Str
  xr : List Str
  hot : List Str
  ms : List (Str × Str × Str)
  mks : List (Str × Str × Nat)
  calm : Bool
def plainE : Expr → Bool
  | .Starred _ _ => false
  | .Slice _ _ _ _ => false
  | .Set _ _ _ => false
  | _ => true
def lcE : Expr → Bool
  | .ListComp _ _ _ _ => true
  | .SetComp _ _ _ _ => true
  | .DictComp _ _ _ _ _ => true
  | _ => false
def callE : Expr → Bool
  | .Call _ [] _ _ => true
  | _ => false
def isGl (c : Cc) (x : Str) : Bool := decide (c.sc.names.lookup x = some .globalImplicit) && decide (x ≠ "__debug__") && decide (x ≠ "__name__")
def visB (c : Cc) (x : Str) : Bool := (decide (c.sc.names.lookup x = some .local) || decide (c.sc.names.lookup x = some .cell) || decide (c.sc.names.lookup x = some .free)) && decide (x ≠ "__debug__") && decide (x ≠ "__classdict__")
def locB (c : Cc) (x : Str) : Bool := decide (c.sc.names.lookup x = some .local) || (decide (c.sc.names.lookup x = some .cell) && c.fn x)
def blkCc (c : Cc) (scope : Scope) : Cc := { c with sc := relS scope c.sc, fn := fun x => scope.names.lookup x == some .cell }
mutual
def chkG (c : Cc) : Tg → Expr → Bool
  | .nm i, e => match e with
    | .Name x _ => decide (c.N[i]? = some x) && locB c x
    | _ => false
  | .tup gs, e => match e with
    | .Tuple es _ _ => chkGs c gs es && c.calm
    | _ => false
def chkGs (c : Cc) : List Tg → List Expr → Bool
  | [], es => match es with
    | [] => true
    | _ => false
  | g :: gs, es => match es with
    | [] => false
    | e :: es => chkG c g e && chkGs c gs es
end
def ownG (vs : List Nat) : Tg → Bool
  | .nm i => vs.contains i
  | .tup gs => ownGs vs gs
where ownGs (vs : List Nat) : List Tg → Bool
  | [] => true
  | g :: gs => ownG vs g && ownGs vs gs
def tyNames : List String := ["tuple", "str", "int", "bool", "list", "dict"]
mutual
def chkE (c : Cc) : T → Expr → Bool
  | .var i, e => match e with
    | .Name x _ => decide (c.N[i]? = some x) && visB c x
    | _ => false
  | .int i, e => match e with
    | .Constant (.int j) _ _ => decide (i = j)
    | _ => false
  | .bl i, e => match e with
    | .Constant (.bool j) _ _ => decide (i = j)
    | _ => false
  | .non, e => match e with
    | .Constant .none _ _ => true
    | _ => false
  | .str i, e => match e with
    | .Constant (.str j) _ _ => decide (i = j)
    | _ => false
  | .glob x, e => match e with
    | .Name y _ => decide (x = y) && isGl c y
    | _ => false
  | .bty x, e => match e with
    | .Name y _ => decide (y = Str.ofString x) && isGl c y && tyNames.contains x
    | _ => false
  | .bin op a b, e => match e with
    | .BinOp x op2 y _ => decide (op = op2) && chkE c a x && chkE c b y
    | _ => false
  | .neg a, e => match e with
    | .UnaryOp .USub x _ => chkE c a x
    | _ => false
  | .cmp op a b, e => match e with
    | .Compare x [op2] [y] _ => decide (op = op2) && chkE c a x && chkE c b y && plainE y
    | _ => false
  | .chain op op2 a b d, e => match e with
    | .Compare x [o1, o2] [y, z] _ => decide (op = o1) && decide (op2 = o2) && chkE c a x && chkE c b y && chkE c d z && plainE y && plainE z
    | _ => false
  | .bop op ts, e => match e with
    | .BoolOp op2 es _ => decide (op = op2) && chkEs c ts es
    | _ => false
  | .nt a, e => match e with
    | .UnaryOp .Not x _ => chkE c a x
    | _ => false
  | .ite d a b, e => match e with
    | .IfExp x y z _ => chkE c d x && chkE c a y && chkE c b z
    | _ => false
  | .tup ts, e => match e with
    | .Tuple es _ _ => chkEs c ts es
    | _ => false
  | .lst ts, e => match e with
    | .List es _ => chkEs c ts es
    | _ => false
  | .sub a i, e => match e with
    | .Subscript x y _ => chkE c a x && chkE c i y && plainE y
    | _ => false
  | .slice a lo hi, e => match e with
    | .Subscript x (.Slice l h none _) _ => chkE c a x && chkO c lo l && chkO c hi h
    | _ => false
  | .call f ts, e => match e with
    | .Call (.Name g _) es [] _ => decide (f = g) && isGl c g && chkEs c ts es && c.dfs.contains f && (kwT f).isNone && (c.calm || (c.hot.contains f && !es.isEmpty))
    | _ => false
  | .callK f ts ks us, e => match e with
    | .Call (.Name g _) es kws _ => decide (f = g) && isGl c g && chkEs c ts es && !es.isEmpty && chkKw c us ks kws && c.dfs.contains f && decide (kwT f = some (ts.length, ks)) && c.calm
    | _ => false
  | .blt b ts, e => match e with
    | .Call (.Name g _) es [] _ => (decide (b.fn.map Str.ofString = some g) || decide (b.tyn.map Str.ofString = some g)) && isGl c g && chkEs c ts es && !es.isEmpty && c.calm
    | _ => false
  | .lrev a, e => match e with
    | .Call (.Name g _) [.Call (.Name f _) [x] [] _] [] _ => decide (g = "list") && decide (f = "reversed") && isGl c g && isGl c f && chkE c a x && plainE x && c.calm
    | _ => false
  | .lzip a b, e => match e with
    | .Call (.Name g _) [.Call (.Name f _) [x, y] [] _] [] _ => decide (g = "list") && decide (f = "zip") && isGl c g && isGl c f && chkE c a x && plainE x && chkE c b y && plainE y && c.calm
    | _ => false
  | .lset a, e => match e with
    | .Call (.Name g _) [.Call (.Name f _) [x] [] _] [] _ => decide (g = "len") && decide (f = "set") && isGl c g && isGl c f && chkE c a x && plainE x && c.calm
    | _ => false
  | .lrng a, e => match e with
    | .Call (.Name g _) [.Call (.Name f _) [x] [] _] [] _ => decide (g = "list") && decide (f = "range") && isGl c g && isGl c f && chkE c a x && plainE x && c.calm
    | _ => false
  | .mth m a ts, e => match e with
    | .Call (.Attribute o x apos) es [] cpos => decide (x = Str.ofString m.nm) && chkE c a o && chkEs c ts es && !callE o && (apos.endLine == cpos.line) && decide (es.length < 30)
    | _ => false
  | .lc g it ifs own d, e => match e with
    | .ListComp elt [⟨tg, iter, ifz, 0⟩] scope _ => chkI c it iter tg && blkC c.N c.sc scope own && chkG (blkCc c scope) g tg && ownG (own.map (·.2)) g && chkEs (blkCc c scope) ifs ifz && chkE (blkCc c scope) d elt && plainE iter && c.calm
    | _ => false
  | .dct ks vs, e => match e with
    | .Dict kz vz _ => chkKs ks kz && chkEs c vs vz && decide (kz.length = vz.length) && !kz.isEmpty && decide (kz.length ≤ 15)
    | _ => false
  | .isx a m, e => match e with
    | .Call (.Name g _) [x, .Name y _] [] _ => decide (g = "isinstance") && decide (y = m) && isGl c g && isGl c y && chkE c a x && plainE x && xnames.contains m && c.xs.contains m
    | _ => false
  | .atr a f, e => match e with
    | .Attribute x y _ => decide (y = f) && chkE c a x && !callE x && xflds.contains f
    | _ => false
  | .back a, e => match e with
    | .Subscript x (.Slice none none (some (.UnaryOp .USub (.Constant (.int 1) _ _) _)) _) _ => chkE c a x
    | _ => false
  | .new q cn ts, e => match e with
    | .Call (.Name g _) es [] _ => decide (g = cn) && isGl c g && chkEs c ts es && c.mks.contains (q, cn, ts.length) && c.calm
    | _ => false
  | .fld a f, e => match e with
    | .Attribute x y _ => decide (y = f) && chkE c a x && !callE x && cflds.contains f
    | _ => false
  | .eqo q cn a b, e => match e with
    | .Compare x [.Eq] [y] _ => chkE c a x && chkE c b y && plainE y && c.ms.contains (q, cn, "__eq__") && c.calm
    | _ => false
  | .cmpo op q cn a b, e => match e with
    | .Compare x [op2] [y] _ => decide (op = op2) && chkE c a x && chkE c b y && plainE y && c.ms.contains (q, cn, "__eq__") && c.calm
    | _ => false
  | .lno q cn a, e => match e with
    | .Call (.Name g _) [x] [] _ => decide (g = "len") && isGl c g && chkE c a x && plainE x && c.ms.contains (q, cn, "__len__") && c.calm
    | _ => false
  | .rpo q cn a, e => match e with
    | .Call (.Name g _) [x] [] _ => decide (g = "repr") && isGl c g && chkE c a x && plainE x && c.ms.contains (q, cn, "__repr__") && c.calm
    | _ => false
  | .fs2 x0 a y0 b z0, e => match e with
    | .JoinedStr [.Constant (.str t0) _ _, .FormattedValue x (-1) none _, .Constant (.str t1) _ _, .FormattedValue y (-1) none _, .Constant (.str t2) _ _] _ => decide (t0 = x0) && decide (t1 = y0) && decide (t2 = z0) && decide (x0.length + y0.length + z0.length ≤ 1000) && chkE c a x && chkE c b y
    | _ => false
  | .newK q cn ts ks us, e => match e with
    | .Call (.Name g _) es kws _ => decide (g = cn) && isGl c g && chkEs c ts es && !es.isEmpty && chkKw c us ks kws && c.mks.contains (q, cn, ts.length + ks.length) && decide (mkT q = some (ts.length, ks)) && c.calm
    | _ => false
  | .isc a m, e => match e with
    | .Call (.Name g _) [x, .Name y _] [] _ => decide (g = "isinstance") && decide (y = m) && isGl c g && isGl c y && chkE c a x && plainE x && c.mks.any (fun p => decide (p.2.1 = m))
    | _ => false
  | .meth q cn m a ts, e => match e with
    | .Call (.Attribute o x apos) es [] cpos => decide (x = m) && chkE c a o && chkEs c ts es && !callE o && (apos.endLine == cpos.line) && decide (es.length < 30) && c.ms.contains (q, cn, m) && c.calm
    | _ => false
def chkEs (c : Cc) : List T → List Expr → Bool
  | [], es => match es with
    | [] => true
    | _ => false
  | t :: ts, es => match es with
    | [] => false
    | e :: es => chkE c t e && plainE e && chkEs c ts es
def chkKw (c : Cc) : List T → List Str → List Keyword → Bool
  | [], ks, kws => ks.isEmpty && kws.isEmpty
  | u :: us, ks, kws => match ks, kws with
    | k :: ks, ⟨some n, e, _⟩ :: kws => decide (k = n) && chkE c u e && chkKw c us ks kws
    | _, _ => false
def chkO (c : Cc) : Option T → Option Expr → Bool
  | none, e => e.isNone
  | some t, e => match e with
    | some e => chkE c t e
    | none => false
def chkI (c : Cc) : Ti → Expr → Expr → Bool
  | .seq t, e, _ => chkE c t e
  | .rng1 t, e, _ => match e with
    | .Call (.Name g _) [x] [] _ => decide (g = "range") && isGl c g && chkE c t x && plainE x
    | _ => false
  | .rng2 t u, e, _ => match e with
    | .Call (.Name g _) [x, y] [] _ => decide (g = "range") && isGl c g && chkE c t x && plainE x && chkE c u y && plainE y
    | _ => false
  | .enm t, e, tg => match tg with
    | .Tuple _ _ _ => (match e with
      | .Call (.Name g _) [x] [] _ => decide (g = "enumerate") && isGl c g && chkE c t x && plainE x
      | _ => false)
    | _ => false
  | .zip t u, e, tg => match tg with
    | .Tuple _ _ _ => (match e with
      | .Call (.Name g _) [x, y] [] _ => decide (g = "zip") && isGl c g && chkE c t x && plainE x && chkE c u y && plainE y
      | _ => false)
    | _ => false
  | .rev t, e, _ => match e with
    | .Call (.Name g _) [x] [] _ => decide (g = "reversed") && isGl c g && chkE c t x && plainE x
    | _ => false
def chkKs : List Str → List (Option Expr) → Bool
  | [], es => match es with
    | [] => true
    | _ => false
  | k :: ks, es => match es with
    | some (.Constant (.str j) _ _) :: es => decide (k = j) && chkKs ks es
    | _ => false
end
def chkNames (c : Cc) : List Nat → List Expr → Bool
  | [], es => match es with
    | [] => true
    | _ => false
  | a :: is, es => match es with
    | .Name x _ :: r => decide (c.N[a]? = some x) && locB c x && chkNames c is r
    | _ => false
def chkStar (c : Cc) (i : Nat) (js : List Nat) : List Nat → List Expr → Bool
  | [], es => match es with
    | .Starred (.Name x _) _ :: r => decide (c.N[i]? = some x) && locB c x && chkNames c js r
    | _ => false
  | a :: is, es => match es with
    | .Name x _ :: r => decide (c.N[a]? = some x) && locB c x && chkStar c i js is r
    | _ => false
mutual
def chkS (c : Cc) : TS → Stmt → Bool
  | .ex t, s => match s with
    | .Expr e _ => chkE c t e && !lcE e
    | _ => false
  | .asg g t, s => match s with
    | .Assign [tg] e p => chkG c g tg && chkE c t e && (match tg with
      | .Name x q => !lcE e || decide (c.sc.names.lookup x = some .cell) || (decide (c.sc.names.lookup x = some .local) && (match e with | .ListComp _ _ scope q2 => (q.line == q2.line) && !(scope.names.any fun (n, k) => n == x && (k == .local || k == .cell)) | _ => false))
      | .Tuple _ _ _ => !lcE e && (match e with | .Tuple _ _ _ => false | _ => true)
      | _ => false)
    | _ => false
  | .par i j t u, s => match s with
    | .Assign [.Tuple [.Name x q, .Name y q2] _ _] (.Tuple [a, b] _ _) _ => decide (c.N[i]? = some x) && decide (c.N[j]? = some y) && decide (i ≠ j) && decide (x ≠ y) && decide (c.sc.names.lookup x = some .local) && decide (c.sc.names.lookup y = some .local) && chkEs c [t, u] [a, b]
        && (q.line == q2.line) && !(foldedForSure 8 a && foldedForSure 8 b) && !(constantsAlone 8 a && constantsAlone 8 b) && c.calm
    | _ => false
  | .par3 i j l t u v, s => match s with
    | .Assign [.Tuple [.Name x q, .Name y q2, .Name z q3] _ _] (.Tuple [a, b, d] _ _) _ => decide (c.N[i]? = some x) && decide (c.N[j]? = some y) && decide (c.N[l]? = some z) && decide (i ≠ j) && decide (i ≠ l) && decide (j ≠ l) && decide (x ≠ y) && decide (x ≠ z) && decide (y ≠ z)
        && decide (c.sc.names.lookup x = some .local) && decide (c.sc.names.lookup y = some .local) && decide (c.sc.names.lookup z = some .local) && chkEs c [t, u, v] [a, b, d]
        && (q.line == q2.line) && (q.line == q3.line) && !(foldedForSure 8 a && foldedForSure 8 b && foldedForSure 8 d) && !(constantsAlone 8 a && constantsAlone 8 b && constantsAlone 8 d) && c.calm
    | _ => false
  | .star is i js t, s => match s with
    | .Assign [.Tuple es _ _] e _ => chkStar c i js is es && chkE c t e && !lcE e && (match e with | .Tuple _ _ _ => false | _ => true) && c.calm
    | _ => false
  | .set a i t, s => match s with
    | .Assign [.Subscript o k _] e _ => chkE c a o && chkE c i k && plainE k && chkE c t e && !lcE e
    | _ => false
  | .setf a f t, s => match s with
    | .Assign [.Attribute o x _] e _ => decide (x = f) && chkE c a o && chkE c t e && !lcE e && cflds.contains f
    | _ => false
  | .aug op i t, s => match s with
    | .AugAssign (.Name x _) op2 e _ => decide (op = op2) && decide (c.N[i]? = some x) && locB c x && chkE c t e
    | _ => false
  | .ife t a b, s => match s with
    | .If e x y _ => chkE c t e && chkSs c a x && chkSs c b y
    | _ => false
  | .whil t b, s => match s with
    | .While e x [] _ => chkE c t e && chkSs c b x
    | _ => false
  | .fr g it b, s => match s with
    | .For tg iter x [] _ => chkI c it iter tg && chkG c g tg && chkSs c b x && plainE iter && c.calm
    | _ => false
  | .ret t, s => match s with
    | .Return (some e) _ => chkE c t e
    | _ => false
  | .retN, s => match s with
    | .Return none _ => true
    | _ => false
  | .pass, s => match s with
    | .Pass _ => true
    | _ => false
  | .brk, s => match s with
    | .Break _ => true
    | _ => false
  | .cont, s => match s with
    | .Continue _ => true
    | _ => false
  | .never, _ => true
  | .rais n ts, s => match s with
    | .Raise (some (.Call (.Name g _) es [] _)) none _ => decide (g = n) && isGl c g && chkEs c ts es && !es.isEmpty && c.xr.contains n && c.calm
    | _ => false
  | .tryx b m i h, s => match s with
    | .Try body [.ExceptHandler (some (.Name x _)) (some n) (b0 :: suite) _] [] [] _ => decide (x = m) && isGl c x && decide (c.N[i]? = some n) && decide (c.sc.names.lookup n = some .local) && chkSs c b body && chkSs { c with calm := false } h (b0 :: suite) && xnames.contains m && c.xs.contains m && c.calm
    | _ => false
def chkSs (c : Cc) : List TS → List Stmt → Bool
  | [], es => match es with
    | [] => true
    | _ => false
  | t :: ts, es => match es with
    | [] => false
    | e :: es => chkS c t e && chkSs c ts es
end
end Z

set_option Elab.async false
set_option linter.all false
set_option maxRecDepth 100000
set_option maxHeartbeats 4000000
namespace Z
open PySem PySem.Spec PyProof.Rows L2

def RelX (K : PySem.W.Frag) (w : World) (H : Hp) (x : Exc) (cls : Value) (d : Option Addr) : Prop := ∃ C da vs, cls = .ref C ∧ XCls K x.cls C ∧ d = some da ∧ H da = some (.xd (x.ns.zip vs)) ∧ RelDs K w H x.ds vs
def ExK (K : PySem.W.Frag) (w : World) (H : Hp) (S : Sto) (ex : EX) (W : WX) : Prop := ∀ x σd S', ex x σd S' → ∀ σ H' cls d, Fm H S H' S' → RelSt K w H' σd σ → RelX K w H' x cls d → HR K w H' S' → W cls d σ H'
theorem ExK.next {K : PySem.W.Frag} {w : World} {H H' : Hp} {S S' : Sto} {ex : EX} {W : WX} (k : ExK K w H S ex W) (f : Fm H S H' S') : ExK K w H' S' ex W := fun x σd S2 h σ H2 cls d f2 => k x σd S2 h σ H2 cls d (f.trans f2)
abbrev W0 : WX := fun _ _ _ _ => False
def tD (K : PySem.W.Frag) (w : World) (W : WX) (ex : EX) (f : WE) : TE := fun σ H Q => ∃ σd S R, RelSt K w H σd σ ∧ HR K w H S ∧ ExK K w H S ex W ∧ f σd S R ∧ Kont K w H S R Q
def tDT (K : PySem.W.Frag) (w : World) (W : WX) (ex : EX) (f : WT) : TT := fun σ H Q => ∃ σd S R, RelSt K w H σd σ ∧ HR K w H S ∧ ExK K w H S ex W ∧ f σd S R ∧ ∀ b S', R b S' → ∀ H', Fm H S H' S' → HR K w H' S' → Q b H'
def tDA (K : PySem.W.Frag) (w : World) (W : WX) (ex : EX) (f : WA) : TA := fun σ H Q => ∃ σd S R, RelSt K w H σd σ ∧ HR K w H S ∧ ExK K w H S ex W ∧ f σd S R ∧ ∀ ds S', R ds S' → ∀ vs H', Fm H S H' S' → RelDs K w H' ds vs → HR K w H' S' → Q vs H'
def spD (K : PySem.W.Frag) (w : World) (np : Nat) (f : List D → Sto → (D → Sto → Prop) → (Exc → Sto → Prop) → Prop) : Sp := fun vs H Q E => ∃ ds S R RX, ds.length = np ∧ RelDs K w H ds vs ∧ HR K w H S ∧ f ds S R RX ∧ Kont K w H S R Q ∧
  ∀ x S', RX x S' → ∀ cls d H', Fm H S H' S' → RelX K w H' x cls d → HR K w H' S' → E cls d H'
def bnames : List String := ["len", "isinstance", "max", "min", "abs", "all", "any", "sum", "tuple", "list", "int", "str", "bool", "dict", "range", "enumerate", "zip", "reversed", "set", "repr", "sorted"]
structure XOk (defs : Str → Option DefT) (gl : Str → Option D) (k : Nat) (c : Cc) (W : WX) (X : Cx) : Prop where
  cal : ∀ f d, c.dfs.contains f = true → kwT f = none → defs f = some d → ∃ fa fd ps, X.mg f = some (.ref fa) ∧ PySem.W.keepIn X.K (.ref fa) = true ∧ Binds X.K fd ps [] ∧ ps.length = d.np ∧ FnG X.prog X.w X.K X.mg X.base (L2.CX X.prog X.w) (2 * k + 2) fa fd ps (spD X.K X.w d.np (sem defs gl k f))
  calK : ∀ f d n ks, c.dfs.contains f = true → kwT f = some (n, ks) → defs f = some d → ∃ fa fd ps, X.mg f = some (.ref fa) ∧ PySem.W.keepIn X.K (.ref fa) = true ∧ KBn X.K fd ps n ks (fun us ws => us ++ ws) (fun vs zs => vs ++ zs) ∧ ps.length = d.np ∧ FnG X.prog X.w X.K X.mg X.base (L2.CX X.prog X.w) (2 * k + 2) fa fd ps (spD X.K X.w d.np (sem defs gl k f))
  calH : ∀ f d, c.hot.contains f = true → defs f = some d → ∃ fa fd ps, X.mg f = some (.ref fa) ∧ PySem.W.keepIn X.K (.ref fa) = true ∧ Binds X.K fd ps [] ∧ ps.length = d.np ∧ FnQ X.prog X.w X.K X.mg X.base (L2.CX X.prog X.w) (2 * k + 2) fa fd ps (spD X.K X.w d.np (sem defs gl k f))
  xs : ∀ m, c.xs.contains m = true → ∃ M, X.mg m = some (.ref M) ∧ PySem.W.nsIn X.K mainGlobals m = some (some (.ref M))
  xr : ∀ n, c.xr.contains n = true → ∃ ns C fI fd, xcl n = some ns ∧ RFact X.K X.mg n ns C fI fd
  ms : ∀ q cn m, c.ms.contains (q, cn, m) = true → ∃ d C f fd ps, defs q = some d ∧ ClsF X.K cn C ∧ Meth X.K C m f ∧ Binds X.K fd ps [] ∧ ps.length = d.np ∧ FnG X.prog X.w X.K X.mg X.base (L2.CX X.prog X.w) (2 * k + 2) f fd ps (spD X.K X.w d.np (sem defs gl k q))
  mks : ∀ q cn n, c.mks.contains (q, cn, n) = true → ∃ d C f fd ps dz dvs, defs q = some d ∧ ClsF X.K cn C ∧ X.mg cn = some (.ref C) ∧ Mk X.K C f ∧ Binds X.K fd ps dz ∧ Vals dvs dz ∧ (∀ H, RelDs X.K X.w H (padT q n) dvs) ∧ ps.length = d.np ∧ FnG X.prog X.w X.K X.mg X.base (L2.CX X.prog X.w) (2 * k + 2) f fd ps (spD X.K X.w d.np (sem defs gl k q))
  mkk : ∀ q cn n ks, mkT q = some (n, ks) → c.mks.contains (q, cn, n + ks.length) = true → ∃ d C f fd ps, defs q = some d ∧ ClsF X.K cn C ∧ X.mg cn = some (.ref C) ∧ Mk X.K C f ∧ KBn X.K fd ps (n + 1) ks (fun us ws => us ++ ws) (fun vs zs => vs ++ zs) ∧ ps.length = d.np ∧ FnG X.prog X.w X.K X.mg X.base (L2.CX X.prog X.w) (2 * k + 2) f fd ps (spD X.K X.w d.np (sem defs gl k q))
  gls : ∀ x d, gl x = some d → ∃ u v, X.mg x = some u ∧ RelV v u ∧ ∀ H, RelD X.K X.w H d v
  blt : ∀ n ∈ bnames, X.mg (Str.ofString n) = none
  hN : X.N = c.N
  hsc : X.env.scope = c.sc
  hfn : X.fn = c.fn
  room : RoomHG (2 * k + 3) X.A
  hand : c.calm = true → X.A.handled = none
  calm : c.calm = true → X.calm = true
  tk : Takes X W
  po : PassesOwn (model X.prog X.w) X.A X.env X.xe
  nd : c.N.Nodup
  hdf : ∀ f, c.dfs.contains f = true → ∃ d, defs f = some d

section
variable {X : Cx} {c : Cc} {W : WX} {defs : Str → Option DefT} {gl : Str → Option D} {k : Nat}
theorem XOk.hu (o : XOk defs gl k c W X) : X.A.units + 64 < cLine := by have := o.room.rm.un; omega
theorem XOk.rm1 (o : XOk defs gl k c W X) (h : c.calm = true) : RoomG (2 * k + 2 + 1) X.A := ⟨⟨o.hand h, o.room.rm.dp, o.room.rm.un⟩, o.room.gd⟩
theorem XOk.rm (o : XOk defs gl k c W X) (h : c.calm = true) : RoomG (2 * k + 2) X.A := (o.rm1 h).mono (Nat.le_succ _)
theorem XOk.rmH (o : XOk defs gl k c W X) : RoomHG (2 * k + 2) X.A := o.room.mono (Nat.le_succ _)
theorem XOk.hu1 (o : XOk defs gl k c W X) : X.A.units + 1 < cLine := Nat.lt_of_le_of_lt (Nat.add_le_add_left (by decide : 1 ≤ 64) _) o.hu
theorem XOk.gl_of (o : XOk defs gl k c W X) {x : Str} (h : isGl c x = true) : Gl X x ∧ (x == ("__debug__" : Str)) = false ∧ x ≠ "__name__" := by
  unfold isGl at h
  simp only [Bool.and_eq_true, decide_eq_true_eq] at h
  obtain ⟨⟨h1, h2⟩, h3⟩ := h
  refine ⟨?_, by simpa using h2, h3⟩
  show X.env.scope.names.lookup x = _
  rw [o.hsc]
  exact h1
theorem XOk.vis_of (o : XOk defs gl k c W X) {x : Str} (h : visB c x = true) : Vis X.env.scope x ∧ (x == ("__debug__" : Str)) = false ∧ (x == ("__classdict__" : Str)) = false := by
  unfold visB at h
  simp only [Bool.and_eq_true, Bool.or_eq_true, decide_eq_true_eq] at h
  obtain ⟨⟨h1, h2⟩, h3⟩ := h
  refine ⟨?_, by simpa using h2, by simpa using h3⟩
  unfold Vis
  rw [o.hsc]
  rcases h1 with (h1 | h1) | h1
  · exact .inl h1
  · exact .inr (.inl h1)
  · exact .inr (.inr h1)
theorem XOk.loc_of (o : XOk defs gl k c W X) {x : Str} (h : locB c x = true) : L2.Loc X.env.scope x ∧ (X.fn x = true ∨ X.env.scope.names.lookup x = some .local) := by
  unfold locB at h
  simp only [Bool.and_eq_true, Bool.or_eq_true, decide_eq_true_eq] at h
  unfold L2.Loc
  rw [o.hsc, o.hfn]
  rcases h with h | ⟨h1, h2⟩
  · exact ⟨.inl h, .inr h⟩
  · exact ⟨.inr h1, .inl h2⟩
theorem plain_star {e : Expr} {es : List Expr} {env : Env} (h : plainE e = true) : starEach (e :: es) env = (false, eval e env) :: starEach es env := by
  cases e <;> first | rfl | (exact absurd (show false = true from h) Bool.false_ne_true)
theorem plain_ix {e : Expr} (h : plainE e = true) : PlainIx e := fun o i => by
  cases e <;> first | rfl | (exact absurd (show false = true from h) Bool.false_ne_true)
theorem plain_mark {e : Expr} {op : CmpOp} (h : plainE e = true) : behindInMarks op e = false := by
  cases e <;> first | rfl | (exact absurd (show false = true from h) Bool.false_ne_true)
theorem plain_fold {e : Expr} {env : Env} (h : plainE e = true) : ∀ x, foldedSetIterable e env x = pure x := fun x => by
  cases e <;> first | rfl | (exact absurd (show false = true from h) Bool.false_ne_true)
theorem nolc_swap {e : Expr} {t : Option Expr} {n : Nat} {env : Env} (h : lcE e = false) : swapsWith e t n env = pure false := by
  cases e <;> first | rfl | (exact absurd (show true = false from h) (by decide))
theorem nocall_base {o : Expr} {x : Str} {env : Env} {wh : Sem Value} (h : callE o = false) : attributeBase o x env wh = wh := by
  unfold attributeBase
  split
  · exact absurd (show true = false from h) (by decide)
  · rfl
theorem chkEs_plain : ∀ {ts : List T} {es : List Expr}, chkEs c ts es = true → es.all plainE = true
  | [], es, h => by
    simp only [chkEs] at h
    split at h
    · rfl
    · cases h
  | t :: ts, es, h => by
    simp only [chkEs] at h
    split at h
    · cases h
    · simp only [Bool.and_eq_true] at h
      rw [List.all_cons, h.1.2, chkEs_plain h.2]
      rfl
theorem chkEs_len : ∀ {ts : List T} {es : List Expr}, chkEs c ts es = true → es.length = ts.length
  | [], es, h => by
    simp only [chkEs] at h
    split at h
    · rfl
    · cases h
  | t :: ts, es, h => by
    simp only [chkEs] at h
    split at h
    · cases h
    · simp only [Bool.and_eq_true] at h
      rw [List.length_cons, List.length_cons, chkEs_len h.2]
theorem star_all : ∀ {es : List Expr} {env : Env} {pos : Pos}, es.all plainE = true → (backTo pos (starEach es env)).any (·.1) = false
  | [], _, _, _ => rfl
  | e :: es, env, pos, h => by
    rw [List.all_cons, Bool.and_eq_true] at h
    rw [plain_star h.1]
    show (false || (backTo pos (starEach es env)).any (·.1)) = false
    rw [star_all h.2]
    rfl
theorem star_not : ∀ {es : List Expr} {env : Env} {pos : Pos}, es.all plainE = true → (backTo pos (starEach es env)).all (fun x => !x.1) = true
  | [], _, _, _ => rfl
  | e :: es, env, pos, h => by
    rw [List.all_cons, Bool.and_eq_true] at h
    rw [plain_star h.1]
    show (!false && (backTo pos (starEach es env)).all (fun x => !x.1)) = true
    rw [star_not h.2]
    rfl

theorem _root_.L2.PE.weak {e : Expr} {t t' : TE} (h : PE X e t) (f : ∀ σ H Q, t' σ H Q → t σ H Q) : PE X e t' := ⟨fun pins s σ H Q I q => h.run pins s σ H Q I (f σ H Q q)⟩
theorem _root_.L2.PT.weak {e : Expr} {t t' : TT} (h : PT X e t) (f : ∀ σ H Q, t' σ H Q → t σ H Q) : PT X e t' := ⟨fun pins s σ H Q I q => h.run pins s σ H Q I (f σ H Q q)⟩
theorem _root_.L2.PW.weak {e : Expr} {t t' : TT} (h : PW X e t) (f : ∀ σ H Q, t' σ H Q → t σ H Q) : PW X e t' := ⟨fun wh pins s σ H Q I q => h.run wh pins s σ H Q I (f σ H Q q)⟩
theorem _root_.L2.PA.weak {es : List Expr} {t t' : TA} (h : PA X es t) (f : ∀ σ H Q, t' σ H Q → t σ H Q) : PA X es t' := ⟨fun p pins s σ H Q I q => h.run p pins s σ H Q I (f σ H Q q)⟩
theorem _root_.L2.PS.weak {e : Stmt} {t t' : L2.TS} (h : PS X e t) (f : ∀ D σ H, t' D σ H → t D σ H) : PS X e t' := ⟨fun pins s σ H D I q => h.run pins s σ H D I (f D σ H q)⟩
theorem _root_.L2.PSs.weak {e : List Stmt} {t t' : L2.TS} (h : PSs X e t) (f : ∀ D σ H, t' D σ H → t D σ H) : PSs X e t' := ⟨fun pins s σ H D I q => h.run pins s σ H D I (f D σ H q)⟩
end
section
variable {K : PySem.W.Frag} {w : World} {σ : L2.St} {H : Hp} {Q : VK} {W : WX} {ex : EX}
theorem tD_c {d : D} {v : V} (hv : ∀ H, RelD K w H d v) (h : tD K w W ex (fun _ S R => R d S) σ H Q) : tC v σ H Q := by
  obtain ⟨σd, S, R, rs, hr, xk, f, k⟩ := h
  exact k.same f (hv H) hr
theorem tD_op {fa fb : WE} {g : W2} (h : tD K w W ex (fun σ S R => fa σ S fun x S1 => fb σ S1 fun y S2 => g x y S2 R) σ H Q) : tOp (rD2 K w g) (tD K w W ex fa) (tD K w W ex fb) σ H Q := by
  obtain ⟨σd, S, R, rs, hr, xk, f, k⟩ := h
  exact ⟨σd, S, _, rs, hr, xk, f, fun x S1 hx v1 H1 f1 rv1 h1 => ⟨σd, S1, _, rs.mono (f1.ext hr), h1, xk.next f1, hx, fun y S2 hy v2 H2 f2 rv2 h2 =>
    ⟨x, y, S2, R, RelD.mono (f2.ext h1) _ _ rv1, rv2, h2, hy, k.next (f1.trans f2) fun _ _ z => z⟩⟩⟩
theorem tD_un {fa : WE} {g : W1} (h : tD K w W ex (fun σ S R => fa σ S fun x S1 => g x S1 R) σ H Q) : tUn (rD1 K w g) (tD K w W ex fa) σ H Q := by
  obtain ⟨σd, S, R, rs, hr, xk, f, k⟩ := h
  exact ⟨σd, S, _, rs, hr, xk, f, fun x S1 hx v1 H1 f1 rv1 h1 => ⟨x, S1, R, rv1, h1, hx, k.next f1 fun _ _ z => z⟩⟩
theorem tD_cons {fa : WE} {fs : WA} {Q : List V → Hp → Prop} (h : tDA K w W ex (fun σ S R => fa σ S fun d S1 => fs σ S1 fun ds S2 => R (d :: ds) S2) σ H Q) : tCons (tD K w W ex fa) (tDA K w W ex fs) σ H Q := by
  obtain ⟨σd, S, R, rs, hr, xk, f, k⟩ := h
  exact ⟨σd, S, _, rs, hr, xk, f, fun x S1 hx v1 H1 f1 rv1 h1 => ⟨σd, S1, _, rs.mono (f1.ext hr), h1, xk.next f1, hx, fun ds S2 hy vs H2 f2 rv2 h2 =>
    k _ S2 hy _ H2 (f1.trans f2) (by simp only [RelDs]; exact ⟨v1, vs, rfl, RelD.mono (f2.ext h1) _ _ rv1, rv2⟩) h2⟩⟩
theorem tD_cb {fs : WA} {g : WC} (h : tD K w W ex (fun σ S R => fs σ S fun ds S1 => g ds S1 R) σ H Q) : tCB (rDC K w g) (tDA K w W ex fs) σ H Q := by
  obtain ⟨σd, S, R, rs, hr, xk, f, k⟩ := h
  exact ⟨σd, S, _, rs, hr, xk, f, fun ds S1 hx vs H1 f1 rv1 h1 => ⟨ds, S1, R, rv1, h1, hx, k.next f1 fun _ _ z => z⟩⟩
theorem tD_tru {fa : WE} {Q : Bool → Hp → Prop} (h : tDT K w W ex (fun σ S R => fa σ S fun d S1 => match tru S1 d with | some b => R b S1 | none => False) σ H Q) : tD K w W ex fa σ H (fun x H1 => ∃ b, TruV K x H1 b ∧ Q b H1) := by
  obtain ⟨σd, S, R, rs, hr, xk, f, k⟩ := h
  refine ⟨σd, S, _, rs, hr, xk, f, fun x S1 hx v1 H1 f1 rv1 h1 => ?_⟩
  split at hx
  · rename_i b e
    exact ⟨b, tru_of h1 rv1 e, k b S1 hx H1 f1 h1⟩
  · exact hx.elim
end
end Z

set_option Elab.async false
set_option linter.all false
set_option maxRecDepth 100000
set_option maxHeartbeats 4000000
namespace Z
open PySem PySem.Spec PyProof.Rows L2

section
variable {X : Cx} {c : Cc} {W : WX} {defs : Str → Option DefT} {gl : Str → Option D} {k : Nat}
mutual
def gV (K : PySem.W.Frag) : Tg → TG
  | .nm i => gName i
  | .tup gs => fun v σ H Q => gTup K gs.length (gVs K gs) v σ H Q ∨ gLst K gs.length (gVs K gs) v σ H Q
def gVs (K : PySem.W.Frag) : List Tg → TGs
  | [] => gNil
  | g :: gs => gCons (gV K g) (gVs K gs)
end
theorem _root_.L2.PG.or {tg : Expr} {g g' : TG} (a : PG X tg g) (b : PG X tg g') : PG X tg (fun v σ H Q => g v σ H Q ∨ g' v σ H Q) :=
  ⟨fun pins s σ H v u Q I r h => h.elim (a.run pins s σ H v u Q I r) (b.run pins s σ H v u Q I r)⟩
theorem chkG_star {g : Tg} {e : Expr} {es : List Expr} {env : Env} (h : chkG c g e = true) : assignEach (e :: es) env = (false, assign e env) :: assignEach es env := by
  cases g <;> simp only [chkG] at h <;> split at h <;> first | rfl | cases h
theorem chkGs_star : ∀ {gs : List Tg} {es : List Expr} {env : Env}, chkGs c gs es = true → (assignEach es env).length = gs.length ∧ (assignEach es env).findIdx? (·.1) = none
  | [], es, env, h => by
    simp only [chkGs] at h
    split at h
    · exact ⟨rfl, rfl⟩
    · cases h
  | g :: gs, es, env, h => by
    simp only [chkGs] at h
    split at h
    · cases h
    · simp only [Bool.and_eq_true] at h
      rw [chkG_star h.1]
      obtain ⟨h1, h2⟩ := chkGs_star (env := env) h.2
      refine ⟨by rw [List.length_cons, List.length_cons, h1], ?_⟩
      rw [List.findIdx?_cons]
      simp [h2]
mutual
theorem sG (o : XOk defs gl k c W X) : ∀ (g : Tg) (e : Expr), chkG c g e = true → PG X e (gV X.K g)
  | .nm i, e, h => by
    simp only [chkG] at h
    split at h
    · simp only [Bool.and_eq_true, decide_eq_true_eq] at h
      obtain ⟨l1, l2⟩ := o.loc_of h.2
      simp only [gV]
      exact pg_name (by rw [o.hN]; exact o.nd) (by rw [o.hN]; exact h.1) l1 l2
    · cases h
  | .tup gs, e, h => by
    simp only [chkG] at h
    split at h
    · rename_i es _ _
      simp only [Bool.and_eq_true] at h
      obtain ⟨h, hca⟩ := h
      obtain ⟨h1, h2⟩ := chkGs_star (env := X.env) h
      have p := sGs o gs es h
      simp only [gV]
      exact L2.PG.or (pg_tup (o.calm hca) p h1 h2) (pg_lst (o.calm hca) p h1 h2)
    · cases h
theorem sGs (o : XOk defs gl k c W X) : ∀ (gs : List Tg) (es : List Expr), chkGs c gs es = true → PGs X es (gVs X.K gs)
  | [], es, h => by
    simp only [chkGs] at h
    split at h
    · simp only [gVs]; exact pgs_nil
    · cases h
  | g :: gs, es, h => by
    simp only [chkGs] at h
    split at h
    · cases h
    · simp only [Bool.and_eq_true] at h
      simp only [gVs]
      exact pgs_cons (sG o g _ h.1) (sGs o gs _ h.2) (by rw [chkG_star h.1]; rfl)
end
theorem wipe_set {vs : List Nat} {i : Nat} {v : Option V} : ∀ {σ : L2.St}, i ∈ vs → wipe (σ.set i v) vs = wipe σ vs := by
  induction vs with
  | nil => intro σ h; cases h
  | cons a vs ih =>
    intro σ h
    unfold wipe
    by_cases hi : i ∈ vs
    · rw [ih hi]
    · have e : i = a := by
        rcases List.mem_cons.mp h with e | e
        · exact e
        · exact absurd e hi
      subst e
      apply List.ext_getElem?
      intro j
      by_cases hj : i = j
      · subst hj
        by_cases hl : i < (wipe σ vs).length
        · rw [List.getElem?_set_self hl, List.getElem?_set_self (by rw [wipe_length] at hl ⊢; simpa using hl)]
        · rw [wipe_length] at hl
          rw [List.getElem?_eq_none (by rw [List.length_set, wipe_length, List.length_set]; omega), List.getElem?_eq_none (by rw [List.length_set, wipe_length]; omega)]
      · rw [List.getElem?_set_ne hj, List.getElem?_set_ne hj]
        by_cases hv : j ∈ vs
        · have q : ∀ τ : L2.St, j < τ.length → (wipe τ vs)[j]? = some none := fun τ hl => by
            cases e : (wipe τ vs)[j]? with
            | none =>
              rw [List.getElem?_eq_none_iff, wipe_length] at e
              omega
            | some y =>
              cases y with
              | none => rfl
              | some y => exact absurd hv (wipe_some e).2
          by_cases hl : j < σ.length
          · rw [q _ hl, q _ (by simpa using hl)]
          · rw [List.getElem?_eq_none (by rw [wipe_length]; simpa using hl), List.getElem?_eq_none (by rw [wipe_length]; omega)]
        · have q : ∀ τ : L2.St, (wipe τ vs)[j]? = τ[j]? := fun τ => by
            clear ih h hi
            induction vs with
            | nil => rfl
            | cons b vs ih =>
              have n1 : j ≠ b := fun z => hv (by rw [z]; exact List.mem_cons_self)
              have n2 : j ∉ vs := fun z => hv (List.mem_cons_of_mem _ z)
              unfold wipe
              rw [List.getElem?_set_ne (Ne.symm n1), ih n2]
          rw [q, q, List.getElem?_set_ne hj]
section
variable {K : PySem.W.Frag} {w : World} {H : Hp} {S : Sto} {vs : List Nat}
mutual
theorem gD_of (hr : HR K w H S) : ∀ (g : Tg) (d : D) (v : V) (σd : StD) (σ : L2.St) (R : StD → Prop) (Q : L2.St → Hp → Prop), RelD K w H d v → RelSt K w H σd σ → wpG g d σd S R →
    (∀ σd' σ', R σd' → RelSt K w H σd' σ' → (ownG vs g = true → wipe σ' vs = wipe σ vs) → Q σ' H) → gV K g v σ H Q
  | .nm i, d, v, σd, σ, R, Q, rd, rs, f, q => by
    simp only [wpG] at f
    simp only [gV]
    exact q _ _ f (rs.set rd) fun o => by
      simp only [ownG] at o
      exact wipe_set (by simpa using o)
  | .tup gs, d, v, σd, σ, R, Q, rd, rs, f, q => by
    simp only [wpG] at f
    split at f
    · rename_i ds e
      obtain ⟨a, xs, rfl, q1, q2, _⟩ := items_of hr e rd
      have z := gDs_of hr gs ds xs σd σ R Q q1 rs f.1 f.2 fun σd' σ' h1 h2 h3 => q σd' σ' h1 h2 fun o => h3 (by simpa only [ownG] using o)
      simp only [gV]
      rcases q2 with q2 | q2
      · exact .inr ⟨a, xs, rfl, q2, by rw [← q1.length]; exact f.1, z⟩
      · exact .inl ⟨a, xs, rfl, q2, by rw [← q1.length]; exact f.1, z⟩
    · exact f.elim
theorem gDs_of (hr : HR K w H S) : ∀ (gs : List Tg) (ds : List D) (xs : List V) (σd : StD) (σ : L2.St) (R : StD → Prop) (Q : L2.St → Hp → Prop), RelDs K w H ds xs → RelSt K w H σd σ → ds.length = gs.length → wpGs gs ds σd S R →
    (∀ σd' σ', R σd' → RelSt K w H σd' σ' → (ownG.ownGs vs gs = true → wipe σ' vs = wipe σ vs) → Q σ' H) → gVs K gs xs σ H Q
  | [], ds, xs, σd, σ, R, Q, rd, rs, hl, f, q => by
    simp only [wpGs] at f
    have e : ds = [] := List.eq_nil_of_length_eq_zero hl
    subst e
    simp only [RelDs] at rd
    subst rd
    simp only [gVs]
    exact ⟨rfl, q _ _ f rs fun _ => rfl⟩
  | g :: gs, [], xs, σd, σ, R, Q, rd, rs, hl, f, q => by simp only [wpGs] at f
  | g :: gs, d :: ds, xs, σd, σ, R, Q, rd, rs, hl, f, q => by
    simp only [wpGs] at f
    simp only [RelDs] at rd
    obtain ⟨v, r, rfl, r1, r2⟩ := rd
    simp only [gVs]
    refine ⟨v, r, rfl, gD_of hr g d v σd σ _ _ r1 rs f fun σd1 σ1 h1 h2 h3 => ?_⟩
    refine gDs_of hr gs ds r σd1 σ1 R Q r2 h2 (by simpa using hl) h1 fun σd2 σ2 h4 h5 h6 => q σd2 σ2 h4 h5 fun o => ?_
    simp only [ownG.ownGs, Bool.and_eq_true] at o
    rw [h6 o.2, h3 o.1]
end
end
end

structure WalkD (K : PySem.W.Frag) (w : World) (J : It) (ds : List D) (G : Sto → Prop) (H0 : Hp) : Prop where
  goes : ∀ i H S, i < ds.length → Ext H0 H → HR K w H S → G S → J.go i H
  stops : ∀ H S, Ext H0 H → HR K w H S → G S → J.stop ds.length H
  yields : ∀ i H S x H', i < ds.length → Ext H0 H → HR K w H S → G S → J.yld i H x H' → ∃ d, ds[i]? = some d ∧ RelD K w H' d x ∧ (H' = H ∨ ∃ T xs, H T = none ∧ H' = upd H T (.tup xs))
def tDI (K : PySem.W.Frag) (w : World) (W : WX) (ex : EX) (f : StD → Sto → (List D → (Sto → Prop) → Sto → Prop) → Prop) : TI := fun σ H R => ∃ σd S RI, RelSt K w H σd σ ∧ HR K w H S ∧ ExK K w H S ex W ∧ f σd S RI ∧
  ∀ ds G S', RI ds G S' → ∀ J H', Fm H S H' S' → HR K w H' S' → WalkD K w J ds G H' → R J H'
theorem _root_.L2.PI.weak {X : Cx} {tg iter : Expr} {t t' : TI} (h : PI X tg iter t) (f : ∀ σ H R, t' σ H R → t σ H R) : PI X tg iter t' := ⟨fun pins s σ H R I q => h.run pins s σ H R I (f σ H R q)⟩
theorem pi_seq {X : Cx} {tg l : Expr} {tl : TE} (hl : PE X l tl) : PI X tg l (fun σ H R => tl σ H fun x H1 => ∃ a, x = .ref a ∧ (((∃ xs, SqL X.K H1 a xs) ∧ R (Itl X.K a) H1) ∨ ((∃ xs, SqT X.K H1 a xs) ∧ R (Itt X.K a) H1))) := by
  refine ⟨fun pins s σ H R I h => ?_⟩
  refine thn (hl.run pins s σ H _ I h) fun v s1 ⟨x, H1, I1, r1, q1⟩ => ?_
  obtain ⟨a, e, q⟩ := q1
  subst e
  cases r1
  rcases q with ⟨⟨xs, hq⟩, q⟩ | ⟨⟨xs, hq⟩, q⟩
  · obtain ⟨its, rv, p, hz⟩ := I1.list hq
    refine wpAny_pyIter_list p.isList ?_
    refine ⟨s1.heap.objs.size, [s1.heap.objs.size], _, _, H1, rfl, I1.kept (t' := s1.toks) fun b o e => Heap.get?_push_of_some _ e, turn_list a _, ⟨_, Heap.get?_push_size _ rfl, rfl, rfl⟩, fun b hb => ?_, q⟩
    have e : b = s1.heap.objs.size := by simpa using hb
    subst e
    exact I1.fpOk (Nat.le_refl _) (I1.hok.fresh (Nat.le_refl _))
  · obtain ⟨its, rv, p, hz⟩ := I1.tuple hq
    refine wpAny_pyIter_tuple (show s1.heap.IsTuple a its.toArray from p) ?_
    refine ⟨s1.heap.objs.size, [s1.heap.objs.size], _, _, H1, rfl, I1.kept (t' := s1.toks) fun b o e => Heap.get?_push_of_some _ e, turn_tuple a _, ⟨_, Heap.get?_push_size _ rfl, rfl, rfl⟩, fun b hb => ?_, q⟩
    have e : b = s1.heap.objs.size := by simpa using hb
    subst e
    exact I1.fpOk (Nat.le_refl _) (I1.hok.fresh (Nat.le_refl _))
section
variable {K : PySem.W.Frag} {w : World} {H H0 : Hp} {S : Sto}
theorem walkd_list {a : Addr} {ds : List D} : WalkD K w (Itl K a) ds (fun S => S a = some (.lst ds)) H0 := by
  refine ⟨fun i H S hi _ hr g => ?_, fun H S _ hr g => ?_, fun i H S x H' hi _ hr g y => ?_⟩
  · obtain ⟨vs, h1, h2⟩ := hr.sql g
    exact ⟨vs, vs[i]'(by rw [← h2.length]; exact hi), h1, by simp⟩
  · obtain ⟨vs, h1, h2⟩ := hr.sql g
    exact ⟨vs, h1, by rw [h2.length]; exact Nat.le_refl _⟩
  · obtain ⟨vs, h1, h2⟩ := hr.sql g
    obtain ⟨rfl, y⟩ := y
    obtain ⟨v, q1, q2⟩ := h2.get (List.getElem?_eq_getElem hi)
    have e := y vs h1
    rw [q1] at e
    cases e
    exact ⟨_, List.getElem?_eq_getElem hi, q2, .inl rfl⟩
theorem walkd_kl {a : Addr} {vs : List V} {ds : List D} (t : FL K H0 a vs) (r : RelDs K w H0 ds vs) : WalkD K w (Itl K a) ds (fun _ => True) H0 := by
  refine ⟨fun i H S hi e hr g => ?_, fun H S e hr g => ?_, fun i H S x H' hi e hr g y => ?_⟩
  · exact ⟨vs, vs[i]'(by rw [← r.length]; exact hi), (e.fl t).sq, by simp⟩
  · exact ⟨vs, (e.fl t).sq, by rw [r.length]; exact Nat.le_refl _⟩
  · obtain ⟨rfl, y⟩ := y
    obtain ⟨v, q1, q2⟩ := (RelDs.mono e _ _ r).get (List.getElem?_eq_getElem hi)
    have e := y vs (e.fl t).sq
    rw [q1] at e
    cases e
    exact ⟨_, List.getElem?_eq_getElem hi, q2, .inl rfl⟩
theorem walkd_tup {a : Addr} {vs : List V} {ds : List D} (t : SqT K H0 a vs) (r : RelDs K w H0 ds vs) : WalkD K w (Itt K a) ds (fun _ => True) H0 := by
  refine ⟨fun i H S hi e hr g => ?_, fun H S e hr g => ?_, fun i H S x H' hi e hr g y => ?_⟩
  · exact ⟨vs, vs[i]'(by rw [← r.length]; exact hi), e.seqT t, by simp⟩
  · exact ⟨vs, e.seqT t, by rw [r.length]; exact Nat.le_refl _⟩
  · obtain ⟨rfl, y⟩ := y
    obtain ⟨v, q1, q2⟩ := (RelDs.mono e _ _ r).get (List.getElem?_eq_getElem hi)
    have e := y vs (e.seqT t)
    rw [q1] at e
    cases e
    exact ⟨_, List.getElem?_eq_getElem hi, q2, .inl rfl⟩
theorem walkd_range {lo : Int} {n : Nat} : WalkD K w (Itr lo n) ((List.range n).map fun i => D.int (lo + (i : Nat))) (fun _ => True) H0 := by
  refine ⟨fun i H S hi e hr g => ?_, fun H S e hr g => ?_, fun i H S x H' hi e hr g y => ?_⟩
  · show i < n
    simpa using hi
  · show n ≤ _
    simp
  · obtain ⟨rfl, rfl⟩ := y
    simp only [List.length_map, List.length_range] at hi
    refine ⟨.int (lo + i), by simp [hi], by simp only [RelD], .inl rfl⟩
end
end Z

set_option Elab.async false
set_option linter.all false
set_option maxRecDepth 100000
set_option maxHeartbeats 4000000
namespace Z
open PySem PySem.Spec PyProof.Rows L2
section
variable {K : PySem.W.Frag} {w : World} {H H0 : Hp} {S : Sto}
theorem reld_pair {H : Hp} {T : Addr} {x y : V} {d e : D} (n : H T = none) (r1 : RelD K w H d x) (r2 : RelD K w H e y) : RelD K w (upd H T (.tup [x, y])) (pairD d e) (.ref T) := by
  unfold pairD
  simp only [RelD, RelDs]
  exact ⟨T, _, rfl, SqT.of upd_same, x, [y], rfl, RelD.mono (ext_new n) _ _ r1, y, [], rfl, RelD.mono (ext_new n) _ _ r2, rfl⟩
theorem walkd_enum {a : Addr} {ds : List D} : WalkD K w (Ite K a) ((List.range ds.length).zipWith (fun i d => pairD (.int (i : Nat)) d) ds) (fun S => S a = some (.lst ds)) H0 := by
  refine ⟨fun i H S hi _ hr g => ?_, fun H S _ hr g => ?_, fun i H S x H' hi _ hr g y => ?_⟩
  · obtain ⟨vs, h1, h2⟩ := hr.sql g
    have hi' : i < ds.length := by simpa using hi
    exact ⟨vs, vs[i]'(by rw [← h2.length]; exact hi'), h1, by simp⟩
  · obtain ⟨vs, h1, h2⟩ := hr.sql g
    refine ⟨vs, h1, ?_⟩
    rw [← h2.length]
    simp
  · obtain ⟨vs, h1, h2⟩ := hr.sql g
    have hi' : i < ds.length := by simpa using hi
    obtain ⟨T, z, rfl, nT, rfl, y⟩ := y
    obtain ⟨v, q1, q2⟩ := h2.get (List.getElem?_eq_getElem hi')
    have e := y vs h1
    rw [q1] at e
    cases e
    refine ⟨pairD (.int (i : Nat)) ds[i], ?_, reld_pair nT (by simp only [RelD]) q2, .inr ⟨T, _, nT, rfl⟩⟩
    rw [List.getElem?_zipWith]
    simp [hi']
theorem walkd_enumT {a : Addr} {vs : List V} {ds : List D} (t : SqT K H0 a vs) (r : RelDs K w H0 ds vs) : WalkD K w (IteT K a) ((List.range ds.length).zipWith (fun i d => pairD (.int (i : Nat)) d) ds) (fun _ => True) H0 := by
  refine ⟨fun i H S hi e hr g => ?_, fun H S e hr g => ?_, fun i H S x H' hi e hr g y => ?_⟩
  · have hi' : i < ds.length := by simpa using hi
    exact ⟨vs, vs[i]'(by rw [← r.length]; exact hi'), e.seqT t, by simp⟩
  · refine ⟨vs, e.seqT t, ?_⟩
    rw [← r.length]
    simp
  · have hi' : i < ds.length := by simpa using hi
    obtain ⟨T, z, rfl, nT, rfl, y⟩ := y
    obtain ⟨v, q1, q2⟩ := (RelDs.mono e _ _ r).get (List.getElem?_eq_getElem hi')
    have e1 := y vs (e.seqT t)
    rw [q1] at e1
    cases e1
    refine ⟨pairD (.int (i : Nat)) ds[i], ?_, reld_pair nT (by simp only [RelD]) q2, .inr ⟨T, _, nT, rfl⟩⟩
    rw [List.getElem?_zipWith]
    simp [hi']
theorem walkd_zip {a b : Addr} {xs ys : List D} : WalkD K w (Itz K a b) ((xs.zip ys).map fun z => pairD z.1 z.2) (fun S => S a = some (.lst xs) ∧ S b = some (.lst ys)) H0 := by
  refine ⟨fun i H S hi _ hr g => ?_, fun H S _ hr g => ?_, fun i H S x H' hi _ hr g y => ?_⟩
  · obtain ⟨vs, h1, h2⟩ := hr.sql g.1
    obtain ⟨us, h3, h4⟩ := hr.sql g.2
    simp only [List.length_map, List.length_zip] at hi
    exact ⟨vs, us, vs[i]'(by rw [← h2.length]; omega), us[i]'(by rw [← h4.length]; omega), h1, h3, by simp, by simp⟩
  · obtain ⟨vs, h1, h2⟩ := hr.sql g.1
    obtain ⟨us, h3, h4⟩ := hr.sql g.2
    refine ⟨vs, us, h1, h3, ?_⟩
    rw [← h2.length, ← h4.length]
    simp only [List.length_map, List.length_zip]
    omega
  · obtain ⟨vs, h1, h2⟩ := hr.sql g.1
    obtain ⟨us, h3, h4⟩ := hr.sql g.2
    simp only [List.length_map, List.length_zip] at hi
    have hi1 : i < xs.length := by omega
    have hi2 : i < ys.length := by omega
    obtain ⟨T, z1, z2, rfl, nT, rfl, y1, y2⟩ := y
    obtain ⟨v, q1, q2⟩ := h2.get (List.getElem?_eq_getElem hi1)
    obtain ⟨u, q3, q4⟩ := h4.get (List.getElem?_eq_getElem hi2)
    have e1 := y1 vs h1
    rw [q1] at e1
    cases e1
    have e2 := y2 us h3
    rw [q3] at e2
    cases e2
    refine ⟨pairD xs[i] ys[i], ?_, reld_pair nT q2 q4, .inr ⟨T, _, nT, rfl⟩⟩
    rw [List.getElem?_map, List.getElem?_zip_eq_some (z := (xs[i], ys[i])).mpr ⟨List.getElem?_eq_getElem hi1, List.getElem?_eq_getElem hi2⟩]
    rfl
theorem walkd_zipT {a b : Addr} {vs us : List V} {xs ys : List D} (t1 : SqT K H0 a vs) (t2 : SqT K H0 b us) (r1 : RelDs K w H0 xs vs) (r2 : RelDs K w H0 ys us) : WalkD K w (RZ.ItzT K a b) ((xs.zip ys).map fun z => pairD z.1 z.2) (fun _ => True) H0 := by
  refine ⟨fun i H S hi e hr g => ?_, fun H S e hr g => ?_, fun i H S x H' hi e hr g y => ?_⟩
  · simp only [List.length_map, List.length_zip] at hi
    exact ⟨vs, us, vs[i]'(by rw [← r1.length]; omega), us[i]'(by rw [← r2.length]; omega), e.seqT t1, e.seqT t2, by simp, by simp⟩
  · refine ⟨vs, us, e.seqT t1, e.seqT t2, ?_⟩
    rw [← r1.length, ← r2.length]
    simp only [List.length_map, List.length_zip]
    omega
  · simp only [List.length_map, List.length_zip] at hi
    have hi1 : i < xs.length := by omega
    have hi2 : i < ys.length := by omega
    obtain ⟨T, z1, z2, rfl, nT, rfl, y1, y2⟩ := y
    obtain ⟨v, q1, q2⟩ := (RelDs.mono e _ _ r1).get (List.getElem?_eq_getElem hi1)
    obtain ⟨u, q3, q4⟩ := (RelDs.mono e _ _ r2).get (List.getElem?_eq_getElem hi2)
    have e1 := y1 vs (e.seqT t1)
    rw [q1] at e1
    cases e1
    have e2 := y2 us (e.seqT t2)
    rw [q3] at e2
    cases e2
    refine ⟨pairD xs[i] ys[i], ?_, reld_pair nT q2 q4, .inr ⟨T, _, nT, rfl⟩⟩
    rw [List.getElem?_map, List.getElem?_zip_eq_some (z := (xs[i], ys[i])).mpr ⟨List.getElem?_eq_getElem hi1, List.getElem?_eq_getElem hi2⟩]
    rfl
theorem walkd_rev {a : Addr} {ds : List D} {n : Nat} (hn : n = ds.length) : WalkD K w (Itv K a n) ds.reverse (fun S => S a = some (.lst ds)) H0 := by
  subst hn
  refine ⟨fun i H S hi _ hr g => ?_, fun H S _ hr g => ?_, fun i H S x H' hi _ hr g y => ?_⟩
  · obtain ⟨vs, h1, h2⟩ := hr.sql g
    rw [List.length_reverse] at hi
    exact ⟨hi, vs, vs[ds.length - 1 - i]'(by rw [← h2.length]; omega), h1, by simp⟩
  · show ds.length ≤ ds.reverse.length
    rw [List.length_reverse]
    exact Nat.le_refl _
  · obtain ⟨vs, h1, h2⟩ := hr.sql g
    rw [List.length_reverse] at hi
    obtain ⟨rfl, y⟩ := y
    have hi' : ds.length - 1 - i < ds.length := by omega
    obtain ⟨v, q1, q2⟩ := h2.get (List.getElem?_eq_getElem hi')
    have e := y vs h1
    rw [q1] at e
    cases e
    exact ⟨_, by rw [List.getElem?_reverse hi]; exact List.getElem?_eq_getElem hi', q2, .inl rfl⟩
theorem walkd_revT {a : Addr} {vs : List V} {ds : List D} {n : Nat} (hn : n = ds.length) (t : SqT K H0 a vs) (r : RelDs K w H0 ds vs) : WalkD K w (RT.ItvT K a n) ds.reverse (fun _ => True) H0 := by
  subst hn
  refine ⟨fun i H S hi e hr g => ?_, fun H S _ hr g => ?_, fun i H S x H' hi e hr g y => ?_⟩
  · rw [List.length_reverse] at hi
    exact ⟨hi, vs, vs[ds.length - 1 - i]'(by rw [← r.length]; omega), e.seqT t, by simp⟩
  · show ds.length ≤ ds.reverse.length
    rw [List.length_reverse]
    exact Nat.le_refl _
  · rw [List.length_reverse] at hi
    obtain ⟨rfl, y⟩ := y
    have hi' : ds.length - 1 - i < ds.length := by omega
    obtain ⟨v, q1, q2⟩ := (RelDs.mono e _ _ r).get (List.getElem?_eq_getElem hi')
    have e := y vs (e.seqT t)
    rw [q1] at e
    cases e
    exact ⟨_, by rw [List.getElem?_reverse hi]; exact List.getElem?_eq_getElem hi', q2, .inl rfl⟩
end

section
variable {X : Cx} {CX : CXT} {k : Nat} {f : Addr} {fd : FuncData} {ps : List Str} {sp : Sp} {E : L2.St → XK} {x : Str} {p pos : Pos} {e : Expr} {es : List Expr} {t : TA}
theorem pe_callD (F : FnG X.prog X.w X.K X.mg X.base CX k f fd ps sp) (hr : RoomG k X.A) (hg : Gl X x) (hm : X.mg x = some (.ref f)) (hk : PySem.W.keepIn X.K (.ref f) = true) (hb : Binds X.K fd ps []) (hx : ∀ σ, PassesAt CX X σ (E σ))
    (hpl : (e :: es).all plainE = true) (ha : PA X (e :: es) t) (hdb : (x == ("__debug__" : Str)) = false) : PE X (.Call (.Name x p) (e :: es) [] pos) (fun σ H Q => t σ H fun vs H1 => sp vs H1 Q (E σ)) := by
  rw [List.all_cons, Bool.and_eq_true] at hpl
  exact pe_callG (E := E) F hr hg hm hk hb hx ha hdb (plain_star hpl.1) (star_all hpl.2)
theorem pe_callD0 (F : FnG X.prog X.w X.K X.mg X.base CX k f fd ps sp) (hr : RoomG k X.A) (hg : Gl X x) (hm : X.mg x = some (.ref f)) (hk : PySem.W.keepIn X.K (.ref f) = true) (hb : Binds X.K fd ps []) (hx : ∀ σ, PassesAt CX X σ (E σ))
    (hdb : (x == ("__debug__" : Str)) = false) : PE X (.Call (.Name x p) [] [] pos) (fun σ H Q => sp [] H Q (E σ)) := by
  refine ⟨fun pins s σ H Q I h => ?_⟩
  refine wpAny_Call_Name_kw (ld_glob I hg hm ?_ hdb)
  exact PySem.W.callWith_K0 I.kIn hk (run_fng (us := []) (dvs := []) (E := E) F hr hb .nil (hx σ) I .nil h)
theorem kw_names : ∀ {kws : List Keyword} {ks : List Str} {env : Env} {pos : Pos}, kws.map (·.arg) = ks.map some → (backToKw pos (keywordEach kws env)).all (·.1.isSome) = true ∧ (backToKw pos (keywordEach kws env)).filterMap (·.1) = ks ∧ (backToKw pos (keywordEach kws env)).any (·.1.isNone) = false
  | [], ks, env, pos, h => by
    cases ks with
    | nil => exact ⟨rfl, rfl, rfl⟩
    | cons _ _ => cases h
  | ⟨nm, e, p⟩ :: kws, ks, env, pos, h => by
    cases ks with
    | nil => cases h
    | cons q ks =>
      rw [List.map_cons, List.map_cons] at h
      injection h with h1 h2
      obtain ⟨g1, g2, g3⟩ := kw_names (env := env) (pos := pos) h2
      have h1 : nm = some q := h1
      subst h1
      have e1 : backToKw pos (keywordEach (⟨some q, e, p⟩ :: kws) env) = (some q, do let v ← eval e env; standAt pos; pure v) :: backToKw pos (keywordEach kws env) := rfl
      rw [e1]
      refine ⟨?_, ?_, ?_⟩
      · rw [List.all_cons, g1]; rfl
      · simp only [List.filterMap_cons, g2]
      · rw [List.any_cons, g3]; rfl
theorem pe_callKG {n : Nat} {ks : List Str} {kws : List Keyword} {tk : TA} {g : List Value → List Value → List Value} {gV : List V → List V → List V} (F : FnG X.prog X.w X.K X.mg X.base CX k f fd ps sp) (hr : RoomG k X.A) (hg : Gl X x) (hm : X.mg x = some (.ref f)) (hk : PySem.W.keepIn X.K (.ref f) = true) (hb : KBn X.K fd ps n ks g gV) (hx : ∀ σ, PassesAt CX X σ (E σ))
    (ha : PA X (e :: es) t) (hkw : PK X kws tk) (hn : kws.map (·.arg) = ks.map some) (hdb : (x == ("__debug__" : Str)) = false) (hpl : (e :: es).all plainE = true) :
    PE X (.Call (.Name x p) (e :: es) kws pos) (fun σ H Q => t σ H fun vs H1 => tk σ H1 fun zs H2 => vs.length = n ∧ zs.length = ks.length ∧ sp (gV vs zs) H2 Q (E σ)) := by
  rw [List.all_cons, Bool.and_eq_true] at hpl
  have he := plain_star (env := X.env) (es := es) hpl.1
  obtain ⟨n1, n2, n3⟩ := kw_names (env := X.env) (pos := pos) hn
  refine ⟨fun pins s σ H Q I h => wpAny_Call_Name_kw (ld_glob I hg hm ?_ hdb)⟩
  have hp0 : (backTo pos (starEach (e :: es) X.env)).any (·.1) = false := by
    rw [he]
    show (false || (backTo pos (starEach es X.env)).any (·.1)) = false
    rw [Bool.false_or]
    exact star_all hpl.2
  refine PySem.W.callWith_KW (h₀ := X.base) I.ok.mod.kin hk n1 (thn (ha.run pos pins s σ H _ I h) fun us s1 ⟨vs, H1, I1, r, q⟩ => ?_) (by rw [hp0, n3]; rfl) he
  refine thn (hkw.run pos pins s1 σ H1 _ I1 q) fun ws s2 ⟨zs, H2, I2, rz, l1, l2, q2⟩ => ⟨I2.kIn, ?_⟩
  rw [n2]
  have r2 := hb.rel r rz
  refine wpAny_call (codeAny_mono (F.run X.A X.stack s2 H2 ⟨us, ks.zip ws⟩ (g us ws) (gV vs zs) Q (E σ) hr I2.env0 (hb.to s2 us ws I2.kIn (by rw [← r.length]; exact l1) (by rw [← rz.length]; exact l2)) r2 q2) fun q s' hq => ?_)
  cases q with
  | error e => exact hx σ pins H2 s2 e s' I2 hq
  | ok fl => cases fl <;> first | exact I2.after hq | exact False.elim hq
end
end Z

set_option Elab.async false
set_option linter.all false
set_option maxRecDepth 100000
set_option maxHeartbeats 4000000
namespace Z
open PySem PySem.Spec PyProof.Rows L2
theorem mcall_few {o : Expr} {m : Str} {apos pos : Pos} {args : List Expr} {env : Env} (hb : attributeBase o m env (eval o env) = eval o env) (hp : args.all plainE = true) (hn : args.length < 30) (hl : (apos.endLine == pos.line) = true) :
    eval (.Call (.Attribute o m apos) args [] pos) env = (do
      let ov ← eval o env
      standAt apos.atName
      let (f, first) ← holding [ov] (getMethod ov m (do return (← importBound o env).getD true))
      callWith pos f first (backTo pos (starEach args env)) (backToKw pos (keywordEach [] env))) := by
  refine mcall_of hb fun ov => ?_
  have few : methodCallForm (args.length + ([] : List Keyword).length) (backTo pos (starEach args env)) (backToKw pos (keywordEach [] env)) = true := by
    unfold methodCallForm
    rw [star_not hp]
    show (true && true && decide (_ + 0 + 0 < 30)) = true
    rw [Bool.true_and, Bool.true_and]
    exact decide_eq_true hn
  unfold methodCall calleeOf methodCallPos
  rw [few, hl]
  simp
section
variable {X : Cx} {CX : CXT} {k : Nat} {f C : Addr} {fd : FuncData} {ps : List Str} {sp : Sp} {dvs : List V} {dz : List Value} {E : L2.St → XK} {x m : Str} {p pos apos : Pos} {o : Expr} {es : List Expr} {ta : TE} {t : TA}
theorem pe_methD (he : PE X o ta) (c : Cls X.K C) (hm : Meth X.K C m f) (F : FnG X.prog X.w X.K X.mg X.base CX k f fd ps sp) (hr : RoomG k X.A) (hb : Binds X.K fd ps []) (hx : ∀ σ, PassesAt CX X σ (E σ)) (ha : PA X es t) (hpl : es.all plainE = true)
    (hba : attributeBase o m X.env (eval o X.env) = eval o X.env) (hn : es.length < 30) (hl : (apos.endLine == pos.line) = true) (h0 : es = [] → ∀ σ H Q, t σ H Q → Q [] H) :
    PE X (.Call (.Attribute o m apos) es [] pos) (fun σ H Q => ta σ H fun x H1 => ∃ a dx fs, x = .ref a ∧ H1 a = some (.ins C dx fs) ∧ fs.lookup m = none ∧ t σ H1 fun vs H2 => sp (.ref a :: vs) H2 Q (E σ)) := by
  refine ⟨fun pins s σ H Q I h => ?_⟩
  refine PySem.W.methodCall_KW (thn (he.run pins s σ H _ I h) fun u s1 ⟨x, H1, I1, rx, a, dx, fs, ex, ea, l, q⟩ => ?_) (mcall_few hba hpl hn hl)
  subst ex; obtain rfl : u = Value.ref a := rx
  refine getmeth_ok I1 ea c hm l ?_
  cases es with
  | nil =>
    have q0 := h0 rfl _ _ _ q
    refine PySem.W.callWith_K0 (first := [.ref a]) I1.kIn hm.kp ?_
    exact run_fng (us := [.ref a]) (vs := [.ref a]) (dvs := []) (ds := []) (E := E) F hr hb .nil (hx σ) I1 (.cons rfl .nil) q0
  | cons e0 es =>
    rw [List.all_cons, Bool.and_eq_true] at hpl
    refine PySem.W.callWith_K (first := [.ref a]) (h₀ := X.base) I.ok.mod.kin hm.kp (thn (ha.run pos pins s1 σ H1 _ I1 q) fun us s2 ⟨vs, H2, I2, r, q2⟩ => ⟨I2.kIn, ?_⟩) (plain_star hpl.1) (star_all hpl.2)
    exact run_fng (us := .ref a :: us) (vs := .ref a :: vs) (dvs := []) (ds := []) (E := E) F hr hb .nil (hx σ) I2 (.cons rfl r) (by simpa using q2)
theorem under_gd {A : Around} {C : Addr} {us : List Value} {kw : List (Str × Value)} (h : A.guards = some []) : (A.under (.builtin "type.__call__" ⟨.ref C :: us, kw⟩)).guards = some [] := by
  simpa [Around.under, Code.guards, Code.isGuard, pushGuards, show ¬ "type.__call__" ∈ guardIds by decide] using h
theorem run_makeD {pins : List (Addr × Obj)} {σ : L2.St} {H : Hp} {s : Shared} {Q : VK} {us : List Value} {vs : List V} (M : Mk X.K C f) (F : FnG X.prog X.w X.K X.mg X.base CX k f fd ps sp) (hr : RoomG (k + 1) X.A) (hb : Binds X.K fd ps dz) (hd : Vals dvs dz)
    (hx : PassesAt CX X σ (E σ)) (I : Inv X pins σ H s) (r : Vals vs us)
    (h : ∀ x dx, H x = none → H dx = none → dx ≠ x → sp (.ref x :: (vs ++ dvs)) (upd (upd H dx (.own x)) x (.ins C dx [])) (fun v H2 => v = .non ∧ Q (.ref x) H2) (E σ)) :
    wpAny (model X.prog X.w) X.A (call (.ref C) us) (EP X pins σ Q) X.xe s := by
  have hq := h (s.heap.objs.size + 1) s.heap.objs.size (I.hok.fresh (Nat.le_succ _)) (I.hok.fresh (Nat.le_refl _)) (Nat.ne_of_lt (Nat.lt_succ_self _))
  have I2 := Inv.made (C := C) I
  have r2 : Vals (V.ref (s.heap.objs.size + 1) :: (vs ++ dvs)) (Value.ref (s.heap.objs.size + 1) :: (us ++ dz)) := .cons rfl (r.append hd)
  have hl : (Value.ref (s.heap.objs.size + 1) :: us ++ dz).length = ps.length := by have e := r2.length; rw [F.len _ _ _ _ hq] at e; exact e.symm
  refine wpAny_call (make_map (f := f) I.kIn M.makes M.init (beq_iff_eq.mp M.fn) (codeAny_mono (F.run _ X.stack _ _ ⟨Value.ref (s.heap.objs.size + 1) :: us, []⟩ (Value.ref (s.heap.objs.size + 1) :: (us ++ dz)) _ _ (E σ) ⟨hr.rm.make C us [], under_gd hr.gd⟩ (I2.env0.make C us []) (hb _ (Value.ref (s.heap.objs.size + 1) :: us) I2.kIn hl) r2 hq) fun rr s' hq' => ?_))
  cases rr with
  | error ee => exact hx pins _ _ ee s' I2 hq'
  | ok fl =>
    cases fl with
    | ret u => obtain ⟨v, H', I3, rv, ev, q3⟩ := I2.after hq'; subst ev; exact ⟨rv, ⟨V.ref (s.heap.objs.size + 1), H', I3, rfl, q3⟩⟩
    | next => exact False.elim hq'
    | brk => exact False.elim hq'
    | cont => exact False.elim hq'
theorem pe_makeD (M : Mk X.K C f) (F : FnG X.prog X.w X.K X.mg X.base CX k f fd ps sp) (hr : RoomG (k + 1) X.A) (hg : Gl X x) (hm : X.mg x = some (.ref C)) (hb : Binds X.K fd ps dz) (hd : Vals dvs dz) (hx : ∀ σ, PassesAt CX X σ (E σ))
    (ha : PA X es t) (hpl : es.all plainE = true) (hdb : (x == ("__debug__" : Str)) = false) (h0 : es = [] → ∀ σ H Q, t σ H Q → Q [] H) :
    PE X (.Call (.Name x p) es [] pos) (fun σ H Q => t σ H fun vs H1 => ∀ x dx, H1 x = none → H1 dx = none → dx ≠ x → sp (.ref x :: (vs ++ dvs)) (upd (upd H1 dx (.own x)) x (.ins C dx [])) (fun v H2 => v = .non ∧ Q (.ref x) H2) (E σ)) := by
  refine ⟨fun pins s σ H Q I h => ?_⟩
  refine wpAny_Call_Name_kw (ld_glob I hg hm ?_ hdb)
  cases es with
  | nil =>
    have h1 := h0 rfl _ _ _ h
    exact PySem.W.callWith_K0 I.kIn M.kp (run_makeD (us := []) (E := E) M F hr hb hd (hx σ) I .nil h1)
  | cons e0 es =>
    rw [List.all_cons, Bool.and_eq_true] at hpl
    refine PySem.W.callWith_K (h₀ := X.base) I.ok.mod.kin M.kp (thn (ha.run pos pins s σ H _ I h) fun us s1 ⟨vs, H1, I1, r, q⟩ => ⟨I1.kIn, ?_⟩) (plain_star hpl.1) (star_all hpl.2)
    exact run_makeD (E := E) M F hr hb hd (hx σ) I1 r q
theorem pe_eqO {a b : Expr} {tb : TE} (ha : PE X a ta) (hb : PE X b tb) (hs : PySem.W.findIn X.K (.ref C) "__eq__" = some (some (.ref f))) (hf : PySem.W.isFn X.K (.ref f) = true) (F : FnG X.prog X.w X.K X.mg X.base CX k f fd ps sp) (hr : RoomG k X.A) (hbd : Binds X.K fd ps []) (hx : ∀ σ, PassesAt CX X σ (E σ))
    (hm : behindInMarks .Eq b = false) :
    PE X (.Compare a [.Eq] [b] pos) (fun σ H Q => ta σ H fun x H1 => tb σ H1 fun y H2 => ∃ p p' dx dy fs gs, x = .ref p ∧ y = .ref p' ∧ H2 p = some (.ins C dx fs) ∧ H2 p' = some (.ins C dy gs) ∧ sp [.ref p, .ref p'] H2 (fun v H3 => ∃ b, v = .bl b ∧ Q v H3) (E σ)) := by
  refine ⟨fun pins s σ H Q I h => ?_⟩
  refine wpAny_Compare1 (thn (ha.run pins s σ H _ I h) fun v s1 ⟨x, H1, I1, r1, q1⟩ => thn (hb.run pins s1 σ H1 _ I1 q1) fun u s2 ⟨y, H2, I2, r2, q2⟩ => ?_) hm
  obtain ⟨p, p', dx, dy, fs, gs, rfl, rfl, e1, e2, hsp⟩ := q2
  cases r1
  cases r2
  show wpAny (model X.prog X.w) X.A (richCompare .Eq (.ref p) (.ref p')) (EP X pins σ Q) X.xe s2
  obtain ⟨mA, J, _⟩ := ins_get I2.hok e1
  obtain ⟨mB, J', _⟩ := ins_get I2.hok e2
  obtain ⟨od, J, _⟩ := J.look
  obtain ⟨od', J', _⟩ := J'.look
  obtain ⟨m, hF⟩ := I2.fr
  refine PySem.W.cmp_K (op := .Eq) (tb := .ref C) hr.rm.units0 hF I2.ok.mod.kin J J'.type (by simp [PySem.W.notFirst]) hs hf ?_
  have hl := F.len _ _ _ _ hsp
  have rr : Vals [V.ref p, V.ref p'] [Value.ref p, Value.ref p'] := .cons rfl (.cons rfl .nil)
  refine wpAny_call (codeAny_mono (F.run X.A X.stack s2 H2 ⟨[.ref p, .ref p'], []⟩ [.ref p, .ref p'] [.ref p, .ref p'] _ (E σ) hr I2.env0 (by
    have := hbd s2 [.ref p, .ref p'] I2.kIn (by simpa using hl)
    simpa using this) rr hsp) fun r s' hq => ?_)
  cases r with
  | error e => exact hx σ pins H2 s2 e s' I2 hq
  | ok fl =>
    cases fl with
    | ret w =>
      obtain ⟨z, H', I', rz, bb, ez, ex⟩ := I2.after hq
      subst ez
      cases rz
      exact ⟨.bl bb, H', I', rfl, ex⟩
    | next => exact False.elim hq
    | brk => exact False.elim hq
    | cont => exact False.elim hq
theorem cx_no {outer : List Env} {P : Program} {w : World} {H : Hp} {s : Shared} {e : Value} {s' : Shared} (h : L2.CX P w outer H s (fun _ _ _ => False) e s') : False := by
  obtain ⟨_, _, _, _, _, _, _, _, _, _, _, _, z⟩ := h
  exact z
theorem call_lenO (hs : PySem.W.findIn X.K (.ref C) "__len__" = some (some (.ref f))) (hf : PySem.W.isFn X.K (.ref f) = true) (F : FnG X.prog X.w X.K X.mg X.base (L2.CX X.prog X.w) k f fd ps sp) (hr : RoomG (k + 1) X.A) (hbd : Binds X.K fd ps []) :
    CallR X (.builtin "len") (fun xs H Q => ∃ p dx fs, xs = [.ref p] ∧ H p = some (.ins C dx fs) ∧ sp [.ref p] H (fun v H2 => ∃ n : Nat, v = .int n ∧ n < 1000000 ∧ Q (.int n) H2) fun _ _ _ => False) := by
  intro pins s σ H xs us Q I r h
  obtain ⟨p, dx, fs, rfl, e1, hsp⟩ := h
  cases r with
  | cons r1 r2 =>
    cases r2
    cases r1
    obtain ⟨mA, J, _⟩ := ins_get I.hok e1
    obtain ⟨od, J, _⟩ := J.look
    obtain ⟨m, hF⟩ := I.fr
    refine PySem.W.len_K hF I.ok.mod.kin J hs hf ?_
    have hl := F.len _ _ _ _ hsp
    have rr : Vals [V.ref p] [Value.ref p] := .cons rfl .nil
    refine wpAny_call (codeAny_mono (F.run X.A.in1 X.stack s H ⟨[.ref p], []⟩ [.ref p] [.ref p] _ _ ⟨hr.rm.in1, hr.gd⟩ I.env0.in1 (by
      have := hbd s [.ref p] I.kIn (by simpa using hl)
      simpa using this) rr hsp) fun r s' hq => ?_)
    cases r with
    | error e => exact (cx_no hq).elim
    | ok fl =>
      cases fl with
      | ret w =>
        obtain ⟨z, H', I', rz, n, ez, hn, q⟩ := I.after hq
        subst ez
        obtain ⟨t, rfl⟩ := rz
        exact ⟨⟨by omega, by omega⟩, .int n, H', I'.tok _, ⟨_, rfl⟩, q⟩
      | next => exact False.elim hq
      | brk => exact False.elim hq
      | cont => exact False.elim hq
theorem call_reprO (hs : PySem.W.findIn X.K (.ref C) "__repr__" = some (some (.ref f))) (hf : PySem.W.isFn X.K (.ref f) = true) (F : FnG X.prog X.w X.K X.mg X.base (L2.CX X.prog X.w) k f fd ps sp) (hr : RoomG (k + 1) X.A) (hbd : Binds X.K fd ps []) :
    CallR X (.builtin "repr") (fun xs H Q => ∃ p dx fs, xs = [.ref p] ∧ H p = some (.ins C dx fs) ∧ sp [.ref p] H (fun v H2 => ∃ z : Str, v = .str z ∧ Q (.str z) H2) fun _ _ _ => False) := by
  intro pins s σ H xs us Q I r h
  obtain ⟨p, dx, fs, rfl, e1, hsp⟩ := h
  cases r with
  | cons r1 r2 =>
    cases r2
    cases r1
    obtain ⟨mA, J, _⟩ := ins_get I.hok e1
    obtain ⟨od, J, _⟩ := J.look
    obtain ⟨m, hF⟩ := I.fr
    refine PySem.W.repr_K hr.rm.in1.units0 hF I.ok.mod.kin J hs hf ?_
    have hl := F.len _ _ _ _ hsp
    have rr : Vals [V.ref p] [Value.ref p] := .cons rfl .nil
    refine wpAny_call (codeAny_mono (F.run X.A.in1 X.stack s H ⟨[.ref p], []⟩ [.ref p] [.ref p] _ _ ⟨hr.rm.in1, hr.gd⟩ I.env0.in1 (by
      have := hbd s [.ref p] I.kIn (by simpa using hl)
      simpa using this) rr hsp) fun r s' hq => ?_)
    cases r with
    | error e => exact (cx_no hq).elim
    | ok fl =>
      cases fl with
      | ret w =>
        obtain ⟨z, H', I', rz, y, ez, q⟩ := I.after hq
        subst ez
        obtain ⟨t, rfl⟩ := rz
        exact ⟨.str y, H', I', ⟨_, rfl⟩, q⟩
      | next => exact False.elim hq
      | brk => exact False.elim hq
      | cont => exact False.elim hq
theorem pe_makeKG {n : Nat} {ks : List Str} {kws : List Keyword} {tk : TA} {e : Expr} {g : List Value → List Value → List Value} {gV : List V → List V → List V} (M : Mk X.K C f) (F : FnG X.prog X.w X.K X.mg X.base CX k f fd ps sp) (hr : RoomG (k + 1) X.A) (hg : Gl X x) (hm : X.mg x = some (.ref C)) (hb : KBn X.K fd ps (n + 1) ks g gV) (hx : ∀ σ, PassesAt CX X σ (E σ))
    (ha : PA X (e :: es) t) (hkw : PK X kws tk) (hn : kws.map (·.arg) = ks.map some) (hdb : (x == ("__debug__" : Str)) = false) (hpl : (e :: es).all plainE = true) :
    PE X (.Call (.Name x p) (e :: es) kws pos) (fun σ H Q => t σ H fun vs H1 => tk σ H1 fun zs H2 => vs.length = n ∧ zs.length = ks.length ∧
      ∀ x dx, H2 x = none → H2 dx = none → dx ≠ x → sp (gV (.ref x :: vs) zs) (upd (upd H2 dx (.own x)) x (.ins C dx [])) (fun v H3 => v = .non ∧ Q (.ref x) H3) (E σ)) := by
  rw [List.all_cons, Bool.and_eq_true] at hpl
  have he := plain_star (env := X.env) (es := es) hpl.1
  obtain ⟨n1, n2, n3⟩ := kw_names (env := X.env) (pos := pos) hn
  refine ⟨fun pins s σ H Q I h => wpAny_Call_Name_kw (ld_glob I hg hm ?_ hdb)⟩
  have hp0 : (backTo pos (starEach (e :: es) X.env)).any (·.1) = false := by
    rw [he]
    show (false || (backTo pos (starEach es X.env)).any (·.1)) = false
    rw [Bool.false_or]
    exact star_all hpl.2
  refine PySem.W.callWith_KW (h₀ := X.base) I.ok.mod.kin M.kp n1 (thn (ha.run pos pins s σ H _ I h) fun us s1 ⟨vs, H1, I1, r, q⟩ => ?_) (by rw [hp0, n3]; rfl) he
  refine thn (hkw.run pos pins s1 σ H1 _ I1 q) fun ws s2 ⟨zs, H2, I2, rz, l1, l2, q2⟩ => ⟨I2.kIn, ?_⟩
  rw [n2]
  have hq := q2 (s2.heap.objs.size + 1) s2.heap.objs.size (I2.hok.fresh (Nat.le_succ _)) (I2.hok.fresh (Nat.le_refl _)) (Nat.ne_of_lt (Nat.lt_succ_self _))
  have I3 := Inv.made (C := C) I2
  have r1 : Vals (V.ref (s2.heap.objs.size + 1) :: vs) (Value.ref (s2.heap.objs.size + 1) :: us) := .cons rfl r
  have r2 := hb.rel r1 rz
  have e1 : (Value.ref (s2.heap.objs.size + 1) :: us).length = n + 1 := r1.length.symm.trans (congrArg Nat.succ l1)
  have e2 : ws.length = ks.length := rz.length.symm.trans l2
  refine wpAny_call (make_map (f := f) I2.kIn M.makes M.init (beq_iff_eq.mp M.fn) (codeAny_mono (F.run _ X.stack _ _ ⟨Value.ref (s2.heap.objs.size + 1) :: us, ks.zip ws⟩ (g (Value.ref (s2.heap.objs.size + 1) :: us) ws) _ _ (E σ) ⟨hr.rm.make C us (ks.zip ws), under_gd hr.gd⟩
    (I3.env0.make C us (ks.zip ws)) (hb.to _ (Value.ref (s2.heap.objs.size + 1) :: us) ws I3.kIn e1 e2) r2 hq) fun r s' hq' => ?_))
  cases r with
  | error ee => exact hx σ pins _ _ ee s' I3 hq'
  | ok fl =>
    cases fl with
    | ret u => obtain ⟨v, H', I4, rv, ev, q3⟩ := I3.after hq'; subst ev; exact ⟨rv, ⟨V.ref (s2.heap.objs.size + 1), H', I4, rfl, q3⟩⟩
    | next => exact False.elim hq'
    | brk => exact False.elim hq'
    | cont => exact False.elim hq'
end
end Z

set_option Elab.async false
set_option linter.all false
set_option maxRecDepth 100000
set_option maxHeartbeats 4000000
namespace Z
open PySem PySem.Spec PyProof.Rows L2 PySem.Calls
section
variable {prog : Program} {w : World} {M : Model} {A : Around} {E : Value → Shared → Prop} {s : Shared} {K : PySem.W.Frag} {x C f L : Addr} {ox : Obj} {od : Option Obj} {h₀ : Heap} {m : Str → Option Value} {b : Value}
theorem ifBound_B {name : Str} {id : String} {args : List Value} {Q : Option Value → Shared → Prop} (X : K.In s.heap) (I : PySem.W.InstAt s.heap x ox C od) (hs : PySem.W.findIn K (.ref C) name = some (some (.builtin id)))
    (hb : ∀ self, bindSpecial (.builtin id) self = pure (.builtin id, [self])) (h : wpAny M A (call (.builtin id) (.ref x :: args)) (fun v => Q (some v)) E s) : wpAny M A (callSpecialIfBound? (.ref x) name args) Q E s := by
  simp only [callSpecialIfBound?, bindSpecialIfBound?]
  refine wpAny_holding (wpAny_bind (wpAny_bind (wpAny_bind (I.type.here ((PySem.W.looks_findIn X hs).here ?_)))))
  refine wpAny_bind (wpAny_askSetting (wpAny_ite ?_))
  have fin : wpAny M A (call (.builtin id) ([.ref x] ++ args) >>= fun v => pure (some v)) Q E s := wpAny_bind (wpAny_mono h (fun v s' h' => wpAny_pure h') fun _ _ h' => h')
  split
  · exact wpAny_bind ((PySem.W.Looks.of_pure (hb _)).here (wpAny_pure (by exact fin)))
  · exact wpAny_tryCatch (wpAny_bind ((PySem.W.Looks.of_pure (hb _)).here (wpAny_pure (by exact fin))))
theorem ne_K {Q : Value → Shared → Prop} (hu : A.units < cLine) (hu1 : A.in1.units < cLine) (F : Fr h₀ L s.heap m) (X₀ : K.In h₀) (I : PySem.W.InstAt s.heap x ox C od) (hb : PySem.W.Looks (model prog w) s.heap (typeOf b) (.ref C))
    (hn : PySem.W.findIn K (.ref C) "__ne__" = some (some (.builtin "object.__ne__"))) (hm : PySem.W.mroIn K C (.type "object") = some true) (hs : PySem.W.findIn K (.ref C) "__eq__" = some (some (.ref f))) (hf : PySem.W.isFn K (.ref f) = true)
    (h : wpAny (model prog w) A.in1 (call (.ref f) [.ref x, b]) (fun v s' => ∃ r, v = .bool r ∧ Q (.bool (!r)) s') E s) : wpAny (model prog w) A (richCompare .NotEq (.ref x) b) Q E s := by
  have X := X₀.keeps F.keep
  have one : wpAny (model prog w) A (tryCompare (.ref x) (cmpInfo .NotEq).2.1 b) (fun r s' => ∃ v, r = some v ∧ Q v s') E s := by
    unfold tryCompare
    refine wpAny_bind (ifBound_B X I hn (fun _ => rfl) ?_)
    refine wpAny_call (codeAny_call_builtin (by decide +kernel) PySem.F.cmpEntry_ne (PySem.W.check_slot (i := "object.__ne__") (owner := "object") (n := "__ne__") (by decide +kernel) (by decide +kernel) (I.type.andThen (PySem.W.looks_mroIn X hm)) (PySem.F.cmpArgs_ne _ _) ?_))
    unfold Builtin.«object.__ne__»
    refine wpAny_bind (m := slotArgs "__ne__" 1 _) (wpAny_pure ?_)
    refine wpAny_bind (m := cRoomFor _ _) (wpAny_cRoomFor hu1 ?_)
    refine wpAny_bind (m := callSpecialIfBound? (.ref x) (Str.ofString "__eq__") _) (PySem.W.ifBound_K X I hs hf (wpAny_mono h (fun r s' hq => ?_) fun _ _ y => y))
    obtain ⟨r, rfl, hq⟩ := hq
    refine wpAny_bind (wpAny_truthy_bool ?_)
    refine wpAny_pure ?_
    exact wpAny_pure ⟨_, rfl, hq⟩
  unfold richCompare
  simp only [oneThing_ref]
  refine wpAny_holding (wpAny_bind (wpAny_cRoomFor hu ?_))
  refine wpAny_bind (I.type.here (wpAny_bind (hb.here ?_)))
  split
  · rename_i q
    simp at q
  · refine wpAny_bind (wpAny_pure ?_)
    simp only [Bool.false_eq_true, if_false]
    refine wpAny_bind (wpAny_mono one (fun r s' z => ?_) fun _ _ e => e)
    obtain ⟨v, rfl, hq⟩ := z
    exact wpAny_pure hq
end
end Z

set_option Elab.async false
set_option linter.all false
set_option maxRecDepth 100000
set_option maxHeartbeats 4000000
namespace GQ
open PySem PySem.SeqAt
open AutoSeq1 (wpAny_loadPart')
open MeetsSeq MeetsSeq2 MeetsSeq3 SeqRoads2
section
variable {prog : Program} {w : World} {A : Around} {R : Result → Shared → Prop}
def InI (prog : Program) (w : World) (A : Around) (E : Value → Shared → Prop) (l : Addr) (x : Value) (N : Nat) (I : Nat → Shared → Prop) (Y : Shared → Prop) : Prop :=
  ∀ i s, I i s → ∃ (items : Array Value) (n : Nat), s.heap.get? l = some { cls := .type "list", data := .seq items n } ∧ items.size = N ∧
    ∀ (h1 : i < items.size), wpAny (model prog w) A.in1 (eqBool items[i] x) (fun r s' => (r = true ∧ Y s') ∨ (r = false ∧ I (i + 1) s')) E s
theorem in_loopG (l : Addr) (x : Value) (N : Nat) (I : Nat → Shared → Prop) (hl : InI prog w A (fun e s' => R (.error e) s') l x N I fun s' => R (.ok (.ret (.bool true))) s')
    (fin : ∀ s, I N s → R (.ok (.ret (.bool false))) s) (k : Nat) :
    ∀ i : Nat, N - i = k → i ≤ N → ∀ s, I i s →
      wpAny (model prog w) A.in1 (Builtin.«list.__contains__.loop» ⟨[.ref l, x, rawInt i], []⟩) (FinOf prog w A R) (fun e s' => R (.error e) s') s := by
  induction k with
  | zero =>
    intro i hk hi s h
    obtain ⟨items, n, hl1, hs1, _⟩ := hl _ _ h
    have hi' : i = N := by omega
    have hR : R (.ok (.ret (.bool false))) s := fin s (hi' ▸ h)
    obtain ⟨hp, g, d, tk, os⟩ := s
    wp_walk using wpAny_loadPart' hl1
    have hi1 : items[((i : Nat) : Int).toNat]? = none := by simp; omega
    rw [hi1]
    wp_walk
    exact hR
  | succ k ih =>
    intro i hk hi s h
    obtain ⟨items, n, hl1, hs1, turn⟩ := hl _ _ h
    have hlt : i < items.size := by omega
    have ht := turn hlt
    obtain ⟨hp, g, d, tk, os⟩ := s
    wp_walk using wpAny_loadPart' hl1
    have hi1 : items[((i : Nat) : Int).toNat]? = some items[i] := by simp [hlt]
    have hc : ((i : Int) + 1) = ((i + 1 : Nat) : Int) := by omega
    rw [hi1]
    refine wpAny_bind (wpAny_mono ht (fun r s2 h2 => ?_) fun _ _ x => x)
    rcases h2 with ⟨hr, h2⟩ | ⟨hr, h2⟩
    · subst hr
      obtain ⟨hp2, g2, d2, tk2, os2⟩ := s2
      wp_walk
      exact h2
    · subst hr
      have hrec := ih (i + 1) (by omega) (by omega) s2 h2
      obtain ⟨hp2, g2, d2, tk2, os2⟩ := s2
      wp_walk
      rw [hc]
      exact ⟨plainId_quiet plain_contains_loop _, codeAny_builtin entry_contains_loop (by
        rw [Around.under_plainId plain_contains_loop _]
        exact hrec)⟩
theorem list_inG (l : Addr) (x : Value) (N : Nat) (I : Nat → Shared → Prop) (hl : InI prog w A (fun e s' => R (.error e) s') l x N I fun s' => R (.ok (.ret (.bool true))) s')
    (fin : ∀ s, I N s → R (.ok (.ret (.bool false))) s) {s : Shared} (h : I 0 s) :
    wpAny (model prog w) A.in1 (Builtin.«list.__contains__» ⟨[.ref l, x], []⟩) (FinOf prog w A R) (fun e s' => R (.error e) s') s := by
  have hrec := in_loopG l x N I hl fin _ 0 rfl (Nat.zero_le _) s h
  obtain ⟨hp, g, d, tk, os⟩ := s
  wp_walk
  exact ⟨plainId_quiet plain_contains_loop _, codeAny_builtin entry_contains_loop (by
    rw [Around.under_plainId plain_contains_loop _]
    exact hrec)⟩
end
section
variable {prog : Program} {w : World} {A : Around} {E : Value → Shared → Prop} {s : Shared}
theorem in_listG {l : Addr} {x : Value} {N : Nat} {Q : Value → Shared → Prop} (I : Nat → Shared → Prop) (hl : InI prog w A E l x N I fun s' => Q (.bool true) s') (fin : ∀ s, I N s → Q (.bool false) s) (h : I 0 s) : wpAny (model prog w) A (compareOp .In x (.ref l)) Q E s := by
  obtain ⟨items, n, hl1, _, _⟩ := hl _ _ h
  show wpAny _ A (do return .bool (← contains (.ref l) x)) Q E s
  refine wpAny_bind (wpAny_contains_slot ⟨_, hl1, rfl⟩ F.slot_list_contains (wpAny_mono (call_here (Q := fun v s' => ∃ b, v = .bool b ∧ Q (.bool b) s') F.slot_list_contains ⟨_, hl1, rfl⟩ F.entry_list_contains (F.args_list_contains_2 _ _) ?_) (fun v s' hv => ?_) fun _ _ e => e))
  · refine list_inG (R := wants (fun v s' => ∃ b, v = .bool b ∧ Q (.bool b) s') E) l x N I (fun i s' hi => ?_) (fun s' q => ⟨_, rfl, fin s' q⟩) h
    obtain ⟨its, n', e1, e2, e3⟩ := hl i s' hi
    refine ⟨its, n', e1, e2, fun h1 => wpAny_mono (e3 h1) (fun r s2 hr => ?_) fun _ _ z => z⟩
    rcases hr with ⟨a, b⟩ | hr
    · exact .inl ⟨a, _, rfl, b⟩
    · exact .inr hr
  · obtain ⟨b, rfl, hq⟩ := hv
    exact wpAny_truthy_bool (wpAny_pure hq)
end
end GQ

set_option Elab.async false
set_option linter.all false
set_option maxRecDepth 100000
set_option maxHeartbeats 4000000
namespace Z
open PySem PySem.Spec PyProof.Rows L2 PySem.Calls
section
variable {prog : Program} {w : World} {A : Around} {E : Value → Shared → Prop} {s : Shared} {K : PySem.W.Frag} {x C f L : Addr} {ox : Obj} {od : Option Obj} {h₀ : Heap} {m : Str → Option Value} {y : Value}
theorem rc_left {T id : String} {Q : Value → Shared → Prop} (hu : A.units < cLine) (F : Fr h₀ L s.heap m) (X₀ : K.In h₀) (I : PySem.W.InstAt s.heap x ox C od) (hs : PySem.W.findIn K (.ref C) "__eq__" = some (some (.ref f))) (hf : PySem.W.isFn K (.ref f) = true)
    (hT : s.TypeIs y T) (sl : Slot T "__eq__" id) (hsub : PySem.W.subIn K (.ref C) (.type T) = some false) (ho : oneThing? .Eq y (.ref x) = none)
    (hc : ∀ Q' : Value → Shared → Prop, Q' .notImplemented s → wpAny (model prog w) A (call (.builtin id) [y, .ref x]) Q' E s)
    (h : wpAny (model prog w) A (call (.ref f) [.ref x, y]) (PySem.W.CmpBack Q) E s) : wpAny (model prog w) A (richCompare .Eq y (.ref x)) Q E s := by
  have X := X₀.keeps F.keep
  unfold richCompare
  simp only [ho]
  refine wpAny_holding (wpAny_bind (wpAny_cRoomFor hu ?_))
  refine wpAny_bind (wpAny_typeOf hT (wpAny_bind (I.type.here ?_)))
  have two : wpAny (model prog w) A (tryCompare (.ref x) "__eq__" y) (fun r s' => ∃ v, r = some v ∧ Q v s') E s := by
    unfold tryCompare
    refine wpAny_bind (PySem.W.ifBound_K X I hs hf (wpAny_mono h (fun v s' hv => ?_) fun _ _ e => e))
    cases v <;> first | exact hv.elim | exact wpAny_pure ⟨_, rfl, hv⟩
  rw [if_pos (by simp)]
  refine wpAny_bind ((PySem.W.looks_subIn X hsub).here ?_)
  simp only [Bool.false_eq_true, if_false]
  refine wpAny_bind (wpAny_tryCompare_declines hT sl (hc _ ⟨rfl, ?_⟩))
  simp only [Bool.not_false, if_true]
  refine wpAny_bind (wpAny_mono two (fun r s' z => ?_) fun _ _ e => e)
  obtain ⟨v, rfl, hq⟩ := z
  exact wpAny_pure hq
end
end Z

set_option Elab.async false
set_option linter.all false
set_option maxRecDepth 100000
set_option maxHeartbeats 4000000
namespace Z
open PySem PySem.Spec PyProof.Rows L2 PySem.Calls PySem.SeqAt
open AutoSeq1 (wpAny_loadPart')
open MeetsSeq MeetsSeq2 MeetsSeq3 SeqRoads2
section
variable {prog : Program} {w : World} {A : Around} {E : Value → Shared → Prop} {s : Shared} {K : PySem.W.Frag} {x C f L : Addr} {ox : Obj} {od : Option Obj} {h₀ : Heap} {m : Str → Option Value} {y : Value} {Q : Value → Shared → Prop}
theorem dec_none (h : Q .notImplemented s) : wpAny (model prog w) A (call (.builtin "NoneType.__eq__") [.none, .ref x]) Q E s := by
  refine GQ.call_here F.slot_NoneType_eq (by exact typeIs_none _) F.entry_NoneType_eq (F.args_NoneType_eq_2 _ _) ?_
  obtain ⟨hp, g, d, tk, os⟩ := s
  wp_walk
  exact h
theorem dec_int {n : Int} {u : Tok} {cv : Value} {dd : Option Addr} {sl : Array (Option Value)} (hx : s.heap.get? x = some { cls := cv, dict := dd, data := .plain, slots := sl }) (h : Q .notImplemented s) : wpAny (model prog w) A (call (.builtin "int.__eq__") [.int n u, .ref x]) Q E s := by
  refine GQ.call_here F.slot_int_eq (by exact typeIs_int _ _ _) F.entry_int_eq (F.args_int_eq_2 _ _) ?_
  obtain ⟨hp, g, d, tk, os⟩ := s
  wp_walk using wpAny_loadPart' hx
  exact h
theorem dec_str {n : Str} {u : Tok} {cv : Value} {dd : Option Addr} {sl : Array (Option Value)} (hx : s.heap.get? x = some { cls := cv, dict := dd, data := .plain, slots := sl }) (h : Q .notImplemented s) : wpAny (model prog w) A (call (.builtin "str.__eq__") [.str n u, .ref x]) Q E s := by
  refine GQ.call_here F.slot_str_eq (by exact typeIs_str _ _ _) F.entry_str_eq (F.args_str_eq_2 _ _) ?_
  obtain ⟨hp, g, d, tk, os⟩ := s
  wp_walk using wpAny_loadPart' hx
  exact h
end
end Z

set_option Elab.async false
set_option linter.all false
set_option maxRecDepth 100000
set_option maxHeartbeats 4000000
namespace Z
open PySem PySem.Spec PyProof.Rows L2 PySem.Calls PySem.SeqAt
section
variable {prog : Program} {w : World} {A : Around} {E : Value → Shared → Prop} {s : Shared} {K : PySem.W.Frag} {x C f L : Addr} {ox : Obj} {od : Option Obj} {h₀ : Heap} {m : Str → Option Value} {y : Value} {Q : Value → Shared → Prop}
theorem dec_tup {t : Addr} (ht : s.TypeIs (.ref t) "tuple") (X : K.In s.heap) (I : PySem.W.InstAt s.heap x ox C od) (hsub : PySem.W.subIn K (.ref C) (.type "tuple") = some false) (h : Q .notImplemented s) : wpAny (model prog w) A (call (.builtin "tuple.__eq__") [.ref t, .ref x]) Q E s := by
  refine GQ.call_here F.slot_tuple_eq ht F.entry_tuple_eq (F.args_tuple_eq_2 _ _) ?_
  unfold Builtin.«tuple.__eq__»
  refine wpAny_bind (m := slotArgs "__eq__" 1 _) (wpAny_pure ?_)
  have Lk : PySem.W.Looks (model prog w) s.heap (isInstance (.ref x) (.type "tuple")) false := I.type.andThen (PySem.W.looks_subIn X hsub)
  refine wpAny_bind (m := isInstance (.ref x) (.type "tuple")) (Lk.here ?_)
  simp only [Bool.not_false, if_true]
  exact wpAny_pure h
end
end Z

set_option Elab.async false
set_option linter.all false
set_option maxRecDepth 100000
set_option maxHeartbeats 4000000
namespace Z
open PySem PySem.Spec PyProof.Rows L2
section
variable {X : Cx} {CX : CXT} {k : Nat} {f C : Addr} {fd : FuncData} {ps : List Str} {sp : Sp} {dvs : List V} {dz : List Value} {E : L2.St → XK} {x m : Str} {p pos apos : Pos} {o : Expr} {es : List Expr} {ta : TE} {t : TA}
end
end Z

set_option Elab.async false
set_option linter.all false
set_option maxRecDepth 100000
set_option maxHeartbeats 4000000
namespace Z
open PySem PySem.Spec PyProof.Rows L2
theorem ClsF.some {K : PySem.W.Frag} {cn : Str} {C : Addr} (c : ClsF K cn C) : (PySem.W.clsIn K C).isSome = true := by
  have h := c.cl.hd
  unfold PySem.W.hasDictIn at h
  cases e : PySem.W.clsIn K C with
  | none => rw [e] at h; cases h
  | some _ => rfl
theorem kit_not {K : PySem.W.Frag} {cn : Str} {C : Addr} (c : ClsF K cn C) {T : String} (hT : T ∈ btys) : PySem.W.kitOne K (.type T) (.ref C) = some false := by
  unfold PySem.W.kitOne
  rw [if_neg (by simp)]
  unfold PySem.W.kitCls
  show (if ((PySem.W.clsIn K C).isSome && PySem.W.typeIn K (Value.ref C) == some (Value.type "type")) = true then PySem.W.subIn K (Value.type T) (Value.ref C) else none) = some false
  rw [if_pos (by rw [c.some, c.ty]; rfl)]
  exact (c.nb T hT).2
theorem tyx_inv {K : PySem.W.Frag} {H : Hp} {x : V} {t : Value} (ty : TyX K H x t) : (t = .type "NoneType" → x = .non) ∧ (t = .type "int" → ∃ i, x = .int i) ∧ (t = .type "str" → ∃ z, x = .str z) ∧
    (t = .type "tuple" → (∃ a xs, x = .ref a ∧ H a = some (.tup xs)) ∨ (∃ a o, x = .ref a ∧ K.lookup a = some o ∧ o.cls = .type "tuple") ∨ ∃ a o xs, x = .ref a ∧ H a = some (.frz o (.tup xs))) := by
  have no : ∀ {a b : String} {P : Prop}, decide (a = b) = false → Value.type a = Value.type b → P := fun {a b P} h e => by
    injection e with e
    exact absurd e (of_decide_eq_false h)
  cases ty with
  | base b =>
    cases b <;> refine ⟨fun e => ?_, fun e => ?_, fun e => ?_, fun e => ?_⟩ <;> first
      | exact rfl
      | exact ⟨_, rfl⟩
      | exact .inl ⟨_, _, rfl, by assumption⟩
      | exact no (by decide) e
      | (cases e)
  | kTuple e c => exact ⟨no (by decide), no (by decide), no (by decide), fun _ => .inr (.inl ⟨_, _, rfl, e, c⟩)⟩
  | fTuple e => exact ⟨no (by decide), no (by decide), no (by decide), fun _ => .inr (.inr ⟨_, _, _, rfl, e⟩)⟩
  | _ => exact ⟨no (by decide), no (by decide), no (by decide), no (by decide)⟩
section
variable {prog : Program} {w : World} {A : Around} {E : Value → Shared → Prop} {s : Shared} {a b : Value} {Q : Bool → Shared → Prop}
theorem eqb_same (h : Q true s) : wpAny (model prog w) A (eqBool a a) Q E s := by
  unfold eqBool
  refine wpAny_holding ?_
  rw [if_pos (by simp)]
  exact wpAny_bind (wpAny_rule (wpAny_pure h))
theorem eqb_of (hne : (a == b) = false) (hf : ∀ x t, b ≠ .float x t) (h : wpAny (model prog w) A (richCompare .Eq a b) (fun v s' => ∃ r, v = .bool r ∧ Q r s') E s) : wpAny (model prog w) A (eqBool a b) Q E s := by
  unfold eqBool
  refine wpAny_holding ?_
  rw [if_neg (by rw [hne]; exact Bool.false_ne_true)]
  have fin : wpAny (model prog w) A (do truthOfDropped (← richCompare .Eq a b)) Q E s := wpAny_bind (wpAny_mono h (fun v s' ⟨r, hv, q⟩ => by subst hv; exact wpAny_truthy_bool q) fun _ _ e => e)
  split
  · rename_i x t y u e
    cases e
    exact absurd rfl (hf _ _)
  · exact fin
end
section
variable {X : Cx} {CX : CXT} {k : Nat} {f C : Addr} {fd : FuncData} {ps : List Str} {sp : Sp} {E : L2.St → XK} {x m cn : Str} {p pos apos : Pos} {o : Expr} {es : List Expr} {ta : TE} {t : TA}
theorem run_own {pins : List (Addr × Obj)} {σ : L2.St} {H : Hp} {s : Shared} {A : Around} {R : Bool → Hp → Prop} {vs : List V} {us : List Value} (F : FnG X.prog X.w X.K X.mg X.base (L2.CX X.prog X.w) k f fd ps sp) (hr : RoomG k A) (e0 : Env0 X.prog X.w X.K X.mg X.base A X.stack s H) (hbd : Binds X.K fd ps []) (I : Inv X pins σ H s) (rr : Vals vs us)
    (hsp : sp vs H (fun v H3 => ∃ b, v = .bl b ∧ R b H3) fun _ _ _ => False) : wpAny (model X.prog X.w) A (call (.ref f) us) (fun v s2 => ∃ r H', v = .bool r ∧ Inv X pins σ H' s2 ∧ R r H') X.xe s := by
  have hlen := F.len _ _ _ _ hsp
  refine wpAny_call (codeAny_mono (F.run A X.stack s H ⟨us, []⟩ us vs _ _ hr e0 (by
    have := hbd s us I.kIn (by rw [List.append_nil, ← rr.length]; exact hlen)
    simpa using this) rr hsp) fun r s2 hq => ?_)
  cases r with
  | error e => exact (cx_no hq).elim
  | ok fl =>
    cases fl with
    | ret w =>
      obtain ⟨z, H', I', rz, bb, ez, ex⟩ := I.after hq
      subst ez
      cases rz
      exact ⟨bb, H', rfl, I', ex⟩
    | next => exact False.elim hq
    | brk => exact False.elim hq
    | cont => exact False.elim hq
def rEqO (K : PySem.W.Frag) (C : Addr) (sp : Sp) (neg : Bool) : R2 := fun x y H Q => ∃ p dx fs, x = .ref p ∧ H p = some (.ins C dx fs) ∧ ((∃ p' dy gs, y = .ref p' ∧ H p' = some (.ins C dy gs)) ∨ (neg = false ∧ ∃ T, TyX K H y (.type T) ∧ T ∈ btys)) ∧
  sp [x, y] H (fun v H3 => ∃ b, v = .bl b ∧ Q (.bl (if neg = true then !b else b)) H3) fun _ _ _ => False
theorem op_eqO (cf : ClsF X.K cn C) (hs : PySem.W.findIn X.K (.ref C) "__eq__" = some (some (.ref f))) (hf : PySem.W.isFn X.K (.ref f) = true) (F : FnG X.prog X.w X.K X.mg X.base (L2.CX X.prog X.w) k f fd ps sp) (hr : RoomG (k + 1) X.A) (hbd : Binds X.K fd ps []) :
    OpR X (compareOp .Eq) (rEqO X.K C sp false) := by
  intro pins s σ H x y v u Q I r1 r2 h
  obtain ⟨p, dx, fs, rfl, e1, ho, hsp⟩ := h
  have rr : Vals [V.ref p, y] [v, u] := .cons r1 (.cons r2 .nil)
  cases r1
  show wpAny (model X.prog X.w) X.A (richCompare .Eq (.ref p) u) (EP X pins σ Q) X.xe s
  obtain ⟨mA, J, _⟩ := ins_get I.hok e1
  obtain ⟨od, J, _⟩ := J.look
  obtain ⟨m, hF⟩ := I.fr
  have go := run_own F (hr.mono (Nat.le_succ _)) I.env0 hbd I rr hsp
  have go2 : wpAny (model X.prog X.w) X.A (call (.ref f) [.ref p, u]) (PySem.W.CmpBack (EP X pins σ Q)) X.xe s := wpAny_mono go (fun v s2 hv => by
    obtain ⟨r, H', rfl, I', q⟩ := hv
    exact ⟨.bl r, H', I', rfl, q⟩) fun _ _ e => e
  rcases ho with ⟨p', dy, gs, rfl, e2⟩ | ⟨_, T, ty, hT⟩
  · cases r2
    obtain ⟨mB, J', _⟩ := ins_get I.hok e2
    obtain ⟨od', J', _⟩ := J'.look
    exact PySem.W.cmp_K (op := .Eq) (tb := .ref C) hr.rm.units0 hF I.ok.mod.kin J J'.type (by simp [PySem.W.notFirst]) hs hf go2
  · obtain ⟨P, Z, pp, _⟩ := kit_of I r2 ty
    exact PySem.W.cmp_K (op := .Eq) (tb := .type T) hr.rm.units0 hF I.ok.mod.kin J (Z.ty _ _ I.kIn pp) (by unfold PySem.W.notFirst; rw [(cf.nb T hT).2]; simp) hs hf go2
theorem op_neO (cf : ClsF X.K cn C) (hs : PySem.W.findIn X.K (.ref C) "__eq__" = some (some (.ref f))) (hf : PySem.W.isFn X.K (.ref f) = true) (F : FnG X.prog X.w X.K X.mg X.base (L2.CX X.prog X.w) k f fd ps sp) (hr : RoomG (k + 1) X.A) (hbd : Binds X.K fd ps []) :
    OpR X (compareOp .NotEq) (rEqO X.K C sp true) := by
  intro pins s σ H x y v u Q I r1 r2 h
  obtain ⟨p, dx, fs, rfl, e1, ho, hsp⟩ := h
  have rr : Vals [V.ref p, y] [v, u] := .cons r1 (.cons r2 .nil)
  cases r1
  show wpAny (model X.prog X.w) X.A (richCompare .NotEq (.ref p) u) (EP X pins σ Q) X.xe s
  obtain ⟨mA, J, _⟩ := ins_get I.hok e1
  obtain ⟨od, J, _⟩ := J.look
  obtain ⟨m, hF⟩ := I.fr
  have go := run_own F ⟨hr.rm.in1, hr.gd⟩ I.env0.in1 hbd I rr hsp
  rcases ho with ⟨p', dy, gs, rfl, e2⟩ | ⟨z, _⟩
  · cases r2
    obtain ⟨mB, J', _⟩ := ins_get I.hok e2
    obtain ⟨od', J', _⟩ := J'.look
    refine ne_K hr.rm.units0 hr.rm.in1.units0 hF I.ok.mod.kin J J'.type cf.ne cf.hm hs hf (wpAny_mono go (fun v s2 hv => ?_) fun _ _ e => e)
    obtain ⟨r, H', rfl, I', q⟩ := hv
    exact ⟨r, rfl, .bl (!r), H', I', rfl, q⟩
  · cases z
def inTurn (K : PySem.W.Frag) (C : Addr) (sp : Sp) (p : Addr) (y : V) (H : Hp) (Yes Nx : Hp → Prop) : Prop :=
  (y = .ref p ∧ Yes H) ∨
  (∃ p' dy gs, y = .ref p' ∧ p' ≠ p ∧ H p' = some (.ins C dy gs) ∧ sp [.ref p', .ref p] H (fun v H3 => ∃ b, v = .bl b ∧ if b = true then Yes H3 else Nx H3) fun _ _ _ => False) ∨
  (∃ T, TyX K H y (.type T) ∧ T ∈ ["NoneType", "int", "str", "tuple"] ∧ sp [.ref p, y] H (fun v H3 => ∃ b, v = .bl b ∧ if b = true then Yes H3 else Nx H3) fun _ _ _ => False)
def rInO (K : PySem.W.Frag) (C : Addr) (sp : Sp) : R2 := fun x y H Q => ∃ p l N, ∃ W : Nat → Hp → Prop, x = .ref p ∧ y = .ref l ∧ W 0 H ∧
  (∀ i H, W i H → ∃ ys, H l = some (.lst ys) ∧ ys.length = N ∧ (∃ dx fs, H p = some (.ins C dx fs)) ∧ ∀ y, ys[i]? = some y → inTurn K C sp p y H (fun H' => Q (.bl true) H') (W (i + 1))) ∧ ∀ H, W N H → Q (.bl false) H
theorem op_inO (cf : ClsF X.K cn C) (hs : PySem.W.findIn X.K (.ref C) "__eq__" = some (some (.ref f))) (hf : PySem.W.isFn X.K (.ref f) = true) (F : FnG X.prog X.w X.K X.mg X.base (L2.CX X.prog X.w) k f fd ps sp) (hr : RoomG (k + 1) X.A) (hbd : Binds X.K fd ps []) :
    OpR X (compareOp .In) (rInO X.K C sp) := by
  intro pins s σ H x y v u Q I r1 r2 h
  obtain ⟨p, l, N, W, rfl, rfl, w0, turn, fin⟩ := h
  cases r1
  cases r2
  refine GQ.in_listG (N := N) (fun i s => ∃ H, Inv X pins σ H s ∧ W i H) (fun i s' ⟨H1, I1, w1⟩ => ?_) (fun s' ⟨H1, I1, w1⟩ => ⟨.bl false, H1, I1, rfl, fin H1 w1⟩) ⟨H, I, w0⟩
  obtain ⟨ys, el, hN, ⟨dx, fs, ep⟩, tn⟩ := turn i H1 w1
  obtain ⟨_, its, n, rv, hl⟩ := (show ObjOk X.prog X.w H1 s'.heap l (.lst ys) from I1.hok l _ el)
  refine ⟨its.toArray, n, hl, by rw [List.size_toArray, ← hN, rv.length], fun h1 => ?_⟩
  have hi : i < its.length := by simpa using h1
  have hi2 : i < ys.length := by rw [rv.length]; exact hi
  obtain ⟨uy, e1, ry⟩ := rv.get (List.getElem?_eq_getElem hi2)
  have e2 : its.toArray[i] = uy := by
    rw [List.getElem?_eq_getElem hi] at e1
    cases e1
    rfl
  rw [e2]
  obtain ⟨mA, J, _⟩ := ins_get I1.hok ep
  obtain ⟨od, J, _⟩ := J.look
  obtain ⟨m, hF⟩ := I1.fr
  have hpo : s'.heap.get? p = some (PySem.W.instObj C dx) := (show ObjOk X.prog X.w H1 s'.heap p (.ins C dx fs) from I1.hok p _ ep).2.2.2.1
  have back : ∀ {vs : List V} {us : List Value}, Vals vs us → sp vs H1 (fun v H3 => ∃ b, v = .bl b ∧ if b = true then Q (.bl true) H3 else W (i + 1) H3) (fun _ _ _ => False) →
      wpAny (model X.prog X.w) X.A.in1 (call (.ref f) us) (fun v s2 => ∃ r, v = .bool r ∧ ((r = true ∧ EP X pins σ Q (.bool true) s2) ∨ (r = false ∧ ∃ H, Inv X pins σ H s2 ∧ W (i + 1) H))) X.xe s' := fun {vs us} rr hsp =>
    wpAny_mono (run_own (R := fun b H3 => if b = true then Q (.bl true) H3 else W (i + 1) H3) F ⟨hr.rm.in1, hr.gd⟩ I1.env0.in1 hbd I1 rr hsp) (fun v s2 hv => by
      obtain ⟨bb, H', rfl, I', ex⟩ := hv
      refine ⟨bb, rfl, ?_⟩
      cases bb with
      | true => exact .inl ⟨rfl, .bl true, H', I', rfl, ex⟩
      | false => exact .inr ⟨rfl, H', I', ex⟩) fun _ _ e => e
  have cmb : ∀ {uu : List Value}, wpAny (model X.prog X.w) X.A.in1 (call (.ref f) uu) (fun v s2 => ∃ r, v = .bool r ∧ ((r = true ∧ EP X pins σ Q (.bool true) s2) ∨ (r = false ∧ ∃ H, Inv X pins σ H s2 ∧ W (i + 1) H))) X.xe s' →
      wpAny (model X.prog X.w) X.A.in1 (call (.ref f) uu) (PySem.W.CmpBack fun v s2 => ∃ r, v = .bool r ∧ ((r = true ∧ EP X pins σ Q (.bool true) s2) ∨ (r = false ∧ ∃ H, Inv X pins σ H s2 ∧ W (i + 1) H))) X.xe s' := fun h => wpAny_mono h (fun v s2 hv => by
        obtain ⟨r, rfl, q⟩ := hv
        exact ⟨r, rfl, q⟩) fun _ _ e => e
  rcases tn ys[i] (List.getElem?_eq_getElem hi2) with ⟨e3, q⟩ | ⟨p', dy, gs, e3, ne, ep', hsp⟩ | ⟨T, ty, hT, hsp⟩
  · rw [e3] at ry
    cases ry
    exact eqb_same (.inl ⟨rfl, .bl true, H1, I1, rfl, q⟩)
  · rw [e3] at ry
    cases ry
    obtain ⟨mB, J', _⟩ := ins_get I1.hok ep'
    obtain ⟨od', J', _⟩ := J'.look
    refine eqb_of (by simpa using ne) (fun _ _ z => nomatch z) ?_
    refine PySem.W.cmp_K (op := .Eq) (tb := .ref C) hr.rm.in1.units0 hF I1.ok.mod.kin J' J.type (by simp [PySem.W.notFirst]) hs hf (cmb (back (vs := [.ref p', .ref p]) (.cons rfl (.cons rfl .nil)) hsp))
  · generalize ys[i] = yy at ry ty hsp
    have hb := back (vs := [.ref p, yy]) (us := [.ref p, uy]) (.cons rfl (.cons ry .nil)) hsp
    have hT' : T ∈ btys := by
      simp only [List.mem_cons, List.not_mem_nil, or_false] at hT
      rcases hT with rfl | rfl | rfl | rfl <;> decide
    obtain ⟨P, Zk, pp, _⟩ := kit_of I1 ry ty
    simp only [List.mem_cons, List.not_mem_nil, or_false] at hT
    rcases hT with rfl | rfl | rfl | rfl
    · cases (tyx_inv ty).1 rfl
      cases ry
      exact eqb_of rfl (fun _ _ z => nomatch z) (rc_left hr.rm.in1.units0 hF I1.ok.mod.kin J hs hf (typeIs_none _) PySem.F.slot_NoneType_eq (cf.nb _ hT').1 rfl (fun Q' q => dec_none q) (cmb hb))
    · obtain ⟨i, rfl⟩ := (tyx_inv ty).2.1 rfl
      obtain ⟨t, rfl⟩ := ry
      exact eqb_of rfl (fun _ _ z => nomatch z) (rc_left hr.rm.in1.units0 hF I1.ok.mod.kin J hs hf (typeIs_int _ _ _) PySem.F.slot_int_eq (cf.nb _ hT').1 rfl (fun Q' q => dec_int hpo q) (cmb hb))
    · obtain ⟨z, rfl⟩ := (tyx_inv ty).2.2.1 rfl
      obtain ⟨t, rfl⟩ := ry
      exact eqb_of rfl (fun _ _ z => nomatch z) (rc_left hr.rm.in1.units0 hF I1.ok.mod.kin J hs hf (typeIs_str _ _ _) PySem.F.slot_str_eq (cf.nb _ hT').1 rfl (fun Q' q => dec_str hpo q) (cmb hb))
    · have npo : ∀ {a : Addr} {o : Obj}, s'.heap.get? a = some o → o.cls = .type "tuple" → a ≠ p := fun {a o} h1 h2 z => by
        subst z
        rw [hpo] at h1
        cases h1
        cases h2
      have ht : ∃ a, uy = .ref a ∧ a ≠ p ∧ s'.TypeIs (.ref a) "tuple" := by
        rcases (tyx_inv ty).2.2.2 rfl with ⟨a, xs, rfl, e⟩ | ⟨a, o, rfl, e, c⟩ | ⟨a, ob, xs, rfl, e⟩
        · cases ry
          obtain ⟨_, _, _, o, h1, h2, _⟩ := (show ObjOk X.prog X.w H1 s'.heap _ (.tup _) from I1.hok _ _ e)
          exact ⟨_, rfl, npo h1 h2, o, h1, h2⟩
        · cases ry
          exact ⟨_, rfl, npo (I1.kIn _ _ e) c, _, I1.kIn _ _ e, c⟩
        · cases ry
          obtain ⟨_, _, _, _, o, h1, h2, _⟩ := (show ObjOk X.prog X.w H1 s'.heap _ (.frz _ (.tup _)) from I1.hok _ _ e)
          exact ⟨_, rfl, npo h1 h2, o, h1, h2⟩
      obtain ⟨a, rfl, hne, ht⟩ := ht
      exact eqb_of (by simpa using hne) (fun _ _ z => nomatch z) (rc_left hr.rm.in1.units0 hF I1.ok.mod.kin J hs hf ht PySem.F.slot_tuple_eq (cf.nb _ hT').1 (oneThing_ref _ _ _) (fun Q' q => dec_tup ht I1.kIn J (cf.nb _ hT').1 q) (cmb hb))
end
end Z

set_option Elab.async false
set_option linter.all false
set_option maxRecDepth 100000
set_option maxHeartbeats 4000000
namespace Z
open PySem PySem.Spec PyProof.Rows L2
abbrev cw (defs : Str → Option DefT) (gl : Str → Option D) (k : Nat) : Cw := ⟨sem defs gl k, gl⟩
abbrev ex0 : EX := fun _ _ _ => False
theorem exk0 {K : PySem.W.Frag} {w : World} {H : Hp} {S : Sto} {W : WX} : ExK K w H S ex0 W := fun _ _ _ h => h.elim
theorem bfn_boot {b : Bi} {n : String} (h : b.fn = some n) : bootBuiltins (Str.ofString n) = some (.builtin n) ∧ n ∈ bnames := by
  cases b <;> simp only [Bi.fn] at h <;> cases h <;> exact ⟨by decide +kernel, by decide⟩
theorem bty_boot {b : Bi} {n : String} (h : b.tyn = some n) : bootBuiltins (Str.ofString n) = some (.type n) ∧ n ∈ bnames := by
  cases b <;> simp only [Bi.tyn] at h <;> cases h <;> exact ⟨by decide +kernel, by decide⟩
theorem tyNames_boot {n : String} (h : tyNames.contains n = true) : bootBuiltins (Str.ofString n) = some (.type n) ∧ n ∈ bnames := by
  have h' : n ∈ tyNames := by simpa using h
  simp only [tyNames, List.mem_cons, List.not_mem_nil, or_false] at h'
  rcases h' with rfl | rfl | rfl | rfl | rfl | rfl <;> exact ⟨by decide +kernel, by decide⟩
section
variable {K : PySem.W.Frag} {w : World} {H H1 H' : Hp} {S S1 S' : Sto} {p : Addr}
theorem HR.free (h : HR K w H S) {o : HO} (n : H p = none) : HR K w (upd H p o) S := fun a ob q => by
  have ne : a ≠ p := fun z => by subst z; rw [h.fresh n] at q; cases q
  exact (h a ob q).mono (ext_new n) (upd_ne ne)
theorem Fm.addS {ob : Ob} (f : Fm H1 S1 H S) (n : H1 p = none) : Fm H1 S1 H (updS S p ob) := fun a o e q =>
  ⟨(f a o e q).1, by rw [updS_ne (ne_of_none e n)]; exact (f a o e q).2⟩
theorem HR.addS {ob : Ob} (h : HR K w H S) (r : ObR K w H p ob) : HR K w H (updS S p ob) := fun a u q => by
  by_cases ne : a = p
  · subst ne; rw [updS_same] at q; cases q; exact r
  · rw [updS_ne ne] at q
    exact h a u q
theorem ext_put {o u : HO} (e : H p = some o) (h1 : ∀ xs, o ≠ .tup xs) (h2 : ∀ q v, o ≠ .frz q v) (h3 : ∀ fs, o ≠ .xd fs) : Ext H (upd H p u) := by
  refine ⟨fun a xs t => ?_, fun a q xs t => ?_, fun a fs t => ?_⟩
  · have ne : a ≠ p := fun z => by
      subst z
      rcases t with t | ⟨o, t⟩ <;> (rw [e] at t; cases t)
      · exact h1 _ rfl
      · exact h2 _ _ rfl
    rcases t with t | ⟨u, t⟩
    · exact .inl (by rw [upd_ne ne]; exact t)
    · exact .inr ⟨u, by rw [upd_ne ne]; exact t⟩
  · have ne : a ≠ p := fun z => by
      subst z
      rw [e] at t
      cases t
      exact h2 _ _ rfl
    rw [upd_ne ne]
    exact t
  · have ne : a ≠ p := fun z => by
      subst z
      rw [e] at t
      cases t
      exact h3 _ rfl
    rw [upd_ne ne]
    exact t
theorem ext_out {vs us : List V} (e : H p = some (.lst vs)) : Ext H (upd H p (.lst us)) := ext_put e (fun _ z => nomatch z) (fun _ _ z => nomatch z) fun _ z => nomatch z
theorem HR.out {vs us : List V} (h : HR K w H S) (e : H p = some (.lst vs)) (n : S p = none) : HR K w (upd H p (.lst us)) S := fun a ob q => by
  have ne : a ≠ p := fun z => by subst z; rw [n] at q; cases q
  exact (h a ob q).mono (ext_out e) (upd_ne ne)
theorem Fm.out {o : HO} (f : Fm H1 S1 H S) (n : H1 p = none) : Fm H1 S1 (upd H p o) S := fun a u e q =>
  ⟨by rw [upd_ne (ne_of_none e n)]; exact (f a u e q).1, (f a u e q).2⟩
theorem relst_wipe {σd : StD} {σ : L2.St} (h : RelSt K w H σd σ) : ∀ vs : List Nat, RelSt K w H (wipeD σd vs) (wipe σ vs)
  | [] => h
  | v :: vs => by
    have ih := relst_wipe h vs
    unfold wipeD wipe
    refine ⟨by rw [List.length_set, List.length_set]; exact ih.1, fun j d q => ?_⟩
    by_cases hj : v = j
    · subst hj
      by_cases hl : v < (wipeD σd vs).length
      · rw [List.getElem?_set_self hl] at q; cases q
      · rw [List.getElem?_eq_none (by simpa using hl)] at q; cases q
    · rw [List.getElem?_set_ne hj] at q ⊢
      exact ih.2 j d q
theorem wipe_wipe (σ : L2.St) (vs : List Nat) : wipe (wipe σ vs) vs = wipe σ vs := by
  have one : ∀ (us : List Nat) (τ : L2.St), (∀ u ∈ us, u ∈ vs) → wipe (wipe τ us) vs = wipe τ vs := by
    intro us
    induction us with
    | nil => intro τ _; rfl
    | cons u us ih =>
      intro τ hu
      show wipe ((wipe τ us).set u none) vs = _
      rw [wipe_set (hu u List.mem_cons_self), ih τ fun x hx => hu x (List.mem_cons_of_mem _ hx)]
  exact one vs σ fun _ h => h

theorem lc_of {J : It} {ds : List D} {G : Sto → Prop} {g : Tg} {fT : WT} {fE : WE} {vs : List Nat} {σd : StD} {σ : L2.St} {R : D → Sto → Prop} {Q : VK} {Da : Addr} (rs : RelSt K w H1 σd σ) (hr : HR K w H1 S1) (wk : WalkD K w J ds G H1) (og : ownG vs g = true) (nD : H1 Da = none)
    (f : lcL (fun d S2 k => wpG g d (wipeD σd vs) S2 fun σ2 => fT σ2 S2 fun b S3 => if b = true then fE σ2 S3 fun v S4 => k (some v) S4 else k none S3) G R ds [] S1)
    (q : Kont K w H1 S1 R Q) :
    ∃ W : Nat → Nat → Hp → Prop, (∃ m, W 0 m (upd H1 Da (.lst []))) ∧ ∀ i m H, W i m H →
      (J.stop i H ∧ Q (.ref Da) H) ∨ (J.go i H ∧ ∃ Nx : Hp → Prop, (∀ H', Nx H' → ∃ m', m' < m ∧ W (i + 1) m' H') ∧ ∀ x H', J.yld i H x H' → gV K g x (wipe σ vs) H' fun σ2 H2 => wipe σ2 vs = wipe σ vs ∧ tDT K w W0 ex0 fT σ2 H2 fun b H3 =>
        if b = true then tD K w W0 ex0 fE σ2 H3 fun y H4 => ∃ acc, H4 Da = some (.lst acc) ∧ acc.length < sizeLine ∧ Nx (upd H4 Da (.lst (acc ++ [y]))) else Nx H3) := by
  refine ⟨fun i m Hh => m = ds.length - i ∧ i ≤ ds.length ∧ ∃ S acc us, HR K w Hh S ∧ Fm H1 S1 Hh S ∧ Hh Da = some (.lst us) ∧ S Da = none ∧ RelDs K w Hh acc us ∧
      lcL (fun d S2 k => wpG g d (wipeD σd vs) S2 fun σ2 => fT σ2 S2 fun b S3 => if b = true then fE σ2 S3 fun v S4 => k (some v) S4 else k none S3) G R (ds.drop i) acc S,
    ⟨ds.length, by simp, Nat.zero_le _, S1, [], [], hr.free nD, Fm.tup hr nD, upd_same, hr.fresh nD, relds_nil, by simpa using f⟩, ?_⟩
  rintro i m Hh ⟨rfl, hi, S, acc, us, hh, fm, eD, sD, ra, fl⟩
  by_cases hlt : i < ds.length
  · rw [List.drop_eq_getElem_cons hlt] at fl
    unfold lcL at fl
    obtain ⟨gS, hz, ft⟩ := fl
    have ex : Ext H1 Hh := fm.ext hr
    refine .inr ⟨wk.goes i Hh S hlt ex hh gS, fun H' => ∃ S acc us, HR K w H' S ∧ Fm H1 S1 H' S ∧ H' Da = some (.lst us) ∧ S Da = none ∧ RelDs K w H' acc us ∧
      lcL (fun d S2 k => wpG g d (wipeD σd vs) S2 fun σ2 => fT σ2 S2 fun b S3 => if b = true then fE σ2 S3 fun v S4 => k (some v) S4 else k none S3) G R (ds.drop (i + 1)) acc S,
      fun H' z => ⟨ds.length - (i + 1), by omega, rfl, hlt, z⟩, fun x H' y => ?_⟩
    obtain ⟨d, ed, rd, hH⟩ := wk.yields i Hh S x H' hlt ex hh gS y
    rw [List.getElem?_eq_getElem hlt] at ed
    cases ed
    have hh' : HR K w H' S := by
      rcases hH with rfl | ⟨T, xs, nT, rfl⟩
      · exact hh
      · exact hh.tup nT
    have fm2 : Fm Hh S H' S := by
      rcases hH with rfl | ⟨T, xs, nT, rfl⟩
      · exact Fm.refl _ _
      · exact Fm.tup hh nT
    have fm' : Fm H1 S1 H' S := fm.trans fm2
    have eD' : H' Da = some (.lst us) := (fm2 Da _ eD sD).1
    refine gD_of (vs := vs) hh' g _ x (wipeD σd vs) (wipe σ vs) _ _ rd (relst_wipe (rs.mono (fm'.ext hr)) vs) ft fun σd2 σ2 h1 h2 h3 => ⟨by rw [h3 og, wipe_wipe], ?_⟩
    refine ⟨σd2, S, _, h2, hh', exk0, h1, fun b S3 hb H3 f3 h3' => ?_⟩
    obtain ⟨e3, s3⟩ := f3 Da _ eD' sD
    have ex3 : Ext H' H3 := f3.ext hh'
    have ra3 : RelDs K w H3 acc us := RelDs.mono ex3 _ _ (RelDs.mono (fm2.ext hh) _ _ ra)
    cases b with
    | false =>
      rw [if_neg Bool.false_ne_true] at hb ⊢
      exact ⟨S3, acc, us, h3', fm'.trans f3, e3, s3, ra3, hb⟩
    | true =>
      rw [if_pos rfl] at hb ⊢
      refine ⟨σd2, S3, _, h2.mono ex3, h3', exk0, hb, fun v S4 hv y H4 f4 rv h4 => ?_⟩
      obtain ⟨e4, s4⟩ := f4 Da _ e3 s3
      have ex4 : Ext H3 H4 := f4.ext h3'
      refine ⟨us, e4, by rw [← ra.length]; exact hz, S4, acc ++ [v], us ++ [y], h4.out e4 s4, ((fm'.trans f3).trans f4).out nD, upd_same, s4, ?_, hv⟩
      exact RelDs.mono (ext_out e4) _ _ ((RelDs.mono ex4 _ _ ra3).snoc rv)
  · have e : i = ds.length := by omega
    subst e
    rw [List.drop_length] at fl
    unfold lcL at fl
    obtain ⟨gS, ft⟩ := fl
    refine .inl ⟨wk.stops Hh S (fm.ext hr) hh gS, ?_⟩
    exact q _ _ (ft Da sD) _ Hh (fm.addS nD) (by simp only [RelD]) (hh.addS ⟨us, eD, ra⟩)
end
section
variable {defs : Str → Option DefT} {gl : Str → Option D} {k : Nat}
theorem XOk.blk {c : Cc} {W : WX} {X : Cx} (o : XOk defs gl k c W X) (s : Shared) (H : Hp) (scope : Scope) (C : Addr) (cl : List (Str × Addr)) (fp : List Addr) : XOk defs gl k (blkCc c scope) W0 (X.blk s H scope (compEnvC scope cl C X.env) fp) where
  cal := o.cal
  calK := o.calK
  gls := o.gls
  blt := o.blt
  hN := o.hN
  hsc := by
    show relS scope X.env.scope = relS scope c.sc
    rw [o.hsc]
  hfn := rfl
  calH := o.calH
  xs := o.xs
  xr := o.xr
  ms := o.ms
  mks := o.mks
  mkk := o.mkk
  room := o.room
  hand := o.hand
  calm := o.calm
  tk := takes0
  po := PassesOwn.never
  nd := o.nd
  hdf := o.hdf
end
end Z

set_option Elab.async false
set_option linter.all false
set_option maxRecDepth 100000
set_option maxHeartbeats 4000000
namespace Z
open PySem PySem.Spec PyProof.Rows L2

section
variable {K : PySem.W.Frag} {w : World} {H H' : Hp} {S : Sto}
theorem relds_of : ∀ (ds : List D) (vs : List V), ds.length = vs.length → (∀ (j : Nat) d v, ds[j]? = some d → vs[j]? = some v → RelD K w H d v) → RelDs K w H ds vs
  | [], [], _, _ => relds_nil
  | [], _ :: _, e, _ => by cases e
  | _ :: _, [], e, _ => by cases e
  | d :: ds, v :: vs, e, h => relds_cons (h 0 d v rfl rfl) (relds_of ds vs (by simpa using e) fun j d' v' h1 h2 => h (j + 1) d' v' (by simpa using h1) (by simpa using h2))
theorem ext_up (up : ∀ c o, H c = some o → H' c = some o) : Ext H H' := ⟨fun a xs t => by
  rcases t with t | ⟨o, t⟩
  · exact .inl (up _ _ t)
  · exact .inr ⟨o, up _ _ t⟩, fun a o xs t => up _ _ t, fun a fs t => up _ _ t⟩
theorem HR.up (h : HR K w H S) (up : ∀ c o, H c = some o → H' c = some o) : HR K w H' S := fun a ob q => by
  have r := h a ob q
  refine r.mono (ext_up up) ?_
  cases ob with
  | lst ds => obtain ⟨vs, e1, _⟩ := r; rw [e1, up _ _ e1]
  | dct ds => obtain ⟨vs, e1, _⟩ := r; rw [e1, up _ _ e1]
  | ins C ds => obtain ⟨_, dx, vs, _, e1, _⟩ := r; rw [e1, up _ _ e1]
theorem relds_rev2 {ds : List D} {vs : List V} (r : RelDs K w H ds vs) : RelDs K w H ds.reverse vs.reverse := by
  have hl := r.length
  refine relds_of _ _ (by rw [List.length_reverse, List.length_reverse, hl]) fun j d v h1 h2 => ?_
  have hj : j < ds.length := by
    by_cases h : j < ds.length
    · exact h
    · rw [List.getElem?_eq_none (by rw [List.length_reverse]; omega)] at h1; cases h1
  rw [List.getElem?_reverse hj] at h1
  rw [List.getElem?_reverse (by omega)] at h2
  obtain ⟨v', e1, e2⟩ := r.get h1
  rw [hl] at e1
  rw [e1] at h2
  cases h2
  exact e2
theorem zip_kont {R : D → Sto → Prop} {Q : VK} {xs ys : List D} {vs ws us : List V} {q : Addr} (k : Kont K w H S R Q) (h : HR K w H S) (r1 : RelDs K w H xs vs) (r2 : RelDs K w H ys ws) (n : H q = none) (up : ∀ c o, H c = some o → H' c = some o)
    (e : H' q = some (.lst us)) (hl : us.length = min vs.length ws.length) (hat : ∀ (j : Nat) v, us[j]? = some v → ∃ t x y, v = .ref t ∧ H' t = some (.tup [x, y]) ∧ vs[j]? = some x ∧ ws[j]? = some y)
    (hr : R (.ref q) (updS S q (.lst ((xs.zip ys).map fun z => .tup [z.1, z.2])))) : Q (.ref q) H' := by
  have rl : RelDs K w H' ((xs.zip ys).map fun z => D.tup [z.1, z.2]) us := by
    refine relds_of _ _ (by rw [List.length_map, List.length_zip, hl, r1.length, r2.length]) fun j d v h1 h2 => ?_
    obtain ⟨t, x, y, rfl, a1, a2, a3⟩ := hat j v h2
    rw [List.getElem?_map] at h1
    cases ez : (xs.zip ys)[j]? with
    | none => rw [ez] at h1; cases h1
    | some z =>
      rw [ez] at h1
      cases h1
      obtain ⟨b1, b2⟩ := List.getElem?_zip_eq_some.mp ez
      obtain ⟨v1, c1, c2⟩ := r1.get b1
      obtain ⟨v2, c3, c4⟩ := r2.get b2
      rw [a2] at c1; cases c1
      rw [a3] at c3; cases c3
      simp only [RelD]
      exact ⟨t, [x, y], rfl, SqT.of a1, relds_cons (RelD.mono (ext_up up) _ _ c2) (relds_cons (RelD.mono (ext_up up) _ _ c4) relds_nil)⟩
  refine k _ _ hr _ _ (fun a o e1 e2 => ⟨up a o e1, by rw [updS_ne (ne_of_none e1 n)]; exact e2⟩) (by simp only [RelD]) fun a ob qa => ?_
  by_cases ha : a = q
  · subst ha
    rw [updS_same] at qa
    cases qa
    exact ⟨us, e, rl⟩
  · rw [updS_ne ha] at qa
    exact (h.up up) a ob qa
end
section
variable {defs : Str → Option DefT} {gl : Str → Option D} {k : Nat}
theorem un_neg_ok {X : Cx} : UnR X (unaryOp .USub) (rD1 X.K X.w fun x S R => match x with | .int i => R (.int (-i)) S | _ => False) := by
  intro pins s σ H x v Q I rx hh
  obtain ⟨dx, S, R, r1, h, f, kk⟩ := hh
  split at f
  · simp only [RelD] at r1
    exact un_neg pins s σ H x v Q I rx ⟨_, r1, kk.same f (by simp only [RelD]) h⟩
  · exact f.elim
def trsOf (K : PySem.W.Frag) (w : World) (W : WX) (C : Cw) (ex : EX) : List Str → List T → List (TE × TE)
  | k :: ks, t :: ts => (tC (.str k), tD K w W ex (wpE C ex t)) :: trsOf K w W C ex ks ts
  | _, _ => []
theorem sem_len {f : Str} {d : DefT} {ds : List D} {S : Sto} {R : D → Sto → Prop} {E : Exc → Sto → Prop} (h : sem defs gl k f ds S R E) (e : defs f = some d) : ds.length = d.np := by
  cases k with
  | zero => exact h.elim
  | succ k =>
    simp only [sem, e] at h
    exact h.1
theorem chkKs_all : ∀ {ks : List Str} {kz : List (Option Expr)}, chkKs ks kz = true → kz.all (·.isSome) = true ∧ ks.length = kz.length
  | [], kz, h => by
    simp only [chkKs] at h
    split at h
    · exact ⟨rfl, rfl⟩
    · cases h
  | x :: ks, kz, h => by
    simp only [chkKs] at h
    split at h
    · simp only [Bool.and_eq_true] at h
      obtain ⟨h1, h2⟩ := chkKs_all h.2
      exact ⟨by rw [List.all_cons, h1]; rfl, by rw [List.length_cons, List.length_cons, h2]⟩
    · cases h
theorem relkv_fold {K : PySem.W.Frag} {w : World} {H : Hp} : ∀ {ks : List Str} {ds : List D} {us : List V} {acc : List (Key × D)} {acc2 : List (Key × V)}, RelDs K w H ds us → RelKV K w H acc acc2 →
    RelKV K w H ((ks.zip ds).foldl (fun acc kv => putD acc (.inr kv.1) kv.2) acc) (mergeK acc2 ((ks.zip us).map fun z => (Sum.inr z.1, z.2)))
  | [], ds, us, acc, acc2, r, ra => by simpa [mergeK] using ra
  | x :: ks, [], us, acc, acc2, r, ra => by
    simp only [RelDs] at r
    subst r
    simpa [mergeK] using ra
  | x :: ks, d :: ds, us, acc, acc2, r, ra => by
    simp only [RelDs] at r
    obtain ⟨v, t, rfl, r1, r2⟩ := r
    simp only [List.zip_cons_cons, List.foldl_cons, List.map_cons, mergeK]
    exact relkv_fold r2 (relkv_put _ r1 ra)
theorem pairs_of {K : PySem.W.Frag} {w : World} {W : WX} {C : Cw} {ex : EX} {σd : StD} {σ : L2.St} : ∀ (ks : List Str) (ts : List T) {H : Hp} {S : Sto} {R : List D → Sto → Prop} {Q : List (V × V) → Hp → Prop}, ks.length = ts.length → RelSt K w H σd σ → HR K w H S → ExK K w H S ex W → wpEs C ex ts σd S R →
    (∀ ds S', R ds S' → ∀ us H', Fm H S H' S' → RelDs K w H' ds us → HR K w H' S' → Q ((ks.zip us).map fun z => (V.str z.1, z.2)) H') → tPairs (trsOf K w W C ex ks ts) σ H Q
  | [], [], H, S, R, Q, hl, rs, hr, xk, f, q => by
    simp only [wpEs] at f
    exact q [] S f [] H (Fm.refl _ _) relds_nil hr
  | [], _ :: _, H, S, R, Q, hl, rs, hr, xk, f, q => by simp at hl
  | _ :: _, [], H, S, R, Q, hl, rs, hr, xk, f, q => by simp at hl
  | x :: ks, t :: ts, H, S, R, Q, hl, rs, hr, xk, f, q => by
    simp only [wpEs] at f
    refine ⟨σd, S, _, rs, hr, xk, f, fun d S1 hd v H1 f1 rv h1 => ?_⟩
    refine pairs_of ks ts (by simpa using hl) (rs.mono (f1.ext hr)) h1 (xk.next f1) hd fun ds S2 hds us H2 f2 rus h2 => ?_
    exact q _ S2 hds (v :: us) H2 (f1.trans f2) (relds_cons (RelD.mono (f2.ext h1) _ _ rv) rus) h2
def ifV (e : Expr) : Bool := match e with
  | .UnaryOp _ _ _ => false
  | .BoolOp _ _ _ => false
  | .IfExp _ _ _ _ => false
  | .Compare _ _ _ _ => false
  | _ => true
theorem plain_true {e : Expr} {env : Env} (h : ifV e = true) : ∀ whole, isTrue e env whole = (do let v ← whole; standAt e.pos; holding [v] (truthy v)) := fun wh => by
  cases e <;> first | rfl | (exact absurd (show false = true from h) Bool.false_ne_true)
theorem sE_var {i : Nat} {c : Cc} {W : WX} {ex : EX} {X : Cx} {e : Expr} (o : XOk defs gl k c W X) (h : chkE c (.var i) e = true) : PE X e (tD X.K X.w W ex (wpE (cw defs gl k) ex (.var i))) := by
  simp only [chkE] at h
  split at h
  · simp only [Bool.and_eq_true, decide_eq_true_eq] at h
    obtain ⟨v1, v2, v3⟩ := o.vis_of h.2
    refine (pe_var (by rw [o.hN]; exact h.1) v1 v2 v3).weak fun σ H Q q => ?_
    obtain ⟨σd, S, R, rs, hr, xk, f, kk⟩ := q
    simp only [wpE] at f
    split at f
    · rename_i d ed
      obtain ⟨v, e1, e2⟩ := rs.get ed
      exact ⟨v, e1, kk.same f e2 hr⟩
    · exact f.elim
  · cases h
theorem lookup_rel {K : PySem.W.Frag} {w : World} {H : Hp} {f : Str} {v : D} : ∀ {ns : List Str} {ds : List D} {vs : List V}, RelDs K w H ds vs → (ns.zip ds).lookup f = some v → ∃ u, (ns.zip vs).lookup f = some u ∧ RelD K w H v u
  | [], ds, vs, r, e => by simp at e
  | n :: ns, [], vs, r, e => by simp at e
  | n :: ns, d :: ds, vs, r, e => by
    simp only [RelDs] at r
    obtain ⟨u, us, rfl, r1, r2⟩ := r
    simp only [List.zip_cons_cons, List.lookup_cons] at e ⊢
    split at e
    · cases e; exact ⟨u, rfl, r1⟩
    · exact lookup_rel r2 e
theorem sE_call {f : Str} {ts : List T} {c : Cc} {W : WX} {ex : EX} {X : Cx} {e : Expr} (o : XOk defs gl k c W X) (h : chkE c (.call f ts) e = true) (ih : ∀ {es : List Expr}, chkEs c ts es = true → PA X es (tDA X.K X.w W ex (wpEs (cw defs gl k) ex ts))) : PE X e (tD X.K X.w W ex (wpE (cw defs gl k) ex (.call f ts))) := by
  simp only [chkE] at h
  split at h
  · simp only [Bool.and_eq_true, decide_eq_true_eq] at h
    obtain ⟨⟨⟨⟨⟨rfl, h2⟩, h3⟩, h4⟩, hkw0⟩, h5⟩ := h
    have hkw : kwT f = none := by simpa using hkw0
    obtain ⟨g1, g2, g3⟩ := o.gl_of h2
    obtain ⟨d, ed⟩ := o.hdf f h4
    have PAs := ih h3
    have hp := chkEs_plain h3
    have fin : ∀ {σd : StD} {S S1 : Sto} {R : D → Sto → Prop} {σ : L2.St} {H H1 : Hp} {Q : VK} {ds : List D} {vs : List V}, RelSt X.K X.w H σd σ → HR X.K X.w H S → ExK X.K X.w H S ex W → Kont X.K X.w H S R Q → Fm H S H1 S1 → RelDs X.K X.w H1 ds vs → HR X.K X.w H1 S1 →
        sem defs gl k f ds S1 R (fun x S2 => ex x σd S2) → spD X.K X.w d.np (sem defs gl k f) vs H1 Q (L2.WE W σ) := fun {σd S S1 R σ H H1 Q ds vs} rs hr xk kk f1 rv h1 hs =>
      ⟨ds, S1, R, _, sem_len hs ed, rv, h1, hs, kk.next f1 fun _ _ z => z, fun x S2 hx cls dd H2 f2 rx h2 => xk x σd S2 hx σ H2 cls dd (f1.trans f2) (rs.mono ((f1.trans f2).ext hr)) rx h2⟩
    rename_i es _
    cases hcm : c.calm with
    | false =>
      rw [hcm] at h5
      simp only [Bool.false_or, Bool.and_eq_true] at h5
      obtain ⟨fa, fd, ps, m1, m2, m3, m4, F⟩ := o.calH f d h5.1 ed
      cases es with
      | nil => simp at h5
      | cons e0 es =>
        rw [List.all_cons, Bool.and_eq_true] at hp
        refine (pe_callQ (E := L2.WE W) F o.rmH g1 m1 m2 m3 (fun σ => passAt o.tk σ) PAs g2 (plain_star hp.1) (star_all hp.2)).weak fun σ H Q q => ?_
        obtain ⟨σd, S, R, rs, hr, xk, f', kk⟩ := q
        simp only [wpE] at f'
        exact ⟨σd, S, _, rs, hr, xk, f', fun ds S1 hd vs H1 f1 rv h1 => fin rs hr xk kk f1 rv h1 hd⟩
    | true =>
    obtain ⟨fa, fd, ps, m1, m2, m3, m4, F⟩ := o.cal f d h4 hkw ed
    cases es with
    | nil =>
      have e0 : ts = [] := List.eq_nil_of_length_eq_zero (chkEs_len h3).symm
      subst e0
      refine (pe_callD0 (E := L2.WE W) F (o.rm hcm) g1 m1 m2 m3 (fun σ => passAt o.tk σ) g2).weak fun σ H Q q => ?_
      obtain ⟨σd, S, R, rs, hr, xk, f', kk⟩ := q
      simp only [wpE, wpEs] at f'
      exact fin rs hr xk kk (Fm.refl _ _) relds_nil hr f'
    | cons e0 es =>
      refine (pe_callD (E := L2.WE W) F (o.rm hcm) g1 m1 m2 m3 (fun σ => passAt o.tk σ) hp PAs g2).weak fun σ H Q q => ?_
      obtain ⟨σd, S, R, rs, hr, xk, f', kk⟩ := q
      simp only [wpE] at f'
      exact ⟨σd, S, _, rs, hr, xk, f', fun ds S1 hd vs H1 f1 rv h1 => fin rs hr xk kk f1 rv h1 hd⟩
  · cases h
theorem _root_.L2.PK.weak {X : Cx} {kws : List Keyword} {t t' : TA} (h : PK X kws t) (f : ∀ σ H Q, t' σ H Q → t σ H Q) : PK X kws t' := ⟨fun p pins s σ H Q I q => h.run p pins s σ H Q I (f σ H Q q)⟩
theorem chkKw_names : ∀ {us : List T} {ks : List Str} {kws : List Keyword} {c : Cc}, chkKw c us ks kws = true → kws.map (·.arg) = ks.map some ∧ us.length = ks.length
  | [], ks, kws, c, h => by
    simp only [chkKw, Bool.and_eq_true, List.isEmpty_iff] at h
    rw [h.1, h.2]
    exact ⟨rfl, rfl⟩
  | u :: us, ks, kws, c, h => by
    simp only [chkKw] at h
    split at h
    · simp only [Bool.and_eq_true, decide_eq_true_eq] at h
      obtain ⟨⟨rfl, _⟩, h2⟩ := h
      obtain ⟨g1, g2⟩ := chkKw_names h2
      exact ⟨by rw [List.map_cons, List.map_cons, g1], by rw [List.length_cons, List.length_cons, g2]⟩
    · cases h
theorem sE_callK {f : Str} {ts us : List T} {ks : List Str} {c : Cc} {W : WX} {ex : EX} {X : Cx} {e : Expr} (o : XOk defs gl k c W X) (h : chkE c (.callK f ts ks us) e = true) (ih : ∀ {es : List Expr}, chkEs c ts es = true → PA X es (tDA X.K X.w W ex (wpEs (cw defs gl k) ex ts)))
    (ik : ∀ {kws : List Keyword}, chkKw c us ks kws = true → PK X kws (tDA X.K X.w W ex (wpEs (cw defs gl k) ex us))) : PE X e (tD X.K X.w W ex (wpE (cw defs gl k) ex (.callK f ts ks us))) := by
  simp only [chkE] at h
  split at h
  · simp only [Bool.and_eq_true, decide_eq_true_eq] at h
    obtain ⟨⟨⟨⟨⟨⟨⟨rfl, h2⟩, h3⟩, h4⟩, h5⟩, h6⟩, h7⟩, hca⟩ := h
    obtain ⟨g1, g2, g3⟩ := o.gl_of h2
    obtain ⟨d, ed⟩ := o.hdf f h6
    have PAs := ih h3
    have PKs := ik h5
    have hp := chkEs_plain h3
    obtain ⟨hnm, hul⟩ := chkKw_names h5
    obtain ⟨fa, fd, ps, m1, m2, m3, m4, F⟩ := o.calK f d ts.length ks h6 h7 ed
    rename_i es kws _
    cases es with
    | nil => simp at h4
    | cons e0 es =>
      refine (pe_callKG (E := L2.WE W) F (o.rm hca) g1 m1 m2 m3 (fun σ => passAt o.tk σ) PAs PKs hnm g2 hp).weak fun σ H Q q => ?_
      obtain ⟨σd, S, R, rs, hr, xk, f', kk⟩ := q
      simp only [wpE] at f'
      refine ⟨σd, S, _, rs, hr, xk, f', fun ds S1 hd vs H1 f1 rv h1 => ?_⟩
      refine ⟨σd, S1, _, rs.mono (f1.ext hr), h1, xk.next f1, hd.2, fun es2 S2 hd2 zs H2 f2 rz h2 => ⟨by rw [← rv.length]; exact hd.1, by rw [← rz.length, hd2.1, hul], ?_⟩⟩
      have rv2 := RelDs.mono (f2.ext h1) _ _ rv
      exact ⟨ds ++ es2, S2, R, _, sem_len hd2.2 ed, rv2.append rz, h2, hd2.2, kk.next (f1.trans f2) fun _ _ z => z, fun x S3 hx cls dd H3 f3 rx h3 => xk x σd S3 hx σ H3 cls dd ((f1.trans f2).trans f3) (rs.mono (((f1.trans f2).trans f3).ext hr)) rx h3⟩
  · cases h
theorem sE_sub {a i : T} {c : Cc} {W : WX} {ex : EX} {X : Cx} {e : Expr} (o : XOk defs gl k c W X) (h : chkE c (.sub a i) e = true) (ih1 : ∀ {x : Expr}, chkE c a x = true → PE X x (tD X.K X.w W ex (wpE (cw defs gl k) ex a)))
    (ih2 : ∀ {x : Expr}, chkE c i x = true → PE X x (tD X.K X.w W ex (wpE (cw defs gl k) ex i))) : PE X e (tD X.K X.w W ex (wpE (cw defs gl k) ex (.sub a i))) := by
  simp only [chkE] at h
  split at h
  · simp only [Bool.and_eq_true] at h
    obtain ⟨⟨h1, h2⟩, h3⟩ := h
    exact (pe_ix (sub_ok o.hu1) (ih1 h1) (ih2 h2) (plain_ix h3)).weak fun σ H Q q => tD_op (by simpa only [wpE] using q)
  · cases h
theorem sE_blt {b : Bi} {ts : List T} {c : Cc} {W : WX} {ex : EX} {X : Cx} {e : Expr} (o : XOk defs gl k c W X) (h : chkE c (.blt b ts) e = true) (ih : ∀ {es : List Expr}, chkEs c ts es = true → PA X es (tDA X.K X.w W ex (wpEs (cw defs gl k) ex ts))) : PE X e (tD X.K X.w W ex (wpE (cw defs gl k) ex (.blt b ts))) := by
  simp only [chkE] at h
  split at h
  · rename_i g _ es _
    simp only [Bool.and_eq_true, Bool.or_eq_true, decide_eq_true_eq] at h
    obtain ⟨⟨⟨⟨h1, h2⟩, h3⟩, h4⟩, hca⟩ := h
    obtain ⟨g1, g2, g3⟩ := o.gl_of h2
    have hp := chkEs_plain h3
    have PAs := ih h3
    cases es with
    | nil => simp at h4
    | cons e0 es =>
      rw [List.all_cons, Bool.and_eq_true] at hp
      rcases h1 with h1 | h1
      · cases en : b.fn with
        | none => rw [en] at h1; cases h1
        | some n =>
          rw [en] at h1
          cases h1
          obtain ⟨b1, b2⟩ := bfn_boot en
          exact (pe_callB (bfn_ok (o.calm hca) o.room.gd o.hu b en) g1 (o.blt n b2) b1 PAs g3 g2 (plain_star hp.1) (star_all hp.2)).weak fun σ H Q q => tD_cb (by simpa only [wpE] using q)
      · cases en : b.tyn with
        | none => rw [en] at h1; cases h1
        | some n =>
          rw [en] at h1
          cases h1
          obtain ⟨b1, b2⟩ := bty_boot en
          exact (pe_callTy (bty_ok b en) g1 (o.blt n b2) b1 PAs g3 g2 (plain_star hp.1) (star_all hp.2)).weak fun σ H Q q => tD_cb (by simpa only [wpE] using q)
  · cases h
theorem relf_lookup {K : PySem.W.Frag} {w : World} {H : Hp} {f : Str} {v : D} : ∀ {fs : List (Str × D)} {fv : List (Str × V)}, RelF K w H fs fv → fs.lookup f = some v → ∃ u, fv.lookup f = some u ∧ RelD K w H v u
  | [], fv, r, e => by simp at e
  | (g, d) :: fs, fv, r, e => by
    simp only [RelF] at r
    obtain ⟨u, us, rfl, r1, r2⟩ := r
    simp only [List.lookup_cons] at e ⊢
    split at e
    · cases e; exact ⟨u, rfl, r1⟩
    · exact relf_lookup r2 e
theorem relf_none {K : PySem.W.Frag} {w : World} {H : Hp} {f : Str} : ∀ {fs : List (Str × D)} {fv : List (Str × V)}, RelF K w H fs fv → fs.lookup f = none → fv.lookup f = none
  | [], fv, r, e => by simp only [RelF] at r; subst r; rfl
  | (g, d) :: fs, fv, r, e => by
    simp only [RelF] at r
    obtain ⟨u, us, rfl, r1, r2⟩ := r
    simp only [List.lookup_cons] at e ⊢
    split at e
    · cases e
    · exact relf_none r2 e
theorem tDA_nil {K : PySem.W.Frag} {w : World} {W : WX} {C : Cw} {ex : EX} {σ : L2.St} {H : Hp} {Q : List V → Hp → Prop} (h : tDA K w W ex (wpEs C ex []) σ H Q) : Q [] H := by
  obtain ⟨σd, S, R, rs, hr, xk, f, kk⟩ := h
  simp only [wpEs] at f
  exact kk [] S f [] H (Fm.refl _ _) relds_nil hr
theorem HR.made {K : PySem.W.Frag} {w : World} {H : Hp} {S : Sto} {x dx : Addr} {C : Addr} {cn : Str} (h : HR K w H S) (n1 : H x = none) (n2 : H dx = none) (n3 : dx ≠ x) (cf : ClsF K cn C) : HR K w (upd (upd H dx (.own x)) x (.ins C dx [])) (updS S x (.ins cn [])) := by
  have h1 : HR K w (upd H dx (.own x)) S := h.free n2
  have n1' : upd H dx (.own x) x = none := by rw [upd_ne (Ne.symm n3)]; exact n1
  exact h1.new n1' ⟨C, dx, [], cf, upd_same, by simp only [RelF]⟩
theorem Fm.made {H : Hp} {S : Sto} {x dx : Addr} {C : Addr} {cn : Str} (n1 : H x = none) (n2 : H dx = none) (n3 : dx ≠ x) : Fm H S (upd (upd H dx (.own x)) x (.ins C dx [])) (updS S x (.ins cn [])) := fun a u e q =>
  ⟨by rw [upd_ne (ne_of_none e n1), upd_ne (ne_of_none e n2)]; exact e, by rw [updS_ne (ne_of_none e n1)]; exact q⟩
theorem sE_new {q cn : Str} {ts : List T} {c : Cc} {W : WX} {ex : EX} {X : Cx} {e : Expr} (o : XOk defs gl k c W X) (h : chkE c (.new q cn ts) e = true) (ih : ∀ {es : List Expr}, chkEs c ts es = true → PA X es (tDA X.K X.w W ex (wpEs (cw defs gl k) ex ts))) : PE X e (tD X.K X.w W ex (wpE (cw defs gl k) ex (.new q cn ts))) := by
  simp only [chkE] at h
  split at h
  · rename_i g p0 es p1
    simp only [Bool.and_eq_true, decide_eq_true_eq] at h
    obtain ⟨⟨⟨⟨h1, h2⟩, h3⟩, h4⟩, hca⟩ := h
    subst h1
    obtain ⟨g1, g2, g3⟩ := o.gl_of h2
    obtain ⟨d, C, f, fd, ps, dz, dvs, ed, cf, m1, mk, bd, vd, rp, np, F⟩ := o.mks _ _ _ h4
    have hp := chkEs_plain h3
    have hl3 := chkEs_len h3
    refine (pe_makeD (E := L2.WE W) mk F (o.rm1 hca) g1 m1 bd vd (fun σ => passAt o.tk σ) (ih h3) hp g2 (fun z σ H Q qq => ?_)).weak fun σ H Q qq => ?_
    · subst z
      have : ts = [] := List.eq_nil_of_length_eq_zero hl3.symm
      subst this
      exact tDA_nil qq
    obtain ⟨σd, S, R, rs, hr, xk, f', kk⟩ := qq
    simp only [wpE] at f'
    refine ⟨σd, S, _, rs, hr, xk, f', fun ds S1 hd vs H1 f1 rv h1 x dx n1 n2 n3 => ?_⟩
    have hs := hd x (h1.fresh n1)
    have hm := h1.made n1 n2 n3 cf
    have fm := Fm.made (S := S1) (C := C) (cn := g) n1 n2 n3
    have ext := fm.ext h1
    refine ⟨_, _, _, _, sem_len hs ed, ?_, hm, hs, fun v S2 hv u H2 f2 ru h2 => ?_, fun xx S2 hx cls dd H2 f2 rx h2 => ?_⟩
    · simp only [RelDs]
      exact ⟨_, _, rfl, by simp only [RelD], RelDs.append (RelDs.mono ext _ _ rv) (rp _)⟩
    · obtain ⟨rfl, hv⟩ := hv
      simp only [RelD] at ru
      exact ⟨ru, kk _ S2 hv _ H2 ((f1.trans fm).trans f2) (by simp only [RelD]) h2⟩
    · exact xk xx σd S2 hx σ H2 cls dd ((f1.trans fm).trans f2) (rs.mono (((f1.trans fm).trans f2).ext hr)) rx h2
  · cases h
theorem sE_meth {q cn m : Str} {a : T} {ts : List T} {c : Cc} {W : WX} {ex : EX} {X : Cx} {e : Expr} (o : XOk defs gl k c W X) (h : chkE c (.meth q cn m a ts) e = true) (ia : ∀ {x : Expr}, chkE c a x = true → PE X x (tD X.K X.w W ex (wpE (cw defs gl k) ex a))) (ih : ∀ {es : List Expr}, chkEs c ts es = true → PA X es (tDA X.K X.w W ex (wpEs (cw defs gl k) ex ts))) : PE X e (tD X.K X.w W ex (wpE (cw defs gl k) ex (.meth q cn m a ts))) := by
  simp only [chkE] at h
  split at h
  · simp only [Bool.and_eq_true, decide_eq_true_eq] at h
    obtain ⟨⟨⟨⟨⟨⟨⟨h1, h2⟩, h3⟩, h4⟩, h5⟩, h6⟩, h7⟩, hca⟩ := h
    subst h1
    have hp := chkEs_plain h3
    have hl3 := chkEs_len h3
    obtain ⟨d, C, f, fd, ps, ed, cf, mt, bd, np, F⟩ := o.ms _ _ _ h7
    refine (pe_methD (E := L2.WE W) (ia h2) cf.cl mt F (o.rm hca) bd (fun σ => passAt o.tk σ) (ih h3) hp (nocall_base (by simpa using h4)) h6 h5 (fun z σ H Q qq => ?_)).weak fun σ H Q qq => ?_
    · subst z
      have : ts = [] := List.eq_nil_of_length_eq_zero hl3.symm
      subst this
      exact tDA_nil qq
    obtain ⟨σd, S, R, rs, hr, xk, f', kk⟩ := qq
    simp only [wpE] at f'
    refine ⟨σd, S, _, rs, hr, xk, f', fun x S1 hx v1 H1 f1 rv1 h1 => ?_⟩
    obtain ⟨ho, hx⟩ := hx
    unfold okSelf at ho
    split at ho
    · rename_i p
      split at ho
      · rename_i c' fs es
        simp only [Bool.and_eq_true, decide_eq_true_eq] at ho
        obtain ⟨rfl, hn⟩ := ho
        simp only [RelD] at rv1
        obtain ⟨C', dx, fv, cf', e1, r1⟩ := h1 p _ es
        have eC : C' = C := by
          have := cf'.ns.symm.trans cf.ns
          simpa using this
        subst eC
        refine ⟨p, dx, fv, rv1, e1, relf_none r1 (by simpa using hn), σd, S1, _, rs.mono (f1.ext hr), h1, xk.next f1, hx, fun ds S2 hd vs H2 f2 rv2 h2 => ?_⟩
        refine ⟨_, S2, R, _, sem_len hd ed, ?_, h2, hd, kk.next (f1.trans f2) fun _ _ z => z, fun xx S3 hxx cls dd H3 f3 rx h3 => xk xx σd S3 hxx σ H3 cls dd ((f1.trans f2).trans f3) (rs.mono (((f1.trans f2).trans f3).ext hr)) rx h3⟩
        simp only [RelDs]
        exact ⟨_, _, rfl, by simp only [RelD], rv2⟩
      · cases ho
    · cases ho
  · cases h
theorem HR.inst {K : PySem.W.Frag} {w : World} {H : Hp} {S : Sto} {cn : Str} {C : Addr} (h : HR K w H S) (cf : ClsF K cn C) {z : D} {v : V} (hz : isIns cn S z = true) (rz : RelD K w H z v) : ∃ p dx fv, v = .ref p ∧ z = .ref p ∧ H p = some (.ins C dx fv) := by
  unfold isIns at hz
  split at hz
  · rename_i p
    split at hz
    · rename_i c' fs es
      simp only [decide_eq_true_eq] at hz
      subst hz
      simp only [RelD] at rz
      obtain ⟨C', dx, fv, cf', e1, r1⟩ := h p _ es
      have eC : C' = C := by
        have := cf'.ns.symm.trans cf.ns
        simpa using this
      subst eC
      exact ⟨p, dx, fv, rz, rfl, e1⟩
    · cases hz
  · cases hz
theorem HR.bt {K : PySem.W.Frag} {w : World} {H : Hp} {S : Sto} (h : HR K w H S) {z : D} {v : V} (hz : btOk S z = true) (rz : RelD K w H z v) : ∃ T, TyX K H v (.type T) ∧ T ∈ btys := by
  unfold btOk at hz
  split at hz
  · rename_i t e
    exact ⟨t, h.ty rz e, by simpa using hz⟩
  · cases hz
theorem sE_isc {a : T} {m : Str} {c : Cc} {W : WX} {ex : EX} {X : Cx} {e : Expr} (o : XOk defs gl k c W X) (h : chkE c (.isc a m) e = true) (ia : ∀ {x : Expr}, chkE c a x = true → PE X x (tD X.K X.w W ex (wpE (cw defs gl k) ex a))) : PE X e (tD X.K X.w W ex (wpE (cw defs gl k) ex (.isc a m))) := by
  simp only [chkE] at h
  split at h
  · simp only [Bool.and_eq_true, decide_eq_true_eq] at h
    obtain ⟨⟨⟨⟨⟨⟨h1, h2⟩, h3⟩, h4⟩, h5⟩, h6⟩, h7⟩ := h
    subst h1 h2
    obtain ⟨g1, g2, g3⟩ := o.gl_of h3
    obtain ⟨k1, k2, k3⟩ := o.gl_of h4
    obtain ⟨p, hp, e2⟩ := List.any_eq_true.mp h7
    obtain ⟨pq, pc, pn⟩ := p
    simp only [decide_eq_true_eq] at e2
    subst e2
    obtain ⟨d, C, f, fd, ps, dz, dvs, ed, cf, mc, _⟩ := o.mks pq _ pn (by simpa using hp)
    refine (pe_callB call_isi g1 (o.blt "isinstance" (by decide)) (bfn_boot (b := .isinst) rfl).1 (pa_cons (ia h5) (pa_cons (pe_glob (v := .ref C) k1 mc rfl k2) pa_nil) (plain_star h6)) g3 g2 (plain_star h6) rfl).weak fun σ H Q qq => ?_
    obtain ⟨σd, S, R, rs, hr, xk, f', kk⟩ := qq
    simp only [wpE] at f'
    refine ⟨σd, S, _, rs, hr, xk, f', fun x S1 hx v1 H1 f1 rv1 h1 => ?_⟩
    rcases hx with ⟨ho, hx⟩ | ⟨ho, hx⟩
    · obtain ⟨p, dx, fv, rfl, rfl, e1⟩ := h1.inst cf ho rv1
      exact ⟨.ref p, .ref C, .ref C, .ref C, true, rfl, .own C, .base (.ins e1 cf.cl cf.ha cf.hn cf.htk cf.hm), cf.me, (kk.next f1 fun _ _ z => z).same hx (by simp only [RelD]) h1⟩
    · obtain ⟨T, ty, hT⟩ := h1.bt ho rv1
      exact ⟨v1, .ref C, .type T, .ref C, false, rfl, .own C, ty, kit_not cf hT, (kk.next f1 fun _ _ z => z).same hx (by simp only [RelD]) h1⟩
  · cases h
theorem own_ok {q cn : Str} {c : Cc} {W : WX} {X : Cx} (op : CmpOp) (o : XOk defs gl k c W X) (h7 : c.ms.contains (q, cn, "__eq__") = true) (hca : c.calm = true) : OpR X (compareOp op) (rD2 X.K X.w (wOwn (sem defs gl k) q cn op)) := by
  obtain ⟨d, C, f, fd, ps, ed, cf, mt, bd, np, F⟩ := o.ms _ _ _ h7
  intro pins s σ H x y v u Q I r1 r2 hh
  obtain ⟨dx, dy, S, R, rx, ry, h, fo, kk⟩ := hh
  have prom : ∀ {S1 : Sto} {H1 : Hp} {da db : D} {va vb : V} {P : D → Sto → Prop} {G : Bool → Hp → Prop}, HR X.K X.w H1 S1 → RelD X.K X.w H1 da va → RelD X.K X.w H1 db vb → sem defs gl k q [da, db] S1 (fun d S' => ∃ b, d = .bl b ∧ P (.bl b) S') (fun _ _ => False) →
      (∀ b S2 H2, P (.bl b) S2 → Fm H1 S1 H2 S2 → HR X.K X.w H2 S2 → G b H2) → spD X.K X.w d.np (sem defs gl k q) [va, vb] H1 (fun v H3 => ∃ b, v = .bl b ∧ G b H3) fun _ _ _ => False := by
    intro S1 H1 da db va vb P G h1 ra rb hs hG
    refine ⟨_, S1, _, _, sem_len hs ed, relds_cons ra (relds_cons rb relds_nil), h1, hs, fun d S2 hd v H2 f2 rv h2 => ?_, fun _ _ z => z.elim⟩
    obtain ⟨b, rfl, hP⟩ := hd
    exact ⟨b, by simpa only [RelD] using rv, hG b S2 H2 hP f2 h2⟩
  unfold wOwn at fo
  split at fo
  · obtain ⟨h1, h2, h3⟩ := fo
    obtain ⟨p, dxx, fv, rfl, rfl, e1⟩ := h.inst cf h1 rx
    refine op_eqO cf mt.at_ mt.fn F (o.rm1 hca) bd pins s σ H _ _ v u Q I r1 r2 ⟨p, dxx, fv, rfl, e1, ?_, prom h rx ry h3 fun b S2 H2 hP f2 h2 => kk _ S2 hP _ H2 f2 (by simp only [RelD, Bool.false_eq_true, if_false]) h2⟩
    rcases h2 with h2 | h2
    · obtain ⟨p', dy', fv', e2, _, e3⟩ := h.inst cf h2 ry
      exact .inl ⟨p', dy', fv', e2, e3⟩
    · exact .inr ⟨rfl, h.bt h2 ry⟩
  · obtain ⟨h1, h2, h3⟩ := fo
    obtain ⟨p, dxx, fv, rfl, rfl, e1⟩ := h.inst cf h1 rx
    obtain ⟨p', dy', fv', e2, _, e3⟩ := h.inst cf h2 ry
    exact op_neO cf mt.at_ mt.fn F (o.rm1 hca) bd pins s σ H _ _ v u Q I r1 r2 ⟨p, dxx, fv, rfl, e1, .inl ⟨p', dy', fv', e2, e3⟩, prom (P := fun d S' => ∃ b, d = .bl b ∧ R (.bl (!b)) S') h rx ry (by simpa using h3) fun b S2 H2 hP f2 h2 => by
      obtain ⟨b', eb, hP⟩ := hP
      cases eb
      exact kk _ S2 hP _ H2 f2 (by simp only [RelD, if_true]) h2⟩
  · split at fo
    · rename_i l
      split at fo
      · rename_i ys el
        simp only [RelD] at ry
        subst ry
        have hx0 : isIns cn S dx = true := by
          cases ys with
          | nil => exact fo.2.1
          | cons _ _ => exact fo.2.1
        obtain ⟨p, dxx, fv, rfl, rfl, e1⟩ := h.inst cf hx0 rx
        refine op_inO cf mt.at_ mt.fn F (o.rm1 hca) bd pins s σ H _ _ v u Q I r1 r2 ⟨p, l, ys.length, fun i H1 => ∃ S1, HR X.K X.w H1 S1 ∧ Fm H S H1 S1 ∧ inOL (sem defs gl k) q cn (.ref p) l ys R (ys.drop i) S1, rfl, rfl, ⟨S, h, Fm.refl _ _, by simpa using fo⟩, fun i H1 ⟨S1, h1, f1, ft⟩ => ?_, fun H1 ⟨S1, h1, f1, ft⟩ => ?_⟩
        · have hx1 : isIns cn S1 (.ref p) = true := by
            cases hd : ys.drop i with
            | nil => rw [hd] at ft; exact ft.2.1
            | cons _ _ => rw [hd] at ft; exact ft.2.1
          obtain ⟨p', dx1, fv1, ep, _, ei⟩ := h1.inst (v := .ref p) cf hx1 (by simp only [RelD])
          cases ep
          have el1 : S1 l = some (.lst ys) := by
            cases hd : ys.drop i with
            | nil => rw [hd] at ft; exact ft.1
            | cons _ _ => rw [hd] at ft; exact ft.1
          obtain ⟨us, e1, ru1⟩ := h1 l _ el1
          refine ⟨us, e1, ru1.length.symm, ⟨dx1, fv1, ei⟩, fun y ey => ?_⟩
          have hi : i < ys.length := by
            rw [ru1.length]
            exact (List.getElem?_eq_some_iff.mp ey).1
          rw [List.drop_eq_getElem_cons hi] at ft
          obtain ⟨v', ev, rv⟩ := ru1.get (List.getElem?_eq_getElem hi)
          rw [ey] at ev
          cases ev
          generalize ys[i] = yd at ft rv
          obtain ⟨_, _, ft⟩ := ft
          have nxt : ∀ {b : Bool} {S2 : Sto} {H2 : Hp}, (if b = true then R (.bl true) S2 else inOL (sem defs gl k) q cn (.ref p) l ys R (ys.drop (i + 1)) S2) → Fm H1 S1 H2 S2 → HR X.K X.w H2 S2 →
              if b = true then Q (.bl true) H2 else ∃ S1, HR X.K X.w H2 S1 ∧ Fm H S H2 S1 ∧ inOL (sem defs gl k) q cn (.ref p) l ys R (ys.drop (i + 1)) S1 := by
            intro b S2 H2 hP f2 h2
            cases b with
            | true =>
              simp only [if_true] at hP ⊢
              exact kk _ S2 hP _ H2 (f1.trans f2) (by simp only [RelD]) h2
            | false =>
              simp only [Bool.false_eq_true, if_false] at hP ⊢
              exact ⟨S2, h2, f1.trans f2, hP⟩
          rcases ft with ⟨rfl, hR⟩ | ⟨ne, hy, hs⟩ | ⟨⟨t, et, ht⟩, hs⟩
          · simp only [RelD] at rv
            subst rv
            exact .inl ⟨rfl, kk _ S1 hR _ H1 f1 (by simp only [RelD]) h1⟩
          · obtain ⟨p2, dy, gs, e2, e3, e4⟩ := h1.inst cf hy rv
            subst e2 e3
            exact .inr (.inl ⟨p2, dy, gs, rfl, fun z => ne (by rw [z]), e4, prom (P := fun d S' => ∃ b, d = .bl b ∧ if b = true then R (.bl true) S' else inOL (sem defs gl k) q cn (.ref p) l ys R (ys.drop (i + 1)) S') (da := .ref p2) (db := .ref p) (va := .ref p2) (vb := .ref p) h1 (by simp only [RelD]) (by simp only [RelD]) (by simpa using hs) fun b S2 H2 ⟨b', eb, hP⟩ f2 h2 => by
              cases eb
              exact nxt hP f2 h2⟩)
          · exact .inr (.inr ⟨t, h1.ty rv et, ht, prom (P := fun d S' => ∃ b, d = .bl b ∧ if b = true then R (.bl true) S' else inOL (sem defs gl k) q cn (.ref p) l ys R (ys.drop (i + 1)) S') (da := .ref p) (va := .ref p) h1 (by simp only [RelD]) rv (by simpa using hs) fun b S2 H2 ⟨b', eb, hP⟩ f2 h2 => by
              cases eb
              exact nxt hP f2 h2⟩)
        · rw [List.drop_length] at ft
          exact kk _ S1 ft.2.2 _ H1 f1 (by simp only [RelD]) h1
      · exact fo.elim
    · exact fo.elim
  · exact fo.elim
theorem sE_cmpo {op : CmpOp} {q cn : Str} {a b : T} {c : Cc} {W : WX} {ex : EX} {X : Cx} {e : Expr} (o : XOk defs gl k c W X) (h : chkE c (.cmpo op q cn a b) e = true) (ia : ∀ {x : Expr}, chkE c a x = true → PE X x (tD X.K X.w W ex (wpE (cw defs gl k) ex a))) (ib : ∀ {x : Expr}, chkE c b x = true → PE X x (tD X.K X.w W ex (wpE (cw defs gl k) ex b))) : PE X e (tD X.K X.w W ex (wpE (cw defs gl k) ex (.cmpo op q cn a b))) := by
  simp only [chkE] at h
  split at h
  · simp only [Bool.and_eq_true, decide_eq_true_eq] at h
    obtain ⟨⟨⟨⟨⟨rfl, h2⟩, h3⟩, h4⟩, h5⟩, h6⟩ := h
    exact (pe_cmpR (own_ok op o h5 h6) (ia h2) (ib h3) (plain_mark h4)).weak fun σ H Q q => tD_op (by simpa only [wpE] using q)
  · cases h
theorem sE_eqo {q cn : Str} {a b : T} {c : Cc} {W : WX} {ex : EX} {X : Cx} {e : Expr} (o : XOk defs gl k c W X) (h : chkE c (.eqo q cn a b) e = true) (ia : ∀ {x : Expr}, chkE c a x = true → PE X x (tD X.K X.w W ex (wpE (cw defs gl k) ex a))) (ib : ∀ {x : Expr}, chkE c b x = true → PE X x (tD X.K X.w W ex (wpE (cw defs gl k) ex b))) : PE X e (tD X.K X.w W ex (wpE (cw defs gl k) ex (.eqo q cn a b))) := by
  simp only [chkE] at h
  split at h
  · simp only [Bool.and_eq_true, decide_eq_true_eq] at h
    obtain ⟨⟨⟨⟨h2, h3⟩, h4⟩, h7⟩, hca⟩ := h
    obtain ⟨d, C, f, fd, ps, ed, cf, mt, bd, np, F⟩ := o.ms _ _ _ h7
    refine (pe_eqO (E := L2.WE W) (ia h2) (ib h3) mt.at_ mt.fn F (o.rm hca) bd (fun σ => passAt o.tk σ) (plain_mark h4)).weak fun σ H Q qq => ?_
    obtain ⟨σd, S, R, rs, hr, xk, f', kk⟩ := qq
    simp only [wpE] at f'
    refine ⟨σd, S, _, rs, hr, xk, f', fun x S1 hx v1 H1 f1 rv1 h1 => ?_⟩
    refine ⟨σd, S1, _, rs.mono (f1.ext hr), h1, xk.next f1, hx, fun y S2 hy v2 H2 f2 rv2 h2 => ?_⟩
    obtain ⟨ho, ho', hy⟩ := hy
    have inst : ∀ {z : D} {v : V}, isIns cn S2 z = true → RelD X.K X.w H2 z v → ∃ p dx fv, v = .ref p ∧ z = .ref p ∧ H2 p = some (.ins C dx fv) := fun {z v} hz rz => by
      unfold isIns at hz
      split at hz
      · rename_i p
        split at hz
        · rename_i c' fs es
          simp only [decide_eq_true_eq] at hz
          subst hz
          simp only [RelD] at rz
          obtain ⟨C', dx, fv, cf', e1, r1⟩ := h2 p _ es
          have eC : C' = C := by
            have := cf'.ns.symm.trans cf.ns
            simpa using this
          subst eC
          exact ⟨p, dx, fv, rz, rfl, e1⟩
        · cases hz
      · cases hz
    obtain ⟨p, dx, fv, rfl, rfl, e1⟩ := inst ho (rv1.mono (f2.ext h1))
    obtain ⟨p', dx', fv', rfl, rfl, e2⟩ := inst ho' rv2
    refine ⟨p, p', dx, dx', fv, fv', rfl, rfl, e1, e2, ?_⟩
    refine ⟨_, S2, _, _, sem_len hy ed, ?_, h2, hy, fun d S3 hd v H3 f3 rv3 h3 => ?_, fun xx S3 hxx cls dd H3 f3 rx h3 => xk xx σd S3 hxx σ H3 cls dd ((f1.trans f2).trans f3) (rs.mono (((f1.trans f2).trans f3).ext hr)) rx h3⟩
    · simp only [RelDs, RelD]
      exact ⟨_, _, rfl, rfl, _, _, rfl, rfl, rfl⟩
    · obtain ⟨kb, rfl, hR⟩ := hd
      have : v = .bl kb := by simpa only [RelD] using rv3
      exact ⟨kb, this, (kk.next ((f1.trans f2).trans f3) fun _ _ z => z).same hR rv3 h3⟩
  · cases h
theorem sE_lno {q cn : Str} {a : T} {c : Cc} {W : WX} {ex : EX} {X : Cx} {e : Expr} (o : XOk defs gl k c W X) (h : chkE c (.lno q cn a) e = true) (ia : ∀ {x : Expr}, chkE c a x = true → PE X x (tD X.K X.w W ex (wpE (cw defs gl k) ex a))) : PE X e (tD X.K X.w W ex (wpE (cw defs gl k) ex (.lno q cn a))) := by
  simp only [chkE] at h
  split at h
  · simp only [Bool.and_eq_true, decide_eq_true_eq] at h
    obtain ⟨⟨⟨⟨⟨rfl, h2⟩, h3⟩, h4⟩, h5⟩, hca⟩ := h
    obtain ⟨g1, g2, g3⟩ := o.gl_of h2
    obtain ⟨d, C, f, fd, ps, ed, cf, mt, bd, np, F⟩ := o.ms _ _ _ h5
    refine (pe_callB (call_lenO mt.at_ mt.fn F (o.rm1 hca) bd) g1 (o.blt "len" (by decide)) (bfn_boot (b := .len) rfl).1 (pa_cons (ia h3) pa_nil (plain_star h4)) g3 g2 (plain_star h4) rfl).weak fun σ H Q qq => ?_
    obtain ⟨σd, S, R, rs, hr, xk, f', kk⟩ := qq
    simp only [wpE] at f'
    refine ⟨σd, S, _, rs, hr, xk, f', fun x S1 hx v1 H1 f1 rv1 h1 => ?_⟩
    obtain ⟨ho, hx⟩ := hx
    unfold isIns at ho
    split at ho
    · rename_i p
      split at ho
      · rename_i c' fs es
        simp only [decide_eq_true_eq] at ho
        subst ho
        simp only [RelD] at rv1
        obtain ⟨C', dx, fv, cf', e1, r1⟩ := h1 p _ es
        have eC : C' = C := by
          have := cf'.ns.symm.trans cf.ns
          simpa using this
        subst eC
        subst rv1
        refine ⟨p, dx, fv, rfl, e1, ?_⟩
        refine ⟨_, S1, _, _, sem_len hx ed, ?_, h1, hx, fun d S3 hd v H3 f3 rv3 h3 => ?_, fun xx S3 hxx => hxx.elim⟩
        · simp only [RelDs, RelD]
          exact ⟨_, _, rfl, rfl, rfl⟩
        · obtain ⟨n, rfl, hn, hR⟩ := hd
          have : v = .int n := by simpa only [RelD] using rv3
          exact ⟨n, this, hn, (kk.next (f1.trans f3) fun _ _ z => z).same hR (by simp only [RelD]) h3⟩
      · cases ho
    · cases ho
  · cases h
theorem sE_rpo {q cn : Str} {a : T} {c : Cc} {W : WX} {ex : EX} {X : Cx} {e : Expr} (o : XOk defs gl k c W X) (h : chkE c (.rpo q cn a) e = true) (ia : ∀ {x : Expr}, chkE c a x = true → PE X x (tD X.K X.w W ex (wpE (cw defs gl k) ex a))) : PE X e (tD X.K X.w W ex (wpE (cw defs gl k) ex (.rpo q cn a))) := by
  simp only [chkE] at h
  split at h
  · simp only [Bool.and_eq_true, decide_eq_true_eq] at h
    obtain ⟨⟨⟨⟨⟨rfl, h2⟩, h3⟩, h4⟩, h5⟩, hca⟩ := h
    obtain ⟨g1, g2, g3⟩ := o.gl_of h2
    obtain ⟨d, C, f, fd, ps, ed, cf, mt, bd, np, F⟩ := o.ms _ _ _ h5
    refine (pe_callB (call_reprO mt.at_ mt.fn F (o.rm1 hca) bd) g1 (o.blt "repr" (by decide)) (bfn_boot (b := .repr) rfl).1 (pa_cons (ia h3) pa_nil (plain_star h4)) g3 g2 (plain_star h4) rfl).weak fun σ H Q qq => ?_
    obtain ⟨σd, S, R, rs, hr, xk, f', kk⟩ := qq
    simp only [wpE] at f'
    refine ⟨σd, S, _, rs, hr, xk, f', fun x S1 hx v1 H1 f1 rv1 h1 => ?_⟩
    obtain ⟨ho, hx⟩ := hx
    unfold isIns at ho
    split at ho
    · rename_i p
      split at ho
      · rename_i c' fs es
        simp only [decide_eq_true_eq] at ho
        subst ho
        simp only [RelD] at rv1
        obtain ⟨C', dx, fv, cf', e1, r1⟩ := h1 p _ es
        have eC : C' = C := by
          have := cf'.ns.symm.trans cf.ns
          simpa using this
        subst eC
        subst rv1
        refine ⟨p, dx, fv, rfl, e1, ?_⟩
        refine ⟨_, S1, _, _, sem_len hx ed, ?_, h1, hx, fun d S3 hd v H3 f3 rv3 h3 => ?_, fun xx S3 hxx => hxx.elim⟩
        · simp only [RelDs, RelD]
          exact ⟨_, _, rfl, rfl, rfl⟩
        · obtain ⟨z, rfl, hR⟩ := hd
          have : v = .str z := by simpa only [RelD] using rv3
          exact ⟨z, this, (kk.next (f1.trans f3) fun _ _ z => z).same hR (by simp only [RelD]) h3⟩
      · cases ho
    · cases ho
  · cases h
theorem okI_int {d : D} (h : okI d) : ∃ i : Int, d = .int i ∧ i.natAbs.log2 < 1920 := by
  unfold okI at h
  split at h
  · exact ⟨_, rfl, h⟩
  · cases h
theorem txt_len {i : Int} (h : i.natAbs.log2 < 1920) : (Str.ofString (toString i)).length ≤ 1921 := by
  have := int_text_length_le (k := 1920) (by decide) h
  rw [PySem.ofString_length]
  exact this
theorem app_lenZ {a b : Str} : (a ++ b).length = a.length + b.length := by
  show (a.cps ++ b.cps).size = a.cps.size + b.cps.size
  rw [Array.size_append]
theorem sE_fs2 {x0 y0 z0 : Str} {a b : T} {c : Cc} {W : WX} {ex : EX} {X : Cx} {e : Expr} (o : XOk defs gl k c W X) (h : chkE c (.fs2 x0 a y0 b z0) e = true) (ia : ∀ {x : Expr}, chkE c a x = true → PE X x (tD X.K X.w W ex (wpE (cw defs gl k) ex a))) (ib : ∀ {x : Expr}, chkE c b x = true → PE X x (tD X.K X.w W ex (wpE (cw defs gl k) ex b))) : PE X e (tD X.K X.w W ex (wpE (cw defs gl k) ex (.fs2 x0 a y0 b z0))) := by
  simp only [chkE] at h
  split at h
  · simp only [Bool.and_eq_true, decide_eq_true_eq] at h
    obtain ⟨⟨⟨⟨⟨rfl, rfl⟩, rfl⟩, hz⟩, h3⟩, h4⟩ := h
    refine (L2.pe_joined (.cons pe_str (.cons (L2.pe_fmt (ia h3)) (.cons pe_str (.cons (L2.pe_fmt (ib h4)) (.cons pe_str .nil)))))).weak fun σ H Q qq => ?_
    obtain ⟨σd, S, R, rs, hr, xk, f', kk⟩ := qq
    simp only [wpE] at f'
    have e0 : Str.empty.length = 0 := rfl
    have eZ := sizeLine_eq
    refine ⟨_, rfl, by rw [app_lenZ]; omega, ?_⟩
    refine ⟨σd, S, _, rs, hr, xk, f', fun d S1 hd v H1 f1 rv h1 => .inr ?_⟩
    obtain ⟨od, hd⟩ := hd
    obtain ⟨i, rfl, hi⟩ := okI_int od
    have li := txt_len hi
    refine ⟨i, by simpa only [RelD] using rv, hi, _, rfl, by rw [app_lenZ, app_lenZ]; omega, _, rfl, by rw [app_lenZ, app_lenZ, app_lenZ]; omega, ?_⟩
    refine ⟨σd, S1, _, rs.mono (f1.ext hr), h1, xk.next f1, hd, fun e S2 he v2 H2 f2 rv2 h2 => .inr ?_⟩
    obtain ⟨oe, he⟩ := he
    obtain ⟨j, rfl, hj⟩ := okI_int oe
    have lj := txt_len hj
    refine ⟨j, by simpa only [RelD] using rv2, hj, _, rfl, by rw [app_lenZ, app_lenZ, app_lenZ, app_lenZ]; omega, _, rfl, by rw [app_lenZ, app_lenZ, app_lenZ, app_lenZ, app_lenZ]; omega, ?_⟩
    exact (kk.next (f1.trans f2) fun _ _ z => z).same he (by simp only [RelD, fs2T]) h2
  · cases h
theorem sE_newK {q cn : Str} {ts us : List T} {ks : List Str} {c : Cc} {W : WX} {ex : EX} {X : Cx} {e : Expr} (o : XOk defs gl k c W X) (h : chkE c (.newK q cn ts ks us) e = true) (ih : ∀ {es : List Expr}, chkEs c ts es = true → PA X es (tDA X.K X.w W ex (wpEs (cw defs gl k) ex ts)))
    (ik : ∀ {kws : List Keyword}, chkKw c us ks kws = true → PK X kws (tDA X.K X.w W ex (wpEs (cw defs gl k) ex us))) : PE X e (tD X.K X.w W ex (wpE (cw defs gl k) ex (.newK q cn ts ks us))) := by
  simp only [chkE] at h
  split at h
  · rename_i g p0 es kws p1
    simp only [Bool.and_eq_true, decide_eq_true_eq] at h
    obtain ⟨⟨⟨⟨⟨⟨⟨h1, h2⟩, h3⟩, h4⟩, h5⟩, h6⟩, h7⟩, hca⟩ := h
    subst h1
    obtain ⟨g1, g2, g3⟩ := o.gl_of h2
    have PAs := ih h3
    have PKs := ik h5
    have hp := chkEs_plain h3
    obtain ⟨hnm, hul⟩ := chkKw_names h5
    obtain ⟨d, C, f, fd, ps, ed, cf, m1, mk, kb, np, F⟩ := o.mkk _ _ _ _ h7 h6
    cases es with
    | nil => simp at h4
    | cons e0 es =>
      refine (pe_makeKG (E := L2.WE W) mk F (o.rm1 hca) g1 m1 kb (fun σ => passAt o.tk σ) PAs PKs hnm g2 hp).weak fun σ H Q qq => ?_
      obtain ⟨σd, S, R, rs, hr, xk, f', kk⟩ := qq
      simp only [wpE] at f'
      refine ⟨σd, S, _, rs, hr, xk, f', fun ds S1 hd vs H1 f1 rv h1 => ?_⟩
      refine ⟨σd, S1, _, rs.mono (f1.ext hr), h1, xk.next f1, hd.2, fun es2 S2 hd2 zs H2 f2 rz h2 => ⟨by rw [← rv.length]; exact hd.1, by rw [← rz.length, hd2.1, hul], fun x dx n1 n2 n3 => ?_⟩⟩
      have hs := hd2.2 x (h2.fresh n1)
      have hm := h2.made n1 n2 n3 cf
      have fm := Fm.made (S := S2) (C := C) (cn := g) n1 n2 n3
      have ext := fm.ext h2
      have rv2 := RelDs.mono (f2.ext h1) _ _ rv
      refine ⟨_, _, _, _, sem_len hs ed, ?_, hm, hs, fun v S3 hv u H3 f3 ru h3 => ?_, fun xx S3 hx cls dd H3 f3 rx h3 => ?_⟩
      · simp only [List.cons_append, RelDs]
        exact ⟨_, _, rfl, by simp only [RelD], RelDs.append (RelDs.mono ext _ _ rv2) (RelDs.mono ext _ _ rz)⟩
      · obtain ⟨rfl, hv⟩ := hv
        simp only [RelD] at ru
        exact ⟨ru, kk _ S3 hv _ H3 (((f1.trans f2).trans fm).trans f3) (by simp only [RelD]) h3⟩
      · exact xk xx σd S3 hx σ H3 cls dd (((f1.trans f2).trans fm).trans f3) (rs.mono ((((f1.trans f2).trans fm).trans f3).ext hr)) rx h3
  · cases h
mutual
theorem sE : ∀ (t : T) {c : Cc} {W : WX} {ex : EX} {X : Cx} {e : Expr}, XOk defs gl k c W X → chkE c t e = true → PE X e (tD X.K X.w W ex (wpE (cw defs gl k) ex t))
  | .var i, c, W, ex, X, e, o, h => sE_var o h
  | .int i, c, W, ex, X, e, o, h => by
    simp only [chkE] at h
    split at h
    · simp only [decide_eq_true_eq] at h
      subst h
      exact pe_int.weak fun σ H Q q => tD_c (d := .int i) (fun _ => by simp only [RelD]) (by simpa only [wpE] using q)
    · cases h
  | .bl i, c, W, ex, X, e, o, h => by
    simp only [chkE] at h
    split at h
    · simp only [decide_eq_true_eq] at h
      subst h
      exact pe_bl.weak fun σ H Q q => tD_c (d := .bl i) (fun _ => by simp only [RelD]) (by simpa only [wpE] using q)
    · cases h
  | .non, c, W, ex, X, e, o, h => by
    simp only [chkE] at h
    split at h
    · exact pe_non.weak fun σ H Q q => tD_c (d := .non) (fun _ => by simp only [RelD]) (by simpa only [wpE] using q)
    · cases h
  | .str i, c, W, ex, X, e, o, h => by
    simp only [chkE] at h
    split at h
    · simp only [decide_eq_true_eq] at h
      subst h
      exact pe_str.weak fun σ H Q q => tD_c (d := .str i) (fun _ => by simp only [RelD]) (by simpa only [wpE] using q)
    · cases h
  | .glob x, c, W, ex, X, e, o, h => by
    simp only [chkE] at h
    split at h
    · simp only [Bool.and_eq_true, decide_eq_true_eq] at h
      obtain ⟨rfl, h2⟩ := h
      obtain ⟨g1, g2, g3⟩ := o.gl_of h2
      cases eg : gl x with
      | none => exact ⟨fun pins s σ H Q I q => by
          obtain ⟨σd, S, R, rs, hr, xk, f, kk⟩ := q
          simp only [wpE, eg] at f⟩
      | some d =>
        obtain ⟨u, v, m, r, rd⟩ := o.gls x d eg
        refine (pe_glob g1 m r g2).weak fun σ H Q q => tD_c (d := d) rd (by simpa only [wpE, eg] using q)
    · cases h
  | .bty x, c, W, ex, X, e, o, h => by
    simp only [chkE] at h
    split at h
    · simp only [Bool.and_eq_true, decide_eq_true_eq] at h
      obtain ⟨⟨rfl, h2⟩, h3⟩ := h
      obtain ⟨g1, g2, g3⟩ := o.gl_of h2
      obtain ⟨b1, b2⟩ := tyNames_boot h3
      refine (pe_bltn (v := .ty x) g1 (o.blt x b2) b1 rfl g3 g2).weak fun σ H Q q => tD_c (d := .ty x) (fun _ => by simp only [RelD]) (by simpa only [wpE] using q)
    · cases h
  | .bin op a b, c, W, ex, X, e, o, h => by
    simp only [chkE] at h
    split at h
    · simp only [Bool.and_eq_true, decide_eq_true_eq] at h
      obtain ⟨⟨rfl, h2⟩, h3⟩ := h
      exact (pe_op (bin_ok op) (sE a (ex := ex) o h2) (sE b (ex := ex) o h3)).weak fun σ H Q q => tD_op (by simpa only [wpE] using q)
    · cases h
  | .neg a, c, W, ex, X, e, o, h => by
    simp only [chkE] at h
    split at h
    · exact (pe_un un_neg_ok (sE a (ex := ex) o h)).weak fun σ H Q q => tD_un (by simp only [wpE] at q; exact q)
    · cases h
  | .cmp op a b, c, W, ex, X, e, o, h => by
    simp only [chkE] at h
    split at h
    · simp only [Bool.and_eq_true, decide_eq_true_eq] at h
      obtain ⟨⟨⟨rfl, h2⟩, h3⟩, h4⟩ := h
      exact (pe_cmpR (cmp_ok o.hu op) (sE a (ex := ex) o h2) (sE b (ex := ex) o h3) (plain_mark h4)).weak fun σ H Q q => tD_op (by simpa only [wpE] using q)
    · cases h
  | .chain op op2 a b d, c, W, ex, X, e, o, h => by
    simp only [chkE] at h
    split at h
    · simp only [Bool.and_eq_true, decide_eq_true_eq] at h
      obtain ⟨⟨⟨⟨⟨⟨rfl, rfl⟩, h2⟩, h3⟩, h4⟩, h5⟩, h6⟩ := h
      refine (pe_chain (cmp_ok o.hu op) (cmp_ok o.hu op2) (sE a (ex := ex) o h2) (sE b (ex := ex) o h3) (sE d (ex := ex) o h4) (show behindInMarks op2 _ = false from plain_mark h6)).weak fun σ H Q q => ?_
      obtain ⟨σd, S, R, rs, hr, xk, f, kk⟩ := q
      simp only [wpE] at f
      refine ⟨σd, S, _, rs, hr, xk, f, fun x S1 hx v1 H1 f1 rv1 h1 => ⟨σd, S1, _, rs.mono (f1.ext hr), h1, xk.next f1, hx, fun y S2 hy v2 H2 f2 rv2 h2' =>
        ⟨x, y, S2, _, RelD.mono (f2.ext h1) _ _ rv1, rv2, h2', hy, fun z S3 hz v3 H3 f3 rv3 h3' => ?_⟩⟩⟩
      split at hz
      · rename_i b
        simp only [RelD] at rv3
        subst rv3
        refine ⟨b, rfl, ?_⟩
        cases b with
        | false =>
          rw [if_neg Bool.false_ne_true] at hz ⊢
          exact kk _ S3 hz _ H3 ((f1.trans f2).trans f3) (by simp only [RelD]) h3'
        | true =>
          rw [if_pos rfl] at hz ⊢
          refine ⟨σd, S3, _, rs.mono (((f1.trans f2).trans f3).ext hr), h3', xk.next ((f1.trans f2).trans f3), hz, fun u S4 hu v4 H4 f4 rv4 h4' => ?_⟩
          exact ⟨y, u, S4, R, RelD.mono (f4.ext h3') _ _ (RelD.mono (f3.ext h2') _ _ rv2), rv4, h4', hu, kk.next (((f1.trans f2).trans f3).trans f4) fun _ _ z => z⟩
      · exact hz.elim
    · cases h
  | .bop op ts, c, W, ex, X, e, o, h => by
    simp only [chkE] at h
    split at h
    · simp only [Bool.and_eq_true, decide_eq_true_eq] at h
      obtain ⟨rfl, h2⟩ := h
      simpa only [wpE] using sB op ts (ex := ex) o h2
    · cases h
  | .nt a, c, W, ex, X, e, o, h => by
    simp only [chkE] at h
    split at h
    · refine (pe_notT (sE a (ex := ex) o h)).weak fun σ H Q q => ?_
      obtain ⟨σd, S, R, rs, hr, xk, f, kk⟩ := q
      simp only [wpE] at f
      refine ⟨σd, S, _, rs, hr, xk, f, fun d S1 hd v1 H1 f1 rv1 h1 => ?_⟩
      split at hd
      · rename_i b eb
        exact ⟨b, tru_of h1 rv1 eb, kk _ S1 hd _ H1 f1 (by simp only [RelD]) h1⟩
      · exact hd.elim
    · cases h
  | .ite d a b, c, W, ex, X, e, o, h => by
    simp only [chkE] at h
    split at h
    · simp only [Bool.and_eq_true] at h
      obtain ⟨⟨h1, h2⟩, h3⟩ := h
      refine (pe_ifExp (sT d (ex := ex) o h1) (sE a (ex := ex) o h2) (sE b (ex := ex) o h3)).weak fun σ H Q q => ?_
      obtain ⟨σd, S, R, rs, hr, xk, f, kk⟩ := q
      simp only [wpE] at f
      refine ⟨σd, S, _, rs, hr, xk, f, fun bb S1 hb H1 f1 h1' => ?_⟩
      cases bb with
      | true =>
        rw [if_pos rfl] at hb ⊢
        exact ⟨σd, S1, R, rs.mono (f1.ext hr), h1', xk.next f1, hb, kk.next f1 fun _ _ z => z⟩
      | false =>
        rw [if_neg Bool.false_ne_true] at hb ⊢
        exact ⟨σd, S1, R, rs.mono (f1.ext hr), h1', xk.next f1, hb, kk.next f1 fun _ _ z => z⟩
    · cases h
  | .tup ts, c, W, ex, X, e, o, h => by
    simp only [chkE] at h
    split at h
    · refine (pe_tup (sEs ts (ex := ex) o h)).weak fun σ H Q q => ?_
      obtain ⟨σd, S, R, rs, hr, xk, f, kk⟩ := q
      simp only [wpE] at f
      exact ⟨σd, S, _, rs, hr, xk, f, fun ds S1 hd vs H1 f1 rv h1 => ⟨by rw [← rv.length]; exact Nat.le_trans hd.1 (by decide), fun p np => (kk.next f1 fun _ _ z => z).tup hd.2 h1 rv np⟩⟩
    · cases h
  | .lst ts, c, W, ex, X, e, o, h => by
    simp only [chkE] at h
    split at h
    · refine (pe_lst (sEs ts (ex := ex) o h)).weak fun σ H Q q => ?_
      obtain ⟨σd, S, R, rs, hr, xk, f, kk⟩ := q
      simp only [wpE] at f
      exact ⟨σd, S, _, rs, hr, xk, f, fun ds S1 hd vs H1 f1 rv h1 => ⟨by rw [← rv.length]; exact Nat.le_trans hd.1 (by decide), fun p np => (kk.next f1 fun _ _ z => z).lst (hd.2 p (h1.fresh np)) h1 rv np⟩⟩
    · cases h
  | .sub a i, c, W, ex, X, e, o, h => by
    exact sE_sub o h (fun h' => sE a (ex := ex) o h') fun h' => sE i (ex := ex) o h'
  | .slice a lo hi, c, W, ex, X, e, o, h => by
    simp only [chkE] at h
    split at h
    · simp only [Bool.and_eq_true] at h
      obtain ⟨⟨h1, h2⟩, h3⟩ := h
      refine (pe_slice slice_ok (sE a (ex := ex) o h1) (sO lo (ex := ex) o h2) (sO hi (ex := ex) o h3)).weak fun σ H Q q => ?_
      obtain ⟨σd, S, R, rs, hr, xk, f, kk⟩ := q
      simp only [wpE] at f
      exact ⟨σd, S, _, rs, hr, xk, f, fun x S1 hx v1 H1 f1 rv1 h1 => ⟨σd, S1, _, rs.mono (f1.ext hr), h1, xk.next f1, hx, fun l S2 hl H2 f2 h2 => ⟨σd, S2, _, rs.mono ((f1.trans f2).ext hr), h2, xk.next (f1.trans f2), hl, fun u S3 hu H3 f3 h3 =>
        ⟨x, S3, R, RelD.mono ((f2.trans f3).ext h1) _ _ rv1, h3, hu, kk.next ((f1.trans f2).trans f3) fun _ _ z => z⟩⟩⟩⟩
    · cases h
  | .call f ts, c, W, ex, X, e, o, h => sE_call o h fun h' => sEs ts (ex := ex) o h'
  | .callK f ts ks us, c, W, ex, X, e, o, h => sE_callK o h (fun h' => sEs ts (ex := ex) o h') fun h' => sKw us (ex := ex) o h'
  | .newK q cn ts ks us, c, W, ex, X, e, o, h => sE_newK o h (fun h' => sEs ts (ex := ex) o h') fun h' => sKw us (ex := ex) o h'
  | .lno q cn a, c, W, ex, X, e, o, h => sE_lno o h (fun h' => sE a (ex := ex) o h')
  | .rpo q cn a, c, W, ex, X, e, o, h => sE_rpo o h (fun h' => sE a (ex := ex) o h')
  | .fs2 x a y b z, c, W, ex, X, e, o, h => sE_fs2 o h (fun h' => sE a (ex := ex) o h') fun h' => sE b (ex := ex) o h'
  | .blt b ts, c, W, ex, X, e, o, h => sE_blt o h fun h' => sEs ts (ex := ex) o h'
  | .new q cn ts, c, W, ex, X, e, o, h => sE_new o h fun h' => sEs ts (ex := ex) o h'
  | .fld a f, c, W, ex, X, e, o, h => by
    simp only [chkE] at h
    split at h
    · simp only [Bool.and_eq_true, decide_eq_true_eq] at h
      obtain ⟨⟨⟨h1, h2⟩, h3⟩, h4⟩ := h
      subst h1
      refine (pe_fld (sE a (ex := ex) o h2) (nocall_base (by simpa using h3))).weak fun σ H Q q => ?_
      obtain ⟨σd, S, R, rs, hr, xk, f', kk⟩ := q
      simp only [wpE] at f'
      refine ⟨σd, S, _, rs, hr, xk, f', fun d S1 hx v1 H1 f1 rv1 h1 => ?_⟩
      unfold wFld at hx
      split at hx
      · rename_i p
        split at hx
        · rename_i cn fs es
          split at hx
          · rename_i v el
            simp only [RelD] at rv1
            obtain ⟨C, dx, fv, cf, e1, r1⟩ := h1 p _ es
            obtain ⟨u, l1, l2⟩ := relf_lookup r1 el
            exact ⟨p, C, dx, fv, u, rv1, e1, cf.cl, cf.na _ (by simpa using h4), l1, (kk.next f1 fun _ _ z => z).same hx l2 h1⟩
          · exact hx.elim
        · exact hx.elim
      · exact hx.elim
    · cases h
  | .meth q cn m a ts, c, W, ex, X, e, o, h => sE_meth o h (fun h' => sE a (ex := ex) o h') fun h' => sEs ts (ex := ex) o h'
  | .eqo q cn a b, c, W, ex, X, e, o, h => sE_eqo o h (fun h' => sE a (ex := ex) o h') fun h' => sE b (ex := ex) o h'
  | .isc a m, c, W, ex, X, e, o, h => sE_isc o h fun h' => sE a (ex := ex) o h'
  | .cmpo op q cn a b, c, W, ex, X, e, o, h => sE_cmpo o h (fun h' => sE a (ex := ex) o h') fun h' => sE b (ex := ex) o h'
  | .isx a m, c, W, ex, X, e, o, h => by
    simp only [chkE] at h
    split at h
    · simp only [Bool.and_eq_true, decide_eq_true_eq] at h
      obtain ⟨⟨⟨⟨⟨⟨⟨h1, h2⟩, h3⟩, h4⟩, h5⟩, h6⟩, h7⟩, h8⟩ := h
      subst h1 h2
      obtain ⟨g1, g2, g3⟩ := o.gl_of h3
      obtain ⟨k1, k2, k3⟩ := o.gl_of h4
      obtain ⟨M, m1, m2⟩ := o.xs _ h8
      rename_i x _ _ y _ _
      refine (pe_callB (call_isx (by simpa using h7) m2) g1 (o.blt "isinstance" (by decide)) (bfn_boot (b := .isinst) rfl).1 (pa_cons (sE a (ex := ex) o h5) (pa_cons (pe_glob (v := .ref M) k1 m1 rfl k2) pa_nil) (plain_star h6)) g3 g2 (plain_star h6) rfl).weak fun σ H Q q => ?_
      obtain ⟨σd, S, R, rs, hr, xk, f, kk⟩ := q
      simp only [wpE] at f
      refine ⟨σd, S, _, rs, hr, xk, f, fun d S1 hx v1 H1 f1 rv1 h1 => ?_⟩
      unfold wIsx at hx
      split at hx
      · simp only [RelD] at rv1
        obtain ⟨a', oe, C, dx, vs, rfl, xc, q1, q2, q3, q4, q5, q6⟩ := rv1
        exact ⟨_, C, a', oe, dx, xc, rfl, q1, q2, q3, q4, ⟨_, q5⟩, (kk.next f1 fun _ _ z => z).same hx (by simp only [RelD]) h1⟩
      · exact hx.elim
    · cases h
  | .atr a f, c, W, ex, X, e, o, h => by
    simp only [chkE] at h
    split at h
    · simp only [Bool.and_eq_true, decide_eq_true_eq] at h
      obtain ⟨⟨⟨h1, h2⟩, h3⟩, h4⟩ := h
      subst h1
      refine (pe_atr (sE a (ex := ex) o h2) (by simpa using h4) (nocall_base (by simpa using h3))).weak fun σ H Q q => ?_
      obtain ⟨σd, S, R, rs, hr, xk, f, kk⟩ := q
      simp only [wpE] at f
      refine ⟨σd, S, _, rs, hr, xk, f, fun d S1 hx v1 H1 f1 rv1 h1 => ?_⟩
      unfold wAtr at hx
      split at hx
      · rename_i n ns ds
        simp only [RelD] at rv1
        obtain ⟨a', oe, C, dx, vs, rfl, xc, q1, q2, q3, q4, q5, q6⟩ := rv1
        split at hx
        · rename_i v el
          obtain ⟨u, w1, w2⟩ := lookup_rel q6 el
          exact ⟨a', oe, dx, _, C, _, u, rfl, xc, q1, q2, q3, q4, q5, w1, (kk.next f1 fun _ _ z => z).same hx w2 h1⟩
        · exact hx.elim
      · exact hx.elim
    · cases h
  | .back a, c, W, ex, X, e, o, h => by
    simp only [chkE] at h
    split at h
    · refine (pe_revA (sE a (ex := ex) o h)).weak fun σ H Q q => ?_
      obtain ⟨σd, S, R, rs, hr, xk, f, kk⟩ := q
      simp only [wpE] at f
      refine ⟨σd, S, _, rs, hr, xk, f, fun x S1 hx v1 H1 f1 rv1 h1 => ?_⟩
      unfold wBack at hx
      split at hx
      · simp only [RelD] at rv1
        subst rv1
        split at hx
        · rename_i e1
          obtain ⟨vs, q1, q2⟩ := h1.sql e1
          exact ⟨_, vs, rfl, .inl ⟨q1, fun p np => (kk.next f1 fun _ _ z => z).lst (hx p (h1.fresh np)) h1 (relds_rev2 q2) np⟩⟩
        · exact hx.elim
      · simp only [RelD] at rv1
        obtain ⟨a', vs, rfl, q1, q2⟩ := rv1
        exact ⟨_, vs, rfl, .inr ⟨q1, fun p np => (kk.next f1 fun _ _ z => z).tup hx h1 (relds_rev2 q2) np⟩⟩
      · exact hx.elim
    · cases h
  | .lset a, c, W, ex, X, e, o, h => by
    simp only [chkE] at h
    split at h
    · simp only [Bool.and_eq_true, decide_eq_true_eq] at h
      obtain ⟨⟨⟨⟨⟨⟨h1, h2⟩, h3⟩, h4⟩, h5⟩, h6⟩, hca⟩ := h
      subst h1 h2
      obtain ⟨g1, _, _⟩ := o.gl_of h3
      obtain ⟨g2, _, _⟩ := o.gl_of h4
      refine (pe_lenSetT g1 (o.blt "len" (by decide)) g2 (o.blt "set" (by decide)) (sE a (ex := ex) o h5) (o.calm hca) (plain_star h6)).weak fun σ H Q q => ?_
      obtain ⟨σd, S, R, rs, hr, xk, f, kk⟩ := q
      simp only [wpE] at f
      refine ⟨σd, S, _, rs, hr, xk, f, fun x S1 hx v1 H1 f1 rv1 h1 => ?_⟩
      unfold wLset at hx
      split at hx
      · simp only [RelD] at rv1
        obtain ⟨a', vs, rfl, q1, q2⟩ := rv1
        split at hx
        · rename_i ns en
          have ev := ints_of q2 en
          subst ev
          exact ⟨a', ns, rfl, q1, hx.1, fun out nd hm => (kk.next f1 fun _ _ z => z).same (hx.2 out nd hm) (by simp only [RelD]) h1⟩
        · exact hx.elim
      · exact hx.elim
    · cases h
  | .lrng a, c, W, ex, X, e, o, h => by
    simp only [chkE] at h
    split at h
    · simp only [Bool.and_eq_true, decide_eq_true_eq] at h
      obtain ⟨⟨⟨⟨⟨⟨h1, h2⟩, h3⟩, h4⟩, h5⟩, h6⟩, hca⟩ := h
      subst h1 h2
      obtain ⟨g1, _, _⟩ := o.gl_of h3
      obtain ⟨g2, _, _⟩ := o.gl_of h4
      refine (pe_listRg (o.calm hca) g1 (o.blt "list" (by decide)) (prg_1 g2 (o.blt "range" (by decide)) (sE a (ex := ex) o h5) (plain_star h6)) rfl).weak fun σ H Q q => ?_
      obtain ⟨σd, S, R, rs, hr, xk, f, kk⟩ := q
      simp only [wpE] at f
      refine ⟨σd, S, _, rs, hr, xk, f, fun x S1 hx v1 H1 f1 rv1 h1 => ?_⟩
      unfold wLrng at hx
      split at hx
      · rename_i n
        simp only [RelD] at rv1
        subst rv1
        refine ⟨n, rfl, ⟨by omega, by omega, by omega, by omega, by omega⟩, fun p np => ?_⟩
        have e : rgV 0 n = ((List.range n.toNat).map fun i : Nat => (i : Int)).map V.int := by
          unfold rgV
          rw [List.map_map, Int.sub_zero]
          refine List.map_congr_left fun i _ => ?_
          simp
        rw [e]
        refine (kk.next f1 fun _ _ z => z).lst (hx.2.2 p (h1.fresh np)) h1 ?_ np
        have e2 : ((List.range n.toNat).map fun i => D.int (i : Nat)) = ((List.range n.toNat).map fun i : Nat => (i : Int)).map D.int := by rw [List.map_map]; rfl
        rw [e2]
        exact RelDs.of_ints _
      · exact hx.elim
    · cases h
  | .lrev a, c, W, ex, X, e, o, h => by
    simp only [chkE] at h
    split at h
    · simp only [Bool.and_eq_true, decide_eq_true_eq] at h
      obtain ⟨⟨⟨⟨⟨⟨h1, h2⟩, h3⟩, h4⟩, h5⟩, h6⟩, hca⟩ := h
      subst h1 h2
      obtain ⟨g1, _, _⟩ := o.gl_of h3
      obtain ⟨g2, _, _⟩ := o.gl_of h4
      refine (pe_listRev (o.calm hca) g1 (o.blt "list" (by decide)) g2 (o.blt "reversed" (by decide)) (sE a (ex := ex) o h5) (plain_star h6)).weak fun σ H Q q => ?_
      obtain ⟨σd, S, R, rs, hr, xk, f, kk⟩ := q
      simp only [wpE] at f
      refine ⟨σd, S, _, rs, hr, xk, f, fun x S1 hx v1 H1 f1 rv1 h1 => ?_⟩
      unfold wLrev at hx
      split at hx
      · rename_i xs e
        obtain ⟨a', vs, rfl, q1, q2, _⟩ := items_of h1 e rv1
        exact ⟨a', vs, rfl, q2, fun p np => (kk.next f1 fun _ _ z => z).lst (hx p (h1.fresh np)) h1 (relds_rev2 q1) np⟩
      · exact hx.elim
    · cases h
  | .lzip a b, c, W, ex, X, e, o, h => by
    simp only [chkE] at h
    split at h
    · simp only [Bool.and_eq_true, decide_eq_true_eq] at h
      obtain ⟨⟨⟨⟨⟨⟨⟨⟨h1, h2⟩, h3⟩, h4⟩, h5⟩, h6⟩, h7⟩, h8⟩, hca⟩ := h
      subst h1 h2
      obtain ⟨g1, _, _⟩ := o.gl_of h3
      obtain ⟨g2, _, _⟩ := o.gl_of h4
      refine (pe_listZip (o.calm hca) g1 (o.blt "list" (by decide)) g2 (o.blt "zip" (by decide)) (pa_cons (sE a (ex := ex) o h5) (pa_cons (sE b (ex := ex) o h7) pa_nil (plain_star h8)) (plain_star h6)) (plain_star h6) (by rw [plain_star h8]; rfl)).weak fun σ H Q q => ?_
      obtain ⟨σd, S, R, rs, hr, xk, f, kk⟩ := q
      simp only [wpE] at f
      refine ⟨σd, S, _, rs, hr, xk, f, fun d S1 hd v H1 f1 rv h1 => ⟨σd, S1, _, rs.mono (f1.ext hr), h1, xk.next f1, hd, fun d2 S2 hd2 v2 H2 f2 rv2 h2 => ?_⟩⟩
      have rv' := RelD.mono (f2.ext h1) _ _ rv
      unfold wLzip at hd2
      split at hd2
      · simp only [RelD] at rv' rv2
        obtain ⟨a, vs, rfl, t1, r1⟩ := rv'
        obtain ⟨b, us, rfl, t2, r2⟩ := rv2
        exact ⟨a, b, vs, us, rfl, t1, t2, fun q H' us np up e hl hat => zip_kont (kk.next (f1.trans f2) fun _ _ z => z) h2 r1 r2 np up e hl hat (hd2 q (h2.fresh np))⟩
      · exact hd2.elim
    · cases h
  | .mth m a ts, c, W, ex, X, e, o, h => by
    simp only [chkE] at h
    split at h
    · simp only [Bool.and_eq_true, decide_eq_true_eq] at h
      obtain ⟨⟨⟨⟨⟨rfl, h1⟩, h2⟩, h3⟩, h4⟩, h5⟩ := h
      have hb := fun (x : Str) (env : Env) (wh : Sem Value) => nocall_base (x := x) (env := env) (wh := wh) (by simpa using h3)
      rename_i o' apos es cpos
      cases es with
      | nil =>
        have e0 : ts = [] := List.eq_nil_of_length_eq_zero (chkEs_len h2).symm
        subst e0
        refine (pe_bm0 m.plain m.slot m.typ (mth_ok o.hu1 m) (sE a (ex := ex) o h1) (hb _ _ _) h4).weak fun σ H Q q => ?_
        obtain ⟨σd, S, R, rs, hr, xk, f, kk⟩ := q
        simp only [wpE, wpEs] at f
        exact ⟨σd, S, _, rs, hr, xk, f, fun x S1 hx v1 H1 f1 rv1 h1 => ⟨recv_ok h1 rv1 hx.1, x, [], S1, R, rv1, relds_nil, h1, hx.2, kk.next f1 fun _ _ z => z⟩⟩
      | cons e0 es =>
        have hp := chkEs_plain h2
        have hp' := hp
        rw [List.all_cons, Bool.and_eq_true] at hp'
        have few : ((backTo cpos (starEach (e0 :: es) X.env)).all (fun x => !x.1) && (backToKw cpos (keywordEach [] X.env)).all (fun x => x.1.isSome) && decide ((e0 :: es).length + ([] : List Keyword).length + (if ([] : List Keyword).isEmpty then 0 else 1) < 30)) = true := by
          rw [star_not hp]
          show (true && true && decide (_ + 0 + 0 < 30)) = true
          simpa using h5
        refine (pe_bm m.plain m.slot m.typ (mth_ok o.hu1 m) (sE a (ex := ex) o h1) (sEs ts (ex := ex) o h2) (hb _ _ _) few h4 (plain_star hp'.1) (star_all hp'.2)).weak fun σ H Q q => ?_
        obtain ⟨σd, S, R, rs, hr, xk, f, kk⟩ := q
        simp only [wpE] at f
        exact ⟨σd, S, _, rs, hr, xk, f, fun x S1 hx v1 H1 f1 rv1 h1 => ⟨recv_ok h1 rv1 hx.1, σd, S1, _, rs.mono (f1.ext hr), h1, xk.next f1, hx.2, fun ds S2 hd vs H2 f2 rv2 h2 =>
          ⟨x, ds, S2, R, RelD.mono (f2.ext h1) _ _ rv1, rv2, h2, hd, kk.next (f1.trans f2) fun _ _ z => z⟩⟩⟩
    · cases h
  | .lc g it ifs own d, c, W, ex, X, e, o, h => by
    simp only [chkE] at h
    split at h
    · simp only [Bool.and_eq_true] at h
      obtain ⟨⟨⟨⟨⟨⟨⟨h1, h2⟩, h3⟩, h4⟩, h5⟩, h6⟩, h7⟩, hca⟩ := h
      rename_i scope _
      have bo : BlkOk X.N X.env.scope scope own := by rw [o.hN, o.hsc]; exact blkOk_by h2
      refine (pe_lc (g := gV X.K g) (tt := tDT X.K X.w W0 ex0 (wpTs (cw defs gl k) ifs)) (te := tD X.K X.w W0 ex0 (wpE (cw defs gl k) ex0 d)) (o.calm hca) (by rw [o.hN]; exact o.nd) (sI it (ex := ex) o h1) bo
        (fun s H C cl fp => sG (o.blk s H scope C cl fp) g _ h3) (fun s H C cl fp => sTs ifs (o.blk s H scope C cl fp) h5) (fun s H C cl fp => sE d (o.blk s H scope C cl fp) h6) (plain_fold h7)).weak fun σ H Q q => ?_
      obtain ⟨σd, S, R, rs, hr, xk, f, kk⟩ := q
      simp only [wpE] at f
      exact ⟨σd, S, _, rs, hr, xk, f, fun ds G S1 hd J H1 f1 h1 wk Da nD => lc_of (rs.mono (f1.ext hr)) h1 wk h4 nD hd (kk.next f1 fun _ _ z => z)⟩
    · cases h
  | .dct ks vs, c, W, ex, X, e, o, h => by
    simp only [chkE] at h
    split at h
    · simp only [Bool.and_eq_true, decide_eq_true_eq] at h
      obtain ⟨⟨⟨⟨h1, h2⟩, h3⟩, h4⟩, h5⟩ := h
      rename_i kz vz pos
      have hk := chkKs_all h1
      refine (pe_disp (sP ks vs (ex := ex) (pos := pos) o (by rw [hk.2, h3]; exact chkEs_len h2) h1 h2) hk.1 h3 (by intro z; rw [z] at h4; cases h4) h5).weak fun σ H Q q => ?_
      obtain ⟨σd, S, R, rs, hr, xk, f, kk⟩ := q
      simp only [wpE] at f
      intro p np
      have hn : ks.length = kz.length := hk.2
      refine pairs_of ks vs (by rw [hk.2, h3]; exact chkEs_len h2) (rs.mono (ext_new np)) (hr.free np) (xk.next (Fm.tup hr np)) f fun ds S1 hd us H1 f1 rv h1 => ?_
      obtain ⟨e1, e2⟩ := f1 p _ upd_same (hr.fresh np)
      have lu : us.length = ks.length := by rw [← rv.length]; exact hd.1
      refine ⟨e1, (ks.zip us).map fun z => (Sum.inr z.1, z.2), ?_, ?_, ?_⟩
      · simp only [List.map_map]
        rfl
      · rw [List.length_map, List.length_zip, lu, hn]
        omega
      · refine kk _ _ (hd.2 p e2) _ _ ?_ (by simp only [RelD]) ?_
        · intro a oo ea qa
          have ne : a ≠ p := ne_of_none ea np
          obtain ⟨q1, q2⟩ := f1 a oo (by rw [upd_ne ne]; exact ea) qa
          exact ⟨by rw [upd_ne ne]; exact q1, by rw [updS_ne ne]; exact q2⟩
        · intro a ob qa
          have exq : Ext H1 (upd H1 p (.dK (mergeK [] ((ks.zip us).map fun z => (Sum.inr z.1, z.2))))) := ext_put e1 (fun _ z => nomatch z) (fun _ _ z => nomatch z) fun _ z => nomatch z
          by_cases ne : a = p
          · subst ne
            rw [updS_same] at qa
            cases qa
            refine ⟨_, upd_same, RelKV.mono exq _ _ ?_⟩
            exact relkv_fold rv (by simp only [RelKV])
          · rw [updS_ne ne] at qa
            exact (h1 a ob qa).mono exq (upd_ne ne)
    · cases h
theorem sT : ∀ (t : T) {c : Cc} {W : WX} {ex : EX} {X : Cx} {e : Expr}, XOk defs gl k c W X → chkE c t e = true → PT X e (tDT X.K X.w W ex (wpT (cw defs gl k) ex t))
  | .bop op ts, c, W, ex, X, e, o, h => by
    simp only [chkE] at h
    split at h
    · simp only [Bool.and_eq_true, decide_eq_true_eq] at h
      obtain ⟨rfl, h2⟩ := h
      simpa only [wpT] using (sTB op ts (ex := ex) o h2).pt
    · cases h
  | .nt a, c, W, ex, X, e, o, h => by
    simp only [chkE] at h
    split at h
    · refine (pt_not (sT a (ex := ex) o h)).weak fun σ H Q q => ?_
      obtain ⟨σd, S, R, rs, hr, xk, f, kk⟩ := q
      simp only [wpT] at f
      exact ⟨σd, S, _, rs, hr, xk, f, fun b S1 hb H1 f1 h1 => kk _ S1 hb H1 f1 h1⟩
    · cases h
  | .var i, c, W, ex, X, e, o, h => by
    have he : ifV e = true := by
      simp only [chkE] at h
      split at h
      · rfl
      · cases h
    refine (pt_truth (sE_var (ex := ex) o h) (plain_true he)).weak fun σ H Q q => tD_tru ?_
    obtain ⟨σd, S, R, rs, hr, xk, f, kk⟩ := q
    refine ⟨σd, S, R, rs, hr, xk, ?_, kk⟩
    simp only [wpT] at f
    simp only [wpE]
    split at f
    · exact f
    · exact f.elim
  | .cmp op a b, c, W, ex, X, e, o, h => by
    simp only [chkE] at h
    split at h
    · simp only [Bool.and_eq_true, decide_eq_true_eq] at h
      obtain ⟨⟨⟨rfl, h2⟩, h3⟩, h4⟩ := h
      refine (pt_cmpR (cmp_ok o.hu op) (sE a (ex := ex) o h2) (sE b (ex := ex) o h3) (plain_mark h4)).weak fun σ H Q q => tD_op ?_
      obtain ⟨σd, S, R, rs, hr, xk, f, kk⟩ := q
      simp only [wpT] at f
      refine ⟨σd, S, _, rs, hr, xk, f, fun d S1 hd v H1 f1 rv h1 => ?_⟩
      split at hd
      · simp only [RelD] at rv
        exact ⟨_, rv, kk _ S1 hd H1 f1 h1⟩
      · exact hd.elim
    · cases h
  | .chain op op2 a b d, c, W, ex, X, e, o, h => by
    simp only [chkE] at h
    split at h
    · simp only [Bool.and_eq_true, decide_eq_true_eq] at h
      obtain ⟨⟨⟨⟨⟨⟨rfl, rfl⟩, h2⟩, h3⟩, h4⟩, h5⟩, h6⟩ := h
      refine (pt_chain (cmp_ok o.hu op) (cmp_ok o.hu op2) (sE a (ex := ex) o h2) (sE b (ex := ex) o h3) (sE d (ex := ex) o h4) (show behindInMarks op2 _ = false from plain_mark h6)).weak fun σ H Q q => ?_
      obtain ⟨σd, S, R, rs, hr, xk, f, kk⟩ := q
      simp only [wpT] at f
      refine ⟨σd, S, _, rs, hr, xk, f, fun x S1 hx v1 H1 f1 rv1 h1 => ⟨σd, S1, _, rs.mono (f1.ext hr), h1, xk.next f1, hx, fun y S2 hy v2 H2 f2 rv2 h2' =>
        ⟨x, y, S2, _, RelD.mono (f2.ext h1) _ _ rv1, rv2, h2', hy, fun z S3 hz v3 H3 f3 rv3 h3' => ?_⟩⟩⟩
      split at hz
      · rename_i b
        simp only [RelD] at rv3
        subst rv3
        refine ⟨b, rfl, ?_⟩
        cases b with
        | false =>
          rw [if_neg Bool.false_ne_true] at hz ⊢
          exact ⟨false, rfl, kk _ S3 hz H3 ((f1.trans f2).trans f3) h3'⟩
        | true =>
          rw [if_pos rfl] at hz ⊢
          refine ⟨σd, S3, _, rs.mono (((f1.trans f2).trans f3).ext hr), h3', xk.next ((f1.trans f2).trans f3), hz, fun u S4 hu v4 H4 f4 rv4 h4' => ?_⟩
          refine ⟨y, u, S4, _, RelD.mono (f4.ext h3') _ _ (RelD.mono (f3.ext h2') _ _ rv2), rv4, h4', hu, fun d S5 hd v5 H5 f5 rv5 h5' => ?_⟩
          split at hd
          · simp only [RelD] at rv5
            exact ⟨_, rv5, kk _ S5 hd H5 ((((f1.trans f2).trans f3).trans f4).trans f5) h5'⟩
          · exact hd.elim
      · exact hz.elim
    · cases h
  | .call f ts, c, W, ex, X, e, o, h => by
    have he : ifV e = true := by
      simp only [chkE] at h
      split at h
      · rfl
      · cases h
    refine (pt_truth (sE_call (ex := ex) o h fun h' => sEs ts (ex := ex) o h') (plain_true he)).weak fun σ H Q q => tD_tru ?_
    obtain ⟨σd, S, R, rs, hr, xk, f, kk⟩ := q
    exact ⟨σd, S, R, rs, hr, xk, by simp only [wpT] at f; simp only [wpE]; exact f, kk⟩
  | .blt b ts, c, W, ex, X, e, o, h => by
    have he : ifV e = true := by
      simp only [chkE] at h
      split at h
      · rfl
      · cases h
    refine (pt_truth (sE_blt (ex := ex) o h fun h' => sEs ts (ex := ex) o h') (plain_true he)).weak fun σ H Q q => tD_tru ?_
    obtain ⟨σd, S, R, rs, hr, xk, f, kk⟩ := q
    exact ⟨σd, S, R, rs, hr, xk, by simp only [wpT] at f; simp only [wpE]; exact f, kk⟩
  | .int _, c, W, ex, X, e, o, h => ⟨fun pins s σ H Q I q => by obtain ⟨σd, S, R, rs, hr, xk, f, kk⟩ := q; simp only [wpT] at f⟩
  | .bl _, c, W, ex, X, e, o, h => ⟨fun pins s σ H Q I q => by obtain ⟨σd, S, R, rs, hr, xk, f, kk⟩ := q; simp only [wpT] at f⟩
  | .non, c, W, ex, X, e, o, h => ⟨fun pins s σ H Q I q => by obtain ⟨σd, S, R, rs, hr, xk, f, kk⟩ := q; simp only [wpT] at f⟩
  | .str _, c, W, ex, X, e, o, h => ⟨fun pins s σ H Q I q => by obtain ⟨σd, S, R, rs, hr, xk, f, kk⟩ := q; simp only [wpT] at f⟩
  | .glob _, c, W, ex, X, e, o, h => ⟨fun pins s σ H Q I q => by obtain ⟨σd, S, R, rs, hr, xk, f, kk⟩ := q; simp only [wpT] at f⟩
  | .bty _, c, W, ex, X, e, o, h => ⟨fun pins s σ H Q I q => by obtain ⟨σd, S, R, rs, hr, xk, f, kk⟩ := q; simp only [wpT] at f⟩
  | .bin _ _ _, c, W, ex, X, e, o, h => ⟨fun pins s σ H Q I q => by obtain ⟨σd, S, R, rs, hr, xk, f, kk⟩ := q; simp only [wpT] at f⟩
  | .neg _, c, W, ex, X, e, o, h => ⟨fun pins s σ H Q I q => by obtain ⟨σd, S, R, rs, hr, xk, f, kk⟩ := q; simp only [wpT] at f⟩
  | .ite _ _ _, c, W, ex, X, e, o, h => ⟨fun pins s σ H Q I q => by obtain ⟨σd, S, R, rs, hr, xk, f, kk⟩ := q; simp only [wpT] at f⟩
  | .tup _, c, W, ex, X, e, o, h => ⟨fun pins s σ H Q I q => by obtain ⟨σd, S, R, rs, hr, xk, f, kk⟩ := q; simp only [wpT] at f⟩
  | .lst _, c, W, ex, X, e, o, h => ⟨fun pins s σ H Q I q => by obtain ⟨σd, S, R, rs, hr, xk, f, kk⟩ := q; simp only [wpT] at f⟩
  | .sub a i, c, W, ex, X, e, o, h => by
    have he : ifV e = true := by
      simp only [chkE] at h
      split at h
      · rfl
      · cases h
    refine (pt_truth (sE_sub (ex := ex) o h (fun h' => sE a (ex := ex) o h') fun h' => sE i (ex := ex) o h') (plain_true he)).weak fun σ H Q q => tD_tru ?_
    obtain ⟨σd, S, R, rs, hr, xk, f, kk⟩ := q
    exact ⟨σd, S, R, rs, hr, xk, by simp only [wpT] at f; simp only [wpE]; exact f, kk⟩
  | .meth q cn m a ts, c, W, ex, X, e, o, h => by
    have he : ifV e = true := by
      simp only [chkE] at h
      split at h
      · rfl
      · cases h
    refine (pt_truth (sE_meth (ex := ex) o h (fun h' => sE a (ex := ex) o h') fun h' => sEs ts (ex := ex) o h') (plain_true he)).weak fun σ H Q q => tD_tru ?_
    obtain ⟨σd, S, R, rs, hr, xk, f, kk⟩ := q
    exact ⟨σd, S, R, rs, hr, xk, by simp only [wpT] at f; simp only [wpE]; exact f, kk⟩
  | .isc a m, c, W, ex, X, e, o, h => by
    have he : ifV e = true := by
      simp only [chkE] at h
      split at h
      · rfl
      · cases h
    refine (pt_truth (sE_isc (ex := ex) o h fun h' => sE a (ex := ex) o h') (plain_true he)).weak fun σ H Q q => tD_tru ?_
    obtain ⟨σd, S, R, rs, hr, xk, f, kk⟩ := q
    exact ⟨σd, S, R, rs, hr, xk, by simp only [wpT] at f; simp only [wpE]; exact f, kk⟩
  | .cmpo op q cn a b, c, W, ex, X, e, o, h => by
    simp only [chkE] at h
    split at h
    · simp only [Bool.and_eq_true, decide_eq_true_eq] at h
      obtain ⟨⟨⟨⟨⟨rfl, h2⟩, h3⟩, h4⟩, h5⟩, h6⟩ := h
      refine (pt_cmpR (own_ok op o h5 h6) (sE a (ex := ex) o h2) (sE b (ex := ex) o h3) (plain_mark h4)).weak fun σ H Q q => tD_op ?_
      obtain ⟨σd, S, R, rs, hr, xk, f, kk⟩ := q
      simp only [wpT] at f
      refine ⟨σd, S, _, rs, hr, xk, f, fun d S1 hd v H1 f1 rv h1 => ?_⟩
      split at hd
      · simp only [RelD] at rv
        exact ⟨_, rv, kk _ S1 hd H1 f1 h1⟩
      · exact hd.elim
    · cases h
  | .eqo _ _ _ _, c, W, ex, X, e, o, h => ⟨fun pins s σ H Q I q => by obtain ⟨σd, S, R, rs, hr, xk, f, kk⟩ := q; simp only [wpT] at f⟩
  | .new _ _ _, c, W, ex, X, e, o, h => ⟨fun pins s σ H Q I q => by obtain ⟨σd, S, R, rs, hr, xk, f, kk⟩ := q; simp only [wpT] at f⟩
  | .fld _ _, c, W, ex, X, e, o, h => ⟨fun pins s σ H Q I q => by obtain ⟨σd, S, R, rs, hr, xk, f, kk⟩ := q; simp only [wpT] at f⟩
  | .lrev _, c, W, ex, X, e, o, h => ⟨fun pins s σ H Q I q => by obtain ⟨σd, S, R, rs, hr, xk, f, kk⟩ := q; simp only [wpT] at f⟩
  | .callK _ _ _ _, c, W, ex, X, e, o, h => ⟨fun pins s σ H Q I q => by obtain ⟨σd, S, R, rs, hr, xk, f, kk⟩ := q; simp only [wpT] at f⟩
  | .newK _ _ _ _ _, c, W, ex, X, e, o, h => ⟨fun pins s σ H Q I q => by obtain ⟨σd, S, R, rs, hr, xk, f, kk⟩ := q; simp only [wpT] at f⟩
  | .lno _ _ _, c, W, ex, X, e, o, h => ⟨fun pins s σ H Q I q => by obtain ⟨σd, S, R, rs, hr, xk, f, kk⟩ := q; simp only [wpT] at f⟩
  | .rpo _ _ _, c, W, ex, X, e, o, h => ⟨fun pins s σ H Q I q => by obtain ⟨σd, S, R, rs, hr, xk, f, kk⟩ := q; simp only [wpT] at f⟩
  | .fs2 _ _ _ _ _, c, W, ex, X, e, o, h => ⟨fun pins s σ H Q I q => by obtain ⟨σd, S, R, rs, hr, xk, f, kk⟩ := q; simp only [wpT] at f⟩
  | .lset _, c, W, ex, X, e, o, h => ⟨fun pins s σ H Q I q => by obtain ⟨σd, S, R, rs, hr, xk, f, kk⟩ := q; simp only [wpT] at f⟩
  | .lrng _, c, W, ex, X, e, o, h => ⟨fun pins s σ H Q I q => by obtain ⟨σd, S, R, rs, hr, xk, f, kk⟩ := q; simp only [wpT] at f⟩
  | .lzip _ _, c, W, ex, X, e, o, h => ⟨fun pins s σ H Q I q => by obtain ⟨σd, S, R, rs, hr, xk, f, kk⟩ := q; simp only [wpT] at f⟩
  | .slice _ _ _, c, W, ex, X, e, o, h => ⟨fun pins s σ H Q I q => by obtain ⟨σd, S, R, rs, hr, xk, f, kk⟩ := q; simp only [wpT] at f⟩
  | .mth _ _ _, c, W, ex, X, e, o, h => ⟨fun pins s σ H Q I q => by obtain ⟨σd, S, R, rs, hr, xk, f, kk⟩ := q; simp only [wpT] at f⟩
  | .lc _ _ _ _ _, c, W, ex, X, e, o, h => ⟨fun pins s σ H Q I q => by obtain ⟨σd, S, R, rs, hr, xk, f, kk⟩ := q; simp only [wpT] at f⟩
  | .dct _ _, c, W, ex, X, e, o, h => ⟨fun pins s σ H Q I q => by obtain ⟨σd, S, R, rs, hr, xk, f, kk⟩ := q; simp only [wpT] at f⟩
  | .back _, c, W, ex, X, e, o, h => ⟨fun pins s σ H Q I q => by obtain ⟨σd, S, R, rs, hr, xk, f, kk⟩ := q; simp only [wpT] at f⟩
  | .isx _ _, c, W, ex, X, e, o, h => ⟨fun pins s σ H Q I q => by obtain ⟨σd, S, R, rs, hr, xk, f, kk⟩ := q; simp only [wpT] at f⟩
  | .atr _ _, c, W, ex, X, e, o, h => ⟨fun pins s σ H Q I q => by obtain ⟨σd, S, R, rs, hr, xk, f, kk⟩ := q; simp only [wpT] at f⟩
theorem sEs : ∀ (ts : List T) {c : Cc} {W : WX} {ex : EX} {X : Cx} {es : List Expr}, XOk defs gl k c W X → chkEs c ts es = true → PA X es (tDA X.K X.w W ex (wpEs (cw defs gl k) ex ts))
  | [], c, W, ex, X, es, o, h => by
    simp only [chkEs] at h
    split at h
    · refine pa_nil.weak fun σ H Q q => ?_
      obtain ⟨σd, S, R, rs, hr, xk, f, kk⟩ := q
      simp only [wpEs] at f
      exact kk [] S f [] H (Fm.refl _ _) relds_nil hr
    · cases h
  | t :: ts, c, W, ex, X, es, o, h => by
    simp only [chkEs] at h
    split at h
    · cases h
    · simp only [Bool.and_eq_true] at h
      exact (pa_cons (sE t (ex := ex) o h.1.1) (sEs ts (ex := ex) o h.2) (plain_star h.1.2)).weak fun σ H Q q => tD_cons (by simpa only [wpEs] using q)
theorem sKw : ∀ (us : List T) {ks : List Str} {c : Cc} {W : WX} {ex : EX} {X : Cx} {kws : List Keyword}, XOk defs gl k c W X → chkKw c us ks kws = true → PK X kws (tDA X.K X.w W ex (wpEs (cw defs gl k) ex us))
  | [], ks, c, W, ex, X, kws, o, h => by
    simp only [chkKw, Bool.and_eq_true, List.isEmpty_iff] at h
    rw [h.2]
    refine pk_nil.weak fun σ H Q q => ?_
    obtain ⟨σd, S, R, rs, hr, xk, f, kk⟩ := q
    simp only [wpEs] at f
    exact kk [] S f [] H (Fm.refl _ _) relds_nil hr
  | u :: us, ks, c, W, ex, X, kws, o, h => by
    simp only [chkKw] at h
    split at h
    · simp only [Bool.and_eq_true] at h
      exact (pk_cons (sE u (ex := ex) o h.1.2) (sKw us (ex := ex) o h.2)).weak fun σ H Q q => tD_cons (by simpa only [wpEs] using q)
    · cases h
theorem sO : ∀ (t : Option T) {c : Cc} {W : WX} {ex : EX} {X : Cx} {e : Option Expr}, XOk defs gl k c W X → chkO c t e = true → PO X e (fun σ H Q => ∃ σd S R, RelSt X.K X.w H σd σ ∧ HR X.K X.w H S ∧ ExK X.K X.w H S ex W ∧ wpO (cw defs gl k) ex t σd S R ∧ ∀ i S', R i S' → ∀ H', Fm H S H' S' → HR X.K X.w H' S' → Q i H')
  | none, c, W, ex, X, e, o, h => by
    simp only [chkO, Option.isNone_iff_eq_none] at h
    subst h
    refine ⟨fun pins s σ H Q I q => po_none.run pins s σ H Q I ?_⟩
    obtain ⟨σd, S, R, rs, hr, xk, f, kk⟩ := q
    simp only [wpO] at f
    exact kk none S f H (Fm.refl _ _) hr
  | some t, c, W, ex, X, e, o, h => by
    simp only [chkO] at h
    split at h
    · refine ⟨fun pins s σ H Q I q => (po_some (sE t (ex := ex) o h)).run pins s σ H Q I ?_⟩
      obtain ⟨σd, S, R, rs, hr, xk, f, kk⟩ := q
      simp only [wpO] at f
      refine ⟨σd, S, _, rs, hr, xk, f, fun d S1 hd v H1 f1 rv h1 => ?_⟩
      split at hd
      · simp only [RelD] at rv
        exact ⟨_, rv, kk _ S1 hd H1 f1 h1⟩
      · exact hd.elim
    · cases h
theorem sB : ∀ (op : BoolOp) (ts : List T) {c : Cc} {W : WX} {ex : EX} {X : Cx} {es : List Expr} {pos : Pos}, XOk defs gl k c W X → chkEs c ts es = true → PE X (.BoolOp op es pos) (tD X.K X.w W ex (wpB (cw defs gl k) ex op ts))
  | op, [], c, W, ex, X, es, pos, o, h => ⟨fun pins s σ H Q I q => by obtain ⟨σd, S, R, rs, hr, xk, f, kk⟩ := q; simp only [wpB] at f⟩
  | op, [t], c, W, ex, X, es, pos, o, h => by
    simp only [chkEs] at h
    split at h
    · cases h
    · simp only [Bool.and_eq_true] at h
      obtain ⟨h1, h2⟩ := h
      split at h2
      · simpa only [wpB] using pe_one (sE t (ex := ex) o h1.1)
      · cases h2
  | op, t :: u :: ts, c, W, ex, X, es, pos, o, h => by
    unfold chkEs at h
    split at h
    · cases h
    · simp only [Bool.and_eq_true] at h
      obtain ⟨h1, h2⟩ := h
      have ih := fun pos => sB op (u :: ts) (ex := ex) (pos := pos) o h2
      rename_i e0 es0
      cases es0 with
      | nil => simp only [chkEs] at h2; cases h2
      | cons e1 es1 =>
        cases op with
        | And =>
          refine (pe_andT (sE t (ex := ex) o h1.1) (ih pos)).weak fun σ H Q q => ?_
          obtain ⟨σd, S, R, rs, hr, xk, f, kk⟩ := q
          simp only [wpB] at f
          refine ⟨σd, S, _, rs, hr, xk, f, fun d S1 hd v H1 f1 rv h1 => ?_⟩
          split at hd
          · rename_i b eb
            refine ⟨b, tru_of h1 rv eb, ?_⟩
            cases b with
            | true =>
              rw [if_pos rfl] at hd ⊢
              exact ⟨σd, S1, R, rs.mono (f1.ext hr), h1, xk.next f1, hd, kk.next f1 fun _ _ z => z⟩
            | false =>
              rw [if_neg Bool.false_ne_true] at hd ⊢
              exact kk _ S1 hd _ H1 f1 rv h1
          · exact hd.elim
        | Or =>
          refine (pe_orT (sE t (ex := ex) o h1.1) (ih pos)).weak fun σ H Q q => ?_
          obtain ⟨σd, S, R, rs, hr, xk, f, kk⟩ := q
          simp only [wpB] at f
          refine ⟨σd, S, _, rs, hr, xk, f, fun d S1 hd v H1 f1 rv h1 => ?_⟩
          split at hd
          · rename_i b eb
            refine ⟨b, tru_of h1 rv eb, ?_⟩
            cases b with
            | false =>
              rw [if_neg Bool.false_ne_true] at hd ⊢
              exact ⟨σd, S1, R, rs.mono (f1.ext hr), h1, xk.next f1, hd, kk.next f1 fun _ _ z => z⟩
            | true =>
              rw [if_pos rfl] at hd ⊢
              exact kk _ S1 hd _ H1 f1 rv h1
          · exact hd.elim
theorem sTB : ∀ (op : BoolOp) (ts : List T) {c : Cc} {W : WX} {ex : EX} {X : Cx} {es : List Expr} {pos : Pos}, XOk defs gl k c W X → chkEs c ts es = true → PW X (.BoolOp op es pos) (tDT X.K X.w W ex (wpTB (cw defs gl k) ex op ts))
  | op, [], c, W, ex, X, es, pos, o, h => ⟨fun wh pins s σ H Q I q => by obtain ⟨σd, S, R, rs, hr, xk, f, kk⟩ := q; simp only [wpTB] at f⟩
  | op, [t], c, W, ex, X, es, pos, o, h => by
    simp only [chkEs] at h
    split at h
    · cases h
    · simp only [Bool.and_eq_true] at h
      obtain ⟨h1, h2⟩ := h
      split at h2
      · cases op with
        | And => simpa only [wpTB] using pw_and1 (sT t (ex := ex) o h1.1)
        | Or => simpa only [wpTB] using pw_or1 (sT t (ex := ex) o h1.1)
      · cases h2
  | op, t :: u :: ts, c, W, ex, X, es, pos, o, h => by
    unfold chkEs at h
    split at h
    · cases h
    · simp only [Bool.and_eq_true] at h
      obtain ⟨h1, h2⟩ := h
      have ih := fun pos => sTB op (u :: ts) (ex := ex) (pos := pos) o h2
      rename_i e0 es0
      cases es0 with
      | nil => simp only [chkEs] at h2; cases h2
      | cons e1 es1 =>
        cases op with
        | And =>
          refine (pw_and (sT t (ex := ex) o h1.1) (ih pos)).weak fun σ H Q q => ?_
          obtain ⟨σd, S, R, rs, hr, xk, f, kk⟩ := q
          simp only [wpTB] at f
          refine ⟨σd, S, _, rs, hr, xk, f, fun b S1 hd H1 f1 h1 => ?_⟩
          cases b with
          | true =>
            rw [if_pos rfl] at hd ⊢
            exact ⟨σd, S1, R, rs.mono (f1.ext hr), h1, xk.next f1, hd, fun b S2 hb H2 f2 h2 => kk b S2 hb H2 (f1.trans f2) h2⟩
          | false =>
            rw [if_neg Bool.false_ne_true] at hd ⊢
            exact kk _ S1 hd H1 f1 h1
        | Or =>
          refine (pw_or (sT t (ex := ex) o h1.1) (ih pos)).weak fun σ H Q q => ?_
          obtain ⟨σd, S, R, rs, hr, xk, f, kk⟩ := q
          simp only [wpTB] at f
          refine ⟨σd, S, _, rs, hr, xk, f, fun b S1 hd H1 f1 h1 => ?_⟩
          cases b with
          | false =>
            rw [if_neg Bool.false_ne_true] at hd ⊢
            exact ⟨σd, S1, R, rs.mono (f1.ext hr), h1, xk.next f1, hd, fun b S2 hb H2 f2 h2 => kk b S2 hb H2 (f1.trans f2) h2⟩
          | true =>
            rw [if_pos rfl] at hd ⊢
            exact kk _ S1 hd H1 f1 h1
theorem sTs : ∀ (ts : List T) {c : Cc} {X : Cx} {es : List Expr}, XOk defs gl k c W0 X → chkEs c ts es = true → PTs X es (tDT X.K X.w W0 ex0 (wpTs (cw defs gl k) ts))
  | [], c, X, es, o, h => by
    simp only [chkEs] at h
    split at h
    · refine ⟨fun pins s σ H Q I q => pts_nil.run pins s σ H Q I ?_⟩
      obtain ⟨σd, S, R, rs, hr, xk, f, kk⟩ := q
      simp only [wpTs] at f
      exact kk _ S f H (Fm.refl _ _) hr
    · cases h
  | [t], c, X, es, o, h => by
    simp only [chkEs] at h
    split at h
    · cases h
    · simp only [Bool.and_eq_true] at h
      obtain ⟨h1, h2⟩ := h
      split at h2
      · simpa only [wpTs] using pts_one (sT t (ex := ex0) o h1.1)
      · cases h2
  | _ :: _ :: _, c, X, es, o, h => ⟨fun pins s σ H Q I q => by obtain ⟨σd, S, R, rs, hr, xk, f, kk⟩ := q; simp only [wpTs] at f⟩
theorem sP : ∀ (ks : List Str) (ts : List T) {c : Cc} {W : WX} {ex : EX} {X : Cx} {kz : List (Option Expr)} {vz : List Expr} {pos : Pos}, XOk defs gl k c W X → ks.length = ts.length → chkKs ks kz = true → chkEs c ts vz = true → PPs X pos kz vz (trsOf X.K X.w W (cw defs gl k) ex ks ts)
  | [], [], c, W, ex, X, kz, vz, pos, o, hl, h1, h2 => by
    simp only [chkKs] at h1
    simp only [chkEs] at h2
    split at h1
    · split at h2
      · exact pps_nil
      · cases h2
    · cases h1
  | [], t :: ts, c, W, ex, X, kz, vz, pos, o, hl, h1, h2 => by simp at hl
  | x :: ks, [], c, W, ex, X, kz, vz, pos, o, hl, h1, h2 => by simp at hl
  | x :: ks, t :: ts, c, W, ex, X, kz, vz, pos, o, hl, h1, h2 => by
    simp only [chkKs] at h1
    split at h1
    · simp only [Bool.and_eq_true, decide_eq_true_eq] at h1
      obtain ⟨rfl, h1⟩ := h1
      simp only [chkEs] at h2
      split at h2
      · cases h2
      · simp only [Bool.and_eq_true] at h2
        exact pps_cons pe_str (sE t (ex := ex) o h2.1.1) (sP ks ts (ex := ex) o (by simpa using hl) h1 h2.2)
    · cases h1
theorem sI : ∀ (it : Ti) {c : Cc} {W : WX} {ex : EX} {X : Cx} {e tg : Expr}, XOk defs gl k c W X → chkI c it e tg = true → PI X tg e (tDI X.K X.w W ex (wpI (cw defs gl k) ex it))
  | .seq t, c, W, ex, X, e, tg, o, h => by
    simp only [chkI] at h
    refine (pi_seq (sE t (ex := ex) o h)).weak fun σ H R q => ?_
    obtain ⟨σd, S, RI, rs, hr, xk, f, kk⟩ := q
    simp only [wpI] at f
    refine ⟨σd, S, _, rs, hr, xk, f, fun d S1 hd v H1 f1 rv h1 => ?_⟩
    split at hd
    · simp only [RelD] at rv
      obtain ⟨a, vs, rfl, t1, r1⟩ := rv
      exact ⟨a, rfl, .inr ⟨⟨vs, t1⟩, kk _ _ S1 hd _ H1 f1 h1 (walkd_tup t1 r1)⟩⟩
    · simp only [RelD] at rv
      obtain ⟨a, vs, rfl, t1, r1⟩ := rv
      exact ⟨a, rfl, .inl ⟨⟨vs, t1.sq⟩, kk _ _ S1 hd _ H1 f1 h1 (walkd_kl t1 r1)⟩⟩
    · simp only [RelD] at rv
      subst rv
      split at hd
      · rename_i es
        obtain ⟨vs, q1, q2⟩ := h1.sql es
        exact ⟨_, rfl, .inl ⟨⟨vs, q1⟩, kk _ _ S1 hd _ H1 f1 h1 walkd_list⟩⟩
      · exact hd.elim
    · exact hd.elim
  | .rng1 t, c, W, ex, X, e, tg, o, h => by
    simp only [chkI] at h
    split at h
    · simp only [Bool.and_eq_true, decide_eq_true_eq] at h
      obtain ⟨⟨⟨rfl, h2⟩, h3⟩, h4⟩ := h
      obtain ⟨g1, g2, g3⟩ := o.gl_of h2
      refine (pi_range1 g1 (o.blt "range" (by decide)) (pa_cons (sE t (ex := ex) o h3) pa_nil (plain_star h4)) (plain_star h4)).weak fun σ H R q => ?_
      obtain ⟨σd, S, RI, rs, hr, xk, f, kk⟩ := q
      simp only [wpI] at f
      refine ⟨σd, S, _, rs, hr, xk, f, fun d S1 hd v H1 f1 rv h1 => ?_⟩
      split at hd
      · rename_i n
        simp only [RelD] at rv
        subst rv
        refine ⟨n, rfl, hd.1, hd.2.1, kk _ _ S1 hd.2.2 _ H1 f1 h1 ?_⟩
        have w0 := walkd_range (K := X.K) (w := X.w) (H0 := H1) (lo := 0) (n := n.toNat)
        simp only [Int.zero_add] at w0
        exact w0
      · exact hd.elim
    · cases h
  | .rng2 t u, c, W, ex, X, e, tg, o, h => by
    simp only [chkI] at h
    split at h
    · simp only [Bool.and_eq_true, decide_eq_true_eq] at h
      obtain ⟨⟨⟨⟨⟨rfl, h2⟩, h3⟩, h4⟩, h5⟩, h6⟩ := h
      obtain ⟨g1, g2, g3⟩ := o.gl_of h2
      refine (pi_range2 g1 (o.blt "range" (by decide)) (pa_cons (sE t (ex := ex) o h3) (pa_cons (sE u (ex := ex) o h5) pa_nil (plain_star h6)) (plain_star h4)) (by rw [plain_star h4, plain_star h6]; rfl) (by rw [plain_star h6]; rfl)).weak fun σ H R q => ?_
      obtain ⟨σd, S, RI, rs, hr, xk, f, kk⟩ := q
      simp only [wpI] at f
      refine ⟨σd, S, _, rs, hr, xk, f, fun d S1 hd v H1 f1 rv h1 => ⟨σd, S1, _, rs.mono (f1.ext hr), h1, xk.next f1, hd, fun d2 S2 hd2 v2 H2 f2 rv2 h2 => ?_⟩⟩
      split at hd2
      · rename_i i j
        simp only [RelD] at rv rv2
        subst rv rv2
        exact ⟨i, j, rfl, hd2.1, kk _ _ S2 hd2.2 _ H2 (f1.trans f2) h2 walkd_range⟩
      · exact hd2.elim
    · cases h
  | .enm t, c, W, ex, X, e, tg, o, h => by
    simp only [chkI] at h
    split at h
    · split at h
      · simp only [Bool.and_eq_true, decide_eq_true_eq] at h
        obtain ⟨⟨⟨rfl, h2⟩, h3⟩, h4⟩ := h
        obtain ⟨g1, g2, g3⟩ := o.gl_of h2
        refine (pi_enumT g1 (o.blt "enumerate" (by decide)) (sE t (ex := ex) o h3) (plain_star h4)).weak fun σ H R q => ?_
        obtain ⟨σd, S, RI, rs, hr, xk, f, kk⟩ := q
        simp only [wpI] at f
        refine ⟨σd, S, _, rs, hr, xk, f, fun d S1 hd v H1 f1 rv h1 => ?_⟩
        split at hd
        · simp only [RelD] at rv
          subst rv
          split at hd
          · rename_i es
            obtain ⟨vs, q1, q2⟩ := h1.sql es
            exact ⟨_, vs, rfl, .inl ⟨q1, kk _ _ S1 hd _ H1 f1 h1 walkd_enum⟩⟩
          · exact hd.elim
        · simp only [RelD] at rv
          obtain ⟨a, vs, rfl, q1, q2⟩ := rv
          exact ⟨a, vs, rfl, .inr ⟨q1, kk _ _ S1 hd _ H1 f1 h1 (walkd_enumT q1 q2)⟩⟩
        · exact hd.elim
      · cases h
    · cases h
  | .zip t u, c, W, ex, X, e, tg, o, h => by
    simp only [chkI] at h
    split at h
    · split at h
      · simp only [Bool.and_eq_true, decide_eq_true_eq] at h
        obtain ⟨⟨⟨⟨⟨rfl, h2⟩, h3⟩, h4⟩, h5⟩, h6⟩ := h
        obtain ⟨g1, g2, g3⟩ := o.gl_of h2
        refine (RZ.pi_zipA g1 (o.blt "zip" (by decide)) (pa_cons (sE t (ex := ex) o h3) (pa_cons (sE u (ex := ex) o h5) pa_nil (plain_star h6)) (plain_star h4)) (plain_star h4) (by rw [plain_star h6]; rfl)).weak fun σ H R q => ?_
        obtain ⟨σd, S, RI, rs, hr, xk, f, kk⟩ := q
        simp only [wpI] at f
        refine ⟨σd, S, _, rs, hr, xk, f, fun d S1 hd v H1 f1 rv h1 => ⟨σd, S1, _, rs.mono (f1.ext hr), h1, xk.next f1, hd, fun d2 S2 hd2 v2 H2 f2 rv2 h2 => ?_⟩⟩
        have rv' := RelD.mono (f2.ext h1) _ _ rv
        split at hd2
        · simp only [RelD] at rv' rv2
          obtain ⟨a, vs, rfl, t1, r1⟩ := rv'
          obtain ⟨b, us, rfl, t2, r2⟩ := rv2
          exact ⟨a, b, vs, us, rfl, .inr ⟨t1, t2, kk _ _ S2 hd2 _ H2 (f1.trans f2) h2 (walkd_zipT t1 t2 r1 r2)⟩⟩
        · simp only [RelD] at rv' rv2
          subst rv' rv2
          split at hd2
          · rename_i e1 e2
            obtain ⟨vs, q1, q2⟩ := h2.sql e1
            obtain ⟨us, q3, q4⟩ := h2.sql e2
            exact ⟨_, _, vs, us, rfl, .inl ⟨q1, q3, kk _ _ S2 hd2 _ H2 (f1.trans f2) h2 walkd_zip⟩⟩
          · exact hd2.elim
        · exact hd2.elim
      · cases h
    · cases h
  | .rev t, c, W, ex, X, e, tg, o, h => by
    simp only [chkI] at h
    split at h
    · simp only [Bool.and_eq_true, decide_eq_true_eq] at h
      obtain ⟨⟨⟨rfl, h2⟩, h3⟩, h4⟩ := h
      obtain ⟨g1, g2, g3⟩ := o.gl_of h2
      refine (RT.pi_revA g1 (o.blt "reversed" (by decide)) (sE t (ex := ex) o h3) (plain_star h4)).weak fun σ H R q => ?_
      obtain ⟨σd, S, RI, rs, hr, xk, f, kk⟩ := q
      simp only [wpI] at f
      refine ⟨σd, S, _, rs, hr, xk, f, fun d S1 hd v H1 f1 rv h1 => ?_⟩
      split at hd
      · simp only [RelD] at rv
        obtain ⟨a, vs, rfl, t1, r1⟩ := rv
        exact ⟨a, vs, rfl, .inr ⟨t1, kk _ _ S1 hd _ H1 f1 h1 (walkd_revT r1.length.symm t1 r1)⟩⟩
      · simp only [RelD] at rv
        subst rv
        split at hd
        · rename_i es
          obtain ⟨vs, q1, q2⟩ := h1.sql es
          exact ⟨_, vs, rfl, .inl ⟨q1, kk _ _ S1 hd _ H1 f1 h1 (walkd_rev q2.length.symm)⟩⟩
        · exact hd.elim
      · exact hd.elim
    · cases h
end
end
end Z

set_option Elab.async false
set_option linter.all false
set_option maxRecDepth 100000
set_option maxHeartbeats 4000000
namespace Z
open PySem PySem.Spec PyProof.Rows L2
theorem any2 {α : Type} (f : α → Bool) (a b : α) (h1 : f a = false) (h2 : f b = false) : ¬ ([a, b].any f = true) := by
  rw [List.any_cons, List.any_cons, List.any_nil, h1, h2]
  decide
theorem dups2 {x y : Str} (ne : x ≠ y) : ([x, y] : List Str).eraseDups.length = 2 := by
  rw [List.eraseDups_cons]
  have e : (!(y == x)) = true := by simpa using ne.symm
  rw [List.filter_cons, if_pos e, List.filter_nil, List.eraseDups_cons, List.filter_nil, List.eraseDups_nil]
  rfl
theorem swap_par {x y : Str} {a b : Expr} {px py pt pt2 : Pos} {kt k2 : Nat} {env : Env} (hk : env.scope.kind = .function) (hx : env.scope.names.lookup x = some .local) (hy : env.scope.names.lookup y = some .local) (ne : x ≠ y) (hl : (px.line == py.line) = true)
    (ha : plainE a = true) (hb : plainE b = true) (h1 : (foldedForSure 8 a && foldedForSure 8 b) = false) (h2 : (constantsAlone 8 a && constantsAlone 8 b) = false) :
    swappedStores [.Tuple [.Name x px, .Name y py] kt pt] (.Tuple [a, b] k2 pt2) env = pure (some [x, y]) := by
  have kx : env.kindOf x = some .local := hx
  have ky : env.kindOf y = some .local := hy
  have hbk : env.blockKind = .function := by unfold Env.blockKind; rw [hk]; rfl
  have hl' : (py.line == px.line) = true := by
    rw [beq_iff_eq] at hl ⊢
    exact hl.symm
  have key : ∀ l : List Str, l = [x, y] → (if (l.length != 2 || l.eraseDups.length != l.length) = true then (pure none : Sem (Option (List Str))) else if [a, b].all (foldedForSure 8) = true then pure none else
      if [a, b].all (constantsAlone 8) = true then (do unsupported "assign.tuple-of-constant-expressions:order-of-the-stores"; pure (some l)) else pure (some l)) = pure (some [x, y]) := fun l e => by
    subst e
    have c1 : ¬ (([x, y] : List Str).length != 2 || ([x, y] : List Str).eraseDups.length != ([x, y] : List Str).length) = true := by
      rw [dups2 ne]
      show ¬ ((2 : Nat) != 2 || (2 : Nat) != 2) = true
      decide
    have c2 : ¬ [a, b].all (foldedForSure 8) = true := by
      rw [List.all_cons, List.all_cons, List.all_nil, Bool.and_true, h1]
      exact Bool.false_ne_true
    have c3 : ¬ [a, b].all (constantsAlone 8) = true := by
      rw [List.all_cons, List.all_cons, List.all_nil, Bool.and_true, h2]
      exact Bool.false_ne_true
    rw [if_neg c1, if_neg c2, if_neg c3]
  unfold swappedStores
  simp only [hbk]
  have c0 : ¬ (!([Expr.Name x px, Expr.Name y py].length == 2 || [Expr.Name x px, Expr.Name y py].length == 3) || [a, b].length != [Expr.Name x px, Expr.Name y py].length || ScopeKind.function != ScopeKind.function) = true := by
    show ¬ (!((2 : Nat) == 2 || (2 : Nat) == 3) || (2 : Nat) != 2 || ScopeKind.function != ScopeKind.function) = true
    decide
  rw [if_neg c0]
  rw [if_neg (any2 _ a b (by cases a <;> first | rfl | (exact absurd (show false = true from ha) Bool.false_ne_true)) (by cases b <;> first | rfl | (exact absurd (show false = true from hb) Bool.false_ne_true)))]
  refine key _ ?_
  simp only [List.filterMap_cons, List.filterMap_nil, kx, ky]
  have g : (Option.map (fun z : Expr => z.pos.line) [Expr.Name x px, Expr.Name y py].head?).getD 0 = px.line := rfl
  have t1 : (some NameKind.local == some NameKind.local && px.line == px.line) = true := by simp
  have t2 : (some NameKind.local == some NameKind.local && py.line == px.line) = true := by rw [hl']; rfl
  rw [g, if_pos t1, if_pos t2]
theorem any3 {α : Type} (f : α → Bool) (a b c : α) (h1 : f a = false) (h2 : f b = false) (h3 : f c = false) : ¬ ([a, b, c].any f = true) := by
  simp [List.any_cons, h1, h2, h3]
theorem dups3 {x y z : Str} (n1 : x ≠ y) (n2 : x ≠ z) (n3 : y ≠ z) : ([x, y, z] : List Str).eraseDups.length = 3 := by
  have e1 : (y == x) = false := by simpa using Ne.symm n1
  have e2 : (z == x) = false := by simpa using Ne.symm n2
  have e3 : (z == y) = false := by simpa using Ne.symm n3
  simp [List.eraseDups_cons, List.filter_cons, e1, e2, e3]
theorem swap_par3 {x y z : Str} {a b c : Expr} {px py pz pt pt2 : Pos} {kt k2 : Nat} {env : Env} (hk : env.scope.kind = .function) (hx : env.scope.names.lookup x = some .local) (hy : env.scope.names.lookup y = some .local) (hz : env.scope.names.lookup z = some .local) (n1 : x ≠ y) (n2 : x ≠ z) (n3 : y ≠ z)
    (hl : (px.line == py.line) = true) (hl2 : (px.line == pz.line) = true) (ha : plainE a = true) (hb : plainE b = true) (hc : plainE c = true) (h1 : (foldedForSure 8 a && foldedForSure 8 b && foldedForSure 8 c) = false) (h2 : (constantsAlone 8 a && constantsAlone 8 b && constantsAlone 8 c) = false) :
    swappedStores [.Tuple [.Name x px, .Name y py, .Name z pz] kt pt] (.Tuple [a, b, c] k2 pt2) env = pure (some [x, y, z]) := by
  have kx : env.kindOf x = some .local := hx
  have ky : env.kindOf y = some .local := hy
  have kz : env.kindOf z = some .local := hz
  have hbk : env.blockKind = .function := by unfold Env.blockKind; rw [hk]; rfl
  have hl' : (py.line == px.line) = true := by
    rw [beq_iff_eq] at hl ⊢
    exact hl.symm
  have hl2' : (pz.line == px.line) = true := by
    rw [beq_iff_eq] at hl2 ⊢
    exact hl2.symm
  have key : ∀ l : List Str, l = [x, y, z] → (if (l.length != 3 || l.eraseDups.length != l.length) = true then (pure none : Sem (Option (List Str))) else if [a, b, c].all (foldedForSure 8) = true then pure none else
      if [a, b, c].all (constantsAlone 8) = true then (do unsupported "assign.tuple-of-constant-expressions:order-of-the-stores"; pure (some l)) else pure (some l)) = pure (some [x, y, z]) := fun l e => by
    subst e
    have c1 : ¬ (([x, y, z] : List Str).length != 3 || ([x, y, z] : List Str).eraseDups.length != ([x, y, z] : List Str).length) = true := by
      rw [dups3 n1 n2 n3]
      show ¬ ((3 : Nat) != 3 || (3 : Nat) != 3) = true
      decide
    have c2 : ¬ [a, b, c].all (foldedForSure 8) = true := by
      rw [List.all_cons, List.all_cons, List.all_cons, List.all_nil, Bool.and_true, ← Bool.and_assoc, h1]
      exact Bool.false_ne_true
    have c3 : ¬ [a, b, c].all (constantsAlone 8) = true := by
      rw [List.all_cons, List.all_cons, List.all_cons, List.all_nil, Bool.and_true, ← Bool.and_assoc, h2]
      exact Bool.false_ne_true
    rw [if_neg c1, if_neg c2, if_neg c3]
  unfold swappedStores
  simp only [hbk]
  have c0 : ¬ (!([Expr.Name x px, Expr.Name y py, Expr.Name z pz].length == 2 || [Expr.Name x px, Expr.Name y py, Expr.Name z pz].length == 3) || [a, b, c].length != [Expr.Name x px, Expr.Name y py, Expr.Name z pz].length || ScopeKind.function != ScopeKind.function) = true := by
    show ¬ (!((3 : Nat) == 2 || (3 : Nat) == 3) || (3 : Nat) != 3 || ScopeKind.function != ScopeKind.function) = true
    decide
  rw [if_neg c0]
  rw [if_neg (any3 _ a b c (by cases a <;> first | rfl | (exact absurd (show false = true from ha) Bool.false_ne_true)) (by cases b <;> first | rfl | (exact absurd (show false = true from hb) Bool.false_ne_true)) (by cases c <;> first | rfl | (exact absurd (show false = true from hc) Bool.false_ne_true)))]
  refine key _ ?_
  simp only [List.filterMap_cons, List.filterMap_nil, kx, ky, kz]
  have g : (Option.map (fun z : Expr => z.pos.line) [Expr.Name x px, Expr.Name y py, Expr.Name z pz].head?).getD 0 = px.line := rfl
  have t1 : (some NameKind.local == some NameKind.local && px.line == px.line) = true := by simp
  have t2 : (some NameKind.local == some NameKind.local && py.line == px.line) = true := by rw [hl']; rfl
  have t3 : (some NameKind.local == some NameKind.local && pz.line == px.line) = true := by rw [hl2']; rfl
  rw [g, if_pos t1, if_pos t2, if_pos t3]
theorem swap_cell {e : Expr} {x : Str} {q : Pos} {n : Nat} {env : Env} (hx : env.scope.names.lookup x = some .cell) : swapsWith e (some (.Name x q)) n env = pure false := by
  have kx : (env.kindOf x == some .local) = false := by
    show (env.scope.names.lookup x == some .local) = false
    rw [hx]
    decide
  cases e <;> first | rfl | (unfold swapsWith; simp only [kx, Bool.and_false, Bool.false_and])
theorem swap_none {es : List Expr} {kk : Nat} {p : Pos} {e : Expr} {env : Env} (h : (match e with | .Tuple _ _ _ => false | _ => true) = true) : swappedStores [.Tuple es kk p] e env = pure none := by
  cases e <;> first | (exact absurd (show false = true from h) Bool.false_ne_true) | rfl
section
variable {defs : Str → Option DefT} {gl : Str → Option D} {k : Nat}
theorem lc_read {K : PySem.W.Frag} {w : World} {W : WX} {ex : EX} {g : Tg} {it : Ti} {ifs : List T} {own : List (Str × Nat)} {d : T} {σ : L2.St} {H : Hp} {Q : VK} (og : ownG (own.map (·.2)) g = true)
    (q : tD K w W ex (wpE (cw defs gl k) ex (.lc g it ifs own d)) σ H Q) :
    tLc (tDI K w W ex (wpI (cw defs gl k) ex it)) (gV K g) (tDT K w W0 ex0 (wpTs (cw defs gl k) ifs)) (tD K w W0 ex0 (wpE (cw defs gl k) ex0 d)) (own.map (·.2)) σ H Q := by
  obtain ⟨σd, S, R, rs, hr, xk, f, kk⟩ := q
  simp only [wpE] at f
  exact ⟨σd, S, _, rs, hr, xk, f, fun ds G S1 hd J H1 f1 h1 wk Da nD => lc_of (rs.mono (f1.ext hr)) h1 wk og nD hd (kk.next f1 fun _ _ z => z)⟩
theorem asg_lc {c : Cc} {W : WX} {ex : EX} {X : Cx} {i : Nat} {x : Str} {q pos q2 : Pos} {elt : Expr} {gs : List Comprehension} {scope : Scope} {t : T} (hf : X.env.scope.kind = .function) (o : XOk defs gl k c W X) (hN : c.N[i]? = some x) (hl : c.sc.names.lookup x = some .local) (h2 : chkE c t (.ListComp elt gs scope q2) = true)
    (hq : (q.line == q2.line) = true) (hn : (scope.names.any fun (n, k) => n == x && (k == .local || k == .cell)) = false) :
    PS X (.Assign [.Name x q] (.ListComp elt gs scope q2) pos) (tAsg (tD X.K X.w W ex (wpE (cw defs gl k) ex t)) (gName i)) := by
  cases t with
  | lc g it ifs own d =>
    simp only [chkE] at h2
    split at h2
    · rename_i e0
      simp only [Bool.and_eq_true] at h2
      obtain ⟨⟨⟨⟨⟨⟨⟨h1, h2⟩, h3⟩, h4⟩, h5⟩, h6⟩, h7⟩, hca⟩ := h2
      cases e0
      have bo : BlkOk X.N X.env.scope scope own := by rw [o.hN, o.hsc]; exact blkOk_by h2
      have hl' : X.env.scope.names.lookup x = some .local := by rw [o.hsc]; exact hl
      refine (ps_setLc (g := gV X.K g) (tt := tDT X.K X.w W0 ex0 (wpTs (cw defs gl k) ifs)) (te := tD X.K X.w W0 ex0 (wpE (cw defs gl k) ex0 d)) (o.calm hca) (by rw [o.hN]; exact o.nd) (by rw [o.hN]; exact hN) hl' (sw_true hf hl' hq hn) (sI it (ex := ex) o h1) bo
        (fun s H C cl fp => sG (o.blk s H scope C cl fp) g _ h3) (fun s H C cl fp => sTs ifs (o.blk s H scope C cl fp) h5) (fun s H C cl fp => sE d (o.blk s H scope C cl fp) h6) (plain_fold h7)).weak fun De σ H q => lc_read h4 q
    · cases h2
  | _ => simp only [chkE] at h2 <;> cases h2
end
end Z

set_option Elab.async false
set_option linter.all false
set_option maxRecDepth 100000
set_option maxHeartbeats 4000000
namespace Z
open PySem PySem.Spec PyProof.Rows L2

theorem nolc_sole {e t : Expr} {n : Nat} {env : Env} (h : lcE e = false) : swapsWithSole [t] e n env = pure false := by
  unfold swapsWithSole
  exact nolc_swap h
theorem mem_of_lk {β : Type} {k : Str} {v : β} : ∀ {l : List (Str × β)}, l.lookup k = some v → (k, v) ∈ l
  | [], h => by cases h
  | (j, u) :: l, h => by
    rw [List.lookup_cons] at h
    split at h
    · rename_i e
      cases h
      rw [eq_of_beq e]
      exact List.mem_cons_self
    · exact List.mem_cons_of_mem _ (mem_of_lk h)
structure EndK (K : PySem.W.Frag) (w : World) (H : Hp) (S : Sto) (E : EndD) (D : Ends) : Prop where
  nx : ∀ σd S', E.nx σd S' → ∀ σ H', Fm H S H' S' → RelSt K w H' σd σ → HR K w H' S' → D.nx σ H'
  rt : ∀ d S', E.rt d S' → ∀ v H', Fm H S H' S' → RelD K w H' d v → HR K w H' S' → D.rt v H'
  bk : ∀ σd S', E.bk σd S' → ∀ σ H', Fm H S H' S' → RelSt K w H' σd σ → HR K w H' S' → D.bk σ H'
  ct : ∀ σd S', E.ct σd S' → ∀ σ H', Fm H S H' S' → RelSt K w H' σd σ → HR K w H' S' → D.ct σ H'
theorem EndK.next {K : PySem.W.Frag} {w : World} {H H' : Hp} {S S' : Sto} {E : EndD} {D : Ends} (k : EndK K w H S E D) (f : Fm H S H' S') : EndK K w H' S' E D :=
  ⟨fun σd S2 h σ H2 f2 => k.nx σd S2 h σ H2 (f.trans f2), fun d S2 h v H2 f2 => k.rt d S2 h v H2 (f.trans f2), fun σd S2 h σ H2 f2 => k.bk σd S2 h σ H2 (f.trans f2), fun σd S2 h σ H2 f2 => k.ct σd S2 h σ H2 (f.trans f2)⟩
def tDS (K : PySem.W.Frag) (w : World) (W : WX) (ex : EX) (f : EndD → StD → Sto → Prop) : L2.TS := fun D σ H => ∃ σd S E, RelSt K w H σd σ ∧ HR K w H S ∧ ExK K w H S ex W ∧ f E σd S ∧ EndK K w H S E D
theorem sub_assign {o i : Expr} {pos : Pos} {env : Env} (h : plainE i = true) : ∀ v, assign (.Subscript o i pos) env v = (do
      let ov ← holding [v] (eval o env)
      let iv ← holding [v, ov] (eval i env)
      standAt pos
      holding [v, ov, iv] (setItem ov iv v)
      release [v, ov, iv] []) := by
  intro v
  cases i <;> first | rfl | (exact absurd (show false = true from h) Bool.false_ne_true)
theorem xcl_len {n : Str} {ns : List Str} (h : xcl n = some ns) : ns.length ≤ 2 := by
  have m := mem_of_lk h
  simp only [xclT, List.mem_cons, List.not_mem_nil, or_false, Prod.mk.injEq] at m
  rcases m with ⟨_, rfl⟩ | ⟨_, rfl⟩ | ⟨_, rfl⟩ | ⟨_, rfl⟩ | ⟨_, rfl⟩ | ⟨_, rfl⟩ | ⟨_, rfl⟩ <;> simp
theorem zip_rev {α β : Type} : ∀ {a : List α} {b : List β}, a.length = b.length → (a.zip b).reverse = a.reverse.zip b.reverse
  | [], [], _ => rfl
  | x :: a, y :: b, h => by
    have h' : a.length = b.length := by simpa using h
    rw [List.zip_cons_cons, List.reverse_cons, List.reverse_cons, List.reverse_cons, zip_rev h', List.zip_append (by simpa using h')]
    rfl
  | [], _ :: _, h => by simp at h
  | _ :: _, [], h => by simp at h
theorem HR.xd {K : PySem.W.Frag} {w : World} {H : Hp} {S : Sto} (h : HR K w H S) {p : Addr} {o : HO} (n : H p = none) : HR K w (upd H p o) S := fun a ob q => by
  have ne : a ≠ p := fun z => by subst z; rw [h.fresh n] at q; cases q
  exact (h a ob q).mono (ext_new n) (upd_ne ne)
theorem HR.keep {K : PySem.W.Frag} {w : World} {H : Hp} {S : Sto} (h : HR K w H S) {p : Addr} {o : HO} (n : H p = none) : HR K w (upd H p o) S := HR.xd h n
section
variable {defs : Str → Option DefT} {gl : Str → Option D} {k : Nat}
theorem XOk.tr {c : Cc} {W W' : WX} {X : Cx} (o : XOk defs gl k c W X) {pn : List (Addr × Obj)} {xe : Value → Shared → Prop} (tk : Takes (X.tr pn xe) W') (po : PassesOwn (model X.prog X.w) X.A X.env xe) : XOk defs gl k c W' (X.tr pn xe) :=
  { o with tk := tk, po := po }
theorem XOk.suite {c : Cc} {W : WX} {X : Cx} (o : XOk defs gl k c W X) (a : Addr) (pn : List (Addr × Obj)) : XOk defs gl k { c with calm := false } W0 (X.suite a pn) :=
  { o with room := ⟨⟨o.room.rm.dp, o.room.rm.un⟩, o.room.gd⟩, hand := fun z => Bool.noConfusion z, calm := fun z => Bool.noConfusion z, tk := takes0, po := PassesOwn.never }
end
section
variable {defs : Str → Option DefT} {gl : Str → Option D} {k : Nat}
theorem pip_ok {X : Cx} (op : Operator) : PIp X op (fun x y H Q => ∃ i j, x = .int i ∧ y = .int j ∧ ((op = .Add ∧ Q (.int (i + j)) H) ∨ (op = .Sub ∧ Q (.int (i - j)) H))) := by
  intro pins s σ H x y v u Q I r1 r2 h
  obtain ⟨i, j, rfl, rfl, ⟨rfl, q⟩ | ⟨rfl, q⟩⟩ := h
  · exact ip_add pins s σ H _ _ v u Q I r1 r2 ⟨i, j, rfl, rfl, q⟩
  · exact ip_sub pins s σ H _ _ v u Q I r1 r2 ⟨i, j, rfl, rfl, q⟩
theorem relf_len {K : PySem.W.Frag} {w : World} {H : Hp} : ∀ {fs : List (Str × D)} {fv : List (Str × V)}, RelF K w H fs fv → fs.length = fv.length
  | [], fv, r => by simp only [RelF] at r; subst r; rfl
  | (g, d) :: fs, fv, r => by
    simp only [RelF] at r
    obtain ⟨u, us, rfl, r1, r2⟩ := r
    rw [List.length_cons, List.length_cons, relf_len r2]
theorem relf_put {K : PySem.W.Frag} {w : World} {H : Hp} {f : Str} {v : D} {u : V} (rv : RelD K w H v u) : ∀ {fs : List (Str × D)} {fv : List (Str × V)}, RelF K w H fs fv → RelF K w H (putFD f v fs) (putF f u fv)
  | [], fv, r => by simp only [RelF] at r; subst r; simp only [putFD, putF, RelF]; exact ⟨u, [], rfl, rv, rfl⟩
  | (g, d) :: fs, fv, r => by
    simp only [RelF] at r
    obtain ⟨x, us, rfl, r1, r2⟩ := r
    simp only [putFD, putF]
    split
    · simp only [RelF]; exact ⟨u, us, rfl, rv, r2⟩
    · simp only [RelF]; exact ⟨x, _, rfl, r1, relf_put rv r2⟩
theorem for_of {K : PySem.W.Frag} {w : World} {H1 : Hp} {S1 : Sto} {J : It} {ds : List D} {G : Sto → Prop} {g : Tg} {W : WX} {ex : EX} {fb : EndD → StD → Sto → Prop} {σd : StD} {σ : L2.St} {E : EndD} {De : Ends} (rs : RelSt K w H1 σd σ) (hr : HR K w H1 S1) (xk : ExK K w H1 S1 ex W) (wk : WalkD K w J ds G H1)
    (f : forL (fun d N σ S => wpG g d σ S fun σ' => fb { E with nx := N, ct := N, bk := E.nx } σ' S) G E.nx ds σd S1) (ek : EndK K w H1 S1 E De) :
    ∃ W' : Nat → Nat → L2.St → Hp → Prop, (∃ m, W' 0 m σ H1) ∧ ∀ i m σ H, W' i m σ H →
      (J.stop i H ∧ De.nx σ H) ∨ (J.go i H ∧ ∃ N : L2.St → Hp → Prop, (∀ σ' H', N σ' H' → ∃ m', m' < m ∧ W' (i + 1) m' σ' H') ∧ ∀ x H', J.yld i H x H' → gV K g x σ H' fun σ2 H2 => tDS K w W ex fb { De with nx := N, ct := N, bk := De.nx } σ2 H2) := by
  refine ⟨fun i m σ Hh => m = ds.length - i ∧ i ≤ ds.length ∧ ∃ σd S, HR K w Hh S ∧ Fm H1 S1 Hh S ∧ RelSt K w Hh σd σ ∧ forL (fun d N σ S => wpG g d σ S fun σ' => fb { E with nx := N, ct := N, bk := E.nx } σ' S) G E.nx (ds.drop i) σd S,
    ⟨ds.length, by simp, Nat.zero_le _, σd, S1, hr, Fm.refl _ _, rs, by simpa using f⟩, ?_⟩
  rintro i m σ Hh ⟨rfl, hi, σd, S, hh, fm, rs, fl⟩
  by_cases hlt : i < ds.length
  · rw [List.drop_eq_getElem_cons hlt] at fl
    unfold forL at fl
    obtain ⟨gS, ft⟩ := fl
    have exx : Ext H1 Hh := fm.ext hr
    refine .inr ⟨wk.goes i Hh S hlt exx hh gS, fun σ' H' => ∃ σd S, HR K w H' S ∧ Fm H1 S1 H' S ∧ RelSt K w H' σd σ' ∧ forL (fun d N σ S => wpG g d σ S fun σ' => fb { E with nx := N, ct := N, bk := E.nx } σ' S) G E.nx (ds.drop (i + 1)) σd S,
      fun σ' H' z => ⟨ds.length - (i + 1), by omega, rfl, hlt, z⟩, fun x H' y => ?_⟩
    obtain ⟨d, ed, rd, hH⟩ := wk.yields i Hh S x H' hlt exx hh gS y
    rw [List.getElem?_eq_getElem hlt] at ed
    cases ed
    have hh' : HR K w H' S := by
      rcases hH with rfl | ⟨T, xs, nT, rfl⟩
      · exact hh
      · exact hh.tup nT
    have fm2 : Fm Hh S H' S := by
      rcases hH with rfl | ⟨T, xs, nT, rfl⟩
      · exact Fm.refl _ _
      · exact Fm.tup hh nT
    have fm' : Fm H1 S1 H' S := fm.trans fm2
    refine gD_of (vs := []) hh' g _ x σd σ _ _ rd (rs.mono (fm2.ext hh)) ft fun σd2 σ2 h1 h2 _ => ?_
    refine ⟨σd2, S, _, h2, hh', xk.next fm', h1, ⟨fun σd3 S3 h3 σ3 H3 f3 r3 hr3 => ?_, fun d S3 h3 v H3 f3 r3 hr3 => ?_, fun σd3 S3 h3 σ3 H3 f3 r3 hr3 => ?_, fun σd3 S3 h3 σ3 H3 f3 r3 hr3 => ?_⟩⟩
    · exact ⟨σd3, S3, hr3, fm'.trans f3, r3, h3⟩
    · exact ek.rt d S3 h3 v H3 (fm'.trans f3) r3 hr3
    · exact ek.nx σd3 S3 h3 σ3 H3 (fm'.trans f3) r3 hr3
    · exact ⟨σd3, S3, hr3, fm'.trans f3, r3, h3⟩
  · have e : i = ds.length := by omega
    subst e
    rw [List.drop_length] at fl
    unfold forL at fl
    obtain ⟨gS, ft⟩ := fl
    exact .inl ⟨wk.stops Hh S (fm.ext hr) hh gS, ek.nx σd S ft σ Hh fm rs hh⟩
theorem pgs_starred {X : Cx} {e : Expr} {p : Pos} {es : List Expr} {t : TG} {u : TGs} (h1 : PG X e t) (h2 : PGs X es u) : PGs X (.Starred e p :: es) (gCons t u) := by
  refine ⟨fun pins s σ H vs us Q I r h => ?_⟩
  obtain ⟨v, vr, e1, h⟩ := h
  subst e1
  cases r with
  | cons r rr =>
    show wpAny _ _ (assignInOrder (assign e X.env :: (assignEach es X.env).map (·.2)) _) _ _ _
    refine assignInOrder_cons (thn (h1.run pins s σ H _ _ _ I r h) fun _ s1 ⟨σ1, H1, I1, q1⟩ => ?_)
    exact h2.run pins s1 σ1 H1 _ _ Q I1 rr q1
theorem sNames {c : Cc} {W : WX} {X : Cx} (o : XOk defs gl k c W X) : ∀ (is : List Nat) (es : List Expr), chkNames c is es = true → PGs X es (gVs X.K (is.map Tg.nm)) ∧ (assignEach es X.env).length = is.length ∧ (assignEach es X.env).findIdx? (·.1) = none
  | [], es, h => by
    simp only [chkNames] at h
    split at h
    · exact ⟨by simp only [List.map_nil, gVs]; exact pgs_nil, rfl, rfl⟩
    · cases h
  | a :: is, es, h => by
    simp only [chkNames] at h
    split at h
    · simp only [Bool.and_eq_true, decide_eq_true_eq] at h
      obtain ⟨⟨h1, h2⟩, h3⟩ := h
      obtain ⟨l1, l2⟩ := o.loc_of h2
      obtain ⟨p, q, r⟩ := sNames o is _ h3
      refine ⟨?_, ?_, ?_⟩
      · simp only [List.map_cons, gVs, gV]
        exact pgs_cons (pg_name (by rw [o.hN]; exact o.nd) (by rw [o.hN]; exact h1) l1 l2) p rfl
      · show (assignEach _ X.env).length + 1 = _
        rw [q, List.length_cons]
      · show List.findIdx? (·.1) ((false, _) :: assignEach _ X.env) = none
        rw [List.findIdx?_cons]
        simp [r]
    · cases h
theorem sStar {c : Cc} {W : WX} {X : Cx} (o : XOk defs gl k c W X) (i : Nat) (js : List Nat) : ∀ (is : List Nat) (es : List Expr), chkStar c i js is es = true → PGs X es (gVs X.K ((is ++ [i] ++ js).map Tg.nm)) ∧ (assignEach es X.env).length = (is ++ [i] ++ js).length ∧ (assignEach es X.env).findIdx? (·.1) = some is.length
  | [], es, h => by
    simp only [chkStar] at h
    split at h
    · simp only [Bool.and_eq_true, decide_eq_true_eq] at h
      obtain ⟨⟨h1, h2⟩, h3⟩ := h
      obtain ⟨l1, l2⟩ := o.loc_of h2
      obtain ⟨p, q, r⟩ := sNames o js _ h3
      refine ⟨?_, ?_, ?_⟩
      · simp only [List.nil_append, List.cons_append, List.map_cons, gVs, gV]
        exact pgs_starred (pg_name (by rw [o.hN]; exact o.nd) (by rw [o.hN]; exact h1) l1 l2) p
      · show (assignEach _ X.env).length + 1 = _
        rw [q]
        simp
      · show List.findIdx? (·.1) ((true, _) :: assignEach _ X.env) = some 0
        rw [List.findIdx?_cons]
        simp
    · cases h
  | a :: is, es, h => by
    simp only [chkStar] at h
    split at h
    · simp only [Bool.and_eq_true, decide_eq_true_eq] at h
      obtain ⟨⟨h1, h2⟩, h3⟩ := h
      obtain ⟨l1, l2⟩ := o.loc_of h2
      obtain ⟨p, q, r⟩ := sStar o i js is _ h3
      refine ⟨?_, ?_, ?_⟩
      · simp only [List.cons_append, List.map_cons, gVs, gV]
        exact pgs_cons (pg_name (by rw [o.hN]; exact o.nd) (by rw [o.hN]; exact h1) l1 l2) p rfl
      · show (assignEach _ X.env).length + 1 = _
        rw [q]
        simp
      · show List.findIdx? (·.1) ((false, _) :: assignEach _ X.env) = _
        rw [List.findIdx?_cons]
        simp [r]
    · cases h
mutual
theorem sS : ∀ (s : TS) {c : Cc} {W : WX} {ex : EX} {X : Cx} {st : Stmt}, (X.env.scope.kind = .function ∧ X.stack = X.env :: X.outer ∧ X.env.frame = some X.env.locals) → XOk defs gl k c W X → chkS c s st = true → PS X st (tDS X.K X.w W ex (wpS (cw defs gl k) ex s))
  | .ex t, c, W, ex, X, st, hf, o, h => by
    simp only [chkS] at h
    split at h
    · simp only [Bool.and_eq_true] at h
      refine (ps_expr (sE t (ex := ex) o h.1) (nolc_swap (by simpa using h.2))).weak fun De σ H q => ?_
      obtain ⟨σd, S, E, rs, hr, xk, f, ek⟩ := q
      simp only [wpS] at f
      exact ⟨σd, S, _, rs, hr, xk, f, fun d S1 hd v H1 f1 rv h1 => ek.nx _ S1 hd _ H1 f1 (rs.mono (f1.ext hr)) h1⟩
    · cases h
  | .asg g t, c, W, ex, X, st, hf, o, h => by
    simp only [chkS] at h
    split at h
    · simp only [Bool.and_eq_true] at h
      obtain ⟨⟨h1, h2⟩, h3⟩ := h
      rename_i tg e pos
      have main : ∀ {De : Ends} {σ : L2.St} {H : Hp}, tDS X.K X.w W ex (wpS (cw defs gl k) ex (.asg g t)) De σ H → tAsg (tD X.K X.w W ex (wpE (cw defs gl k) ex t)) (gV X.K g) De σ H := fun {De σ H} q => by
        obtain ⟨σd, S, E, rs, hr, xk, f, ek⟩ := q
        simp only [wpS] at f
        exact ⟨σd, S, _, rs, hr, xk, f, fun d S1 hd v H1 f1 rv h1 => gD_of (vs := []) h1 g d v σd σ _ _ rv (rs.mono (f1.ext hr)) hd fun σd2 σ2 h4 h5 _ => ek.nx σd2 S1 h4 σ2 H1 f1 h5 h1⟩
      have PEt := sE t (ex := ex) o h2
      have PGt := sG o g tg h1
      split at h3
      · rename_i x q
        cases g with
        | tup gs => simp only [chkG] at h1; cases h1
        | nm i =>
          simp only [chkG, Bool.and_eq_true, decide_eq_true_eq] at h1
          obtain ⟨l1, l2⟩ := o.loc_of h1.2
          simp only [gV] at main
          simp only [Bool.or_eq_true, Bool.and_eq_true, decide_eq_true_eq, Bool.not_eq_true'] at h3
          rcases h3 with (h3 | h3) | ⟨h3, h4⟩
          · exact (ps_set (by rw [o.hN]; exact o.nd) (by rw [o.hN]; exact h1.1) l1 PEt (nolc_swap h3) l2).weak fun De σ H q => main q
          · exact (ps_set (by rw [o.hN]; exact o.nd) (by rw [o.hN]; exact h1.1) l1 PEt (swap_cell (by rw [o.hsc]; exact h3)) l2).weak fun De σ H q => main q
          · split at h4
            · simp only [Bool.and_eq_true, Bool.not_eq_true'] at h4
              exact (asg_lc (ex := ex) hf.1 o h1.1 h3 h2 h4.1 h4.2).weak fun De σ H q => main q
            · cases h4
      · simp only [Bool.and_eq_true] at h3
        exact (ps_asg PEt PGt (nolc_sole (by simpa using h3.1)) (swap_none h3.2) (by rw [chkG_star h1]; rfl)).weak fun De σ H q => main q
      · cases h3
    · cases h
  | .par i j t u, c, W, ex, X, st, hf, o, h => by
    simp only [chkS] at h
    split at h
    · simp only [Bool.and_eq_true, decide_eq_true_eq, Bool.not_eq_true'] at h
      obtain ⟨⟨⟨⟨⟨⟨⟨⟨⟨⟨h1, h2⟩, h3⟩, h4⟩, h5⟩, h6⟩, h7⟩, h8⟩, h9⟩, h10⟩, hca⟩ := h
      have hp := chkEs_plain h7
      simp only [List.all_cons, List.all_nil, Bool.and_eq_true, Bool.and_true] at hp
      rename_i x q y q2 _ _ a b _ _ _
      have hl5 : X.env.scope.names.lookup x = some .local := by rw [o.hsc]; exact h5
      have hl6 : X.env.scope.names.lookup y = some .local := by rw [o.hsc]; exact h6
      refine (ps_par (o.calm hca) (by rw [o.hN]; exact o.nd) (by rw [o.hN]; exact h1) (by rw [o.hN]; exact h2) h3 hl5 hl6 (sEs [t, u] (ex := ex) o h7) (swap_par hf.1 hl5 hl6 h4 h8 hp.1 hp.2 h9 h10)).weak fun De σ H q => ?_
      obtain ⟨σd, S, E, rs, hr, xk, f, ek⟩ := q
      simp only [wpS] at f
      refine ⟨σd, S, fun ds S1 => match ds with | [x, y] => E.nx ((σd.set i (some x)).set j (some y)) S1 | _ => False, rs, hr, xk, ?_, fun ds S1 hd vs H1 f1 rv h1 => ?_⟩
      · simp only [wpEs]
        exact f
      · dsimp only at hd
        split at hd
        · obtain ⟨v, u, rfl, r1, r2⟩ := relds_two rv
          exact ⟨v, u, rfl, ek.nx _ S1 hd _ H1 f1 (((rs.mono (f1.ext hr)).set r1).set r2) h1⟩
        · exact hd.elim
    · cases h
  | .par3 i j l t u v, c, W, ex, X, st, hf, o, h => by
    simp only [chkS] at h
    split at h
    · simp only [Bool.and_eq_true, decide_eq_true_eq, Bool.not_eq_true'] at h
      obtain ⟨⟨⟨⟨⟨⟨⟨⟨⟨⟨⟨⟨⟨⟨⟨⟨⟨h1, h2⟩, h3⟩, n1⟩, n2⟩, n3⟩, m1⟩, m2⟩, m3⟩, l1⟩, l2⟩, l3⟩, h7⟩, h8⟩, h8'⟩, h9⟩, h10⟩, hca⟩ := h
      have hp := chkEs_plain h7
      simp only [List.all_cons, List.all_nil, Bool.and_eq_true, Bool.and_true] at hp
      rename_i x q y q2 z q3 _ _ a b d _ _ _
      have hl5 : X.env.scope.names.lookup x = some .local := by rw [o.hsc]; exact l1
      have hl6 : X.env.scope.names.lookup y = some .local := by rw [o.hsc]; exact l2
      have hl7 : X.env.scope.names.lookup z = some .local := by rw [o.hsc]; exact l3
      refine (ps_par3 (o.calm hca) (by rw [o.hN]; exact o.nd) (by rw [o.hN]; exact h1) (by rw [o.hN]; exact h2) (by rw [o.hN]; exact h3) n1 n2 n3 hl5 hl6 hl7 (sEs [t, u, v] (ex := ex) o h7) (swap_par3 hf.1 hl5 hl6 hl7 m1 m2 m3 h8 h8' hp.1 hp.2.1 hp.2.2 h9 h10)).weak fun De σ H q => ?_
      obtain ⟨σd, S, E, rs, hr, xk, f, ek⟩ := q
      simp only [wpS] at f
      refine ⟨σd, S, fun ds S1 => match ds with | [x, y, z] => E.nx (((σd.set i (some x)).set j (some y)).set l (some z)) S1 | _ => False, rs, hr, xk, ?_, fun ds S1 hd vs H1 f1 rv h1 => ?_⟩
      · simp only [wpEs]
        exact f
      · dsimp only at hd
        split at hd
        · simp only [RelDs] at rv
          obtain ⟨v1, _, rfl, r1, v2, _, rfl, r2, v3, _, rfl, r3, rfl⟩ := rv
          exact ⟨v1, v2, v3, rfl, ek.nx _ S1 hd _ H1 f1 ((((rs.mono (f1.ext hr)).set r1).set r2).set r3) h1⟩
        · exact hd.elim
    · cases h
  | .star is i js t, c, W, ex, X, st, hf, o, h => by
    simp only [chkS] at h
    split at h
    · rename_i es _ _ e _
      simp only [Bool.and_eq_true] at h
      obtain ⟨⟨⟨⟨h1, h2⟩, h3⟩, h4⟩, hca⟩ := h
      obtain ⟨p, hn, hst⟩ := sStar o i js is es h1
      refine (ps_asg (sE t (ex := ex) o h2) (pg_star (o.calm hca) p hn hst) (nolc_sole (by simpa using h3)) (swap_none h4) rfl).weak fun De σ H q => ?_
      obtain ⟨σd, S, E, rs, hr, xk, f, ek⟩ := q
      simp only [wpS] at f
      refine ⟨σd, S, _, rs, hr, xk, f, fun d S1 hd v H1 f1 rv h1 => ?_⟩
      split at hd
      · rename_i ds e1
        obtain ⟨a, xs, rfl, q1, q2, _⟩ := items_of h1 e1 rv
        have hlen := q1.length
        refine ⟨a, xs, rfl, q2.symm, by simp only [List.length_append, List.length_cons, List.length_nil]; omega, by simp only [List.length_append, List.length_cons, List.length_nil]; omega, by omega, fun p' np => ?_⟩
        have en : xs.length + 1 - (is.length + 1 + js.length) = ds.length - is.length - js.length := by omega
        have em : (xs.drop is.length).drop (ds.length - is.length - js.length) = xs.drop (ds.length - js.length) := by rw [List.drop_drop]; congr 1; omega
        rw [show (is ++ [i] ++ js).length = is.length + 1 + js.length by simp only [List.length_append, List.length_cons, List.length_nil], en, em]
        have rmid : RelDs X.K X.w H1 ((ds.drop is.length).take (ds.length - is.length - js.length)) ((xs.drop is.length).take (ds.length - is.length - js.length)) := (q1.drop _).take _
        have hr2 : HR X.K X.w (upd H1 p' (.lst ((xs.drop is.length).take (ds.length - is.length - js.length)))) (updS S1 p' (.lst ((ds.drop is.length).take (ds.length - is.length - js.length)))) := by
          refine HR.addS (h1.free np) ⟨_, upd_same, RelDs.mono (ext_new np) _ _ rmid⟩
        have f2 : Fm H1 S1 (upd H1 p' (.lst ((xs.drop is.length).take (ds.length - is.length - js.length)))) (updS S1 p' (.lst ((ds.drop is.length).take (ds.length - is.length - js.length)))) := by
          intro b ob eb qb
          have ne : b ≠ p' := ne_of_none eb np
          exact ⟨by rw [upd_ne ne]; exact eb, by rw [updS_ne ne]; exact qb⟩
        have rall : RelDs X.K X.w (upd H1 p' (.lst ((xs.drop is.length).take (ds.length - is.length - js.length)))) (ds.take is.length ++ [.ref p'] ++ ds.drop (ds.length - js.length)) (xs.take is.length ++ [.ref p'] ++ xs.drop (ds.length - js.length)) :=
          ((RelDs.mono (ext_new np) _ _ (q1.take _)).append (by simp only [RelDs, RelD]; exact ⟨_, [], rfl, rfl, rfl⟩)).append (RelDs.mono (ext_new np) _ _ (q1.drop _))
        refine gDs_of (vs := []) hr2 _ _ _ σd σ _ _ rall (rs.mono ((f1.trans f2).ext hr)) (by simp; omega) (hd.2.2 p' (h1.fresh np)) fun σd2 σ2 h4 h5 _ => ek.nx σd2 _ h4 σ2 _ (f1.trans f2) h5 hr2
      · exact hd.elim
    · cases h
  | .set a i t, c, W, ex, X, st, hf, o, h => by
    simp only [chkS] at h
    split at h
    · simp only [Bool.and_eq_true] at h
      obtain ⟨⟨⟨⟨h1, h2⟩, h3⟩, h4⟩, h5⟩ := h
      refine (ps_asg (sE t (ex := ex) o h4) (pg_sub (sE a (ex := ex) o h1) (sE i (ex := ex) o h2) (set_ok o.hu1) (sub_assign h3)) (nolc_sole (by simpa using h5)) rfl rfl).weak fun De σ H q => ?_
      obtain ⟨σd, S, E, rs, hr, xk, f, ek⟩ := q
      simp only [wpS] at f
      refine ⟨σd, S, _, rs, hr, xk, f, fun v S1 hv vv H1 f1 rv h1 => ⟨σd, S1, _, rs.mono (f1.ext hr), h1, xk.next f1, hv, fun oo S2 ho vo H2 f2 ro h2 => ⟨σd, S2, _, rs.mono ((f1.trans f2).ext hr), h2, xk.next (f1.trans f2), ho, fun kk S3 hk vk H3 f3 rk h3 => ?_⟩⟩⟩
      exact ⟨oo, kk, v, S3, _, RelD.mono (f3.ext h2) _ _ ro, rk, RelD.mono ((f2.trans f3).ext h1) _ _ rv, h3, hk, fun S4 h4 H4 f4 h4' => ek.nx _ S4 h4 _ H4 (((f1.trans f2).trans f3).trans f4) (rs.mono ((((f1.trans f2).trans f3).trans f4).ext hr)) h4'⟩
    · cases h
  | .setf a fl t, c, W, ex, X, st, hf, o, h => by
    simp only [chkS] at h
    split at h
    · simp only [Bool.and_eq_true, decide_eq_true_eq] at h
      obtain ⟨⟨⟨⟨h1, h2⟩, h3⟩, h4⟩, h5⟩ := h
      have h1' := h1.symm
      subst h1'
      refine (ps_fld (sE a (ex := ex) o h2) (sE t (ex := ex) o h3) (nolc_swap (by simpa using h4))).weak fun De σ H q => ?_
      obtain ⟨σd, S, E, rs, hr, xk, f, ek⟩ := q
      simp only [wpS] at f
      refine ⟨σd, S, _, rs, hr, xk, f, fun v S1 hv vv H1 f1 rv h1 => ⟨σd, S1, _, rs.mono (f1.ext hr), h1, xk.next f1, hv, fun oo S2 ho vo H2 f2 ro h2 => ?_⟩⟩
      unfold wSetf at ho
      split at ho
      · rename_i p
        split at ho
        · rename_i cn fs es
          simp only [RelD] at ro
          obtain ⟨C, dx, fv, cf, e1, r1⟩ := h2 p _ es
          refine ⟨p, C, dx, fv, ro, e1, cf.cl, cf.na _ (by simpa using h5), by rw [← relf_len r1]; omega, ?_⟩
          refine ek.nx _ _ ho.2 _ _ ((f1.trans f2).trans (Fm.mut es)) ?_ (h2.mut es ⟨C, dx, _, cf, upd_same, ?_⟩)
          · exact rs.mono (((f1.trans f2).trans (Fm.mut (o := .ins C dx (putF fl vv fv)) (ob := .ins cn (putFD fl v fs)) es)).ext hr)
          · exact relf_put (RelD.mono (ext_mut h2 es) _ _ (RelD.mono (f2.ext h1) _ _ rv)) (RelF.mono (ext_mut h2 es) _ _ r1)
        · exact ho.elim
      · exact ho.elim
    · cases h
  | .aug op i t, c, W, ex, X, st, hf, o, h => by
    simp only [chkS] at h
    split at h
    · simp only [Bool.and_eq_true, decide_eq_true_eq] at h
      obtain ⟨⟨⟨rfl, h1⟩, h2⟩, h3⟩ := h
      obtain ⟨l1, l2⟩ := o.loc_of h2
      refine (ps_aug (by rw [o.hN]; exact o.nd) (by rw [o.hN]; exact h1) l1 (sE t (ex := ex) o h3) (pip_ok op) l2).weak fun De σ H q => ?_
      obtain ⟨σd, S, E, rs, hr, xk, f, ek⟩ := q
      simp only [wpS] at f
      split at f
      · rename_i x ed
        obtain ⟨v, e1, e2⟩ := rs.get ed
        simp only [RelD] at e2
        subst e2
        refine ⟨_, e1, σd, S, _, rs, hr, xk, f, fun d S1 hd u H1 f1 ru h1 => ?_⟩
        split at hd
        · simp only [RelD] at ru
          exact ⟨_, _, rfl, ru, .inl ⟨rfl, ek.nx _ S1 hd _ H1 f1 ((rs.mono (f1.ext hr)).set (by simp only [RelD])) h1⟩⟩
        · simp only [RelD] at ru
          exact ⟨_, _, rfl, ru, .inr ⟨rfl, ek.nx _ S1 hd _ H1 f1 ((rs.mono (f1.ext hr)).set (by simp only [RelD])) h1⟩⟩
        · exact hd.elim
      · exact f.elim
    · cases h
  | .ife t a b, c, W, ex, X, st, hf, o, h => by
    simp only [chkS] at h
    split at h
    · simp only [Bool.and_eq_true] at h
      obtain ⟨⟨h1, h2⟩, h3⟩ := h
      refine (ps_if (sT t (ex := ex) o h1) (sSs a (ex := ex) hf o h2) (sSs b (ex := ex) hf o h3)).weak fun De σ H q => ?_
      obtain ⟨σd, S, E, rs, hr, xk, f, ek⟩ := q
      simp only [wpS] at f
      refine ⟨σd, S, _, rs, hr, xk, f, fun bb S1 hb H1 f1 h1' => ?_⟩
      cases bb with
      | true =>
        rw [if_pos rfl] at hb ⊢
        exact ⟨σd, S1, E, rs.mono (f1.ext hr), h1', xk.next f1, hb, ek.next f1⟩
      | false =>
        rw [if_neg Bool.false_ne_true] at hb ⊢
        exact ⟨σd, S1, E, rs.mono (f1.ext hr), h1', xk.next f1, hb, ek.next f1⟩
    · cases h
  | .whil t b, c, W, ex, X, st, hf, o, h => by
    simp only [chkS] at h
    split at h
    · simp only [Bool.and_eq_true] at h
      obtain ⟨h1, h2⟩ := h
      refine (ps_while o.po (sT t (ex := ex) o h1) (sSs b (ex := ex) hf o h2)).weak fun De σ H q => ?_
      obtain ⟨σd, S, E, rs, hr, xk, f, ek⟩ := q
      simp only [wpS] at f
      obtain ⟨Wd, ⟨m0, w0⟩, turn⟩ := f
      refine ⟨fun m σ Hh => ∃ σd Sh, HR X.K X.w Hh Sh ∧ Fm H S Hh Sh ∧ RelSt X.K X.w Hh σd σ ∧ Wd m σd Sh, ⟨m0, σd, S, hr, Fm.refl _ _, rs, w0⟩, ?_⟩
      rintro m σ Hh ⟨σd, Sh, hh, fm, rs, wm⟩
      refine ⟨σd, Sh, _, rs, hh, xk.next fm, turn m σd Sh wm, fun bb S1 hb H1 f1 h1' => ?_⟩
      have fm1 := fm.trans f1
      have rs1 := rs.mono (f1.ext hh)
      cases bb with
      | true =>
        rw [if_pos rfl] at hb
        dsimp only
        rw [if_pos rfl]
        refine ⟨fun σ' H' => ∃ m', m' < m ∧ ∃ σd Sh, HR X.K X.w H' Sh ∧ Fm H S H' Sh ∧ RelSt X.K X.w H' σd σ' ∧ Wd m' σd Sh, fun σ' H' z => z, σd, S1, _, rs1, h1', xk.next fm1, hb,
          ⟨fun σd3 S3 h3 σ3 H3 f3 r3 hr3 => ?_, fun d S3 h3 v H3 f3 r3 hr3 => ek.rt d S3 h3 v H3 (fm1.trans f3) r3 hr3, fun σd3 S3 h3 σ3 H3 f3 r3 hr3 => ek.nx σd3 S3 h3 σ3 H3 (fm1.trans f3) r3 hr3, fun σd3 S3 h3 σ3 H3 f3 r3 hr3 => ?_⟩⟩
        · obtain ⟨m', hm, hw⟩ := h3
          exact ⟨m', hm, σd3, S3, hr3, fm1.trans f3, r3, hw⟩
        · obtain ⟨m', hm, hw⟩ := h3
          exact ⟨m', hm, σd3, S3, hr3, fm1.trans f3, r3, hw⟩
      | false =>
        rw [if_neg Bool.false_ne_true] at hb
        dsimp only
        rw [if_neg Bool.false_ne_true]
        exact ek.nx σd S1 hb σ H1 fm1 rs1 h1'
    · cases h
  | .fr g it b, c, W, ex, X, st, hf, o, h => by
    simp only [chkS] at h
    split at h
    · simp only [Bool.and_eq_true] at h
      obtain ⟨⟨⟨⟨h1, h2⟩, h3⟩, h4⟩, hca⟩ := h
      refine (ps_for o.po (o.calm hca) (sI it (ex := ex) o h1) (sG o g _ h2) (sSs b (ex := ex) hf o h3) (plain_fold h4)).weak fun De σ H q => ?_
      obtain ⟨σd, S, E, rs, hr, xk, f, ek⟩ := q
      simp only [wpS] at f
      exact ⟨σd, S, _, rs, hr, xk, f, fun ds G S1 hd J H1 f1 h1' wk => for_of (rs.mono (f1.ext hr)) h1' (xk.next f1) wk hd (ek.next f1)⟩
    · cases h
  | .ret t, c, W, ex, X, st, hf, o, h => by
    simp only [chkS] at h
    split at h
    · refine (ps_ret (sE t (ex := ex) o h)).weak fun De σ H q => ?_
      obtain ⟨σd, S, E, rs, hr, xk, f, ek⟩ := q
      simp only [wpS] at f
      exact ⟨σd, S, _, rs, hr, xk, f, fun d S1 hd v H1 f1 rv h1 => ek.rt d S1 hd v H1 f1 rv h1⟩
    · cases h
  | .retN, c, W, ex, X, st, hf, o, h => by
    simp only [chkS] at h
    split at h
    · refine ps_retN.weak fun De σ H q => ?_
      obtain ⟨σd, S, E, rs, hr, xk, f, ek⟩ := q
      simp only [wpS] at f
      exact ek.rt _ S f _ H (Fm.refl _ _) (by simp only [RelD]) hr
    · cases h
  | .pass, c, W, ex, X, st, hf, o, h => by
    simp only [chkS] at h
    split at h
    · refine ps_pass.weak fun De σ H q => ?_
      obtain ⟨σd, S, E, rs, hr, xk, f, ek⟩ := q
      simp only [wpS] at f
      exact ek.nx _ S f _ H (Fm.refl _ _) rs hr
    · cases h
  | .brk, c, W, ex, X, st, hf, o, h => by
    simp only [chkS] at h
    split at h
    · refine ps_break.weak fun De σ H q => ?_
      obtain ⟨σd, S, E, rs, hr, xk, f, ek⟩ := q
      simp only [wpS] at f
      exact ek.bk _ S f _ H (Fm.refl _ _) rs hr
    · cases h
  | .cont, c, W, ex, X, st, hf, o, h => by
    simp only [chkS] at h
    split at h
    · refine ps_continue.weak fun De σ H q => ?_
      obtain ⟨σd, S, E, rs, hr, xk, f, ek⟩ := q
      simp only [wpS] at f
      exact ek.ct _ S f _ H (Fm.refl _ _) rs hr
    · cases h
  | .never, c, W, ex, X, st, hf, o, h => ps_never.weak fun De σ H q => by
      obtain ⟨σd, S, E, rs, hr, xk, f, ek⟩ := q
      simp only [wpS] at f
  | .rais n ts, c, W, ex, X, st, hf, o, h => by
    simp only [chkS] at h
    split at h
    · simp only [Bool.and_eq_true, decide_eq_true_eq, Bool.not_eq_true'] at h
      obtain ⟨⟨⟨⟨⟨rfl, h1⟩, h2⟩, h3⟩, h4⟩, hca⟩ := h
      obtain ⟨g1, g2, g3⟩ := o.gl_of h1
      obtain ⟨ns, C, fI, fd, e1, RF⟩ := o.xr _ h4
      have hp := chkEs_plain h2
      have PAs := sEs ts (ex := ex) o h2
      rename_i es _ _
      cases es with
      | nil => simp at h3
      | cons e0 es =>
        rw [List.all_cons, Bool.and_eq_true] at hp
        refine (ps_raisD RF (o.calm hca) o.tk ((o.rm hca).rm.mono (by omega)) g1 g2 PAs (plain_star hp.1) (star_all hp.2)).weak fun De σ H q => ?_
        obtain ⟨σd, S, E, rs, hr, xk, f, ek⟩ := q
        simp only [wpS, e1] at f
        refine ⟨σd, S, _, rs, hr, xk, f, fun ds S1 hd vs H1 f1 rv h1' => ?_⟩
        have hl := rv.length
        have hnl : ns.length ≤ 2 := xcl_len e1
        refine rInner_of (by rw [← hl]; exact hd.1) (by rw [← hl, hd.1]; omega) fun dx nd => ?_
        have rv' := RelDs.mono (ext_new (o := .xd (ns.zip vs).reverse) nd) _ _ rv
        refine xk _ _ S1 hd.2 σ _ _ _ (f1.trans (Fm.tup h1' nd)) (rs.mono ((f1.trans (Fm.tup (o := .xd (ns.zip vs).reverse) h1' nd)).ext hr)) ⟨C, dx, vs.reverse, rfl, RF.cls, rfl, ?_, rv'.reverse⟩ (HR.xd h1' nd)
        rw [upd_same]
        congr 2
        exact zip_rev (by rw [← hl]; exact hd.1.symm)
    · cases h
  | .tryx b m i hd, c, W, ex, X, st, hf, o, h => by
    simp only [chkS] at h
    split at h
    · simp only [Bool.and_eq_true, decide_eq_true_eq] at h
      obtain ⟨⟨⟨⟨⟨⟨⟨⟨h1, h2⟩, h3⟩, h4⟩, h5⟩, h6⟩, h7⟩, h8⟩, hca⟩ := h
      subst h1
      obtain ⟨g1, g2, g3⟩ := o.gl_of h2
      obtain ⟨M, m1, m2⟩ := o.xs _ h8
      rename_i body x _ nm b0 suite _ _
      have hln : X.env.kindOf nm = some .local := by show X.env.scope.names.lookup nm = _; rw [o.hsc]; exact h4
      refine (ps_tryK (i := i) (c := .ref M) (Wout := W) (tb := fun W' D σ H => ∃ ex', tDS X.K X.w W' ex' (wpSs (cw defs gl k) ex' b) D σ H) (ts := fun a oe => tDS X.K X.w W0 ex0 (wpSs (cw defs gl k) ex0 hd)) hf.2.1 hf.2.2 (by rw [o.hN]; exact o.nd) (by rw [o.hN]; exact h3) hln ⟨g1, g2, .inl m1⟩ o.tk
        (fun W' pn xe tk' po' => ⟨fun pins s σ H D I ⟨ex', q⟩ => (sSs b (c := c) (ex := ex') (X := X.tr pn xe) hf (o.tr tk' po') h5).run pins s σ H D I q⟩) (fun a oe pn => sSs hd (c := { c with calm := false }) (X := X.suite a pn) hf (o.suite a pn) h6)).weak fun De σ H q => ?_
      obtain ⟨σd, S, E, rs, hr, xk, f, ek⟩ := q
      simp only [wpS] at f
      refine ⟨_, σd, S, E, rs, hr, fun x σd' S' hx σ' H' cls d fm rs' rx hr' => ?_, f, ek⟩
      obtain ⟨C, da, vs, rfl, xc, rfl, q1, q2⟩ := rx
      refine ⟨_, (xc.is _ (by simpa using h7) M m2).2, fun e => ?_, fun e => ?_⟩
      · intro a oe na hz hfv
        have e := of_decide_eq_true e
        rw [if_pos e] at hx
        have fm2 : Fm H' S' (upd H' a (kept oe)) S' := Fm.tup hr' na
        have ext2 := ext_new (o := kept oe) na
        have fm3 := fm.trans fm2
        refine ⟨_, S', _, (rs'.mono ext2).set ?_, HR.keep hr' na, exk0, hx, ⟨fun σd2 S2 h2 σ2 H2 f2 r2 hr2 => ek.nx _ S2 h2 _ H2 (fm3.trans f2) r2.unset hr2, fun d S2 h2 v H2 f2 r2 hr2 => ek.rt d S2 h2 v H2 (fm3.trans f2) r2 hr2, fun σd2 S2 h2 σ2 H2 f2 r2 hr2 => ek.bk _ S2 h2 _ H2 (fm3.trans f2) r2.unset hr2, fun σd2 S2 h2 σ2 H2 f2 r2 hr2 => ek.ct _ S2 h2 _ H2 (fm3.trans f2) r2.unset hr2⟩⟩
        simp only [RelD]
        exact ⟨a, oe, C, da, vs, rfl, xc, upd_same, hz.1, hz.2, hfv, ext2.xd _ _ q1, RelDs.mono ext2 _ _ q2⟩
      · have e := of_decide_eq_false e
        rw [if_neg e] at hx
        exact xk x σd' S' hx σ' H' _ _ fm rs' ⟨C, da, vs, rfl, xc, rfl, q1, q2⟩ hr'
    · cases h
theorem sSs : ∀ (s : List TS) {c : Cc} {W : WX} {ex : EX} {X : Cx} {st : List Stmt}, (X.env.scope.kind = .function ∧ X.stack = X.env :: X.outer ∧ X.env.frame = some X.env.locals) → XOk defs gl k c W X → chkSs c s st = true → PSs X st (tDS X.K X.w W ex (wpSs (cw defs gl k) ex s))
  | [], c, W, ex, X, st, hf, o, h => by
    simp only [chkSs] at h
    split at h
    · refine pss_nil.weak fun De σ H q => ?_
      obtain ⟨σd, S, E, rs, hr, xk, f, ek⟩ := q
      simp only [wpSs] at f
      exact ek.nx _ S f _ H (Fm.refl _ _) rs hr
    · cases h
  | s :: ss, c, W, ex, X, st, hf, o, h => by
    simp only [chkSs] at h
    split at h
    · cases h
    · simp only [Bool.and_eq_true] at h
      refine (pss_cons (sS s (ex := ex) hf o h.1) (sSs ss (ex := ex) hf o h.2)).weak fun De σ H q => ?_
      obtain ⟨σd, S, E, rs, hr, xk, f, ek⟩ := q
      simp only [wpSs] at f
      exact ⟨σd, S, _, rs, hr, xk, f, ⟨fun σd1 S1 h1 σ1 H1 f1 r1 hr1 => ⟨σd1, S1, E, r1, hr1, xk.next f1, h1, ek.next f1⟩, ek.rt, ek.bk, ek.ct⟩⟩
end
end
end Z

set_option Elab.async false
set_option linter.all false
set_option maxRecDepth 100000
set_option maxHeartbeats 4000000
namespace Z
open PySem PySem.Spec PyProof.Rows L2
section
variable {P : Program} {w : World} {K : PySem.W.Frag} {mg : Str → Option Value} {base : Heap} {defs : Str → Option DefT} {gl : Str → Option D}
structure DFact (K : PySem.W.Frag) (w : World) (mg : Str → Option Value) (dfs xs xr hot : List Str) (ms : List (Str × Str × Str)) (mks : List (Str × Str × Nat)) (f : Str) (d : DefT) (fa : Addr) (fd : FuncData) (N ps : List Str) (st : Stmt) : Prop where
  mgf : dfs.contains f = true → mg f = some (.ref fa)
  fn : ∃ nm dvs kws, FunD K nm f (defArgs st) (defBody st) (defScope st) dvs kws fa fd
  fnH : hot.contains f = true → Fun K f f st fa fd
  bd : kwT f = none → Binds K fd ps []
  kb : ∀ n ks, kwT f = some (n, ks) → KBn K fd ps n ks (fun us ws => us ++ ws) (fun vs zs => vs ++ zs)
  np : ps.length = d.np
  ns : N.length = d.ns
  sc : FnScope N ps (defScope st)
  ck : chkSs ⟨N, defScope st, fun _ => true, dfs, xs, xr, hot, ms, mks, true⟩ d.body (defBody st) = true
  ckH : hot.contains f = true → chkSs ⟨N, defScope st, fun _ => true, dfs, xs, xr, hot, ms, mks, false⟩ d.body (defBody st) = true
  msf : ∀ cn m, ms.contains (f, cn, m) = true → ∃ C, ClsF K cn C ∧ Meth K C m fa
  mkf : ∀ cn n, mks.contains (f, cn, n) = true → ∃ C dz dvs, ClsF K cn C ∧ mg cn = some (.ref C) ∧ Mk K C fa ∧ Binds K fd ps dz ∧ Vals dvs dz ∧ ∀ H, RelDs K w H (padT f n) dvs
  mkk : ∀ n ks, mkT f = some (n, ks) → KBn K fd ps (n + 1) ks (fun us ws => us ++ ws) (fun vs zs => vs ++ zs)
structure GFact (K : PySem.W.Frag) (w : World) (mg : Str → Option Value) (dfs xs xr hot : List Str) (ms : List (Str × Str × Str)) (mks : List (Str × Str × Nat)) (defs : Str → Option DefT) (gl : Str → Option D) : Prop where
  df : ∀ f d, defs f = some d → ∃ fa fd N ps st, DFact K w mg dfs xs xr hot ms mks f d fa fd N ps st
  hdf : ∀ f, dfs.contains f = true → ∃ d, defs f = some d
  hms : ∀ q cn m, ms.contains (q, cn, m) = true → ∃ d, defs q = some d
  hmk : ∀ q cn n, mks.contains (q, cn, n) = true → ∃ d, defs q = some d
  nkw : ∀ g, (hot.contains g = true ∨ ∃ cn m, ms.contains (g, cn, m) = true) → kwT g = none
  hotd : ∀ g, hot.contains g = true → ∀ fa fd N ps st d, DFact K w mg dfs xs xr hot ms mks g d fa fd N ps st → mg g = some (.ref fa)
  gls : ∀ x d, gl x = some d → ∃ u v, mg x = some u ∧ RelV v u ∧ ∀ H, RelD K w H d v
  blt : ∀ n ∈ bnames, mg (Str.ofString n) = none
  xs : ∀ m, xs.contains m = true → ∃ M, mg m = some (.ref M) ∧ PySem.W.nsIn K mainGlobals m = some (some (.ref M))
  xr : ∀ n, xr.contains n = true → ∃ ns C fI fd, xcl n = some ns ∧ RFact K mg n ns C fI fd
theorem relst_start {H : Hp} {N : List Str} {ds : List D} {vs : List V} {ns : Nat} (hn : N.length = ns) (r : RelDs K w H ds vs) : RelSt K w H (startD ns ds) (L2.start N vs) := by
  unfold startD L2.start
  have hl := r.length
  refine ⟨by simp [hn, hl], fun i d e => ?_⟩
  by_cases hi : i < ds.length
  · rw [List.getElem?_append_left (by simpa using hi), List.getElem?_map] at e
    rw [List.getElem?_append_left (by rw [List.length_map, ← hl]; exact hi), List.getElem?_map]
    cases q : ds[i]? with
    | none => rw [q] at e; cases e
    | some d' =>
      rw [q] at e
      cases e
      obtain ⟨v, h1, h2⟩ := r.get q
      exact ⟨v, by rw [h1]; rfl, h2⟩
  · rw [List.getElem?_append_right (by simpa using hi)] at e
    rw [List.getElem?_replicate] at e
    split at e <;> cases e
theorem all_ok2 {dfs xs xr hot : List Str} {ms : List (Str × Str × Str)} {mks : List (Str × Str × Nat)} (G : GFact K w mg dfs xs xr hot ms mks defs gl) : ∀ (k : Nat) (f : Str) (d : DefT) (fa : Addr) (fd : FuncData) (N ps : List Str) (st : Stmt), defs f = some d → DFact K w mg dfs xs xr hot ms mks f d fa fd N ps st →
    FnG P w K mg base (L2.CX P w) (2 * k + 2) fa fd ps (spD K w d.np (sem defs gl k f)) ∧ (hot.contains f = true → FnQ P w K mg base (L2.CX P w) (2 * k + 2) fa fd ps (spD K w d.np (sem defs gl k f))) := by
  intro k
  induction k with
  | zero =>
    intro f d fa fd N ps st ed F
    exact ⟨⟨fun vs H Q E h => by obtain ⟨_, _, _, _, _, _, _, z, _⟩ := h; exact z.elim, fun A outer s H args us vs Q E _ _ _ _ h => by obtain ⟨_, _, _, _, _, _, _, z, _⟩ := h; exact z.elim⟩, fun _ => ⟨fun vs H Q E h => by obtain ⟨_, _, _, _, _, _, _, z, _⟩ := h; exact z.elim, fun A outer s H args us vs Q E _ _ _ _ h => by obtain ⟨_, _, _, _, _, _, _, z, _⟩ := h; exact z.elim⟩⟩
  | succ k ih =>
    intro f d fa fd N ps st ed F
    have hln : ∀ vs H Q E, spD K w d.np (sem defs gl (k + 1) f) vs H Q E → vs.length = ps.length := fun vs H Q E h => by
      obtain ⟨ds, _, _, _, hl, rd, _⟩ := h
      rw [← rd.length, hl, F.np]
    have calK : ∀ g dg n ks, dfs.contains g = true → kwT g = some (n, ks) → defs g = some dg → ∃ fa fd ps, mg g = some (.ref fa) ∧ PySem.W.keepIn K (.ref fa) = true ∧ KBn K fd ps n ks (fun us ws => us ++ ws) (fun vs zs => vs ++ zs) ∧ ps.length = dg.np ∧ FnG P w K mg base (L2.CX P w) (2 * k + 2) fa fd ps (spD K w dg.np (sem defs gl k g)) := fun g dg n ks hg hk eg => by
      obtain ⟨fa', fd', N', ps', st', F'⟩ := G.df g dg eg
      obtain ⟨_, _, _, fn'⟩ := F'.fn
      exact ⟨fa', fd', ps', F'.mgf hg, fn'.kp, F'.kb n ks hk, F'.np, (ih g dg fa' fd' N' ps' st' eg F').1⟩
    have cal : ∀ g dg, dfs.contains g = true → kwT g = none → defs g = some dg → ∃ fa fd ps, mg g = some (.ref fa) ∧ PySem.W.keepIn K (.ref fa) = true ∧ Binds K fd ps [] ∧ ps.length = dg.np ∧ FnG P w K mg base (L2.CX P w) (2 * k + 2) fa fd ps (spD K w dg.np (sem defs gl k g)) := fun g dg hg hkw eg => by
      obtain ⟨fa', fd', N', ps', st', F'⟩ := G.df g dg eg
      obtain ⟨_, _, _, fn'⟩ := F'.fn
      exact ⟨fa', fd', ps', F'.mgf hg, fn'.kp, F'.bd hkw, F'.np, (ih g dg fa' fd' N' ps' st' eg F').1⟩
    have calH : ∀ g dg, hot.contains g = true → defs g = some dg → ∃ fa fd ps, mg g = some (.ref fa) ∧ PySem.W.keepIn K (.ref fa) = true ∧ Binds K fd ps [] ∧ ps.length = dg.np ∧ FnQ P w K mg base (L2.CX P w) (2 * k + 2) fa fd ps (spD K w dg.np (sem defs gl k g)) := fun g dg hg eg => by
      obtain ⟨fa', fd', N', ps', st', F'⟩ := G.df g dg eg
      exact ⟨fa', fd', ps', G.hotd g hg fa' fd' N' ps' st' dg F', (F'.fnH hg).kp, F'.bd (G.nkw g (.inl hg)), F'.np, (ih g dg fa' fd' N' ps' st' eg F').2 hg⟩
    have cms : ∀ q cn m, ms.contains (q, cn, m) = true → ∃ d C f fd ps, defs q = some d ∧ ClsF K cn C ∧ Meth K C m f ∧ Binds K fd ps [] ∧ ps.length = d.np ∧ FnG P w K mg base (L2.CX P w) (2 * k + 2) f fd ps (spD K w d.np (sem defs gl k q)) := fun q cn m hm => by
      obtain ⟨d', eg⟩ := G.hms q cn m hm
      obtain ⟨fa', fd', N', ps', st', F'⟩ := G.df q d' eg
      obtain ⟨C, cf, mt⟩ := F'.msf cn m hm
      exact ⟨d', C, fa', fd', ps', eg, cf, mt, F'.bd (G.nkw q (.inr ⟨cn, m, hm⟩)), F'.np, (ih q d' fa' fd' N' ps' st' eg F').1⟩
    have cmk : ∀ q cn n, mks.contains (q, cn, n) = true → ∃ d C f fd ps dz dvs, defs q = some d ∧ ClsF K cn C ∧ mg cn = some (.ref C) ∧ Mk K C f ∧ Binds K fd ps dz ∧ Vals dvs dz ∧ (∀ H, RelDs K w H (padT q n) dvs) ∧ ps.length = d.np ∧ FnG P w K mg base (L2.CX P w) (2 * k + 2) f fd ps (spD K w d.np (sem defs gl k q)) := fun q cn n hm => by
      obtain ⟨d', eg⟩ := G.hmk q cn n hm
      obtain ⟨fa', fd', N', ps', st', F'⟩ := G.df q d' eg
      obtain ⟨C, dz, dvs, cf, m1, mk, bd, vd, rp⟩ := F'.mkf cn n hm
      exact ⟨d', C, fa', fd', ps', dz, dvs, eg, cf, m1, mk, bd, vd, rp, F'.np, (ih q d' fa' fd' N' ps' st' eg F').1⟩
    have cmkk : ∀ q cn n ks, mkT q = some (n, ks) → mks.contains (q, cn, n + ks.length) = true → ∃ d C f fd ps, defs q = some d ∧ ClsF K cn C ∧ mg cn = some (.ref C) ∧ Mk K C f ∧ KBn K fd ps (n + 1) ks (fun us ws => us ++ ws) (fun vs zs => vs ++ zs) ∧ ps.length = d.np ∧ FnG P w K mg base (L2.CX P w) (2 * k + 2) f fd ps (spD K w d.np (sem defs gl k q)) := fun q cn n ks hk hm => by
      obtain ⟨d', eg⟩ := G.hmk q cn _ hm
      obtain ⟨fa', fd', N', ps', st', F'⟩ := G.df q d' eg
      obtain ⟨C, dz, dvs, cf, m1, mk, _⟩ := F'.mkf cn _ hm
      exact ⟨d', C, fa', fd', ps', eg, cf, m1, mk, F'.mkk n ks hk, F'.np, (ih q d' fa' fd' N' ps' st' eg F').1⟩
    obtain ⟨nm0, dvs0, kws0, fn0⟩ := F.fn
    refine ⟨fng_of fn0 F.sc hln fun cdv A outer s H vs Q E hr h => ?_, fun hhot => fnq_of (F.fnH hhot) F.sc hln fun cdv A outer s H vs Q E p hr h => ?_⟩
    · obtain ⟨ds, S, R, RX, hl, rd, hh, f', kk, xx⟩ := h
      simp only [sem, ed] at f'
      have o : XOk defs gl k ⟨N, defScope st, fun _ => true, dfs, xs, xr, hot, ms, mks, true⟩ (fun cls d _ H => E cls d H) (cxOf (L2.CX P w) P w K mg base N f (defScope st) fa cdv A outer s H E) :=
        { cal := cal, calK := calK, calH := calH, xs := G.xs, xr := G.xr, ms := cms, mks := cmk, mkk := cmkk, gls := G.gls, blt := G.blt, hN := rfl, hsc := rfl, hfn := rfl, room := ⟨L2H.roomH_of hr.rm, hr.gd⟩, hand := fun _ => hr.rm.hd, calm := fun _ => rfl, tk := takes_of rfl rfl rfl rfl, po := passes_of rfl, nd := F.sc.nd, hdf := G.hdf }
      refine ⟨_, sSs d.body (ex := fun x _ S' => RX x S') ⟨F.sc.kind, rfl, rfl⟩ o F.ck, ?_⟩
      refine ⟨startD d.ns ds, S, _, relst_start F.ns rd, hh, fun x σd S' hx σ H' cls dd fm rs rx hr' => xx x S' hx cls dd H' fm rx hr', f'.2, ⟨fun σd S' hx σ H' fm rs hr' => ?_, fun d S' hx v H' fm rv hr' => kk d S' hx v H' fm rv hr', fun σd S' hx => hx.elim, fun σd S' hx => hx.elim⟩⟩
      exact kk _ S' hx _ H' fm (by simp only [RelD]) hr'
    · obtain ⟨ds, S, R, RX, hl, rd, hh, f', kk, xx⟩ := h
      simp only [sem, ed] at f'
      have o : XOk defs gl k ⟨N, defScope st, fun _ => true, dfs, xs, xr, hot, ms, mks, false⟩ (fun cls d _ H => E cls d H) (L2H.cxH (L2.CX P w) P w K mg base N f (defScope st) fa cdv A outer s H E p) :=
        { cal := cal, calK := calK, calH := calH, xs := G.xs, xr := G.xr, ms := cms, mks := cmk, mkk := cmkk, gls := G.gls, blt := G.blt, hN := rfl, hsc := rfl, hfn := rfl, room := hr, hand := fun z => Bool.noConfusion z, calm := fun z => Bool.noConfusion z, tk := takes_of rfl rfl rfl rfl, po := passes_of rfl, nd := F.sc.nd, hdf := G.hdf }
      refine ⟨_, sSs d.body (ex := fun x _ S' => RX x S') ⟨F.sc.kind, rfl, rfl⟩ o (F.ckH hhot), ?_⟩
      refine ⟨startD d.ns ds, S, _, relst_start F.ns rd, hh, fun x σd S' hx σ H' cls dd fm rs rx hr' => xx x S' hx cls dd H' fm rx hr', f'.2, ⟨fun σd S' hx σ H' fm rs hr' => ?_, fun d S' hx v H' fm rv hr' => kk d S' hx v H' fm rv hr', fun σd S' hx => hx.elim, fun σd S' hx => hx.elim⟩⟩
      exact kk _ S' hx _ H' fm (by simp only [RelD]) hr'
theorem all_ok {dfs xs xr hot : List Str} {ms : List (Str × Str × Str)} {mks : List (Str × Str × Nat)} (G : GFact K w mg dfs xs xr hot ms mks defs gl) (k : Nat) (f : Str) (d : DefT) (fa : Addr) (fd : FuncData) (N ps : List Str) (st : Stmt) (ed : defs f = some d) (F : DFact K w mg dfs xs xr hot ms mks f d fa fd N ps st) :
    FnG P w K mg base (L2.CX P w) (2 * k + 2) fa fd ps (spD K w d.np (sem defs gl k f)) := (all_ok2 G k f d fa fd N ps st ed F).1
theorem law_sp {k : Nat} {H : Hp} {a : Addr} {ns : List Int} (hO : Only H) (hS : SqL K H a (ns.map V.int))
    (h : ∀ S : Sto, (∀ b, S b = none) → sem defs gl k "law" [.kl (ns.map D.int)] S (fun d _ => d = .bl true) fun _ _ => False) :
    spD K w 1 (sem defs gl k "law") [.ref a] H (fun v _ => v = .bl true) fun _ _ _ => False := by
  have fl : FL K H a (ns.map V.int) := by
    rcases hS with (hS | ⟨o, hS⟩) | hS
    · rcases hO a with z | ⟨o, xs, z⟩ <;> (rw [hS] at z; cases z)
    · exact .inl ⟨o, hS⟩
    · exact .inr hS
  refine ⟨[.kl (ns.map D.int)], fun _ => none, _, _, rfl, ?_, fun b ob z => (nomatch z), h _ (fun _ => rfl), fun d S' hd v H' fm rv hr => ?_, fun x S' hx => hx.elim⟩
  · simp only [RelDs, RelD]
    exact ⟨_, [], rfl, ⟨a, _, rfl, fl, RelDs.of_ints ns⟩, rfl⟩
  · subst hd
    simpa only [RelD] using rv
theorem cx_false {H : Hp} {s : Shared} {e : Value} {s' : Shared} (h : L2.CX P w [] H s (fun _ _ _ => False) e s') : False := by
  obtain ⟨_, _, _, _, _, _, _, _, _, _, _, _, z⟩ := h
  exact z
end
end Z

set_option Elab.async false
set_option linter.all false
set_option maxRecDepth 100000
set_option maxHeartbeats 4000000
namespace Z
open PySem PySem.Spec PyProof.Rows L2
theorem law_callG {P : Program} {w : World} {K : PySem.W.Frag} {mg mb : Str → Option Value} {CX : CXT} {k : Nat} {fa a : Addr} {fd : FuncData} {x : Str} {sp : Sp} {t0 : Shared} {vs : List Value} {ns : List Int}
    (KX : K.In t0.heap) (hns : t0.heap.Ns mainGlobals mg) (hb : t0.heap.Ns builtinsNs mb) (hbb : ∀ x : Str, x ≠ "__name__" → mb x = bootBuiltins x) (hlim : t0.heap.NoLimit) (hg : t0.gens = #[]) (ha : t0.heap.get? a = some { cls := .type "list", data := .seq vs.toArray }) (hi : IntsAre vs ns) (hl : ns.length ≤ sizeLine) (hr : RoomG k callerA)
    (F : ∀ base : Heap, K.In base → base.Ns mainGlobals mg → FnG P w K mg base CX k fa fd [x] sp) (hbind : ∀ (s : Shared) (u : Value), BindsTo s fd ⟨[u], []⟩ [(x, u)]) (hsp : ∀ H : Hp, Only H → SqL K H a (ns.map V.int) → sp [.ref a] H (fun v _ => v = .bl true) fun _ _ _ => False) (hCX : ∀ H e s', CX [] H t0 (fun _ _ _ => False) e s' → False) :
    codeAny (model P w) callerA (.call (.ref fa) ⟨[.ref a], []⟩) (fun r s' => r = .ok (.ret (.bool true)) ∧ OldK t0.heap s'.heap ∧ s'.os = t0.os ∧ AllBare s'.gens) t0 := by
  have rv := vals_ints hi; have lenV := hi.length
  have core : ∀ H : Hp, Only H → SqL K H a (ns.map V.int) → HOk P w H t0.heap → (∀ b, H b ≠ none → b = a) → (H a ≠ none → K.lookup a = none) → codeAny (model P w) callerA (.call (.ref fa) ⟨[.ref a], []⟩) (fun r s' => r = .ok (.ret (.bool true)) ∧ OldK t0.heap s'.heap ∧ s'.os = t0.os ∧ AllBare s'.gens) t0 := by
    intro H hO hS hok hA hK
    have only_a : ∀ {b : Addr} {u : HO}, H b = some u → b = a := fun {b u} q => hA b (by rw [q]; simp)
    have bs_of : ∀ {b : Addr} {o : Obj}, t0.heap.get? b = some o → H b = none → (hidT t0.heap H).get? b = some o := fun e n => hidT_get e n
    have no_dict : ∀ {b : Addr} {o : Obj} {es : Array DictEntry} {ep : Nat}, t0.heap.get? b = some o → o.data = .dict es ep → H b = none := fun {b o es ep} e d => by
      cases q : H b with
      | none => rfl
      | some u => obtain rfl := only_a q; rw [ha] at e; cases e; exact nomatch (show Data.seq vs.toArray _ = Data.dict es ep from d)
    have ns_of : ∀ {b : Addr} {m : Str → Option Value}, t0.heap.Ns b m → (hidT t0.heap H).Ns b m := fun {b m} ⟨o, es, ep, e, d, r⟩ => ⟨o, es, ep, bs_of e (no_dict e d), d, r⟩
    have k_in : K.In (hidT t0.heap H) := fun b o e => bs_of (KX b o e) (by
      cases q : H b with
      | none => rfl
      | some u => obtain rfl := only_a q; rw [hK (by rw [q]; simp)] at e; cases e)
    have md : Mod K mg (hidT t0.heap H) := ⟨k_in, ns_of hns, ⟨mb, ns_of hb, hbb⟩, let ⟨mc, h1, h2⟩ := hlim; ⟨mc, ns_of h1, h2⟩⟩
    have env0 : Env0 P w K mg (hidT t0.heap H) callerA [] t0 H := ⟨rfl, md, fun b o e => of_hidT e, Nat.le_of_eq (hidT_size _ _), trivial, fun b hb => absurd (show b ∈ ([] : List Addr) from hb) (by simp), hok, .of_eq hg⟩
    refine codeAny_mono ((F _ k_in (ns_of hns)).run callerA [] t0 H ⟨[.ref a], []⟩ [.ref a] [.ref a] _ _ hr env0 (hbind t0 (.ref a)) (.cons rfl .nil) (hsp H hO hS)) fun r s' h => ?_
    cases r with
    | error e => exact (hCX H e s' h).elim
    | ok fl =>
      cases fl with
      | next => exact False.elim h
      | brk => exact False.elim h
      | cont => exact False.elim h
      | ret u =>
        obtain ⟨v, H2, os, bare, un, hok2, r2, q⟩ := h
        obtain rfl : v = .bl true := q
        obtain rfl : u = Value.bool true := r2
        refine ⟨rfl, OldK.of_keep fun b o e => ?_, os, bare⟩
        cases q : H b with
        | none => exact un.keep b o e q (by intro z; exact absurd (show b ∈ ([] : List Addr) from z) (by simp)) (by simp)
        | some u =>
          rcases hO b with z | ⟨ob, xs, z⟩
          · rw [q] at z; cases z
          · obtain ⟨e1, _⟩ := hok b _ z; obtain ⟨e2, _⟩ := hok2 b _ (un.frzs b ob _ z); rw [e] at e1; cases e1; exact e2
  cases hk : K.lookup a with
  | some o =>
    have e := KX a o hk; rw [ha] at e; cases e
    exact core (fun _ => none) (fun _ => .inl rfl) (.inr ⟨_, vs.toArray, _, hk, rfl, rfl, rfl, by rw [List.size_toArray, lenV]; exact hl, by simpa using rv⟩) (fun b u z => nomatch (show (none : Option HO) = some u from z)) (fun b z => absurd rfl z) fun z => absurd rfl z
  | none =>
    refine core (fun b => if b = a then some (.frz { cls := .type "list", data := .seq vs.toArray } (.lst (ns.map V.int))) else none) (fun b => ?_) (.inl (.inr ⟨{ cls := .type "list", data := .seq vs.toArray }, if_pos rfl⟩)) (fun b u z => ?_) (fun b z => ?_) fun _ => hk <;> by_cases hb : b = a
    · exact .inr ⟨_, _, if_pos hb⟩
    · exact .inl (if_neg hb)
    · cases (if_pos hb).symm.trans z; subst hb; exact ⟨ha, by rw [List.length_map]; exact hl, vs, _, rv, ha⟩
    · cases (if_neg hb).symm.trans z
    · exact hb
    · exact absurd (if_neg hb) z
theorem walk_ofG {l : PySem.W.OpenLaw} {n k : Nat} {q : Program} {loose : List Str} {XP : (Str → Option Value) → Heap → Prop} {YP : World → Heap → Prop} {d : DefRec} {K : Params → PySem.W.Frag} {CX : World → CXT} {sp : World → Sp} {x : Str} (hn : l.most = some n) (hn2 : n ≤ sizeLine) (hdf : d.params.defaults = []) (hr : RoomG k callerA) (hY : ∀ (w : World) (h : Heap), YP w h → (K w.params).In h)
    (F : ∀ (w : World) (mg : Str → Option Value) (fa : Addr) (h : Heap), (K w.params).In h → h.Ns mainGlobals mg → mg d.name = some (.ref fa) → ∃ fd : FuncData, (∀ (s : Shared) (u : Value), BindsTo s fd ⟨[u], []⟩ [(x, u)]) ∧ ∀ base : Heap, (K w.params).In base → base.Ns mainGlobals mg → FnG l.prog w (K w.params) mg base (CX w) k fa fd [x] (sp w))
    (hsp : ∀ (w : World) (H : Hp) (a : Addr) (ns : List Int), ns.length ≤ n → Only H → SqL (K w.params) H a (ns.map V.int) → sp w [.ref a] H (fun v _ => v = .bl true) fun _ _ _ => False) (hCX : ∀ (w : World) (H : Hp) (s : Shared) (e : Value) (s' : Shared), CX w [] H s (fun _ _ _ => False) e s' → False) :
    PySem.W.WalkO q loose XP YP l.row.toRowW d [] (fun f vs => PySem.call f vs) := Att.attach_call hn hdf fun w s₀ t0 mg mb fa o pm cd doc a vs ns G Y ho hd hcd hmg hobj hints hlen hg =>
  let ⟨fd, hb, hF⟩ := F w mg fa _ (hY w _ Y) G.T.g hmg
  law_callG (hY w _ Y) G.T.g G.T.b G.T.builtins G.T.nolimit hg hobj hints (Nat.le_trans hlen hn2) hr hF hb (fun H hO hS => hsp w H a ns hlen hO hS) fun H e s' => hCX w H t0 e s'
end Z

set_option Elab.async false
set_option linter.all false
set_option maxRecDepth 100000
set_option maxHeartbeats 4000000
namespace Z
open PySem PySem.Spec PyProof.Rows L2
def XP (K : PySem.W.Frag) (C : Addr) (m : Str) (b : Bool) : Prop := PySem.W.nsIn K mainGlobals m = some none ∨ ∃ M, PySem.W.nsIn K mainGlobals m = some (some (.ref M)) ∧ PySem.W.subIn K (.ref M) (.type "BaseException") = some true ∧ PySem.W.hasDictIn K M = true ∧ PySem.W.typeIn K (.ref M) = some (.type "type") ∧ (C == M) = b ∧ PySem.W.subIn K (.ref C) (.ref M) = some b
end Z

set_option Elab.async false
set_option linter.all false
set_option maxRecDepth 100000
set_option maxHeartbeats 4000000
namespace Z
open PySem PySem.Spec PyProof.Rows L2
section
variable {K : PySem.W.Frag} {w : World}
theorem ms_no {ms : List (Str × Str × Str)} {f : Str} {A : Str → Str → Prop} (h : (ms.all fun p => !(p.1 == f)) = true) : ∀ cn m, ms.contains (f, cn, m) = true → A cn m := fun cn m hm => by
  have := List.all_eq_true.mp h _ (by simpa using hm)
  simp at this
theorem ms_one {ms : List (Str × Str × Str)} {f c0 m0 : Str} {A : Str → Str → Prop} (h : (ms.all fun p => !(p.1 == f) || (p.2.1 == c0 && p.2.2 == m0)) = true) (a : A c0 m0) : ∀ cn m, ms.contains (f, cn, m) = true → A cn m := fun cn m hm => by
  have := List.all_eq_true.mp h _ (by simpa using hm)
  simp at this
  obtain ⟨rfl, rfl⟩ := this
  exact a
theorem mk_no {ms : List (Str × Str × Nat)} {f : Str} {A : Str → Nat → Prop} (h : (ms.all fun p => !(p.1 == f)) = true) : ∀ cn m, ms.contains (f, cn, m) = true → A cn m := fun cn m hm => by
  have := List.all_eq_true.mp h _ (by simpa using hm)
  simp at this
theorem mk_one {ms : List (Str × Str × Nat)} {f c0 : Str} {m0 : Nat} {A : Str → Nat → Prop} (h : (ms.all fun p => !(p.1 == f) || (p.2.1 == c0 && p.2.2 == m0)) = true) (a : A c0 m0) : ∀ cn m, ms.contains (f, cn, m) = true → A cn m := fun cn m hm => by
  have := List.all_eq_true.mp h _ (by simpa using hm)
  simp at this
  obtain ⟨rfl, rfl⟩ := this
  exact a
theorem kit_self {C : Addr} : PySem.W.kitOne K (.ref C) (.ref C) = some true := by
  unfold PySem.W.kitOne
  rw [if_pos (by simp)]
theorem btys_all {P : String → Prop} (h1 : P "NoneType") (h2 : P "int") (h3 : P "str") (h4 : P "tuple") (h5 : P "list") : ∀ T ∈ btys, P T := fun T hT => by
  simp only [btys, List.mem_cons, List.not_mem_nil, or_false] at hT
  rcases hT with rfl | rfl | rfl | rfl | rfl
  · exact h1
  · exact h2
  · exact h3
  · exact h4
  · exact h5
theorem fun_to {x q : Str} {st : Stmt} {f : Addr} {fd : FuncData} (F : Fun K x q st f fd) : FunD K x q (defArgs st) (defBody st) (defScope st) [] [] f fd := by
  obtain ⟨oc, od, kV, doc, pm, an, cdv, ct, osl, e, l, c⟩ := F.ex
  exact ⟨⟨oc, od, .none, kV, doc, pm, an, cdv, ct, osl, e, l, c, .inl ⟨rfl, rfl⟩, .inl rfl⟩, F.kp⟩
theorem fun1_mk {x qual : Str} {st : Stmt} {f T e : Addr} {o : Obj} {n : Nat} {oc : Value} {od an : Option Addr} {osl : Array (Option Value)} {kV doc pm cdv ct : Value} (l : K.lookup f = some ⟨oc, od, .func (PySem.W.fnOf x qual (defArgs st) (defBody st) (defScope st) (.ref T) kV doc pm an cdv ct), osl⟩)
    (c : PySem.W.codeIn K cdv qual = true) (k : PySem.W.keepIn K (.ref f) = true) (lT : K.lookup T = some o) (oT : o.data = .seq #[.ref e] n) : FunD K x qual (defArgs st) (defBody st) (defScope st) [.ref e] [] f (PySem.W.fnOf x qual (defArgs st) (defBody st) (defScope st) (.ref T) kV doc pm an cdv ct) :=
  ⟨⟨oc, od, .ref T, kV, doc, pm, an, cdv, ct, osl, rfl, l, c, .inr ⟨by simp, T, o, [.ref e], n, rfl, lT, oT, .cons rfl .nil⟩, .inl rfl⟩, k⟩
theorem binds_full {fd : FuncData} {ps : List Str} {v : V} (h : ∃ ds, Vals ([v].drop 1) ds ∧ Binds K fd ps ds) : Binds K fd ps [] := by
  obtain ⟨ds, hv, hb⟩ := h
  cases hv
  exact hb
theorem hms_of {ms : List (Str × Str × Str)} {defs : Str → Option DefT} (h : (ms.all fun p => (defs p.1).isSome) = true) : ∀ q cn m, ms.contains (q, cn, m) = true → ∃ d, defs q = some d := fun q cn m hm => by
  have h2 := List.all_eq_true.mp h _ (by simpa using hm)
  exact Option.isSome_iff_exists.mp h2
theorem hmk_of {ms : List (Str × Str × Nat)} {defs : Str → Option DefT} (h : (ms.all fun p => (defs p.1).isSome) = true) : ∀ q cn m, ms.contains (q, cn, m) = true → ∃ d, defs q = some d := fun q cn m hm => by
  have h2 := List.all_eq_true.mp h _ (by simpa using hm)
  exact Option.isSome_iff_exists.mp h2
theorem hotd_of {mg : Str → Option Value} {dfs xs xr hot : List Str} {ms : List (Str × Str × Str)} {mks : List (Str × Str × Nat)} (h : (hot.all fun g => dfs.contains g) = true) : ∀ g, hot.contains g = true → ∀ fa fd N ps st d, DFact K w mg dfs xs xr hot ms mks g d fa fd N ps st → mg g = some (.ref fa) := fun g hg fa fd N ps st d F =>
  F.mgf (List.all_eq_true.mp h g (by simpa using hg))
end
section
variable {K : PySem.W.Frag} {x qual : Str} {st : Stmt} {f : Addr} {fd : FuncData} {ps ks : List Str} {n : Nat} {g : Str}
theorem kb_no (h : (kwT g).isNone = true) : ∀ n ks, kwT g = some (n, ks) → KBn K fd ps n ks (fun us ws => us ++ ws) (fun vs zs => vs ++ zs) := fun n ks e => by rw [e] at h; cases h
theorem mkk_no (h : (mkT g).isNone = true) : ∀ n ks, mkT g = some (n, ks) → KBn K fd ps (n + 1) ks (fun us ws => us ++ ws) (fun vs zs => vs ++ zs) := fun n ks e => by rw [e] at h; cases h
theorem mkk_yes {m : Nat} {js : List Str} (h : mkT g = some (m, js)) (k : KBn K fd ps (m + 1) js (fun us ws => us ++ ws) (fun vs zs => vs ++ zs)) : ∀ n ks, mkT g = some (n, ks) → KBn K fd ps (n + 1) ks (fun us ws => us ++ ws) (fun vs zs => vs ++ zs) := fun n ks e => by rw [h] at e; cases e; exact k
theorem nkw_of {hot : List Str} {ms : List (Str × Str × Str)} (h : (hot.all (fun g => (kwT g).isNone) && ms.all (fun p => (kwT p.1).isNone)) = true) : ∀ g, (hot.contains g = true ∨ ∃ cn m, ms.contains (g, cn, m) = true) → kwT g = none := fun g hg => by
  rw [Bool.and_eq_true, List.all_eq_true, List.all_eq_true] at h
  rcases hg with hg | ⟨cn, m, hg⟩
  · simpa using h.1 g (by simpa using hg)
  · simpa using h.2 _ (by simpa using hg)
end
end Z

set_option Elab.async false
set_option linter.all false
set_option maxRecDepth 100000
set_option maxHeartbeats 4000000
namespace Z
open PySem PySem.Spec PyProof.Rows L2
theorem mem_of_lookup {α β : Type} [BEq α] [LawfulBEq α] {x : α} {y : β} : ∀ {l : List (α × β)}, l.lookup x = some y → (x, y) ∈ l
  | [], h => by cases h
  | (a, b) :: l, h => by
    rw [List.lookup_cons] at h
    cases e : x == a with
    | true => rw [e] at h; cases h; rw [eq_of_beq e]; exact List.mem_cons_self
    | false => rw [e] at h; exact List.mem_cons_of_mem _ (mem_of_lookup h)
end Z

set_option Elab.async false
set_option linter.all false
set_option maxRecDepth 100000
set_option maxHeartbeats 4000000
namespace Z
open PySem PySem.Spec PyProof.Rows L2
def dLCell : DefT := ⟨2, 3, [
    .ife (.cmp .Lt (.var 1) (.blt .len [(.var 0)])) [.ret (.sub (.var 0) (.var 1))] [],
    .asg (.nm 2) (.bin .Add (.bin .Mult (.var 1) (.int 7919)) (.int 5)),
    .ife (.cmp .Gt (.blt .len [(.var 0)]) (.int 0)) [.asg (.nm 2) (.bin .Add (.bin .Mult (.bin .Mod (.sub (.var 0) (.bin .Mod (.bin .Mult (.var 1) (.int 7)) (.blt .len [(.var 0)]))) (.int 2147483629)) (.int 48271)) (.bin .Mult (.var 1) (.int 7919)))] [],
    .ret (.bin .Mult (.bin .Mod (.var 2) (.int 2147483647)) (.int 31))]⟩
end Z

set_option Elab.async false
set_option linter.all false
set_option maxRecDepth 100000
set_option maxHeartbeats 4000000
namespace Z
open PySem PySem.Spec PyProof.Rows L2
section
variable {C : Cw} {ex : EX} {σ : StD} {S : Sto} {Q : D → Sto → Prop} {B : Bool → Sto → Prop} {Qs : List D → Sto → Prop} {D' : EndD} {ss : List TS}
theorem v_var {i : Nat} {d : D} (e : σ[i]? = some (some d)) (h : Q d S) : wpE C ex (.var i) σ S Q := by unfold wpE; rw [e]; exact h
theorem v_int {i : Int} (h : Q (.int i) S) : wpE C ex (.int i) σ S Q := by unfold wpE; exact h
theorem v_bl {i : Bool} (h : Q (.bl i) S) : wpE C ex (.bl i) σ S Q := by unfold wpE; exact h
theorem v_non (h : Q .non S) : wpE C ex .non σ S Q := by unfold wpE; exact h
theorem v_str {x : Str} (h : Q (.str x) S) : wpE C ex (.str x) σ S Q := by unfold wpE; exact h
theorem v_bty {x : String} (h : Q (.ty x) S) : wpE C ex (.bty x) σ S Q := by unfold wpE; exact h
theorem v_glob {x : Str} {d : D} (e : C.gl x = some d) (h : Q d S) : wpE C ex (.glob x) σ S Q := by unfold wpE; rw [e]; exact h
theorem v_bin {op : Operator} {a b : T} (h : wpE C ex a σ S fun x S1 => wpE C ex b σ S1 fun y S2 => wBin op x y S2 Q) : wpE C ex (.bin op a b) σ S Q := by unfold wpE; exact h
theorem v_cmp {op : CmpOp} {a b : T} (h : wpE C ex a σ S fun x S1 => wpE C ex b σ S1 fun y S2 => wCmp op x y S2 Q) : wpE C ex (.cmp op a b) σ S Q := by unfold wpE; exact h
theorem v_bop {op : BoolOp} {ts : List T} (h : wpB C ex op ts σ S Q) : wpE C ex (.bop op ts) σ S Q := by unfold wpE; exact h
theorem v_nt {a : T} (h : wpE C ex a σ S fun d S1 => ∃ k, tru S1 d = some k ∧ Q (.bl (!k)) S1) : wpE C ex (.nt a) σ S Q := by
  unfold wpE
  have : (fun d S1 => ∃ k, tru S1 d = some k ∧ Q (.bl (!k)) S1) = (fun (d : D) (S1 : Sto) => match tru S1 d with | some k => Q (.bl (!k)) S1 | none => False) := by
    funext d S1
    cases tru S1 d <;> simp
  rw [this] at h
  exact h
theorem v_ite {c a b : T} (h : wpT C ex c σ S fun k S1 => if k = true then wpE C ex a σ S1 Q else wpE C ex b σ S1 Q) : wpE C ex (.ite c a b) σ S Q := by unfold wpE; exact h
theorem v_tup {ts : List T} (h : wpEs C ex ts σ S fun ds S1 => ds.length ≤ 100 ∧ Q (.tup ds) S1) : wpE C ex (.tup ts) σ S Q := by unfold wpE; exact h
theorem v_lst {ts : List T} (h : wpEs C ex ts σ S fun ds S1 => ds.length ≤ 100 ∧ ∀ p, S1 p = none → Q (.ref p) (updS S1 p (.lst ds))) : wpE C ex (.lst ts) σ S Q := by unfold wpE; exact h
theorem v_sub {a i : T} (h : wpE C ex a σ S fun x S1 => wpE C ex i σ S1 fun y S2 => wSub x y S2 Q) : wpE C ex (.sub a i) σ S Q := by unfold wpE; exact h
theorem v_slice {a : T} {lo hi : Option T} (h : wpE C ex a σ S fun x S1 => wpO C ex lo σ S1 fun l S2 => wpO C ex hi σ S2 fun h S3 => wSlice x l h S3 Q) : wpE C ex (.slice a lo hi) σ S Q := by unfold wpE; exact h
theorem v_call {f : Str} {ts : List T} (h : wpEs C ex ts σ S fun ds S1 => C.cal f ds S1 Q fun x S2 => ex x σ S2) : wpE C ex (.call f ts) σ S Q := by unfold wpE; exact h
theorem v_blt {f : Bi} {ts : List T} (h : wpEs C ex ts σ S fun ds S1 => wBlt f ds S1 Q) : wpE C ex (.blt f ts) σ S Q := by unfold wpE; exact h
theorem v_lrev {a : T} (h : wpE C ex a σ S fun x S1 => wLrev x S1 Q) : wpE C ex (.lrev a) σ S Q := by unfold wpE; exact h
theorem v_lzip {a b : T} (h : wpE C ex a σ S fun x S1 => wpE C ex b σ S1 fun y S2 => wLzip x y S2 Q) : wpE C ex (.lzip a b) σ S Q := by unfold wpE; exact h
theorem v_mth {m : Me} {a : T} {ts : List T} (h : wpE C ex a σ S fun x S1 => okRecv m S1 x = true ∧ wpEs C ex ts σ S1 fun ds S2 => wMth m x ds S2 Q) : wpE C ex (.mth m a ts) σ S Q := by unfold wpE; exact h
theorem v_lc {g : Tg} {it : Ti} {ifs : List T} {own : List (Str × Nat)} {e : T} (h : wpI C ex it σ S fun ds G S1 =>
      lcL (fun d S2 k => wpG g d (wipeD σ (own.map (·.2))) S2 fun σ2 => wpTs C ifs σ2 S2 fun b S3 => if b = true then wpE C (fun _ _ _ => False) e σ2 S3 fun v S4 => k (some v) S4 else k none S3) G Q ds [] S1) : wpE C ex (.lc g it ifs own e) σ S Q := by unfold wpE; exact h
theorem v_lno {q c : Str} {a : T} (h : wpE C ex a σ S fun x S1 => isIns c S1 x = true ∧ C.cal q [x] S1 (fun d S2 => ∃ n : Nat, d = .int n ∧ n < 1000000 ∧ Q (.int n) S2) fun _ _ => False) : wpE C ex (.lno q c a) σ S Q := by unfold wpE; exact h
theorem v_rpo {q c : Str} {a : T} (h : wpE C ex a σ S fun x S1 => isIns c S1 x = true ∧ C.cal q [x] S1 (fun d S2 => ∃ z, d = .str z ∧ Q (.str z) S2) fun _ _ => False) : wpE C ex (.rpo q c a) σ S Q := by unfold wpE; exact h
theorem v_fs2 {x y z : Str} {a b : T} (h : wpE C ex a σ S fun d S1 => okI d ∧ wpE C ex b σ S1 fun e S2 => okI e ∧ Q (.str (fs2T x d y e z)) S2) : wpE C ex (.fs2 x a y b z) σ S Q := by unfold wpE; exact h
theorem v_newK {q c : Str} {ts us : List T} {ks : List Str} (h : wpEs C ex ts σ S fun ds S1 => ds.length = ts.length ∧ wpEs C ex us σ S1 fun es S2 => es.length = us.length ∧ ∀ x, S2 x = none → C.cal q (.ref x :: (ds ++ es)) (updS S2 x (.ins c [])) (fun v S3 => v = .non ∧ Q (.ref x) S3) fun xx S3 => ex xx σ S3) : wpE C ex (.newK q c ts ks us) σ S Q := by unfold wpE; exact h
theorem vs_nil (h : Qs [] S) : wpEs C ex [] σ S Qs := by unfold wpEs; exact h
theorem vs_cons {t : T} {ts : List T} (h : wpE C ex t σ S fun d S1 => wpEs C ex ts σ S1 fun ds S2 => Qs (d :: ds) S2) : wpEs C ex (t :: ts) σ S Qs := by unfold wpEs; exact h
theorem vo_none {R : Option Int → Sto → Prop} (h : R none S) : wpO C ex none σ S R := by unfold wpO; exact h
theorem vo_some {t : T} {R : Option Int → Sto → Prop} (h : wpE C ex t σ S fun d S1 => ∃ i, d = .int i ∧ R (some i) S1) : wpO C ex (some t) σ S R := by
  unfold wpO
  have : (fun d S1 => ∃ i, d = .int i ∧ R (some i) S1) = (fun (d : D) (S1 : Sto) => match d with | .int i => R (some i) S1 | _ => False) := by
    funext d S1
    cases d <;> simp
  rw [this] at h
  exact h
theorem vb_one {op : BoolOp} {t : T} (h : wpE C ex t σ S Q) : wpB C ex op [t] σ S Q := by unfold wpB; exact h
theorem vb_and {t u : T} {ts : List T} (h : wpE C ex t σ S fun d S1 => ∃ k, tru S1 d = some k ∧ if k = true then wpB C ex .And (u :: ts) σ S1 Q else Q d S1) : wpB C ex .And (t :: u :: ts) σ S Q := by
  unfold wpB
  have : (fun d S1 => ∃ k, tru S1 d = some k ∧ if k = true then wpB C ex .And (u :: ts) σ S1 Q else Q d S1) = (fun (d : D) (S1 : Sto) => match tru S1 d with | some k => (if k = true then wpB C ex .And (u :: ts) σ S1 Q else Q d S1) | none => False) := by
    funext d S1
    cases tru S1 d <;> simp
  rw [this] at h
  exact h
theorem vb_or {t u : T} {ts : List T} (h : wpE C ex t σ S fun d S1 => ∃ k, tru S1 d = some k ∧ if k = true then Q d S1 else wpB C ex .Or (u :: ts) σ S1 Q) : wpB C ex .Or (t :: u :: ts) σ S Q := by
  unfold wpB
  have : (fun d S1 => ∃ k, tru S1 d = some k ∧ if k = true then Q d S1 else wpB C ex .Or (u :: ts) σ S1 Q) = (fun (d : D) (S1 : Sto) => match tru S1 d with | some k => (if k = true then Q d S1 else wpB C ex .Or (u :: ts) σ S1 Q) | none => False) := by
    funext d S1
    cases tru S1 d <;> simp
  rw [this] at h
  exact h
def TrD (S : Sto) (d : D) (B : Bool → Sto → Prop) : Prop := ∃ k, tru S d = some k ∧ B k S
theorem trD_of {d : D} : TrD S d B → (match tru S d with | some k => B k S | none => False) := fun ⟨k, e, h⟩ => by rw [e]; exact h
theorem t_bop {op : BoolOp} {ts : List T} (h : wpTB C ex op ts σ S B) : wpT C ex (.bop op ts) σ S B := by unfold wpT; exact h
theorem t_nt {a : T} (h : wpT C ex a σ S fun k S1 => B (!k) S1) : wpT C ex (.nt a) σ S B := by unfold wpT; exact h
theorem t_var {i : Nat} {d : D} (e : σ[i]? = some (some d)) (h : TrD S d B) : wpT C ex (.var i) σ S B := by unfold wpT; rw [e]; exact trD_of h
theorem t_cmp {op : CmpOp} {a b : T} (h : wpE C ex a σ S fun x S1 => wpE C ex b σ S1 fun y S2 => wCmp op x y S2 fun z S3 => ∃ k, z = .bl k ∧ B k S3) : wpT C ex (.cmp op a b) σ S B := by
  unfold wpT
  have : (fun (z : D) S3 => ∃ k, z = .bl k ∧ B k S3) = (fun (z : D) (S3 : Sto) => match z with | .bl k => B k S3 | _ => False) := by
    funext d S1
    cases d <;> simp
  rw [this] at h
  exact h
theorem t_call {f : Str} {ts : List T} (h : wpEs C ex ts σ S fun ds S1 => C.cal f ds S1 (fun d S2 => TrD S2 d B) fun x S2 => ex x σ S2) : wpT C ex (.call f ts) σ S B := by
  unfold wpT
  have : (fun d S2 => TrD S2 d B) = (fun (d : D) (S2 : Sto) => match tru S2 d with | some k => B k S2 | none => False) := by
    funext d S1
    unfold TrD
    cases tru S1 d <;> simp
  rw [this] at h
  exact h
theorem t_blt {f : Bi} {ts : List T} (h : wpEs C ex ts σ S fun ds S1 => wBlt f ds S1 fun d S2 => TrD S2 d B) : wpT C ex (.blt f ts) σ S B := by
  unfold wpT
  have : (fun d S2 => TrD S2 d B) = (fun (d : D) (S2 : Sto) => match tru S2 d with | some k => B k S2 | none => False) := by
    funext d S1
    unfold TrD
    cases tru S1 d <;> simp
  rw [this] at h
  exact h
theorem t_sub {a i : T} (h : wpE C ex a σ S fun x S1 => wpE C ex i σ S1 fun y S2 => wSub x y S2 fun d S3 => TrD S3 d B) : wpT C ex (.sub a i) σ S B := by
  unfold wpT
  have : (fun d S2 => TrD S2 d B) = (fun (d : D) (S2 : Sto) => match tru S2 d with | some k => B k S2 | none => False) := by
    funext d S1
    unfold TrD
    cases tru S1 d <;> simp
  rw [this] at h
  exact h
theorem t_chain {op op2 : CmpOp} {a b c : T} (h : wpE C ex a σ S fun x S1 => wpE C ex b σ S1 fun y S2 => wCmp op x y S2 fun z S3 => ∃ k, z = .bl k ∧ if k = true then wpE C ex c σ S3 fun u S4 => wCmp op2 y u S4 fun z S5 => ∃ k, z = .bl k ∧ B k S5 else B false S3) : wpT C ex (.chain op op2 a b c) σ S B := by
  unfold wpT
  have e1 : (fun (z : D) S3 => ∃ k, z = .bl k ∧ B k S3) = (fun (z : D) (S3 : Sto) => match z with | .bl k => B k S3 | _ => False) := by
    funext d S1
    cases d <;> simp
  rw [e1] at h
  have e2 : (fun x S1 => wpE C ex b σ S1 fun y S2 => wCmp op x y S2 fun z S3 => ∃ k, z = .bl k ∧ if k = true then wpE C ex c σ S3 fun u S4 => wCmp op2 y u S4 (fun (z : D) (S3 : Sto) => match z with | .bl k => B k S3 | _ => False) else B false S3) = (fun (x : D) (S1 : Sto) => wpE C ex b σ S1 fun y S2 => wCmp op x y S2 fun (z : D) (S3 : Sto) => match z with | .bl k => (if k = true then wpE C ex c σ S3 fun u S4 => wCmp op2 y u S4 (fun (z : D) (S3 : Sto) => match z with | .bl k => B k S3 | _ => False) else B false S3) | _ => False) := by
    funext x S1
    congr
    funext y S2
    congr
    funext z S3
    cases z <;> simp
  rw [e2] at h
  exact h
theorem tb_one {op : BoolOp} {t : T} (h : wpT C ex t σ S B) : wpTB C ex op [t] σ S B := by unfold wpTB; exact h
theorem tb_and {t u : T} {ts : List T} (h : wpT C ex t σ S fun k S1 => if k = true then wpTB C ex .And (u :: ts) σ S1 B else B false S1) : wpTB C ex .And (t :: u :: ts) σ S B := by unfold wpTB; exact h
theorem tb_or {t u : T} {ts : List T} (h : wpT C ex t σ S fun k S1 => if k = true then B true S1 else wpTB C ex .Or (u :: ts) σ S1 B) : wpTB C ex .Or (t :: u :: ts) σ S B := by unfold wpTB; exact h
theorem tr_bl {b : Bool} (h : B b S) : TrD S (.bl b) B := ⟨b, rfl, h⟩
theorem tr_int {b : Int} (h : B (b != 0) S) : TrD S (.int b) B := ⟨_, rfl, h⟩
theorem ts_nil (h : B true S) : wpTs C [] σ S B := by unfold wpTs; exact h
theorem ts_one {t : T} (h : wpT C (fun _ _ _ => False) t σ S B) : wpTs C [t] σ S B := by unfold wpTs; exact h
theorem s_nil (h : D'.nx σ S) : wpSs C ex [] D' σ S := by unfold wpSs; exact h
theorem s_ex {e : T} (h : wpE C ex e σ S fun _ S1 => wpSs C ex ss D' σ S1) : wpSs C ex (.ex e :: ss) D' σ S := by unfold wpSs wpS; exact h
theorem s_asg {g : Tg} {e : T} (h : wpE C ex e σ S fun d S1 => wpG g d σ S1 fun σ' => wpSs C ex ss D' σ' S1) : wpSs C ex (.asg g e :: ss) D' σ S := by unfold wpSs wpS; exact h
theorem s_par {i j : Nat} {a b : T} (h : wpE C ex a σ S fun x S1 => wpE C ex b σ S1 fun y S2 => wpSs C ex ss D' ((σ.set i (some x)).set j (some y)) S2) : wpSs C ex (.par i j a b :: ss) D' σ S := by unfold wpSs wpS; exact h
theorem s_set {a i e : T} (h : wpE C ex e σ S fun v S1 => wpE C ex a σ S1 fun o S2 => wpE C ex i σ S2 fun k S3 => wSet o k v S3 fun S4 => wpSs C ex ss D' σ S4) : wpSs C ex (.set a i e :: ss) D' σ S := by unfold wpSs wpS; exact h
theorem s_ife {c : T} {a b : List TS} (h : wpT C ex c σ S fun k S1 => if k = true then wpSs C ex a { D' with nx := wpSs C ex ss D' } σ S1 else wpSs C ex b { D' with nx := wpSs C ex ss D' } σ S1) : wpSs C ex (.ife c a b :: ss) D' σ S := by
  unfold wpSs wpS; exact h
theorem s_ret {e : T} (h : wpE C ex e σ S D'.rt) : wpSs C ex (.ret e :: ss) D' σ S := by unfold wpSs wpS; exact h
theorem s_try {b hd : List TS} {m : Str} {i : Nat} (h : wpSs C (fun x σ' S' => if x.cls = m then wpSs C (fun _ _ _ => False) hd ⟨fun σ2 S2 => wpSs C ex ss D' (σ2.set i none) S2, D'.rt, fun σ2 S2 => D'.bk (σ2.set i none) S2, fun σ2 S2 => D'.ct (σ2.set i none) S2⟩ (σ'.set i (some (.exn x.cls x.ns x.ds))) S' else ex x σ' S') b { D' with nx := wpSs C ex ss D' } σ S) : wpSs C ex (.tryx b m i hd :: ss) D' σ S := by unfold wpSs; unfold wpS; exact h
theorem s_retN (h : D'.rt .non S) : wpSs C ex (.retN :: ss) D' σ S := by unfold wpSs wpS; exact h
theorem s_pass (h : wpSs C ex ss D' σ S) : wpSs C ex (.pass :: ss) D' σ S := by unfold wpSs wpS; exact h
theorem s_brk (h : D'.bk σ S) : wpSs C ex (.brk :: ss) D' σ S := by unfold wpSs wpS; exact h
theorem s_cont (h : D'.ct σ S) : wpSs C ex (.cont :: ss) D' σ S := by unfold wpSs wpS; exact h
theorem s_fr {g : Tg} {it : Ti} {b : List TS} (h : wpI C ex it σ S fun ds G S1 => forL (fun d N σ S => wpG g d σ S fun σ' => wpSs C ex b { D' with nx := N, ct := N, bk := wpSs C ex ss D' } σ' S) G (wpSs C ex ss D') ds σ S1) : wpSs C ex (.fr g it b :: ss) D' σ S := by
  unfold wpSs wpS; exact h
theorem g_nm {i : Nat} {d : D} {R : StD → Prop} (h : R (σ.set i (some d))) : wpG (.nm i) d σ S R := by unfold wpG; exact h
theorem g_tup {gs : List Tg} {d : D} {ds : List D} {R : StD → Prop} (e : itemsD S d = some ds) (l : ds.length = gs.length) (h : wpGs gs ds σ S R) : wpG (.tup gs) d σ S R := by unfold wpG; rw [e]; exact ⟨l, h⟩
theorem g_nil {ds : List D} {R : StD → Prop} (h : R σ) : wpGs [] ds σ S R := by unfold wpGs; exact h
theorem g_cons {g : Tg} {gs : List Tg} {d : D} {ds : List D} {R : StD → Prop} (h : wpG g d σ S fun σ' => wpGs gs ds σ' S R) : wpGs (g :: gs) (d :: ds) σ S R := by unfold wpGs; exact h
theorem i_seq {e : T} {R : List D → (Sto → Prop) → Sto → Prop} (h : wpE C ex e σ S fun d S1 => (∃ ds, d = .tup ds ∧ R ds (fun _ => True) S1) ∨ (∃ ds, d = .kl ds ∧ R ds (fun _ => True) S1) ∨ ∃ a ds, d = .ref a ∧ S1 a = some (.lst ds) ∧ R ds (fun S => S a = some (.lst ds)) S1) : wpI C ex (.seq e) σ S R := by
  unfold wpI
  have : (fun (d : D) S1 => (∃ ds, d = .tup ds ∧ R ds (fun _ => True) S1) ∨ (∃ ds, d = .kl ds ∧ R ds (fun _ => True) S1) ∨ ∃ a ds, d = .ref a ∧ S1 a = some (.lst ds) ∧ R ds (fun S => S a = some (.lst ds)) S1)
      = (fun (d : D) (S1 : Sto) => match d with | .tup ds => R ds (fun _ => True) S1 | .kl ds => R ds (fun _ => True) S1 | .ref a => (match S1 a with | some (.lst ds) => R ds (fun S => S a = some (.lst ds)) S1 | _ => False) | _ => False) := by
    funext d S1
    cases d <;> simp
    rename_i a
    cases h1 : S1 a with
    | none => simp
    | some o => cases o <;> simp
  rw [this] at h
  exact h
theorem i_rng1 {a : T} {R : List D → (Sto → Prop) → Sto → Prop} (h : wpE C ex a σ S fun d S1 => ∃ n, d = .int n ∧ -(2 ^ 62) ≤ n ∧ n < 2 ^ 62 ∧ R ((List.range n.toNat).map fun i => .int (i : Nat)) (fun _ => True) S1) : wpI C ex (.rng1 a) σ S R := by
  unfold wpI
  have : (fun (d : D) S1 => ∃ n, d = .int n ∧ -(2 ^ 62) ≤ n ∧ n < 2 ^ 62 ∧ R ((List.range n.toNat).map fun i => .int (i : Nat)) (fun _ => True) S1) = (fun (d : D) (S1 : Sto) => match d with | .int n => -(2 ^ 62) ≤ n ∧ n < 2 ^ 62 ∧ R ((List.range n.toNat).map fun i => .int (i : Nat)) (fun _ => True) S1 | _ => False) := by
    funext d S1
    cases d <;> simp
  rw [this] at h
  exact h
theorem o_add {i j : Int} (h : Q (.int (i + j)) S) : wBin .Add (.int i) (.int j) S Q := h
theorem o_sub {i j : Int} (h : Q (.int (i - j)) S) : wBin .Sub (.int i) (.int j) S Q := h
theorem o_mul {i j : Int} (c : CMul i j) (h : Q (.int (i * j)) S) : wBin .Mult (.int i) (.int j) S Q := ⟨c, h⟩
theorem o_mulL {a : Addr} {xs : List D} {n : Int} (e : S a = some (.lst xs)) (h1 : 0 ≤ n) (h2 : n ≤ 1000) (h3 : xs.length ≤ 1000) (h : ∀ p, S p = none → Q (.ref p) (updS S p (.lst (List.replicate n.toNat xs).flatten))) : wBin .Mult (.ref a) (.int n) S Q := by unfold wBin; simp only [e]; exact ⟨h1, h2, h3, h⟩
theorem v_back {a : T} (h : wpE C ex a σ S fun x S1 => wBack x S1 Q) : wpE C ex (.back a) σ S Q := by unfold wpE; exact h
theorem v_isx {a : T} {m : Str} (h : wpE C ex a σ S fun x S1 => wIsx m x S1 Q) : wpE C ex (.isx a m) σ S Q := by unfold wpE; exact h
theorem v_atr {a : T} {f : Str} (h : wpE C ex a σ S fun x S1 => wAtr f x S1 Q) : wpE C ex (.atr a f) σ S Q := by unfold wpE; exact h
theorem o_div {i j : Int} (c : CDiv i j) (h : Q (.int (i / j)) S) : wBin .FloorDiv (.int i) (.int j) S Q := ⟨c, h⟩
theorem o_mod {i j : Int} (c : 0 < j) (h : Q (.int (i % j)) S) : wBin .Mod (.int i) (.int j) S Q := ⟨c, h⟩
theorem o_pow {i j : Int} (c : CPow i j) (h : Q (.int (i ^ j.toNat)) S) : wBin .Pow (.int i) (.int j) S Q := ⟨c, h⟩
theorem o_lt {i j : Int} (h : Q (.bl (decide (i < j))) S) : wCmp .Lt (.int i) (.int j) S Q := h
theorem o_le {i j : Int} (h : Q (.bl (decide (i ≤ j))) S) : wCmp .LtE (.int i) (.int j) S Q := h
theorem o_gt {i j : Int} (h : Q (.bl (decide (j < i))) S) : wCmp .Gt (.int i) (.int j) S Q := h
theorem o_ge {i j : Int} (h : Q (.bl (decide (j ≤ i))) S) : wCmp .GtE (.int i) (.int j) S Q := h
theorem o_subL {a : Addr} {xs : List D} {i : Int} {v : D} (e : S a = some (.lst xs)) (e2 : atI xs i = some v) (h : Q v S) : wSub (.ref a) (.int i) S Q := by unfold wSub; simp only [e, e2]; exact h
theorem o_subT {xs : List D} {i : Int} {v : D} (e2 : atI xs i = some v) (h : Q v S) : wSub (.tup xs) (.int i) S Q := by unfold wSub; simp only [e2]; exact h
theorem o_subK {xs : List D} {i : Int} {v : D} (e2 : atI xs i = some v) (h : Q v S) : wSub (.kl xs) (.int i) S Q := by unfold wSub; simp only [e2]; exact h
theorem o_subC {kvs : List (Str × Int)} {z : Str} {i : Int} (e2 : kvs.lookup z = some i) (h : Q (.int i) S) : wSub (.cd kvs) (.str z) S Q := by unfold wSub; simp only [e2]; exact h
theorem o_subD {a : Addr} {kvs : List (Key × D)} {d v : D} {key : Key} (e : S a = some (.dct kvs)) (e1 : keyD d = some key) (e2 : lookD kvs key = some v) (h : Q v S) : wSub (.ref a) d S Q := by unfold wSub; simp only [e, e1, e2]; exact h
theorem o_setL {a : Addr} {xs : List D} {i : Int} {j : Nat} {v : D} {R : Sto → Prop} (e : S a = some (.lst xs)) (e2 : ixN xs.length i = some j) (h : R (updS S a (.lst (xs.set j v)))) : wSet (.ref a) (.int i) v S R := by unfold wSet; simp only [e, e2]; exact h
theorem o_len {d : D} {n : Nat} (e : lenD S d = some n) (h : Q (.int n) S) : wBlt .len [d] S Q := by unfold wBlt; simp only [e]; exact h
theorem c_true {A B : Prop} (h : A) : if true = true then A else B := h
theorem c_false {A B : Prop} (h : B) : if false = true then A else B := h
theorem c_dec {p : Prop} [Decidable p] {A B : Prop} (h1 : p → A) (h2 : ¬ p → B) : if decide p = true then A else B := by
  by_cases hp : p
  · rw [if_pos (decide_eq_true hp)]; exact h1 hp
  · rw [if_neg (fun z => hp (of_decide_eq_true z))]; exact h2 hp
theorem c_nott {A B : Prop} (h : B) : if (!true) = true then A else B := h
theorem c_notf {A B : Prop} (h : A) : if (!false) = true then A else B := h
theorem c_decT {p : Prop} [Decidable p] {A B : Prop} (e : p) (h : A) : if decide p = true then A else B := by rw [if_pos (decide_eq_true e)]; exact h
theorem c_decF {p : Prop} [Decidable p] {A B : Prop} (e : ¬ p) (h : B) : if decide p = true then A else B := by rw [if_neg (fun z => e (of_decide_eq_true z))]; exact h
theorem upd_at {a p : Addr} {o u : Ob} (n : S p = none) (e : S a = some o) : updS S p u a = some o := by
  rw [updS_ne (fun z => by subst z; rw [n] at e; cases e)]; exact e
end
end Z

set_option Elab.async false
set_option linter.all false
set_option maxRecDepth 100000
set_option maxHeartbeats 4000000
namespace Z
open PySem PySem.Spec PyProof.Rows L2
def Off (A : List Addr) (S S' : Sto) : Prop := ∀ b o, b ∉ A → S b = some o → S' b = some o
theorem Off.refl (A : List Addr) (S : Sto) : Off A S S := fun _ _ _ e => e
theorem Off.trans {A : List Addr} {S S' S'' : Sto} (a : Off A S S') (b : Off A S' S'') : Off A S S'' := fun c o h e => b c o h (a c o h e)
theorem Off.upd {A : List Addr} {S : Sto} {a : Addr} {o : Ob} (h : a ∈ A) : Off A S (updS S a o) := fun b u hb e => by
  rw [updS_ne (fun z => hb (by rw [z]; exact h))]; exact e
theorem Off.new {A : List Addr} {S : Sto} {p : Addr} {o : Ob} (h : S p = none) : Off A S (updS S p o) := fun b u hb e => upd_at h e
theorem Off.mono {A B : List Addr} {S S' : Sto} (h : Off A S S') (s : ∀ x ∈ A, x ∈ B) : Off B S S' := fun b o hb e => h b o (fun z => hb (s b z)) e
theorem Off.drop {A : List Addr} {p : Addr} {S S' : Sto} (h : Off (p :: A) S S') (n : S p = none) : Off A S S' := fun b o hb e => h b o (fun z => by
  rcases List.mem_cons.mp z with z | z
  · subst z; rw [n] at e; cases e
  · exact hb z) e
def Flow (S : Sto) (a : Addr) : Prop := ∃ x y z : Int, S a = some (.lst [.int x, .int y, .int z]) ∧ -(2 ^ 64) < z ∧ z < 2 ^ 64
theorem Flow.off {S S' : Sto} {a : Addr} {A : List Addr} (f : Flow S a) (h : Off A S S') (n : a ∉ A) : Flow S' a := let ⟨x, y, z, e, r⟩ := f; ⟨x, y, z, h a _ n e, r⟩
section
variable {defs : Str → Option DefT} {gl : Str → Option D} {k : Nat} {S : Sto} {Q : D → Sto → Prop} {E : Exc → Sto → Prop}
theorem sem_of {f : Str} {d : DefT} {ds : List D} (hd : defs f = some d) (hl : ds.length = d.np) (h : wpSs ⟨sem defs gl k, gl⟩ (fun x _ S' => E x S') d.body ⟨fun _ S' => Q .non S', Q, fun _ _ => False, fun _ _ => False⟩ (startD d.ns ds) S) : sem defs gl (k + 1) f ds S Q E := by
  unfold sem; rw [hd]; exact ⟨hl, h⟩
theorem lc_ind {turn : D → Sto → (Option D → Sto → Prop) → Prop} {G : Sto → Prop} {Q : D → Sto → Prop} (I : List D → List D → Sto → Prop) (hg : ∀ r acc S, I r acc S → G S)
    (hend : ∀ acc S, I [] acc S → ∀ p, S p = none → Q (.ref p) (updS S p (.lst acc)))
    (hstep : ∀ d r acc S (K : Option D → Sto → Prop), I (d :: r) acc S → (∀ v S', I r (acc ++ [v]) S' → K (some v) S') → (∀ S', I r acc S' → K none S') → acc.length < sizeLine ∧ turn d S K) :
    ∀ (ds acc : List D) (S : Sto), I ds acc S → lcL turn G Q ds acc S
  | [], acc, S, h => ⟨hg _ _ _ h, hend acc S h⟩
  | d :: ds, acc, S, h => by
    obtain ⟨h1, h2⟩ := hstep d ds acc S (fun o S' => match o with | some v => lcL turn G Q ds (acc ++ [v]) S' | none => lcL turn G Q ds acc S') h (fun v S' hi => lc_ind I hg hend hstep ds _ S' hi) fun S' hi => lc_ind I hg hend hstep ds _ S' hi
    exact ⟨hg _ _ _ h, h1, h2⟩
theorem for_ind {turn : D → (StD → Sto → Prop) → StD → Sto → Prop} {G : Sto → Prop} {F : StD → Sto → Prop} (I : List D → StD → Sto → Prop) (hg : ∀ r σ S, I r σ S → G S) (hend : ∀ σ S, I [] σ S → F σ S)
    (hstep : ∀ d r σ S (N : StD → Sto → Prop), I (d :: r) σ S → (∀ σ' S', I r σ' S' → N σ' S') → turn d N σ S) : ∀ (ds : List D) (σ : StD) (S : Sto), I ds σ S → forL turn G F ds σ S
  | [], σ, S, h => ⟨hg _ _ _ h, hend σ S h⟩
  | d :: ds, σ, S, h => ⟨hg _ _ _ h, hstep d ds σ S _ h fun σ' S' hi => for_ind I hg hend hstep ds σ' S' hi⟩
theorem atI_nat {α : Type} {xs : List α} {i : Nat} {v : α} (h : xs[i]? = some v) : atI xs (i : Int) = some v := by
  have hi : i < xs.length := by
    by_cases z : i < xs.length
    · exact z
    · rw [List.getElem?_eq_none (by omega)] at h; cases h
  unfold atI ixN
  rw [if_pos (by omega)]
  simpa [hi] using h
theorem atI_ints {ns : List Int} {i : Int} (h0 : 0 ≤ i) (h1 : i < ns.length) : ∃ z, atI (ns.map D.int) i = some (.int z) := by
  obtain ⟨n, rfl⟩ := Int.eq_ofNat_of_zero_le h0
  have hn : n < ns.length := by omega
  exact ⟨ns[n], atI_nat (by rw [List.getElem?_map, List.getElem?_eq_getElem hn]; rfl)⟩
local macro_rules | `(tactic| fail) => `(tactic| refine ⟨Nat.le_of_ble_eq_true rfl, ?_⟩)
local macro_rules | `(tactic| fail) => `(tactic| with_reducible refine ⟨_, rfl, ?_⟩)
local macro_rules | `(tactic| fail) => `(tactic| ((with_reducible apply o_sliceT); (focus rfl)))
local macro_rules | `(tactic| fail) => `(tactic| ((with_reducible apply o_inTf); (focus rfl); (focus rfl); (focus (simp [inF, eqF, str_beq]; done))))
local macro_rules | `(tactic| fail) => `(tactic| ((with_reducible apply o_inTt); (focus rfl); (focus rfl); (focus (simp [inF, eqF, str_beq]; done))))
local macro_rules | `(tactic| fail) => `(tactic| ((with_reducible apply o_subC); (focus (repeat (first | with_reducible exact lk_hit | ((with_reducible apply lk_miss); (focus (exact str_ne (by decide)))))))))
local macro_rules | `(tactic| fail) => `(tactic| ((with_reducible apply o_inC); (focus (repeat (first | with_reducible exact lk_hit | ((with_reducible apply lk_miss); (focus (exact str_ne (by decide)))))))))
local macro_rules | `(tactic| fail) => `(tactic| ((with_reducible apply o_ninC); (focus (repeat (first | with_reducible exact lk_hit | ((with_reducible apply lk_miss); (focus (exact str_ne (by decide)))))))))
local macro_rules | `(tactic| fail) => `(tactic| ((with_reducible apply o_isinF); (focus rfl); (focus (decide +kernel))))
local macro_rules | `(tactic| fail) => `(tactic| ((with_reducible apply o_isinT); (focus rfl); (focus (decide +kernel))))
local macro_rules | `(tactic| fail) => `(tactic| with_reducible refine i_enm ?_)
local macro_rules | `(tactic| fail) => `(tactic| ((with_reducible apply g_tup); (focus rfl); (focus rfl)))
local macro_rules | `(tactic| fail) => `(tactic| ((with_reducible apply v_dctN); (focus (decide +kernel))))
local macro_rules | `(tactic| fail) => `(tactic| ((with_reducible apply o_len); (focus (exact len_ref (by (first | assumption | exact updS_same | exact upd_at (by assumption) (by assumption)))))))
local macro_rules | `(tactic| fail) => `(tactic| ((with_reducible apply o_tuple); (focus (first | rfl | exact items_ref (by (first | assumption | exact updS_same | exact upd_at (by assumption) (by assumption)))))))
local macro_rules | `(tactic| fail) => `(tactic| ((with_reducible apply o_get2); (focus (first | assumption | exact updS_same | exact upd_at (by assumption) (by assumption))); (focus rfl); (focus (repeat (first | with_reducible exact getD_hit | with_reducible exact getD_nil | ((with_reducible apply getD_miss); (focus (exact str_ne (by decide)))))))))
local macro_rules | `(tactic| fail) => `(tactic| ((with_reducible apply o_get1); (focus (first | assumption | exact updS_same | exact upd_at (by assumption) (by assumption))); (focus rfl); (focus (repeat (first | with_reducible exact getD_hit | with_reducible exact getD_nil | ((with_reducible apply getD_miss); (focus (exact str_ne (by decide)))))))))
local macro_rules | `(tactic| fail) => `(tactic| (refine And.intro ?_ ?_; (focus (first | exact recvL (by (first | assumption | exact updS_same | exact upd_at (by assumption) (by assumption))) rfl | exact recvD (by (first | assumption | exact updS_same | exact upd_at (by assumption) (by assumption))) rfl))))
local macro_rules | `(tactic| fail) => `(tactic| ((with_reducible apply o_subD); (focus (first | assumption | exact updS_same | exact upd_at (by assumption) (by assumption))); (focus rfl); (focus (repeat (first | with_reducible exact lookD_hit | ((with_reducible apply look_miss); (focus (exact str_ne (by decide)))))))))
local macro_rules | `(tactic| fail) => `(tactic| ((with_reducible apply c_ndF); (focus (((try simp only [List.length_cons, List.length_nil, List.length_append, List.length_map]); omega)))))
local macro_rules | `(tactic| fail) => `(tactic| ((with_reducible apply c_ndT); (focus (((try simp only [List.length_cons, List.length_nil, List.length_append, List.length_map]); omega)))))
local macro_rules | `(tactic| fail) => `(tactic| with_reducible refine o_intB ?_)
local macro_rules | `(tactic| fail) => `(tactic| ((with_reducible apply c_decF); (focus (((try simp only [List.length_cons, List.length_nil, List.length_append, List.length_map]); omega)))))
local macro_rules | `(tactic| fail) => `(tactic| ((with_reducible apply c_decT); (focus (((try simp only [List.length_cons, List.length_nil, List.length_append, List.length_map]); omega)))))
local macro_rules | `(tactic| fail) => `(tactic| with_reducible refine c_notf ?_)
local macro_rules | `(tactic| fail) => `(tactic| with_reducible refine c_nott ?_)
local macro_rules | `(tactic| fail) => `(tactic| with_reducible refine o_eqI ?_)
local macro_rules | `(tactic| fail) => `(tactic| ((with_reducible apply o_eqIf); (focus (((try simp only [List.length_cons, List.length_nil, List.length_append, List.length_map]); omega)))))
local macro_rules | `(tactic| fail) => `(tactic| ((with_reducible apply o_eqIt); (focus (((try simp only [List.length_cons, List.length_nil, List.length_append, List.length_map]); omega)))))
local macro_rules | `(tactic| fail) => `(tactic| with_reducible refine o_isB ?_)
local macro_rules | `(tactic| fail) => `(tactic| with_reducible refine o_isN ?_)
local macro_rules | `(tactic| fail) => `(tactic| with_reducible refine o_isR ?_)
local macro_rules | `(tactic| fail) => `(tactic| with_reducible refine o_eqB ?_)
local macro_rules | `(tactic| fail) => `(tactic| with_reducible refine o_neII ?_)
local macro_rules | `(tactic| fail) => `(tactic| with_reducible refine o_neBB ?_)
local macro_rules | `(tactic| fail) => `(tactic| ((with_reducible apply o_eqSf); (focus decide)))
local macro_rules | `(tactic| fail) => `(tactic| with_reducible refine o_eqSt ?_)
local macro_rules | `(tactic| fail) => `(tactic| ((with_reducible apply o_len); focus (first | rfl | (simp only [lenD]; simp only [*]; done))))
local macro_rules | `(tactic| fail) => `(tactic| ((with_reducible apply o_setL); (focus (first | assumption | exact updS_same | exact upd_at (by assumption) (by assumption))); (focus rfl)))
local macro_rules | `(tactic| fail) => `(tactic| ((with_reducible apply o_subT); focus (rfl)))
local macro_rules | `(tactic| fail) => `(tactic| ((with_reducible apply o_subL); (focus (first | assumption | exact updS_same | exact upd_at (by assumption) (by assumption))); (focus rfl)))
local macro_rules | `(tactic| fail) => `(tactic| ((with_reducible apply o_pow); focus (unfold CPow; omega)))
local macro_rules | `(tactic| fail) => `(tactic| ((with_reducible apply o_mod); focus (omega)))
local macro_rules | `(tactic| fail) => `(tactic| ((with_reducible apply o_div); focus (unfold CDiv; omega)))
local macro_rules | `(tactic| fail) => `(tactic| ((with_reducible apply o_mul); focus (unfold CMul; omega)))
local macro_rules | `(tactic| fail) => `(tactic| ((with_reducible apply v_glob); focus (first | assumption | rfl)))
local macro_rules | `(tactic| fail) => `(tactic| ((with_reducible apply t_var); focus (rfl)))
local macro_rules | `(tactic| fail) => `(tactic| ((with_reducible apply v_var); focus (rfl)))
local macro_rules | `(tactic| fail) => `(tactic| with_reducible refine c_false ?_)
local macro_rules | `(tactic| fail) => `(tactic| with_reducible refine c_true ?_)
local macro_rules | `(tactic| fail) => `(tactic| with_reducible refine o_ge ?_)
local macro_rules | `(tactic| fail) => `(tactic| with_reducible refine o_gt ?_)
local macro_rules | `(tactic| fail) => `(tactic| with_reducible refine o_le ?_)
local macro_rules | `(tactic| fail) => `(tactic| with_reducible refine o_lt ?_)
local macro_rules | `(tactic| fail) => `(tactic| with_reducible refine o_sub ?_)
local macro_rules | `(tactic| fail) => `(tactic| with_reducible refine o_add ?_)
local macro_rules | `(tactic| fail) => `(tactic| with_reducible refine i_rng1 ?_)
local macro_rules | `(tactic| fail) => `(tactic| with_reducible refine i_seq ?_)
local macro_rules | `(tactic| fail) => `(tactic| with_reducible refine g_cons ?_)
local macro_rules | `(tactic| fail) => `(tactic| with_reducible refine g_nil ?_)
local macro_rules | `(tactic| fail) => `(tactic| with_reducible refine g_nm ?_)
local macro_rules | `(tactic| fail) => `(tactic| with_reducible refine ts_one ?_)
local macro_rules | `(tactic| fail) => `(tactic| with_reducible refine ts_nil ?_)
local macro_rules | `(tactic| fail) => `(tactic| with_reducible refine tr_int ?_)
local macro_rules | `(tactic| fail) => `(tactic| with_reducible refine tr_bl ?_)
local macro_rules | `(tactic| fail) => `(tactic| with_reducible refine tb_or ?_)
local macro_rules | `(tactic| fail) => `(tactic| with_reducible refine tb_and ?_)
local macro_rules | `(tactic| fail) => `(tactic| with_reducible refine tb_one ?_)
local macro_rules | `(tactic| fail) => `(tactic| with_reducible refine t_chain ?_)
local macro_rules | `(tactic| fail) => `(tactic| with_reducible refine t_sub ?_)
local macro_rules | `(tactic| fail) => `(tactic| with_reducible refine t_blt ?_)
local macro_rules | `(tactic| fail) => `(tactic| with_reducible refine t_call ?_)
local macro_rules | `(tactic| fail) => `(tactic| with_reducible refine t_cmp ?_)
local macro_rules | `(tactic| fail) => `(tactic| with_reducible refine t_nt ?_)
local macro_rules | `(tactic| fail) => `(tactic| with_reducible refine t_bop ?_)
local macro_rules | `(tactic| fail) => `(tactic| with_reducible refine vb_or ?_)
local macro_rules | `(tactic| fail) => `(tactic| with_reducible refine vb_and ?_)
local macro_rules | `(tactic| fail) => `(tactic| with_reducible refine vb_one ?_)
local macro_rules | `(tactic| fail) => `(tactic| with_reducible refine vo_some ?_)
local macro_rules | `(tactic| fail) => `(tactic| with_reducible refine vo_none ?_)
local macro_rules | `(tactic| fail) => `(tactic| with_reducible refine vs_cons ?_)
local macro_rules | `(tactic| fail) => `(tactic| with_reducible refine vs_nil ?_)
local macro_rules | `(tactic| fail) => `(tactic| with_reducible refine v_lc ?_)
local macro_rules | `(tactic| fail) => `(tactic| with_reducible refine v_mth ?_)
local macro_rules | `(tactic| fail) => `(tactic| with_reducible refine v_lzip ?_)
local macro_rules | `(tactic| fail) => `(tactic| with_reducible refine v_lrev ?_)
local macro_rules | `(tactic| fail) => `(tactic| with_reducible refine v_blt ?_)
local macro_rules | `(tactic| fail) => `(tactic| with_reducible refine v_call ?_)
local macro_rules | `(tactic| fail) => `(tactic| with_reducible refine v_slice ?_)
local macro_rules | `(tactic| fail) => `(tactic| with_reducible refine v_sub ?_)
local macro_rules | `(tactic| fail) => `(tactic| with_reducible refine v_lst ?_)
local macro_rules | `(tactic| fail) => `(tactic| with_reducible refine v_tup ?_)
local macro_rules | `(tactic| fail) => `(tactic| with_reducible refine v_ite ?_)
local macro_rules | `(tactic| fail) => `(tactic| with_reducible refine v_nt ?_)
local macro_rules | `(tactic| fail) => `(tactic| with_reducible refine v_bop ?_)
local macro_rules | `(tactic| fail) => `(tactic| with_reducible refine v_cmp ?_)
local macro_rules | `(tactic| fail) => `(tactic| with_reducible refine v_bin ?_)
local macro_rules | `(tactic| fail) => `(tactic| with_reducible refine v_bty ?_)
local macro_rules | `(tactic| fail) => `(tactic| with_reducible refine v_str ?_)
local macro_rules | `(tactic| fail) => `(tactic| with_reducible refine v_non ?_)
local macro_rules | `(tactic| fail) => `(tactic| with_reducible refine v_bl ?_)
local macro_rules | `(tactic| fail) => `(tactic| with_reducible refine v_int ?_)
local macro_rules | `(tactic| fail) => `(tactic| with_reducible refine s_cont ?_)
local macro_rules | `(tactic| fail) => `(tactic| with_reducible refine s_brk ?_)
local macro_rules | `(tactic| fail) => `(tactic| with_reducible refine s_nil ?_)
local macro_rules | `(tactic| fail) => `(tactic| with_reducible refine s_pass ?_)
local macro_rules | `(tactic| fail) => `(tactic| with_reducible refine s_retN ?_)
local macro_rules | `(tactic| fail) => `(tactic| with_reducible refine s_ret ?_)
local macro_rules | `(tactic| fail) => `(tactic| with_reducible refine s_ife ?_)
local macro_rules | `(tactic| fail) => `(tactic| with_reducible refine s_set ?_)
local macro_rules | `(tactic| fail) => `(tactic| with_reducible refine s_par ?_)
local macro_rules | `(tactic| fail) => `(tactic| with_reducible refine s_asg ?_)
local macro_rules | `(tactic| fail) => `(tactic| with_reducible refine s_ex ?_)

theorem spec_cell (hd : defs "_law_cell" = some dLCell) {ns : List Int} {i : Int} (hk : 1 ≤ k) (hi : 0 ≤ i ∧ i < 1000) (hl : ns.length ≤ 63) (hq : ∀ r, Q (.int r) S) : sem defs gl k "_law_cell" [.kl (ns.map D.int), .int i] S Q E := by
  obtain ⟨k, rfl⟩ : ∃ j, k = j + 1 := ⟨k - 1, by omega⟩
  have h3 : (ns.map D.int).length = ns.length := List.length_map _
  (refine sem_of hd rfl ?_; unfold dLCell; simp only [startD, List.map_cons, List.map_nil, List.length_cons, List.length_nil, List.replicate_succ, List.replicate_zero, List.cons_append, List.nil_append, Nat.reduceAdd, Nat.reduceSub])
  (repeat fail)
  refine c_dec (fun h => ?_) (fun h => ?_)
  · rw [h3] at h
    obtain ⟨z, hz⟩ := atI_ints hi.1 h
    (repeat fail)
    exact o_subK hz (hq _)
  · (repeat fail)
    refine c_dec (fun h2 => ?_) (fun h2 => ?_)
    · obtain ⟨z, hz⟩ := atI_ints (ns := ns) (i := i * 7 % ((ns.map D.int).length : Int)) (Int.emod_nonneg _ (by omega)) (by rw [← h3]; exact Int.emod_lt_of_pos _ h2)
      (repeat fail)
      refine o_subK hz ?_
      (repeat fail)
      exact hq _
    · (repeat fail)
      exact hq _
end
end Z

set_option Elab.async false
set_option linter.all false
set_option maxRecDepth 100000
set_option maxHeartbeats 4000000
namespace Z
open PySem PySem.Spec PyProof.Rows L2
theorem str_eq {a b : String} : (Str.ofString a = Str.ofString b) = (a = b) := by
  apply propext
  refine ⟨fun h => ?_, fun h => by rw [h]⟩
  rw [Str.ofString_eq_toList, Str.ofString_eq_toList] at h
  have h1 : (a.toList.map Char.toNat) = (b.toList.map Char.toNat) := by
    have := congrArg (fun s : Str => s.cps.toList) h
    simpa using this
  have h2 : a.toList = b.toList := (List.map_inj_right (fun x y e => Char.toNat_inj.mp e)).mp h1
  exact String.toList_inj.mp h2
theorem str_ne {a b : String} (h : a ≠ b) : Str.ofString a ≠ Str.ofString b := by rw [ne_eq, str_eq]; exact h
theorem strOk_of (s : String) : PyData.strOk (Str.ofString s) = true := by
  rw [Str.ofString_eq_toList]
  unfold PyData.strOk
  simp only [List.all_toArray, List.all_eq_true, List.mem_map, decide_eq_true_eq]
  rintro x ⟨c, _, rfl⟩
  have := c.valid
  unfold UInt32.isValidChar Nat.isValidChar at this
  show c.val.toNat < _
  omega
theorem shS (s : String) : SeqAt.shaped (.str (Str.ofString s)) = true := by
  unfold SeqAt.shaped
  simp only [PyData.canLay0, PyData.depth, strOk_of, Bool.true_and]
  rfl
theorem shI (i : Int) : SeqAt.shaped (.int i) = true := by
  unfold SeqAt.shaped
  simp only [PyData.canLay0, PyData.depth, Bool.true_and]
  rfl
theorem shB (i : Bool) : SeqAt.shaped (.bool i) = true := by
  unfold SeqAt.shaped
  simp only [PyData.canLay0, PyData.depth, Bool.true_and]
  rfl
section
variable {S : Sto} {Q : D → Sto → Prop}
theorem o_eqSt {x : String} (h : Q (.bl true) S) : wCmp .Eq (.str (Str.ofString x)) (.str (Str.ofString x)) S Q := by
  unfold wCmp wEq; simp only [toPS, toP]
  refine ⟨shS x, shS x, ?_⟩
  simpa [PyData.eqv] using h
theorem o_eqSf {x y : String} (n : x ≠ y) (h : Q (.bl false) S) : wCmp .Eq (.str (Str.ofString x)) (.str (Str.ofString y)) S Q := by
  unfold wCmp wEq; simp only [toPS, toP]
  refine ⟨shS x, shS y, ?_⟩
  have e : PyData.eqv (.str (Str.ofString x)) (.str (Str.ofString y)) = false := by simp only [PyData.eqv]; exact beq_eq_false_iff_ne.mpr (str_ne n)
  rw [e]
  exact h
theorem o_isR {a : Addr} (h : Q (.bl false) S) : wCmp .Is (.ref a) .non S Q := h
theorem o_isN (h : Q (.bl true) S) : wCmp .Is .non .non S Q := h
theorem o_isB {a b : Bool} (h : Q (.bl (decide (a = b))) S) : wCmp .Is (.bl a) (.bl b) S Q := h
theorem lookD_hit {k : Str} {v : D} {r : List (Key × D)} : lookD ((.inr k, v) :: r) (.inr k) = some v := by simp [lookD]
theorem lookD_miss {k j : Str} {v : D} {r : List (Key × D)} (n : k ≠ j) : lookD ((.inr k, v) :: r) (.inr j) = lookD r (.inr j) := by simp [lookD, n]
theorem look_miss {k j : Str} {v : D} {w : Option D} {r : List (Key × D)} (n : k ≠ j) (h : lookD r (.inr j) = w) : lookD ((.inr k, v) :: r) (.inr j) = w := (lookD_miss n).trans h
theorem getD_hit {k : Str} {v u : D} {r : List (Key × D)} : (lookD ((.inr k, v) :: r) (.inr k)).getD u = v := by rw [lookD_hit]; rfl
theorem getD_miss {k j : Str} {v u w : D} {r : List (Key × D)} (n : k ≠ j) (h : (lookD r (.inr j)).getD u = w) : (lookD ((.inr k, v) :: r) (.inr j)).getD u = w := by rw [lookD_miss n]; exact h
theorem getD_nil {j : Key} {u : D} : (lookD [] j).getD u = u := rfl
theorem o_eqI {i j : Int} (h : Q (.bl (decide (i = j))) S) : wCmp .Eq (.int i) (.int j) S Q := by
  unfold wCmp wEq; simp only [toPS, toP]
  refine ⟨shI i, shI j, ?_⟩
  have : PyData.eqv (.int i) (.int j) = decide (i = j) := by simp only [PyData.eqv]; by_cases z : i = j <;> simp [z]
  rw [this]
  exact h
theorem o_eqIt {i j : Int} (e : i = j) (h : Q (.bl true) S) : wCmp .Eq (.int i) (.int j) S Q := o_eqI (by rw [decide_eq_true e]; exact h)
theorem o_eqIf {i j : Int} (e : ¬ i = j) (h : Q (.bl false) S) : wCmp .Eq (.int i) (.int j) S Q := o_eqI (by rw [decide_eq_false e]; exact h)
theorem o_get1 {a : Addr} {kvs : List (Key × D)} {d v : D} {key : Key} (e : S a = some (.dct kvs)) (e1 : keyD d = some key) (e2 : (lookD kvs key).getD .non = v) (h : Q v S) : wMth .get (.ref a) [d] S Q := by
  unfold wMth; simp only [e, e1, e2]; exact h
theorem o_get2 {a : Addr} {kvs : List (Key × D)} {d v u : D} {key : Key} (e : S a = some (.dct kvs)) (e1 : keyD d = some key) (e2 : (lookD kvs key).getD u = v) (h : Q v S) : wMth .get (.ref a) [d, u] S Q := by
  unfold wMth; simp only [e, e1, e2]; exact h
theorem o_append {a : Addr} {xs : List D} {d : D} (e : S a = some (.lst xs)) (l : xs.length < sizeLine) (h : Q .non (updS S a (.lst (xs ++ [d])))) : wMth .append (.ref a) [d] S Q := by
  unfold wMth; simp only [e]; exact ⟨l, h⟩
theorem recvL {m : Me} {a : Addr} {xs : List D} (e : S a = some (.lst xs)) (h : m.ofDict = false) : okRecv m S (.ref a) = true := by unfold okRecv; simp [e, h]
theorem recvD {m : Me} {a : Addr} {xs : List (Key × D)} (e : S a = some (.dct xs)) (h : m.ofDict = true) : okRecv m S (.ref a) = true := by unfold okRecv; simp [e, h]
theorem o_tuple {d : D} {xs : List D} (e : itemsD S d = some xs) (h : Q (.tup xs) S) : wBlt .tuple [d] S Q := by unfold wBlt; simp only [e]; exact h
theorem items_ref {a : Addr} {xs : List D} (e : S a = some (.lst xs)) : itemsD S (.ref a) = some xs := by unfold itemsD; simp only [e]
theorem len_ref {a : Addr} {xs : List D} (e : S a = some (.lst xs)) : lenD S (.ref a) = some xs.length := by unfold lenD; simp only [e]
theorem o_intB {b : Bool} (h : Q (.int (if b then 1 else 0)) S) : wBlt .int [.bl b] S Q := h
end
theorem str_beq {a b : String} : (Str.ofString a == Str.ofString b) = decide (a = b) := by
  by_cases h : a = b
  · subst h; simp
  · rw [beq_eq_false_iff_ne.mpr (str_ne h)]; simp [h]
theorem lk_hit {β : Type} {k : Str} {v : β} {r : List (Str × β)} : List.lookup k ((k, v) :: r) = some v := by simp [List.lookup_cons]
theorem lk_miss {β : Type} {k j : Str} {v : β} {w : Option β} {r : List (Str × β)} (n : j ≠ k) (h : List.lookup k r = w) : List.lookup k ((j, v) :: r) = w := by
  rw [List.lookup_cons, show (k == j) = false from beq_eq_false_iff_ne.mpr (Ne.symm n)]; exact h
section
variable {S : Sto} {Q : D → Sto → Prop}
theorem o_isinst {d : D} {n t : String} {b : Bool} (e : tyD S d = some t) (e2 : kitB t n = some b) (h : Q (.bl b) S) : wBlt .isinst [d, .ty n] S Q := by unfold wBlt; simp only [e, e2]; exact h
theorem o_isinT {d : D} {n t : String} (e : tyD S d = some t) (e2 : kitB t n = some true) (h : Q (.bl true) S) : wBlt .isinst [d, .ty n] S Q := o_isinst e e2 h
theorem o_isinF {d : D} {n t : String} (e : tyD S d = some t) (e2 : kitB t n = some false) (h : Q (.bl false) S) : wBlt .isinst [d, .ty n] S Q := o_isinst e e2 h
theorem o_ninC {z : Str} {kvs : List (Str × Int)} {i : Int} (e : kvs.lookup z = some i) (h : Q (.bl false) S) : wCmp .NotIn (.str z) (.cd kvs) S Q := by unfold wCmp; simp only [e]; exact h
theorem o_inC {z : Str} {kvs : List (Str × Int)} {i : Int} (e : kvs.lookup z = some i) (h : Q (.bl true) S) : wCmp .In (.str z) (.cd kvs) S Q := by unfold wCmp; simp only [e]; exact h
theorem o_inT {x : D} {ys : List D} {b : Bool} (f : flatD x = true) (g : ys.all flatD = true) (e : inF x ys = b) (h : Q (.bl b) S) : wCmp .In x (.tup ys) S Q := by unfold wCmp; simp only [itemsD, e]; exact .inl ⟨f, g, h⟩
theorem o_sliceT {xs ys : List D} {lo hi : Option Int} (e : cutD xs lo hi = ys) (h : Q (.tup ys) S) : wSlice (.tup xs) lo hi S Q := by unfold wSlice; simp only [e]; exact h
theorem o_inTt {x : D} {ys : List D} (f : flatD x = true) (g : ys.all flatD = true) (e : inF x ys = true) (h : Q (.bl true) S) : wCmp .In x (.tup ys) S Q := o_inT f g e h
theorem o_inTf {x : D} {ys : List D} (f : flatD x = true) (g : ys.all flatD = true) (e : inF x ys = false) (h : Q (.bl false) S) : wCmp .In x (.tup ys) S Q := o_inT f g e h
end
theorem c_nd {p : Prop} [Decidable p] {A B : Prop} (h1 : p → B) (h2 : ¬ p → A) : if (!decide p) = true then A else B := by
  by_cases h : p
  · simp only [h, decide_true, Bool.not_true, Bool.false_eq_true, if_false]; exact h1 h
  · simp only [h, decide_false, Bool.not_false, if_true]; exact h2 h
theorem c_ndT {p : Prop} [Decidable p] {A B : Prop} (e : p) (h : B) : if (!decide p) = true then A else B := c_nd (fun _ => h) (fun z => absurd e z)
theorem c_ndF {p : Prop} [Decidable p] {A B : Prop} (e : ¬ p) (h : A) : if (!decide p) = true then A else B := c_nd (fun z => absurd z e) (fun _ => h)
inductive Pg where
  | inp (i : Nat) | num (n : Int) | yes | no | plus (n : Int) (a : Pg) | least (a b : Pg) | most (a b : Pg) | atmost (a b : Pg) | not (a : Pg) | both (a b : Pg) | either (a b : Pg) | ife (c a b : Pg)
def Pg.d : Pg → D
  | .inp i => .tup [.str "in", .int i]
  | .num n => .tup [.str "num", .int n]
  | .yes => .tup [.str "yes"]
  | .no => .tup [.str "no"]
  | .plus n a => .tup [.str "plus", .int n, a.d]
  | .least a b => .tup [.str "least", a.d, b.d]
  | .most a b => .tup [.str "most", a.d, b.d]
  | .atmost a b => .tup [.str "atmost", a.d, b.d]
  | .not a => .tup [.str "not", a.d]
  | .both a b => .tup [.str "both", a.d, b.d]
  | .either a b => .tup [.str "either", a.d, b.d]
  | .ife c a b => .tup [.str "if", c.d, a.d, b.d]
def Pg.ok (ks : List Bool) : Bool → Pg → Prop
  | t, .inp i => ks[i]? = some t
  | t, .num _ => t = false
  | t, .yes => t = true
  | t, .no => t = true
  | t, .plus _ a => t = false ∧ a.ok ks false
  | t, .least a b => t = false ∧ a.ok ks false ∧ b.ok ks false
  | t, .most a b => t = false ∧ a.ok ks false ∧ b.ok ks false
  | t, .atmost a b => t = true ∧ a.ok ks false ∧ b.ok ks false
  | t, .not a => t = true ∧ a.ok ks true
  | t, .both a b => t = true ∧ a.ok ks true ∧ b.ok ks true
  | t, .either a b => t = true ∧ a.ok ks true ∧ b.ok ks true
  | t, .ife c a b => c.ok ks true ∧ a.ok ks t ∧ b.ok ks t
def Pg.size : Pg → Nat
  | .inp _ => 1 | .num _ => 1 | .yes => 1 | .no => 1
  | .plus _ a => a.size + 1 | .not a => a.size + 1
  | .least a b => a.size + b.size + 1 | .most a b => a.size + b.size + 1 | .atmost a b => a.size + b.size + 1
  | .both a b => a.size + b.size + 1 | .either a b => a.size + b.size + 1
  | .ife c a b => c.size + a.size + b.size + 1
def Pg.ht : Pg → Nat
  | .inp _ => 1 | .num _ => 1 | .yes => 1 | .no => 1
  | .plus _ a => a.ht + 1 | .not a => a.ht + 1
  | .least a b => max a.ht b.ht + 1 | .most a b => max a.ht b.ht + 1 | .atmost a b => max a.ht b.ht + 1
  | .both a b => max a.ht b.ht + 1 | .either a b => max a.ht b.ht + 1
  | .ife c a b => max c.ht (max a.ht b.ht) + 1
def kS (t : Bool) : Str := if t then "truth" else "num"
def kD (ks : List Bool) : List D := ks.map fun t => .str (kS t)
def World3 (S : Sto) (a : Addr) (ks : List Bool) : Prop := ∃ c i n : Int, S a = some (.dct [(.inr "kinds", .tup (kD ks)), (.inr "cmp", .int c), (.inr "if", .int i), (.inr "any", .int n)])
theorem World3.off {S S' : Sto} {a : Addr} {A : List Addr} {ks : List Bool} (f : World3 S a ks) (h : Off A S S') (n : a ∉ A) : World3 S' a ks := let ⟨x, y, z, e⟩ := f; ⟨x, y, z, h a _ n e⟩
end Z

set_option Elab.async false
set_option linter.all false
set_option maxRecDepth 100000
set_option maxHeartbeats 4000000
namespace Z
open PySem PySem.Spec PyProof.Rows L2
section
variable {S : Sto} {Q : D → Sto → Prop}
end
end Z

set_option Elab.async false
set_option linter.all false
namespace Z
open PySem PySem.Spec PyProof.Rows L2
def dLFlowB : DefT := ⟨2, 3, [
    .asg (.nm 2) (.blt .abs [(.call "_law_cell" [(.var 0), (.var 1)])]),
    .ret (.lst [(.bin .Mult (.var 2) (.blt .int [(.cmp .GtE (.var 2) (.bin .Pow (.int 10) (.int 18)))])), (.int 0), (.bin .Add (.bin .Mod (.var 2) (.int 2147483629)) (.bin .Mult (.int 40692) (.var 1)))])]⟩
def dLDrawB : DefT := ⟨2, 3, [
    .ife (.cmp .Gt (.sub (.var 0) (.int 0)) (.int 0)) [.asg (.nm 2) (.bin .Mod (.sub (.var 0) (.int 0)) (.var 1)), .set (.var 0) (.int 0) (.bin .FloorDiv (.sub (.var 0) (.int 0)) (.var 1)), .ret (.var 2)] [],
    .set (.var 0) (.int 1) (.bin .Add (.sub (.var 0) (.int 1)) (.int 1)),
    .set (.var 0) (.int 2) (.bin .Mod (.bin .Add (.bin .Add (.bin .Mult (.sub (.var 0) (.int 2)) (.int 48271)) (.int 12820163)) (.sub (.var 0) (.int 1))) (.int 2147483647)),
    .ret (.bin .Mod (.bin .FloorDiv (.sub (.var 0) (.int 2)) (.int 31)) (.var 1))]⟩
def dClosed : DefT := ⟨2, 9, [
    .asg (.nm 2) (.lc (.nm 3) (.rng1 (.bin .Add (.var 0) (.int 1))) [] [("i", 3)] (.lc (.nm 4) (.rng1 (.bin .Add (.var 0) (.int 1))) [] [("j", 4)] .non)),
    .fr (.nm 3) (.rng1 (.bin .Add (.var 0) (.int 1))) [.set (.sub (.var 2) (.var 3)) (.var 3) (.int 0)],
    .fr (.tup [(.nm 3), (.nm 4), (.nm 5)]) (.seq (.var 1)) [.asg (.nm 6) (.sub (.sub (.var 2) (.bin .Add (.var 3) (.int 1))) (.bin .Add (.var 4) (.int 1))), .ife (.bop .Or [(.cmp .Is (.var 6) .non), (.cmp .Lt (.var 5) (.var 6))]) [.set (.sub (.var 2) (.bin .Add (.var 3) (.int 1))) (.bin .Add (.var 4) (.int 1)) (.var 5)] []],
    .fr (.nm 7) (.rng1 (.bin .Add (.var 0) (.int 1))) [.fr (.nm 3) (.rng1 (.bin .Add (.var 0) (.int 1))) [.fr (.nm 4) (.rng1 (.bin .Add (.var 0) (.int 1))) [.ife (.bop .And [(.cmp .IsNot (.sub (.sub (.var 2) (.var 3)) (.var 7)) .non), (.cmp .IsNot (.sub (.sub (.var 2) (.var 7)) (.var 4)) .non)]) [.asg (.nm 8) (.bin .Add (.sub (.sub (.var 2) (.var 3)) (.var 7)) (.sub (.sub (.var 2) (.var 7)) (.var 4))), .ife (.bop .Or [(.cmp .Is (.sub (.sub (.var 2) (.var 3)) (.var 4)) .non), (.cmp .Lt (.var 8) (.sub (.sub (.var 2) (.var 3)) (.var 4)))]) [.set (.sub (.var 2) (.var 3)) (.var 4) (.var 8)] []] []]]],
    .ret (.var 2)]⟩
def dBoundsInit : DefT := ⟨3, 6, [
    .setf (.var 0) "many" (.var 1),
    .setf (.var 0) "given" (.blt .tuple [(.lc (.tup [(.nm 3), (.nm 4), (.nm 5)]) (.seq (.var 2)) [] [("i", 3), ("j", 4), ("c", 5)] (.tup [(.var 3), (.var 4), (.var 5)]))]),
    .setf (.var 0) "sums" (.call "closed" [(.var 1), (.fld (.var 0) "given")])]⟩
def dBoundsIsEmpty : DefT := ⟨1, 2, [
    .ret (.blt .any [(.lc (.nm 1) (.rng1 (.bin .Add (.fld (.var 0) "many") (.int 1))) [] [("k", 1)] (.cmp .Lt (.sub (.sub (.fld (.var 0) "sums") (.var 1)) (.var 1)) (.int 0)))])]⟩
def dBoundsEq : DefT := ⟨2, 2, [
    .ife (.bop .Or [(.nt (.isc (.var 1) "Bounds")), (.cmp .NotEq (.fld (.var 0) "many") (.fld (.var 1) "many"))]) [.ret (.bl false)] [],
    .ret (.bop .Or [(.bop .And [(.meth "Bounds.is_empty" "Bounds" "is_empty" (.var 0) []), (.meth "Bounds.is_empty" "Bounds" "is_empty" (.var 1) [])]), (.cmp .Eq (.fld (.var 0) "sums") (.fld (.var 1) "sums"))])]⟩
def dLRows : DefT := ⟨4, 8, [
    .asg (.nm 4) (.lst []),
    .fr (.nm 5) (.rng1 (.call "_law_draw" [(.var 0), (.bin .Add (.var 2) (.int 1))])) [.par 6 7 (.bin .Sub (.call "_law_draw" [(.var 0), (.bin .Add (.var 1) (.int 1))]) (.int 1)) (.bin .Sub (.call "_law_draw" [(.var 0), (.bin .Add (.var 1) (.int 1))]) (.int 1)), .ife (.bop .And [(.cmp .Gt (.call "_law_draw" [(.var 0), (.int 8)]) (.int 0)), (.cmp .Gt (.var 1) (.int 0))]) [.asg (.nm 7) (.bin .Sub (.bin .Mod (.bin .Add (.bin .Add (.var 6) (.int 2)) (.call "_law_draw" [(.var 0), (.var 1)])) (.bin .Add (.var 1) (.int 1))) (.int 1))] [], .ex (.mth .append (.var 4) [(.tup [(.var 6), (.var 7), (.blt .min [(.var 3), (.bin .Sub (.call "_law_draw" [(.var 0), (.bin .Add (.bin .Mult (.int 2) (.var 3)) (.int 1))]) (.sub (.lst [(.var 3), (.bin .FloorDiv (.var 3) (.int 2))]) (.call "_law_draw" [(.var 0), (.int 2)])))])])])],
    .ret (.var 4)]⟩
def dLDown : DefT := ⟨3, 9, [
    .asg (.nm 3) (.bin .Mult (.lst [.non]) (.bin .Add (.var 0) (.int 1))),
    .set (.var 3) (.var 2) (.int 0),
    .asg (.nm 4) (.bl false),
    .fr (.nm 5) (.rng1 (.bin .Add (.var 0) (.int 2))) [.asg (.nm 4) (.bl false), .fr (.tup [(.nm 6), (.nm 7), (.nm 8)]) (.seq (.var 1)) [.ife (.bop .And [(.cmp .IsNot (.sub (.var 3) (.var 7)) .non), (.bop .Or [(.cmp .Is (.sub (.var 3) (.var 6)) .non), (.cmp .Lt (.bin .Add (.sub (.var 3) (.var 7)) (.var 8)) (.sub (.var 3) (.var 6)))])]) [.set (.var 3) (.var 6) (.bin .Add (.sub (.var 3) (.var 7)) (.var 8)), .asg (.nm 4) (.bl true)] []]],
    .ret (.tup [(.var 3), (.var 4)])]⟩
def dBoundsRows : DefT := ⟨1, 1, [
    .ret (.fld (.var 0) "given")]⟩
end Z

set_option Elab.async false
set_option linter.all false
set_option maxRecDepth 100000
set_option maxHeartbeats 400000
namespace Z
open PySem PySem.Spec PyProof.Rows L2
section
variable {C : Cw} {ex : EX} {σ : StD} {S : Sto} {Q : D → Sto → Prop} {B : Bool → Sto → Prop} {D' : EndD} {ss : List TS}
theorem v_fld {a : T} {f : Str} (h : wpE C ex a σ S fun x S1 => wFld f x S1 Q) : wpE C ex (.fld a f) σ S Q := by unfold wpE; exact h
theorem v_new {q c : Str} {ts : List T} (h : wpEs C ex ts σ S fun ds S1 => ∀ x, S1 x = none → C.cal q (.ref x :: (ds ++ padT q ts.length)) (updS S1 x (.ins c [])) (fun v S2 => v = .non ∧ Q (.ref x) S2) fun xx S2 => ex xx σ S2) : wpE C ex (.new q c ts) σ S Q := by unfold wpE; exact h
theorem v_meth {q c m : Str} {a : T} {ts : List T} (h : wpE C ex a σ S fun x S1 => okSelf c m S1 x = true ∧ wpEs C ex ts σ S1 fun ds S2 => C.cal q (x :: ds) S2 Q fun xx S3 => ex xx σ S3) : wpE C ex (.meth q c m a ts) σ S Q := by unfold wpE; exact h
theorem t_meth {q c m : Str} {a : T} {ts : List T} (h : wpE C ex a σ S fun x S1 => okSelf c m S1 x = true ∧ wpEs C ex ts σ S1 fun ds S2 => C.cal q (x :: ds) S2 (fun d S3 => TrD S3 d B) fun xx S3 => ex xx σ S3) : wpT C ex (.meth q c m a ts) σ S B := by
  unfold wpT
  have e : (fun (d : D) (S3 : Sto) => TrD S3 d B) = fun d S3 => (match tru S3 d with | some k => B k S3 | none => False) := by
    funext d S3
    unfold TrD
    apply propext
    constructor
    · rintro ⟨k, e, h⟩; rw [e]; exact h
    · intro h
      split at h
      · rename_i k e; exact ⟨k, e, h⟩
      · exact h.elim
  simp only [e] at h
  exact h
theorem v_isc {i : Nat} {m : Str} (h : wpE C ex (.var i) σ S fun x S1 => isIns m S1 x = true ∧ Q (.bl true) S1) : wpE C ex (.isc (.var i) m) σ S Q := by
  unfold wpE at h ⊢
  unfold wpE
  split at h
  · exact .inl h
  · exact h.elim
theorem t_isc {i : Nat} {m : Str} (h : wpE C ex (.var i) σ S fun x S1 => isIns m S1 x = true ∧ B true S1) : wpT C ex (.isc (.var i) m) σ S B := by
  unfold wpE at h
  unfold wpT wpE
  split at h
  · exact .inl h
  · exact h.elim
theorem t_isc2 {a : T} {m : Str} (h : wpE C ex a σ S fun x S1 => wIsc m x S1 B) : wpT C ex (.isc a m) σ S B := by unfold wpT; exact h
theorem v_cmpo {op : CmpOp} {q c : Str} {a b : T} (h : wpE C ex a σ S fun x S1 => wpE C ex b σ S1 fun y S2 => wOwn C.cal q c op x y S2 Q) : wpE C ex (.cmpo op q c a b) σ S Q := by unfold wpE; exact h
theorem v_eqo {q c : Str} {a b : T} (h : wpE C ex a σ S fun x S1 => wpE C ex b σ S1 fun y S2 => isIns c S2 x = true ∧ isIns c S2 y = true ∧ C.cal q [x, y] S2 (fun d S3 => ∃ k, d = .bl k ∧ Q (.bl k) S3) fun xx S3 => ex xx σ S3) : wpE C ex (.eqo q c a b) σ S Q := by unfold wpE; exact h
theorem s_setf {a e : T} {f : Str} (h : wpE C ex e σ S fun v S1 => wpE C ex a σ S1 fun o S2 => wSetf f o v S2 fun S3 => wpSs C ex ss D' σ S3) : wpSs C ex (.setf a f e :: ss) D' σ S := by unfold wpSs wpS; exact h
theorem o_fld {a : Addr} {c f : Str} {fs : List (Str × D)} {v : D} (e : S a = some (.ins c fs)) (l : fs.lookup f = some v) (h : Q v S) : wFld f (.ref a) S Q := by unfold wFld; simp only [e, l]; exact h
theorem o_setf {a : Addr} {c f : Str} {fs : List (Str × D)} {v : D} {R : Sto → Prop} (e : S a = some (.ins c fs)) (hl : fs.length < 100) (h : R (updS S a (.ins c (putFD f v fs)))) : wSetf f (.ref a) v S R := by unfold wSetf; simp only [e]; exact ⟨hl, h⟩
theorem selfOk {a : Addr} {c m : Str} {fs : List (Str × D)} (e : S a = some (.ins c fs)) (h : (fs.lookup m).isNone = true) : okSelf c m S (.ref a) = true := by unfold okSelf; simp [e, h]
theorem insOk {a : Addr} {c : Str} {fs : List (Str × D)} (e : S a = some (.ins c fs)) : isIns c S (.ref a) = true := by unfold isIns; simp [e]
end
end Z

set_option Elab.async false
set_option linter.all false
set_option maxRecDepth 100000
set_option maxHeartbeats 4000000
namespace Z
open PySem PySem.Spec PyProof.Rows L2
abbrev Row := Int × Int × Int
def rowD (r : Row) : D := .tup [.int r.1, .int r.2.1, .int r.2.2]
def RowOk (n f : Int) (r : Row) : Prop := -1 ≤ r.1 ∧ r.1 < n ∧ -1 ≤ r.2.1 ∧ r.2.1 < n ∧ -f ≤ r.2.2 ∧ r.2.2 ≤ f
theorem mem_rng {n : Nat} {d : D} (h : d ∈ (List.range n).map fun i => D.int (i : Nat)) : ∃ i : Nat, d = .int i ∧ i < n := by
  obtain ⟨i, hi, rfl⟩ := List.mem_map.mp h
  exact ⟨i, rfl, List.mem_range.mp hi⟩
theorem Flow.newB {S : Sto} {a p : Addr} {o : Ob} (f : Flow S a) (h : S p = none) : Flow (updS S p o) a := let ⟨x, y, z, e, r⟩ := f; ⟨x, y, z, upd_at h e, r⟩
theorem Flow.setB {S : Sto} {a p : Addr} {o : Ob} (f : Flow S a) (h : a ≠ p) : Flow (updS S p o) a := let ⟨x, y, z, e, r⟩ := f; ⟨x, y, z, by rw [updS_ne h]; exact e, r⟩
section
variable {defs : Str → Option DefT} {gl : Str → Option D} {k : Nat} {S : Sto} {Q : D → Sto → Prop} {E : Exc → Sto → Prop}
theorem o_abs {i : Int} (h : Q (.int (if i < 0 then -i else i)) S) : wBlt .abs [.int i] S Q := h
theorem o_min2 {i j : Int} (h : ∀ c, (c = i ∨ c = j) → c ≤ i → c ≤ j → Q (.int c) S) : wBlt .min [.int i, .int j] S Q := by
  have : Q (.int (if j < i then j else i)) S := by
    split
    · exact h _ (.inr rfl) (by omega) (by omega)
    · exact h _ (.inl rfl) (by omega) (by omega)
  exact this
local macro_rules | `(tactic| fail) => `(tactic| ((with_reducible refine And.intro ?_ ?_); (focus (exact Nat.le_of_ble_eq_true rfl))))
local macro_rules | `(tactic| fail) => `(tactic| with_reducible refine ⟨_, rfl, ?_⟩)
local macro_rules | `(tactic| fail) => `(tactic| ((with_reducible apply o_sliceT); (focus rfl)))
local macro_rules | `(tactic| fail) => `(tactic| ((with_reducible apply o_inTf); (focus rfl); (focus rfl); (focus (simp [inF, eqF, str_beq]; done))))
local macro_rules | `(tactic| fail) => `(tactic| ((with_reducible apply o_inTt); (focus rfl); (focus rfl); (focus (simp [inF, eqF, str_beq]; done))))
local macro_rules | `(tactic| fail) => `(tactic| ((with_reducible apply o_subC); (focus ((repeat (first | with_reducible exact lk_hit | ((with_reducible apply lk_miss); (focus (exact str_ne (by decide)))))); done))))
local macro_rules | `(tactic| fail) => `(tactic| ((with_reducible apply o_inC); (focus ((repeat (first | with_reducible exact lk_hit | ((with_reducible apply lk_miss); (focus (exact str_ne (by decide)))))); done))))
local macro_rules | `(tactic| fail) => `(tactic| ((with_reducible apply o_ninC); (focus ((repeat (first | with_reducible exact lk_hit | ((with_reducible apply lk_miss); (focus (exact str_ne (by decide)))))); done))))
local macro_rules | `(tactic| fail) => `(tactic| ((with_reducible apply o_isinF); (focus rfl); (focus (decide +kernel))))
local macro_rules | `(tactic| fail) => `(tactic| ((with_reducible apply o_isinT); (focus rfl); (focus (decide +kernel))))
local macro_rules | `(tactic| fail) => `(tactic| with_reducible refine i_enm ?_)
local macro_rules | `(tactic| fail) => `(tactic| ((with_reducible apply g_tup); (focus rfl); (focus rfl)))
local macro_rules | `(tactic| fail) => `(tactic| ((with_reducible apply v_dctN); (focus (decide +kernel))))
local macro_rules | `(tactic| fail) => `(tactic| ((with_reducible apply o_len); (focus (exact len_ref (by (first | assumption | exact updS_same | exact upd_at (by assumption) (by assumption)))))))
local macro_rules | `(tactic| fail) => `(tactic| ((with_reducible apply o_tuple); (focus (first | rfl | exact items_ref (by (first | assumption | exact updS_same | exact upd_at (by assumption) (by assumption)))))))
local macro_rules | `(tactic| fail) => `(tactic| ((with_reducible apply o_get2); (focus (first | assumption | exact updS_same | exact upd_at (by assumption) (by assumption))); (focus rfl); (focus ((repeat (first | with_reducible exact getD_hit | with_reducible exact getD_nil | ((with_reducible apply getD_miss); (focus (exact str_ne (by decide)))))); done))))
local macro_rules | `(tactic| fail) => `(tactic| ((with_reducible apply o_get1); (focus (first | assumption | exact updS_same | exact upd_at (by assumption) (by assumption))); (focus rfl); (focus ((repeat (first | with_reducible exact getD_hit | with_reducible exact getD_nil | ((with_reducible apply getD_miss); (focus (exact str_ne (by decide)))))); done))))
local macro_rules | `(tactic| fail) => `(tactic| ((with_reducible refine And.intro ?_ ?_); (focus (first | exact recvL (by (first | assumption | exact updS_same | exact upd_at (by assumption) (by assumption))) rfl | exact recvD (by (first | assumption | exact updS_same | exact upd_at (by assumption) (by assumption))) rfl))))
local macro_rules | `(tactic| fail) => `(tactic| ((with_reducible apply o_subD); (focus (first | assumption | exact updS_same | exact upd_at (by assumption) (by assumption))); (focus rfl); (focus ((repeat (first | with_reducible exact lookD_hit | ((with_reducible apply look_miss); (focus (exact str_ne (by decide)))))); done))))
local macro_rules | `(tactic| fail) => `(tactic| ((with_reducible apply c_ndF); (focus (((try simp only [List.length_cons, List.length_nil, List.length_append, List.length_map]); omega)))))
local macro_rules | `(tactic| fail) => `(tactic| ((with_reducible apply c_ndT); (focus (((try simp only [List.length_cons, List.length_nil, List.length_append, List.length_map]); omega)))))
local macro_rules | `(tactic| fail) => `(tactic| with_reducible refine o_intB ?_)
local macro_rules | `(tactic| fail) => `(tactic| ((with_reducible apply c_decF); (focus (((try simp only [List.length_cons, List.length_nil, List.length_append, List.length_map]); omega)))))
local macro_rules | `(tactic| fail) => `(tactic| ((with_reducible apply c_decT); (focus (((try simp only [List.length_cons, List.length_nil, List.length_append, List.length_map]); omega)))))
local macro_rules | `(tactic| fail) => `(tactic| with_reducible refine c_notf ?_)
local macro_rules | `(tactic| fail) => `(tactic| with_reducible refine c_nott ?_)
local macro_rules | `(tactic| fail) => `(tactic| with_reducible refine o_eqI ?_)
local macro_rules | `(tactic| fail) => `(tactic| ((with_reducible apply o_eqIf); (focus (((try simp only [List.length_cons, List.length_nil, List.length_append, List.length_map]); omega)))))
local macro_rules | `(tactic| fail) => `(tactic| ((with_reducible apply o_eqIt); (focus (((try simp only [List.length_cons, List.length_nil, List.length_append, List.length_map]); omega)))))
local macro_rules | `(tactic| fail) => `(tactic| with_reducible refine o_isB ?_)
local macro_rules | `(tactic| fail) => `(tactic| with_reducible refine o_isN ?_)
local macro_rules | `(tactic| fail) => `(tactic| with_reducible refine o_isR ?_)
local macro_rules | `(tactic| fail) => `(tactic| with_reducible refine o_eqB ?_)
local macro_rules | `(tactic| fail) => `(tactic| ((with_reducible apply o_neIf); (focus (((try simp only [List.length_cons, List.length_nil, List.length_append, List.length_map]); omega)))))
local macro_rules | `(tactic| fail) => `(tactic| ((with_reducible apply o_neIt); (focus (((try simp only [List.length_cons, List.length_nil, List.length_append, List.length_map]); omega)))))
local macro_rules | `(tactic| fail) => `(tactic| with_reducible refine o_neII ?_)
local macro_rules | `(tactic| fail) => `(tactic| with_reducible refine o_neBB ?_)
local macro_rules | `(tactic| fail) => `(tactic| ((with_reducible apply o_eqSf); (focus decide)))
local macro_rules | `(tactic| fail) => `(tactic| ((with_reducible apply o_atr); (focus rfl)))
local macro_rules | `(tactic| fail) => `(tactic| with_reducible refine o_isx ?_)
local macro_rules | `(tactic| fail) => `(tactic| with_reducible refine o_eqSt ?_)
local macro_rules | `(tactic| fail) => `(tactic| ((with_reducible apply o_len); focus (first | rfl | (simp only [lenD]; simp only [*]; done))))
local macro_rules | `(tactic| fail) => `(tactic| ((with_reducible apply o_setL); (focus (first | assumption | exact updS_same | exact upd_at (by assumption) (by assumption))); (focus rfl)))
local macro_rules | `(tactic| fail) => `(tactic| ((with_reducible refine And.intro ?_ ?_); (focus (first | exact selfOk (by (first | assumption | exact updS_same | exact upd_at (by assumption) (by assumption))) rfl | exact insOk (by (first | assumption | exact updS_same | exact upd_at (by assumption) (by assumption)))))))
local macro_rules | `(tactic| fail) => `(tactic| ((with_reducible apply o_setf); (focus (first | assumption | exact updS_same | exact upd_at (by assumption) (by assumption))); (focus (decide))))
local macro_rules | `(tactic| fail) => `(tactic| ((with_reducible apply o_fld); (focus (first | assumption | exact updS_same | exact upd_at (by assumption) (by assumption))); (focus rfl)))
local macro_rules | `(tactic| fail) => `(tactic| ((with_reducible apply o_subT); focus (rfl)))
local macro_rules | `(tactic| fail) => `(tactic| ((with_reducible apply o_subL); (focus (first | assumption | exact updS_same | exact upd_at (by assumption) (by assumption))); (focus rfl)))
local macro_rules | `(tactic| fail) => `(tactic| ((with_reducible apply o_pow); focus (unfold CPow; omega)))
local macro_rules | `(tactic| fail) => `(tactic| ((with_reducible apply o_mod); focus (omega)))
local macro_rules | `(tactic| fail) => `(tactic| ((with_reducible apply o_div); focus (unfold CDiv; omega)))
local macro_rules | `(tactic| fail) => `(tactic| ((with_reducible apply o_mul); focus (unfold CMul; omega)))
local macro_rules | `(tactic| fail) => `(tactic| ((with_reducible apply v_glob); focus (first | assumption | rfl)))
local macro_rules | `(tactic| fail) => `(tactic| ((with_reducible apply t_var); focus (rfl)))
local macro_rules | `(tactic| fail) => `(tactic| ((with_reducible apply v_var); focus (rfl)))
local macro_rules | `(tactic| fail) => `(tactic| with_reducible refine c_false ?_)
local macro_rules | `(tactic| fail) => `(tactic| with_reducible refine c_true ?_)
local macro_rules | `(tactic| fail) => `(tactic| with_reducible refine o_ge ?_)
local macro_rules | `(tactic| fail) => `(tactic| with_reducible refine o_gt ?_)
local macro_rules | `(tactic| fail) => `(tactic| with_reducible refine o_le ?_)
local macro_rules | `(tactic| fail) => `(tactic| with_reducible refine o_lt ?_)
local macro_rules | `(tactic| fail) => `(tactic| with_reducible refine o_sub ?_)
local macro_rules | `(tactic| fail) => `(tactic| with_reducible refine o_add ?_)
local macro_rules | `(tactic| fail) => `(tactic| with_reducible refine o_sub1 ?_)
local macro_rules | `(tactic| fail) => `(tactic| with_reducible refine o_sub0 ?_)
local macro_rules | `(tactic| fail) => `(tactic| with_reducible refine i_rng1 ?_)
local macro_rules | `(tactic| fail) => `(tactic| with_reducible refine i_seq ?_)
local macro_rules | `(tactic| fail) => `(tactic| with_reducible refine g_cons ?_)
local macro_rules | `(tactic| fail) => `(tactic| with_reducible refine g_nil ?_)
local macro_rules | `(tactic| fail) => `(tactic| with_reducible refine g_nm ?_)
local macro_rules | `(tactic| fail) => `(tactic| with_reducible refine ts_one ?_)
local macro_rules | `(tactic| fail) => `(tactic| with_reducible refine ts_nil ?_)
local macro_rules | `(tactic| fail) => `(tactic| with_reducible refine tr_int ?_)
local macro_rules | `(tactic| fail) => `(tactic| with_reducible refine tr_bl ?_)
local macro_rules | `(tactic| fail) => `(tactic| with_reducible refine tb_or ?_)
local macro_rules | `(tactic| fail) => `(tactic| with_reducible refine tb_and ?_)
local macro_rules | `(tactic| fail) => `(tactic| with_reducible refine tb_one ?_)
local macro_rules | `(tactic| fail) => `(tactic| with_reducible refine t_chain ?_)
local macro_rules | `(tactic| fail) => `(tactic| with_reducible refine t_sub ?_)
local macro_rules | `(tactic| fail) => `(tactic| with_reducible refine t_blt ?_)
local macro_rules | `(tactic| fail) => `(tactic| with_reducible refine t_call ?_)
local macro_rules | `(tactic| fail) => `(tactic| with_reducible refine t_cmp ?_)
local macro_rules | `(tactic| fail) => `(tactic| with_reducible refine t_nt ?_)
local macro_rules | `(tactic| fail) => `(tactic| with_reducible refine t_bop ?_)
local macro_rules | `(tactic| fail) => `(tactic| with_reducible refine vb_or ?_)
local macro_rules | `(tactic| fail) => `(tactic| with_reducible refine vb_and ?_)
local macro_rules | `(tactic| fail) => `(tactic| with_reducible refine vb_one ?_)
local macro_rules | `(tactic| fail) => `(tactic| with_reducible refine vo_some ?_)
local macro_rules | `(tactic| fail) => `(tactic| with_reducible refine vo_none ?_)
local macro_rules | `(tactic| fail) => `(tactic| with_reducible refine vs_cons ?_)
local macro_rules | `(tactic| fail) => `(tactic| with_reducible refine vs_nil ?_)
local macro_rules | `(tactic| fail) => `(tactic| with_reducible refine s_try ?_)
local macro_rules | `(tactic| fail) => `(tactic| with_reducible refine s_setf ?_)
local macro_rules | `(tactic| fail) => `(tactic| with_reducible refine v_eqo ?_)
local macro_rules | `(tactic| fail) => `(tactic| with_reducible refine t_isc ?_)
local macro_rules | `(tactic| fail) => `(tactic| with_reducible refine v_isc ?_)
local macro_rules | `(tactic| fail) => `(tactic| with_reducible refine t_meth ?_)
local macro_rules | `(tactic| fail) => `(tactic| with_reducible refine v_meth ?_)
local macro_rules | `(tactic| fail) => `(tactic| with_reducible refine v_new ?_)
local macro_rules | `(tactic| fail) => `(tactic| with_reducible refine v_fld ?_)
local macro_rules | `(tactic| fail) => `(tactic| with_reducible refine v_atr ?_)
local macro_rules | `(tactic| fail) => `(tactic| with_reducible refine v_isx ?_)
local macro_rules | `(tactic| fail) => `(tactic| with_reducible refine v_back ?_)
local macro_rules | `(tactic| fail) => `(tactic| with_reducible refine v_lc ?_)
local macro_rules | `(tactic| fail) => `(tactic| with_reducible refine v_mth ?_)
local macro_rules | `(tactic| fail) => `(tactic| with_reducible refine v_lzip ?_)
local macro_rules | `(tactic| fail) => `(tactic| with_reducible refine v_lrev ?_)
local macro_rules | `(tactic| fail) => `(tactic| with_reducible refine v_blt ?_)
local macro_rules | `(tactic| fail) => `(tactic| with_reducible refine v_call ?_)
local macro_rules | `(tactic| fail) => `(tactic| with_reducible refine v_slice ?_)
local macro_rules | `(tactic| fail) => `(tactic| with_reducible refine v_sub ?_)
local macro_rules | `(tactic| fail) => `(tactic| with_reducible refine v_lst ?_)
local macro_rules | `(tactic| fail) => `(tactic| with_reducible refine v_tup ?_)
local macro_rules | `(tactic| fail) => `(tactic| with_reducible refine v_ite ?_)
local macro_rules | `(tactic| fail) => `(tactic| with_reducible refine v_nt ?_)
local macro_rules | `(tactic| fail) => `(tactic| with_reducible refine v_bop ?_)
local macro_rules | `(tactic| fail) => `(tactic| with_reducible refine v_cmp ?_)
local macro_rules | `(tactic| fail) => `(tactic| with_reducible refine v_bin ?_)
local macro_rules | `(tactic| fail) => `(tactic| with_reducible refine v_bty ?_)
local macro_rules | `(tactic| fail) => `(tactic| with_reducible refine v_str ?_)
local macro_rules | `(tactic| fail) => `(tactic| with_reducible refine v_non ?_)
local macro_rules | `(tactic| fail) => `(tactic| with_reducible refine v_bl ?_)
local macro_rules | `(tactic| fail) => `(tactic| with_reducible refine v_int ?_)
local macro_rules | `(tactic| fail) => `(tactic| with_reducible refine s_cont ?_)
local macro_rules | `(tactic| fail) => `(tactic| with_reducible refine s_brk ?_)
local macro_rules | `(tactic| fail) => `(tactic| with_reducible refine s_nil ?_)
local macro_rules | `(tactic| fail) => `(tactic| with_reducible refine s_pass ?_)
local macro_rules | `(tactic| fail) => `(tactic| with_reducible refine s_retN ?_)
local macro_rules | `(tactic| fail) => `(tactic| with_reducible refine s_ret ?_)
local macro_rules | `(tactic| fail) => `(tactic| with_reducible refine s_ife ?_)
local macro_rules | `(tactic| fail) => `(tactic| with_reducible refine s_set ?_)
local macro_rules | `(tactic| fail) => `(tactic| with_reducible refine s_par ?_)
local macro_rules | `(tactic| fail) => `(tactic| with_reducible refine s_asg ?_)
local macro_rules | `(tactic| fail) => `(tactic| with_reducible refine s_ex ?_)

theorem spec_drawB (hd : defs "_law_draw" = some dLDrawB) {a : Addr} {m : Int} (hk : 1 ≤ k) (hF : Flow S a) (hm : 0 < m ∧ m < 1073741824)
    (hq : ∀ r S', 0 ≤ r → r < m → Flow S' a → Off [a] S S' → Q (.int r) S') : sem defs gl k "_law_draw" [.ref a, .int m] S Q E := by
  obtain ⟨k, rfl⟩ : ∃ j, k = j + 1 := ⟨k - 1, by omega⟩
  obtain ⟨x, y, z, hS, hz1, hz2⟩ := hF
  (refine sem_of hd rfl ?_; unfold dLDrawB; simp only [startD, List.map_cons, List.map_nil, List.length_cons, List.length_nil, List.replicate_succ, List.replicate_zero, List.cons_append, List.nil_append, Nat.reduceAdd, Nat.reduceSub])
  (repeat fail)
  refine c_dec (fun hx => ?_) (fun hx => ?_)
  · (repeat fail)
    refine hq _ _ (Int.emod_nonneg _ (by omega)) (Int.emod_lt_of_pos _ hm.1) ⟨_, _, _, updS_same, hz1, hz2⟩ (Off.upd (by simp))
  · (repeat fail)
    refine hq _ _ (Int.emod_nonneg _ (by omega)) (Int.emod_lt_of_pos _ hm.1) ⟨_, _, _, updS_same, by omega, by omega⟩ ((Off.upd (by simp)).trans (Off.upd (by simp)))
theorem spec_flowB (hd : defs "_law_flow" = some dLFlowB) (hd1 : defs "_law_cell" = some dLCell) {ns : List Int} {i : Int} (hk : 2 ≤ k) (hi : 0 ≤ i ∧ i < 1000) (hl : ns.length ≤ 63)
    (hq : ∀ p S', S p = none → Flow S' p → Off [] S S' → Q (.ref p) S') : sem defs gl k "_law_flow" [.kl (ns.map D.int), .int i] S Q E := by
  obtain ⟨k, rfl⟩ : ∃ j, k = j + 1 := ⟨k - 1, by omega⟩
  (refine sem_of hd rfl ?_; unfold dLFlowB; simp only [startD, List.map_cons, List.map_nil, List.length_cons, List.length_nil, List.replicate_succ, List.replicate_zero, List.cons_append, List.nil_append, Nat.reduceAdd, Nat.reduceSub])
  (repeat fail)
  refine spec_cell hd1 (by omega) hi hl fun r => ?_
  (repeat fail)
  refine o_abs ?_
  generalize (if r < 0 then -r else r) = r'
  (repeat fail)
  intro p hp
  exact hq p _ hp ⟨_, _, _, updS_same, by omega, by omega⟩ (Off.new hp)
theorem spec_lrows (hd : defs "_law_rows" = some dLRows) (hd1 : defs "_law_draw" = some dLDrawB) {a : Addr} {n m f : Int} (hk : 2 ≤ k) (hF : Flow S a) (hn : 0 ≤ n ∧ n ≤ 10) (hm : 0 ≤ m ∧ m ≤ 20) (hf : 0 ≤ f ∧ f ≤ 1000)
    (hq : ∀ p S' (rs : List Row), S p = none → S' p = some (.lst (rs.map rowD)) → (∀ r ∈ rs, RowOk n f r) → (rs.length : Int) ≤ m → Flow S' a → Off [a] S S' → Q (.ref p) S') : sem defs gl k "_law_rows" [.ref a, .int n, .int m, .int f] S Q E := by
  obtain ⟨k, rfl⟩ : ∃ j, k = j + 1 := ⟨k - 1, by omega⟩
  (refine sem_of hd rfl ?_; unfold dLRows; simp only [startD, List.map_cons, List.map_nil, List.length_cons, List.length_nil, List.replicate_succ, List.replicate_zero, List.cons_append, List.nil_append, Nat.reduceAdd, Nat.reduceSub])
  (repeat fail)
  intro fp hfp
  have hpa : fp ≠ a := fun z => by subst z; obtain ⟨_, _, _, e, _⟩ := hF; rw [hfp] at e; cases e
  (repeat fail)
  refine spec_drawB hd1 (by omega) (hF.newB hfp) (by omega) fun r0 S0 h1 h2 F0 o0 => ?_
  refine ⟨by omega, by omega, ?_⟩
  refine for_ind (fun r σ S' => (∀ d ∈ r, ∃ i : Nat, d = .int i) ∧ (∃ rs : List Row, S' fp = some (.lst (rs.map rowD)) ∧ (∀ r ∈ rs, RowOk n f r) ∧ (rs.length : Int) + r.length ≤ m) ∧ Flow S' a ∧ Off [a, fp] S S' ∧ ∃ x5 x6 x7 : Option D, σ = [some (.ref a), some (.int n), some (.int m), some (.int f), some (.ref fp), x5, x6, x7]) (fun _ _ _ _ => trivial) ?_ ?_ _ _ _ ?_
  · rintro σ S' ⟨-, ⟨rs, e, h3, h4⟩, F, o, x5, x6, x7, rfl⟩
    (repeat fail)
    exact hq fp S' rs hfp e h3 (by simpa using h4) F (Off.drop (p := fp) (o.mono (by simp)) hfp)
  · rintro d r σ S' N ⟨hr, ⟨rs, e, h3, h4⟩, F, o, x5, x6, x7, rfl⟩ hN
    obtain ⟨i, rfl⟩ := hr d (by simp)
    (repeat fail)
    refine spec_drawB hd1 (by omega) F (by omega) fun r1 S1 a1 b1 F1 o1 => ?_
    (repeat fail)
    refine spec_drawB hd1 (by omega) F1 (by omega) fun r2 S2 a2 b2 F2 o2 => ?_
    (repeat fail)
    refine spec_drawB hd1 (by omega) F2 (by omega) fun r3 S3 a3 b3 F3 o3 => ?_
    have o123 : Off [a] S' S3 := (o1.trans o2).trans o3
    have e3 : S3 fp = some (.lst (rs.map rowD)) := o123 fp _ (by simpa using hpa) e
    have o3' : Off [a, fp] S S3 := o.trans (o123.mono (by simp))
    (repeat fail)
    refine c_dec (fun g => ?_) (fun g => ?_)
    · (repeat fail)
      refine c_dec (fun g2 => ?_) (fun g2 => ?_)
      · (repeat fail)
        refine spec_drawB hd1 (by omega) F3 (by omega) fun r4 S4 a4 b4 F4 o4 => ?_
        have e4 : S4 fp = some (.lst (rs.map rowD)) := o4 fp _ (by simpa using hpa) e3
        have hj0 := Int.emod_nonneg (r1 - 1 + 2 + r4) (b := n + 1) (by omega)
        have hj1 := Int.emod_lt_of_pos (r1 - 1 + 2 + r4) (b := n + 1) (by omega)
        (repeat fail)
        refine spec_drawB hd1 (by omega) F4 (by omega) fun r5 S5 a5 b5 F5 o5 => ?_
        (repeat fail)
        intro lp hlp
        have hla : lp ≠ a := fun z => by subst z; obtain ⟨_, _, _, e, _⟩ := F5; rw [hlp] at e; cases e
        (repeat fail)
        refine spec_drawB hd1 (by omega) (F5.newB hlp) (by omega) fun r6 S6 a6 b6 F6 o6 => ?_
        have e6 : S6 lp = some (.lst [.int f, .int (f / 2)]) := o6 lp _ (by simpa using hla) updS_same
        have e5 : S5 fp = some (.lst (rs.map rowD)) := o5 fp _ (by simpa using hpa) e4
        have hfl : fp ≠ lp := fun z => by subst z; rw [hlp] at e5; cases e5
        have e7 : S6 fp = some (.lst (rs.map rowD)) := o6 fp _ (by simpa using hpa) (upd_at hlp e5)
        have o7 : Off [a, fp] S S6 := (o3'.trans (o4.mono (by simp))).trans ((o5.mono (by simp)).trans ((Off.new hlp).trans (o6.mono (by simp))))
        have r6c : r6 = 0 ∨ r6 = 1 := by omega
        rcases r6c with rfl | rfl <;> refine o_subL e6 rfl ?_ <;> ((repeat fail); refine o_min2 fun c hc0 hc1 hc2 => ?_; (repeat fail); refine o_append e7 (by rw [sizeLine_eq, List.length_map]; simp only [List.length_cons] at h4; omega) ?_; (repeat fail); refine hN _ _ ⟨fun d hd => hr d (List.mem_cons_of_mem _ hd), ⟨rs ++ [(_, _, _)], by rw [updS_same, List.map_append]; rfl, fun r hr => ?_, by simp only [List.length_append, List.length_cons, List.length_nil] at h4 ⊢; omega⟩, F6.setB (Ne.symm hpa), o7.trans (Off.upd (by simp)), _, _, _, rfl⟩; (rcases List.mem_append.mp hr with hr | hr); (focus (exact h3 r hr)); (focus (obtain rfl := List.mem_singleton.mp hr; unfold RowOk; dsimp only; omega)))
      · (repeat fail)
        (repeat fail)
        refine spec_drawB hd1 (by omega) F3 (by omega) fun r5 S5 a5 b5 F5 o5 => ?_
        (repeat fail)
        intro lp hlp
        have hla : lp ≠ a := fun z => by subst z; obtain ⟨_, _, _, e, _⟩ := F5; rw [hlp] at e; cases e
        (repeat fail)
        refine spec_drawB hd1 (by omega) (F5.newB hlp) (by omega) fun r6 S6 a6 b6 F6 o6 => ?_
        have e6 : S6 lp = some (.lst [.int f, .int (f / 2)]) := o6 lp _ (by simpa using hla) updS_same
        have e5 : S5 fp = some (.lst (rs.map rowD)) := o5 fp _ (by simpa using hpa) e3
        have hfl : fp ≠ lp := fun z => by subst z; rw [hlp] at e5; cases e5
        have e7 : S6 fp = some (.lst (rs.map rowD)) := o6 fp _ (by simpa using hpa) (upd_at hlp e5)
        have o7 : Off [a, fp] S S6 := (o3').trans ((o5.mono (by simp)).trans ((Off.new hlp).trans (o6.mono (by simp))))
        have r6c : r6 = 0 ∨ r6 = 1 := by omega
        rcases r6c with rfl | rfl <;> refine o_subL e6 rfl ?_ <;> ((repeat fail); refine o_min2 fun c hc0 hc1 hc2 => ?_; (repeat fail); refine o_append e7 (by rw [sizeLine_eq, List.length_map]; simp only [List.length_cons] at h4; omega) ?_; (repeat fail); refine hN _ _ ⟨fun d hd => hr d (List.mem_cons_of_mem _ hd), ⟨rs ++ [(_, _, _)], by rw [updS_same, List.map_append]; rfl, fun r hr => ?_, by simp only [List.length_append, List.length_cons, List.length_nil] at h4 ⊢; omega⟩, F6.setB (Ne.symm hpa), o7.trans (Off.upd (by simp)), _, _, _, rfl⟩; (rcases List.mem_append.mp hr with hr | hr); (focus (exact h3 r hr)); (focus (obtain rfl := List.mem_singleton.mp hr; unfold RowOk; dsimp only; omega)))
    · (repeat fail)
      (repeat fail)
      refine spec_drawB hd1 (by omega) F3 (by omega) fun r5 S5 a5 b5 F5 o5 => ?_
      (repeat fail)
      intro lp hlp
      have hla : lp ≠ a := fun z => by subst z; obtain ⟨_, _, _, e, _⟩ := F5; rw [hlp] at e; cases e
      (repeat fail)
      refine spec_drawB hd1 (by omega) (F5.newB hlp) (by omega) fun r6 S6 a6 b6 F6 o6 => ?_
      have e6 : S6 lp = some (.lst [.int f, .int (f / 2)]) := o6 lp _ (by simpa using hla) updS_same
      have e5 : S5 fp = some (.lst (rs.map rowD)) := o5 fp _ (by simpa using hpa) e3
      have hfl : fp ≠ lp := fun z => by subst z; rw [hlp] at e5; cases e5
      have e7 : S6 fp = some (.lst (rs.map rowD)) := o6 fp _ (by simpa using hpa) (upd_at hlp e5)
      have o7 : Off [a, fp] S S6 := (o3').trans ((o5.mono (by simp)).trans ((Off.new hlp).trans (o6.mono (by simp))))
      have r6c : r6 = 0 ∨ r6 = 1 := by omega
      rcases r6c with rfl | rfl <;> refine o_subL e6 rfl ?_ <;> ((repeat fail); refine o_min2 fun c hc0 hc1 hc2 => ?_; (repeat fail); refine o_append e7 (by rw [sizeLine_eq, List.length_map]; simp only [List.length_cons] at h4; omega) ?_; (repeat fail); refine hN _ _ ⟨fun d hd => hr d (List.mem_cons_of_mem _ hd), ⟨rs ++ [(_, _, _)], by rw [updS_same, List.map_append]; rfl, fun r hr => ?_, by simp only [List.length_append, List.length_cons, List.length_nil] at h4 ⊢; omega⟩, F6.setB (Ne.symm hpa), o7.trans (Off.upd (by simp)), _, _, _, rfl⟩; (rcases List.mem_append.mp hr with hr | hr); (focus (exact h3 r hr)); (focus (obtain rfl := List.mem_singleton.mp hr; unfold RowOk; dsimp only; omega)))
  · refine ⟨fun d hd => ?_, ⟨[], o0 fp _ (by simpa using hpa) updS_same, fun r hr => (nomatch hr), ?_⟩, F0, (Off.new hfp).trans (o0.mono (by simp)), none, none, none, rfl⟩
    · obtain ⟨i, hi, _⟩ := mem_rng hd
      exact ⟨i, hi⟩
    · simp only [List.length_nil, List.length_map, List.length_range]
      omega
end
end Z

set_option Elab.async false
set_option linter.all false
set_option maxRecDepth 100000
set_option maxHeartbeats 4000000
namespace Z
def Eg (rows : List Row) (i j : Nat) (c : Int) : Prop := ∃ r ∈ rows, r.1 + 1 = i ∧ r.2.1 + 1 = j ∧ r.2.2 = c
inductive Wk (rows : List Row) : Nat → Nat → Int → Prop
  | nil (i : Nat) : Wk rows i i 0
  | cons {i j k : Nat} {c d : Int} : Eg rows i j c → Wk rows j k d → Wk rows i k (c + d)
theorem Wk.app {rows : List Row} {i j k : Nat} {c d : Int} (h : Wk rows i j c) (h2 : Wk rows j k d) : Wk rows i k (c + d) := by
  induction h with
  | nil i => simpa using h2
  | cons e _ ih => have := Wk.cons e (ih h2); rwa [← Int.add_assoc] at this
abbrev Mx := Nat → Nat → Option Int
def setM (M : Mx) (i j : Nat) (v : Option Int) : Mx := fun a b => if a = i ∧ b = j then v else M a b
def ole : Option Int → Option Int → Prop
  | _, none => True
  | some a, some b => a ≤ b
  | none, some _ => False
theorem ole.rfl' (a : Option Int) : ole a a := by cases a <;> simp [ole]
theorem ole.trans {a b c : Option Int} (h : ole a b) (h2 : ole b c) : ole a c := by
  cases a <;> cases b <;> cases c <;> simp only [ole] at * <;> omega
def oadd : Option Int → Option Int → Option Int
  | some a, some b => some (a + b)
  | _, _ => none
def omin : Option Int → Option Int → Option Int
  | some a, some b => if b < a then some b else some a
  | none, b => b
  | a, none => a
theorem omin_l (a b : Option Int) : ole (omin a b) a := by
  cases a <;> cases b <;> simp only [omin] <;> (try split) <;> simp only [ole] <;> omega
theorem omin_r (a b : Option Int) : ole (omin a b) b := by
  cases a <;> cases b <;> simp only [omin] <;> (try split) <;> simp only [ole] <;> omega
theorem omin_cases (a b : Option Int) : omin a b = a ∨ omin a b = b := by
  cases a <;> cases b <;> simp only [omin] <;> (try split) <;> simp
theorem oadd_mono {a b c d : Option Int} (h : ole a b) (h2 : ole c d) : ole (oadd a c) (oadd b d) := by
  cases a <;> cases b <;> cases c <;> cases d <;> simp only [ole, oadd] at * <;> omega
def Snd (rows : List Row) (M : Mx) : Prop := ∀ i j c, M i j = some c → Wk rows i j c
theorem Snd.set {rows : List Row} {M : Mx} (h : Snd rows M) {i j : Nat} {v : Option Int} (hv : ∀ c, v = some c → Wk rows i j c) : Snd rows (setM M i j v) := fun a b c e => by
  unfold setM at e
  split at e
  · rename_i z; rw [z.1, z.2]; exact hv c e
  · exact h a b c e
def Dg (n : Nat) (M : Mx) : Prop := ∀ i, i < n → ole (M i i) (some 0)
def Neg (n : Nat) (M : Mx) : Prop := ∃ i, i < n ∧ ∃ c, M i i = some c ∧ c < 0
theorem Dg.set {n : Nat} {M : Mx} (h : Dg n M) {i j : Nat} {v : Option Int} (hv : ole v (M i j)) : Dg n (setM M i j v) := fun a ha => by
  unfold setM
  split
  · rename_i z; refine hv.trans ?_; rw [← z.1, ← z.2]; exact h a ha
  · exact h a ha
theorem Neg.set {n : Nat} {M : Mx} (h : Neg n M) {i j : Nat} {v : Option Int} (hv : ole v (M i j)) : Neg n (setM M i j v) := by
  obtain ⟨a, ha, c, e, hc⟩ := h
  refine ⟨a, ha, ?_⟩
  unfold setM
  split
  · rename_i z
    rw [← z.1, ← z.2, e] at hv
    cases v with
    | none => simp only [ole] at hv
    | some d => exact ⟨d, rfl, by simp only [ole] at hv; omega⟩
  · exact ⟨c, e, hc⟩
def stg (M : Mx) (k : Nat) : Mx := fun i j => omin (M i j) (oadd (M i k) (M k j))
def Tri (n k : Nat) (M : Mx) : Prop := ∀ p, p < k → ∀ i j, i < n → j < n → ole (M i j) (oadd (M i p) (M p j))
theorem stg_r {M : Mx} {k : Nat} (h : M k k = some 0) (i : Nat) : stg M k i k = M i k := by
  unfold stg
  rw [h]
  cases M i k <;> simp [oadd, omin]
theorem stg_l {M : Mx} {k : Nat} (h : M k k = some 0) (j : Nat) : stg M k k j = M k j := by
  unfold stg
  rw [h]
  cases M k j <;> simp [oadd, omin]
theorem oadd_assoc (a b c : Option Int) : oadd (oadd a b) c = oadd a (oadd b c) := by
  cases a <;> cases b <;> cases c <;> simp [oadd, Int.add_assoc]
theorem oadd_zero (a : Option Int) : oadd a (some 0) = a := by cases a <;> simp [oadd]
theorem tri_stg {n k : Nat} {M : Mx} (hk : k < n) (h : Tri n k M) (h0 : M k k = some 0) : Tri n (k + 1) (stg M k) := fun p hp i j hi hj => by
  by_cases e : p = k
  · subst e
    rw [stg_r h0, stg_l h0]
    exact omin_r _ _
  · have hpk : p < k := by omega
    have t := h p hpk
    have L1 : ole (stg M k i j) (M i j) := omin_l _ _
    have L2 : ole (stg M k i j) (oadd (M i k) (M k j)) := omin_r _ _
    show ole (stg M k i j) (oadd (omin (M i p) (oadd (M i k) (M k p))) (omin (M p j) (oadd (M p k) (M k j))))
    rcases omin_cases (M i p) (oadd (M i k) (M k p)) with e1 | e1 <;> rcases omin_cases (M p j) (oadd (M p k) (M k j)) with e2 | e2 <;> rw [e1, e2]
    · exact L1.trans (t i j hi hj)
    · rw [← oadd_assoc]
      exact L2.trans (oadd_mono (t i k hi hk) (ole.rfl' _))
    · rw [oadd_assoc]
      exact L2.trans (oadd_mono (ole.rfl' _) (t k j hk hj))
    · have : ole (M k k) (oadd (M k p) (M p k)) := t k k hk hk
      rw [h0] at this
      refine L2.trans ?_
      have e3 : oadd (oadd (M i k) (M k p)) (oadd (M p k) (M k j)) = oadd (oadd (M i k) (oadd (M k p) (M p k))) (M k j) := by simp only [oadd_assoc]
      rw [e3]
      refine oadd_mono ?_ (ole.rfl' _)
      have := oadd_mono (ole.rfl' (M i k)) this
      rwa [oadd_zero] at this
def mix (M : Mx) (k i j : Nat) : Mx := fun a b => if a < i ∨ (a = i ∧ b < j) then stg M k a b else M a b
theorem mix_r {M : Mx} {k : Nat} (h : M k k = some 0) (i j a : Nat) : mix M k i j a k = M a k := by
  unfold mix
  split
  · exact stg_r h a
  · rfl
theorem mix_l {M : Mx} {k : Nat} (h : M k k = some 0) (i j b : Nat) : mix M k i j k b = M k b := by
  unfold mix
  split
  · exact stg_l h b
  · rfl
theorem mix_at {M : Mx} {k : Nat} (i j : Nat) : mix M k i j i j = M i j := by
  unfold mix
  rw [if_neg (by omega)]
theorem mix_step {M : Mx} {k : Nat} (h : M k k = some 0) (i j : Nat) : setM (mix M k i j) i j (omin (mix M k i j i j) (oadd (mix M k i j i k) (mix M k i j k j))) = mix M k i (j + 1) := by
  rw [mix_r h, mix_l h, mix_at]
  funext a b
  unfold setM
  by_cases e : a = i ∧ b = j
  · rw [if_pos e, e.1, e.2]
    unfold mix
    rw [if_pos (by omega)]
    rfl
  · rw [if_neg e]
    unfold mix
    by_cases c : a < i ∨ (a = i ∧ b < j)
    · rw [if_pos c, if_pos (by omega)]
    · rw [if_neg c, if_neg (by omega)]
end Z

set_option Elab.async false
set_option linter.all false
set_option maxRecDepth 100000
set_option maxHeartbeats 4000000
namespace Z
open PySem PySem.Spec PyProof.Rows L2
def rngD (i n : Nat) : List D := (List.range' i n).map fun j => .int (j : Nat)
theorem for_rng {turn : D → (StD → Sto → Prop) → StD → Sto → Prop} {G : Sto → Prop} {F : StD → Sto → Prop} {n : Nat} (I : Nat → StD → Sto → Prop) (hg : ∀ i σ S, I i σ S → G S) (hend : ∀ σ S, I n σ S → F σ S)
    (hstep : ∀ i σ S (N : StD → Sto → Prop), i < n → I i σ S → (∀ σ' S', I (i + 1) σ' S' → N σ' S') → turn (.int (i : Nat)) N σ S) {σ : StD} {S : Sto} (h0 : I 0 σ S) : forL turn G F ((List.range n).map fun i => .int (i : Nat)) σ S := by
  rw [List.range_eq_range']
  refine for_ind (fun r σ S => ∃ i, i ≤ n ∧ r = rngD i (n - i) ∧ I i σ S) (fun r σ S ⟨i, _, _, h⟩ => hg i σ S h) ?_ ?_ _ _ _ ⟨0, Nat.zero_le _, rfl, h0⟩
  · rintro σ S ⟨i, hi, e, h⟩
    have : i = n := by
      rcases Nat.eq_or_lt_of_le hi with z | z
      · exact z
      · obtain ⟨m, hm⟩ : ∃ m, n - i = m + 1 := ⟨n - i - 1, by omega⟩
        rw [hm] at e; simp [rngD, List.range'_succ] at e
    subst this
    exact hend σ S h
  · rintro d r σ S N ⟨i, hi, e, h⟩ hN
    rcases Nat.eq_or_lt_of_le hi with z | z
    · subst z; simp [rngD] at e
    · obtain ⟨m, hm⟩ : ∃ m, n - i = m + 1 := ⟨n - i - 1, by omega⟩
      rw [hm] at e
      simp only [rngD, List.range'_succ, List.map_cons, List.cons.injEq] at e
      obtain ⟨rfl, rfl⟩ := e
      exact hstep i σ S N z h fun σ' S' h' => hN σ' S' ⟨i + 1, z, by rw [show n - (i + 1) = m by omega]; rfl, h'⟩
def od : Option Int → D
  | none => .non
  | some c => .int c
def rowM (n : Nat) (f : Nat → Option Int) : List D := (List.range n).map fun j => od (f j)
structure Gd (rows : List Row) (n : Nat) (M : Mx) : Prop where
  snd : Snd rows M
  dg : Dg n M
  le : ∀ r ∈ rows, ole (M (r.1 + 1).toNat (r.2.1 + 1).toNat) (some r.2.2)
theorem Gd.cell {rows : List Row} {n : Nat} {M : Mx} (g : Gd rows n M) (i j k : Nat) : Gd rows n (setM M i j (omin (M i j) (oadd (M i k) (M k j)))) := by
  refine ⟨g.snd.set fun c e => ?_, g.dg.set (omin_l _ _), fun r hr => ?_⟩
  · rcases omin_cases (M i j) (oadd (M i k) (M k j)) with z | z
    · rw [z] at e; exact g.snd i j c e
    · rw [z] at e
      cases h1 : M i k with
      | none => rw [h1] at e; simp [oadd] at e
      | some a =>
        cases h2 : M k j with
        | none => rw [h1, h2] at e; simp [oadd] at e
        | some b =>
          rw [h1, h2] at e
          simp only [oadd, Option.some.injEq] at e
          rw [← e]
          exact (g.snd i k a h1).app (g.snd k j b h2)
  · unfold setM
    split
    · rename_i z
      have := g.le r hr
      rw [z.1, z.2] at this
      exact (omin_l _ _).trans this
    · exact g.le r hr
theorem setM_same {M : Mx} {i j : Nat} : setM M i j (M i j) = M := by
  funext a b
  unfold setM
  split
  · rename_i z; rw [z.1, z.2]
  · rfl
def Eqn (n : Nat) (M M' : Mx) : Prop := ∀ a b, a < n → b < n → M a b = M' a b
theorem Eqn.cell {n : Nat} {M M0 : Mx} {i j k : Nat} (hi : i < n) (hj : j < n) (hk : k < n) (h0 : M0 k k = some 0) (e : Eqn n M (mix M0 k i j)) : Eqn n (setM M i j (omin (M i j) (oadd (M i k) (M k j)))) (mix M0 k i (j + 1)) := fun a b ha hb => by
  rw [← mix_step h0 i j]
  unfold setM
  split
  · rw [e i j hi hj, e i k hi hk, e k j hk hj]
  · exact e a b ha hb
theorem tri_eqn {n k : Nat} {M M' : Mx} (hk : k ≤ n) (e : Eqn n M M') (h : Tri n k M') : Tri n k M := fun p hp i j hi hj => by
  rw [e i j hi hj, e i p hi (by omega), e p j (by omega) hj]
  exact h p hp i j hi hj
structure Mat (S : Sto) (a : Addr) (rs : List Addr) (n : Nat) (M : Mx) : Prop where
  len : rs.length = n
  nd : rs.Nodup
  out : a ∉ rs
  top : S a = some (.lst (rs.map D.ref))
  row : ∀ i r, rs[i]? = some r → S r = some (.lst (rowM n (M i)))
theorem rowM_len {n : Nat} {f : Nat → Option Int} : (rowM n f).length = n := by simp [rowM]
theorem rowM_get {n j : Nat} {f : Nat → Option Int} (h : j < n) : atI (rowM n f) (j : Int) = some (od (f j)) := atI_nat (by simp [rowM, h])
theorem rowM_set {n j : Nat} {f : Nat → Option Int} {v : Option Int} : (rowM n f).set j (od v) = rowM n (fun b => if b = j then v else f b) := by
  refine List.ext_getElem? fun i => ?_
  rw [List.getElem?_set]
  by_cases hi : i < n
  · by_cases e : j = i
    · subst e; simp [rowM, hi]
    · have e' : ¬ i = j := fun z => e z.symm
      simp [rowM, hi, e, e']
  · have : n ≤ i := by omega
    by_cases e : j = i
    · subst e; simp [rowM, hi]
    · simp [rowM, e, this]
section
variable {S : Sto} {a : Addr} {rs : List Addr} {n : Nat} {M : Mx}
theorem Mat.get (m : Mat S a rs n M) {i : Nat} (h : i < n) : ∃ r, rs[i]? = some r ∧ atI (rs.map D.ref) (i : Int) = some (.ref r) ∧ S r = some (.lst (rowM n (M i))) := by
  have hi : i < rs.length := by rw [m.len]; exact h
  exact ⟨rs[i], List.getElem?_eq_getElem hi, atI_nat (by rw [List.getElem?_map, List.getElem?_eq_getElem hi]; rfl), m.row i _ (List.getElem?_eq_getElem hi)⟩
theorem Mat.set (m : Mat S a rs n M) {i j : Nat} {r : Addr} {v : Option Int} (e : rs[i]? = some r) : Mat (updS S r (.lst ((rowM n (M i)).set j (od v)))) a rs n (setM M i j v) := by
  refine ⟨m.len, m.nd, m.out, ?_, fun i' r' e' => ?_⟩
  · rw [updS_ne]; exact m.top
    exact fun z => m.out (by rw [z]; exact List.mem_of_getElem? e)
  · by_cases h : r' = r
    · subst h
      have hii : i' = i := by
        obtain ⟨h1, h2⟩ := List.getElem?_eq_some_iff.mp e
        obtain ⟨h3, h4⟩ := List.getElem?_eq_some_iff.mp e'
        have pw := List.pairwise_iff_getElem.mp m.nd
        rcases Nat.lt_trichotomy i' i with z | z | z
        · exact absurd (h4.trans h2.symm) (pw i' i h3 h1 z)
        · exact z
        · exact absurd (h2.trans h4.symm) (pw i i' h1 h3 z)
      subst hii
      rw [updS_same, rowM_set]
      have : (fun b => if b = j then v else M i' b) = setM M i' j v i' := by funext b; simp [setM]
      rw [this]
    · rw [updS_ne h, m.row i' r' e']
      have hne : i' ≠ i := fun z => h (by rw [z, e] at e'; exact (Option.some.inj e').symm)
      have : M i' = setM M i j v i' := by funext b; simp [setM, hne]
      rw [this]
theorem Mat.off {S' : Sto} {A : List Addr} (m : Mat S a rs n M) (o : Off A S S') (h : a ∉ A) (h2 : ∀ r ∈ rs, r ∉ A) : Mat S' a rs n M :=
  ⟨m.len, m.nd, m.out, o a _ h m.top, fun i r e => o r _ (h2 r (List.mem_of_getElem? e)) (m.row i r e)⟩
theorem Mat.setOff {S0 : Sto} (m : Mat S a rs n M) {i : Nat} {r : Addr} {o : Ob} (h : Off (a :: rs) S0 S) (e : rs[i]? = some r) : Off (a :: rs) S0 (updS S r o) := h.trans (Off.upd (List.mem_cons_of_mem _ (List.mem_of_getElem? e)))
end
section
variable {defs : Str → Option DefT} {gl : Str → Option D} {k : Nat} {S : Sto} {Q : D → Sto → Prop} {E : Exc → Sto → Prop}
theorem o_isIN {i : Int} (h : Q (.bl false) S) : wCmp .Is (.int i) .non S Q := h
theorem o_isnI {i : Int} (h : Q (.bl true) S) : wCmp .IsNot (.int i) .non S Q := h
theorem o_isnN (h : Q (.bl false) S) : wCmp .IsNot .non .non S Q := h
local macro_rules | `(tactic| fail) => `(tactic| ((with_reducible refine And.intro ?_ ?_); (focus (exact Nat.le_of_ble_eq_true rfl))))
local macro_rules | `(tactic| fail) => `(tactic| with_reducible refine ⟨_, rfl, ?_⟩)
local macro_rules | `(tactic| fail) => `(tactic| ((with_reducible apply o_sliceT); (focus rfl)))
local macro_rules | `(tactic| fail) => `(tactic| ((with_reducible apply o_inTf); (focus rfl); (focus rfl); (focus (simp [inF, eqF, str_beq]; done))))
local macro_rules | `(tactic| fail) => `(tactic| ((with_reducible apply o_inTt); (focus rfl); (focus rfl); (focus (simp [inF, eqF, str_beq]; done))))
local macro_rules | `(tactic| fail) => `(tactic| ((with_reducible apply o_subC); (focus ((repeat (first | with_reducible exact lk_hit | ((with_reducible apply lk_miss); (focus (exact str_ne (by decide)))))); done))))
local macro_rules | `(tactic| fail) => `(tactic| ((with_reducible apply o_inC); (focus ((repeat (first | with_reducible exact lk_hit | ((with_reducible apply lk_miss); (focus (exact str_ne (by decide)))))); done))))
local macro_rules | `(tactic| fail) => `(tactic| ((with_reducible apply o_ninC); (focus ((repeat (first | with_reducible exact lk_hit | ((with_reducible apply lk_miss); (focus (exact str_ne (by decide)))))); done))))
local macro_rules | `(tactic| fail) => `(tactic| ((with_reducible apply o_isinF); (focus rfl); (focus (decide +kernel))))
local macro_rules | `(tactic| fail) => `(tactic| ((with_reducible apply o_isinT); (focus rfl); (focus (decide +kernel))))
local macro_rules | `(tactic| fail) => `(tactic| with_reducible refine i_enm ?_)
local macro_rules | `(tactic| fail) => `(tactic| ((with_reducible apply g_tup); (focus rfl); (focus rfl)))
local macro_rules | `(tactic| fail) => `(tactic| ((with_reducible apply v_dctN); (focus (decide +kernel))))
local macro_rules | `(tactic| fail) => `(tactic| ((with_reducible apply o_len); (focus (exact len_ref (by (first | assumption | exact updS_same | exact upd_at (by assumption) (by assumption)))))))
local macro_rules | `(tactic| fail) => `(tactic| ((with_reducible apply o_tuple); (focus (first | rfl | exact items_ref (by (first | assumption | exact updS_same | exact upd_at (by assumption) (by assumption)))))))
local macro_rules | `(tactic| fail) => `(tactic| ((with_reducible apply o_get2); (focus (first | assumption | exact updS_same | exact upd_at (by assumption) (by assumption))); (focus rfl); (focus ((repeat (first | with_reducible exact getD_hit | with_reducible exact getD_nil | ((with_reducible apply getD_miss); (focus (exact str_ne (by decide)))))); done))))
local macro_rules | `(tactic| fail) => `(tactic| ((with_reducible apply o_get1); (focus (first | assumption | exact updS_same | exact upd_at (by assumption) (by assumption))); (focus rfl); (focus ((repeat (first | with_reducible exact getD_hit | with_reducible exact getD_nil | ((with_reducible apply getD_miss); (focus (exact str_ne (by decide)))))); done))))
local macro_rules | `(tactic| fail) => `(tactic| ((with_reducible refine And.intro ?_ ?_); (focus (first | exact recvL (by (first | assumption | exact updS_same | exact upd_at (by assumption) (by assumption))) rfl | exact recvD (by (first | assumption | exact updS_same | exact upd_at (by assumption) (by assumption))) rfl))))
local macro_rules | `(tactic| fail) => `(tactic| ((with_reducible apply o_subD); (focus (first | assumption | exact updS_same | exact upd_at (by assumption) (by assumption))); (focus rfl); (focus ((repeat (first | with_reducible exact lookD_hit | ((with_reducible apply look_miss); (focus (exact str_ne (by decide)))))); done))))
local macro_rules | `(tactic| fail) => `(tactic| ((with_reducible apply c_ndF); (focus (((try simp only [List.length_cons, List.length_nil, List.length_append, List.length_map]); omega)))))
local macro_rules | `(tactic| fail) => `(tactic| ((with_reducible apply c_ndT); (focus (((try simp only [List.length_cons, List.length_nil, List.length_append, List.length_map]); omega)))))
local macro_rules | `(tactic| fail) => `(tactic| with_reducible refine o_intB ?_)
local macro_rules | `(tactic| fail) => `(tactic| ((with_reducible apply c_decF); (focus (((try simp only [List.length_cons, List.length_nil, List.length_append, List.length_map]); omega)))))
local macro_rules | `(tactic| fail) => `(tactic| ((with_reducible apply c_decT); (focus (((try simp only [List.length_cons, List.length_nil, List.length_append, List.length_map]); omega)))))
local macro_rules | `(tactic| fail) => `(tactic| with_reducible refine c_notf ?_)
local macro_rules | `(tactic| fail) => `(tactic| with_reducible refine c_nott ?_)
local macro_rules | `(tactic| fail) => `(tactic| with_reducible refine o_eqI ?_)
local macro_rules | `(tactic| fail) => `(tactic| ((with_reducible apply o_eqIf); (focus (((try simp only [List.length_cons, List.length_nil, List.length_append, List.length_map]); omega)))))
local macro_rules | `(tactic| fail) => `(tactic| ((with_reducible apply o_eqIt); (focus (((try simp only [List.length_cons, List.length_nil, List.length_append, List.length_map]); omega)))))
local macro_rules | `(tactic| fail) => `(tactic| with_reducible refine o_isB ?_)
local macro_rules | `(tactic| fail) => `(tactic| with_reducible refine o_isN ?_)
local macro_rules | `(tactic| fail) => `(tactic| with_reducible refine o_isR ?_)
local macro_rules | `(tactic| fail) => `(tactic| with_reducible refine o_eqB ?_)
local macro_rules | `(tactic| fail) => `(tactic| ((with_reducible apply o_neIf); (focus (((try simp only [List.length_cons, List.length_nil, List.length_append, List.length_map]); omega)))))
local macro_rules | `(tactic| fail) => `(tactic| ((with_reducible apply o_neIt); (focus (((try simp only [List.length_cons, List.length_nil, List.length_append, List.length_map]); omega)))))
local macro_rules | `(tactic| fail) => `(tactic| with_reducible refine o_neII ?_)
local macro_rules | `(tactic| fail) => `(tactic| with_reducible refine o_neBB ?_)
local macro_rules | `(tactic| fail) => `(tactic| ((with_reducible apply o_eqSf); (focus decide)))
local macro_rules | `(tactic| fail) => `(tactic| ((with_reducible apply o_atr); (focus rfl)))
local macro_rules | `(tactic| fail) => `(tactic| with_reducible refine o_isx ?_)
local macro_rules | `(tactic| fail) => `(tactic| with_reducible refine o_eqSt ?_)
local macro_rules | `(tactic| fail) => `(tactic| ((with_reducible apply o_len); focus (first | rfl | (simp only [lenD]; simp only [*]; done))))
local macro_rules | `(tactic| fail) => `(tactic| ((with_reducible apply o_setL); (focus (first | assumption | exact updS_same | exact upd_at (by assumption) (by assumption))); (focus rfl)))
local macro_rules | `(tactic| fail) => `(tactic| ((with_reducible refine And.intro ?_ ?_); (focus (first | exact selfOk (by (first | assumption | exact updS_same | exact upd_at (by assumption) (by assumption))) rfl | exact insOk (by (first | assumption | exact updS_same | exact upd_at (by assumption) (by assumption)))))))
local macro_rules | `(tactic| fail) => `(tactic| ((with_reducible apply o_setf); (focus (first | assumption | exact updS_same | exact upd_at (by assumption) (by assumption))); (focus (decide))))
local macro_rules | `(tactic| fail) => `(tactic| ((with_reducible apply o_fld); (focus (first | assumption | exact updS_same | exact upd_at (by assumption) (by assumption))); (focus rfl)))
local macro_rules | `(tactic| fail) => `(tactic| ((with_reducible apply o_subT); focus (rfl)))
local macro_rules | `(tactic| fail) => `(tactic| ((with_reducible apply o_subL); (focus (first | assumption | exact updS_same | exact upd_at (by assumption) (by assumption))); (focus rfl)))
local macro_rules | `(tactic| fail) => `(tactic| ((with_reducible apply o_pow); focus (unfold CPow; omega)))
local macro_rules | `(tactic| fail) => `(tactic| ((with_reducible apply o_mod); focus (omega)))
local macro_rules | `(tactic| fail) => `(tactic| ((with_reducible apply o_div); focus (unfold CDiv; omega)))
local macro_rules | `(tactic| fail) => `(tactic| ((with_reducible apply o_mul); focus (unfold CMul; omega)))
local macro_rules | `(tactic| fail) => `(tactic| ((with_reducible apply v_glob); focus (first | assumption | rfl)))
local macro_rules | `(tactic| fail) => `(tactic| ((with_reducible apply t_var); focus (rfl)))
local macro_rules | `(tactic| fail) => `(tactic| ((with_reducible apply v_var); focus (rfl)))
local macro_rules | `(tactic| fail) => `(tactic| with_reducible refine c_false ?_)
local macro_rules | `(tactic| fail) => `(tactic| with_reducible refine c_true ?_)
local macro_rules | `(tactic| fail) => `(tactic| with_reducible refine o_ge ?_)
local macro_rules | `(tactic| fail) => `(tactic| with_reducible refine o_gt ?_)
local macro_rules | `(tactic| fail) => `(tactic| with_reducible refine o_le ?_)
local macro_rules | `(tactic| fail) => `(tactic| with_reducible refine o_lt ?_)
local macro_rules | `(tactic| fail) => `(tactic| with_reducible refine o_sub ?_)
local macro_rules | `(tactic| fail) => `(tactic| with_reducible refine o_add ?_)
local macro_rules | `(tactic| fail) => `(tactic| with_reducible refine o_sub1 ?_)
local macro_rules | `(tactic| fail) => `(tactic| with_reducible refine o_sub0 ?_)
local macro_rules | `(tactic| fail) => `(tactic| with_reducible refine i_rng1 ?_)
local macro_rules | `(tactic| fail) => `(tactic| with_reducible refine i_seq ?_)
local macro_rules | `(tactic| fail) => `(tactic| with_reducible refine g_cons ?_)
local macro_rules | `(tactic| fail) => `(tactic| with_reducible refine g_nil ?_)
local macro_rules | `(tactic| fail) => `(tactic| with_reducible refine g_nm ?_)
local macro_rules | `(tactic| fail) => `(tactic| with_reducible refine ts_one ?_)
local macro_rules | `(tactic| fail) => `(tactic| with_reducible refine ts_nil ?_)
local macro_rules | `(tactic| fail) => `(tactic| with_reducible refine tr_int ?_)
local macro_rules | `(tactic| fail) => `(tactic| with_reducible refine tr_bl ?_)
local macro_rules | `(tactic| fail) => `(tactic| with_reducible refine tb_or ?_)
local macro_rules | `(tactic| fail) => `(tactic| with_reducible refine tb_and ?_)
local macro_rules | `(tactic| fail) => `(tactic| with_reducible refine tb_one ?_)
local macro_rules | `(tactic| fail) => `(tactic| with_reducible refine t_chain ?_)
local macro_rules | `(tactic| fail) => `(tactic| with_reducible refine t_sub ?_)
local macro_rules | `(tactic| fail) => `(tactic| with_reducible refine t_blt ?_)
local macro_rules | `(tactic| fail) => `(tactic| with_reducible refine t_call ?_)
local macro_rules | `(tactic| fail) => `(tactic| with_reducible refine t_cmp ?_)
local macro_rules | `(tactic| fail) => `(tactic| with_reducible refine t_nt ?_)
local macro_rules | `(tactic| fail) => `(tactic| with_reducible refine t_bop ?_)
local macro_rules | `(tactic| fail) => `(tactic| with_reducible refine vb_or ?_)
local macro_rules | `(tactic| fail) => `(tactic| with_reducible refine vb_and ?_)
local macro_rules | `(tactic| fail) => `(tactic| with_reducible refine vb_one ?_)
local macro_rules | `(tactic| fail) => `(tactic| with_reducible refine vo_some ?_)
local macro_rules | `(tactic| fail) => `(tactic| with_reducible refine vo_none ?_)
local macro_rules | `(tactic| fail) => `(tactic| with_reducible refine vs_cons ?_)
local macro_rules | `(tactic| fail) => `(tactic| with_reducible refine vs_nil ?_)
local macro_rules | `(tactic| fail) => `(tactic| with_reducible refine s_try ?_)
local macro_rules | `(tactic| fail) => `(tactic| with_reducible refine s_setf ?_)
local macro_rules | `(tactic| fail) => `(tactic| with_reducible refine v_eqo ?_)
local macro_rules | `(tactic| fail) => `(tactic| with_reducible refine t_isc ?_)
local macro_rules | `(tactic| fail) => `(tactic| with_reducible refine v_isc ?_)
local macro_rules | `(tactic| fail) => `(tactic| with_reducible refine t_meth ?_)
local macro_rules | `(tactic| fail) => `(tactic| with_reducible refine v_meth ?_)
local macro_rules | `(tactic| fail) => `(tactic| with_reducible refine v_new ?_)
local macro_rules | `(tactic| fail) => `(tactic| with_reducible refine v_fld ?_)
local macro_rules | `(tactic| fail) => `(tactic| with_reducible refine v_atr ?_)
local macro_rules | `(tactic| fail) => `(tactic| with_reducible refine v_isx ?_)
local macro_rules | `(tactic| fail) => `(tactic| with_reducible refine v_back ?_)
local macro_rules | `(tactic| fail) => `(tactic| with_reducible refine v_lc ?_)
local macro_rules | `(tactic| fail) => `(tactic| with_reducible refine v_mth ?_)
local macro_rules | `(tactic| fail) => `(tactic| with_reducible refine v_lzip ?_)
local macro_rules | `(tactic| fail) => `(tactic| with_reducible refine v_lrev ?_)
local macro_rules | `(tactic| fail) => `(tactic| with_reducible refine v_blt ?_)
local macro_rules | `(tactic| fail) => `(tactic| with_reducible refine v_call ?_)
local macro_rules | `(tactic| fail) => `(tactic| with_reducible refine v_slice ?_)
local macro_rules | `(tactic| fail) => `(tactic| with_reducible refine v_sub ?_)
local macro_rules | `(tactic| fail) => `(tactic| with_reducible refine v_lst ?_)
local macro_rules | `(tactic| fail) => `(tactic| with_reducible refine v_tup ?_)
local macro_rules | `(tactic| fail) => `(tactic| with_reducible refine v_ite ?_)
local macro_rules | `(tactic| fail) => `(tactic| with_reducible refine v_nt ?_)
local macro_rules | `(tactic| fail) => `(tactic| with_reducible refine v_bop ?_)
local macro_rules | `(tactic| fail) => `(tactic| with_reducible refine v_cmp ?_)
local macro_rules | `(tactic| fail) => `(tactic| with_reducible refine v_bin ?_)
local macro_rules | `(tactic| fail) => `(tactic| with_reducible refine v_bty ?_)
local macro_rules | `(tactic| fail) => `(tactic| with_reducible refine v_str ?_)
local macro_rules | `(tactic| fail) => `(tactic| with_reducible refine v_non ?_)
local macro_rules | `(tactic| fail) => `(tactic| with_reducible refine v_bl ?_)
local macro_rules | `(tactic| fail) => `(tactic| with_reducible refine v_int ?_)
local macro_rules | `(tactic| fail) => `(tactic| with_reducible refine s_cont ?_)
local macro_rules | `(tactic| fail) => `(tactic| with_reducible refine s_brk ?_)
local macro_rules | `(tactic| fail) => `(tactic| with_reducible refine s_nil ?_)
local macro_rules | `(tactic| fail) => `(tactic| with_reducible refine s_pass ?_)
local macro_rules | `(tactic| fail) => `(tactic| with_reducible refine s_retN ?_)
local macro_rules | `(tactic| fail) => `(tactic| with_reducible refine s_ret ?_)
local macro_rules | `(tactic| fail) => `(tactic| with_reducible refine s_ife ?_)
local macro_rules | `(tactic| fail) => `(tactic| with_reducible refine s_set ?_)
local macro_rules | `(tactic| fail) => `(tactic| with_reducible refine s_par ?_)
local macro_rules | `(tactic| fail) => `(tactic| with_reducible refine s_asg ?_)
local macro_rules | `(tactic| fail) => `(tactic| with_reducible refine s_ex ?_)

theorem ixN_nat {n i : Nat} (h : i < n) : ixN n (i : Int) = some i := by
  unfold ixN
  rw [if_pos (by omega)]
  simp [h]
theorem spec_closed (hd : defs "closed" = some dClosed) {n : Nat} {f : Int} {rows : List Row} (hk : 1 ≤ k) (hn : n ≤ 10) (hr : ∀ r ∈ rows, RowOk n f r)
    (hq : ∀ p S' rs M, S p = none → (∀ r ∈ rs, S r = none) → Mat S' p rs (n + 1) M → Off [] S S' → Snd rows M → Dg (n + 1) M → (∀ r ∈ rows, ole (M (r.1 + 1).toNat (r.2.1 + 1).toNat) (some r.2.2)) → (Neg (n + 1) M ∨ Tri (n + 1) (n + 1) M) → Q (.ref p) S') : sem defs gl k "closed" [.int n, .tup (rows.map rowD)] S Q E := by
  obtain ⟨k, rfl⟩ : ∃ j, k = j + 1 := ⟨k - 1, by omega⟩
  (refine sem_of hd rfl ?_; unfold dClosed; simp only [startD, List.map_cons, List.map_nil, List.length_cons, List.length_nil, List.replicate_succ, List.replicate_zero, List.cons_append, List.nil_append, Nat.reduceAdd, Nat.reduceSub])
  (repeat fail)
  refine ⟨by omega, by omega, ?_⟩
  have hN : ((n : Int) + 1).toNat = n + 1 := by omega
  rw [hN]
  refine lc_ind (fun r acc S' => ∃ rs : List Addr, acc = rs.map D.ref ∧ rs.Nodup ∧ (∀ x ∈ rs, S x = none ∧ S' x = some (.lst (rowM (n + 1) fun _ => none))) ∧ Off [] S S' ∧ rs.length + r.length = n + 1) (fun _ _ _ _ => trivial) ?_ ?_ _ _ _ ⟨[], rfl, List.nodup_nil, fun x hx => (nomatch hx), Off.refl _ _, by simp⟩
  rotate_left
  · rintro d r acc S' K ⟨rs, rfl, h1, h2, h3, h4⟩ hK -
    simp only [List.length_cons] at h4
    refine ⟨by rw [List.length_map, sizeLine_eq]; omega, ?_⟩
    (repeat fail)
    refine ⟨by omega, by omega, ?_⟩
    rw [hN]
    refine lc_ind (fun r acc S2 => S2 = S' ∧ (∃ m, acc = List.replicate m .non) ∧ acc.length + r.length = n + 1) (fun _ _ _ _ => trivial) ?_ ?_ _ _ _ ⟨rfl, ⟨0, rfl⟩, by simp⟩
    · rintro acc S2 ⟨rfl, ⟨m, rfl⟩, hl⟩ p hp
      refine hK _ _ ⟨rs ++ [p], by simp, ?_, fun x hx => ?_, h3.trans (Off.new hp), by simp; omega⟩
      · refine List.nodup_append.mpr ⟨h1, by simp, fun x hx y hy => ?_⟩
        obtain rfl := List.mem_singleton.mp hy
        intro z; subst z
        rw [(h2 _ hx).2] at hp; cases hp
      · rcases List.mem_append.mp hx with hx | hx
        · exact ⟨(h2 x hx).1, upd_at hp (h2 x hx).2⟩
        · obtain rfl := List.mem_singleton.mp hx
          refine ⟨?_, ?_⟩
          · cases q : S x with
            | none => rfl
            | some o => rw [h3 x o (by simp) q] at hp; cases hp
          · rw [updS_same]
            simp at hl
            subst hl
            simp only [rowM, od, List.map_const', List.length_range]
    · rintro d r acc S2 K ⟨rfl, ⟨m, rfl⟩, hl⟩ hK2 -
      simp only [List.length_cons] at hl
      refine ⟨by rw [sizeLine_eq]; omega, ?_⟩
      (repeat fail)
      exact hK2 _ _ ⟨rfl, ⟨m + 1, by rw [List.replicate_succ']⟩, by simp at hl ⊢; omega⟩
  rintro acc S1 ⟨rs, rfl, h1, h2, h3, h4⟩ p hp
  simp at h4
  have hpS : S p = none := by
    cases q : S p with
    | none => rfl
    | some o => rw [h3 p o (by simp) q] at hp; cases hp
  have m1 : Mat (updS S1 p (.lst (rs.map D.ref))) p rs (n + 1) (fun _ _ => none) := ⟨h4, h1, (fun z => by rw [(h2 p z).2] at hp; cases hp), updS_same, fun i r e => upd_at hp (h2 r (List.mem_of_getElem? e)).2⟩
  have o1 : Off (p :: rs) S (updS S1 p (.lst (rs.map D.ref))) := (h3.mono (by simp)).trans (Off.new hp)
  generalize updS S1 p (.lst (rs.map D.ref)) = S2 at m1 o1
  have fr : ∀ x ∈ p :: rs, S x = none := fun x hx => by
    rcases List.mem_cons.mp hx with z | z
    · rw [z]; exact hpS
    · exact (h2 x z).1
  (repeat fail)
  refine ⟨by omega, by omega, ?_⟩
  rw [hN]
  refine for_rng (fun i σ S' => ∃ M, Mat S' p rs (n + 1) M ∧ Off (p :: rs) S S' ∧ (∀ a, a < i → M a a = some 0) ∧ (∀ a b c, M a b = some c → a = b ∧ c = 0) ∧ ∃ x3, σ = [some (.int n), some (.tup (rows.map rowD)), some (.ref p), x3, none, none, none, none, none]) (fun _ _ _ _ => trivial) ?_ ?_ ⟨_, m1, o1, fun a ha => absurd ha (by omega), fun a b c z => (nomatch z), none, rfl⟩
  rotate_left
  · rintro i σ S' N hi ⟨M, m, o, h5, h6, x3, rfl⟩ hNx
    obtain ⟨r, e1, e2, e3⟩ := m.get hi
    (repeat fail)
    refine o_subL m.top e2 ?_
    (repeat fail)
    refine o_setL e3 (by rw [rowM_len]; exact ixN_nat hi) ?_
    (repeat fail)
    refine hNx _ _ ⟨_, m.set (v := some 0) e1, m.setOff o e1, fun a ha => ?_, fun a b c z => ?_, _, rfl⟩
    · unfold setM
      split
      · rfl
      · rename_i z; exact h5 a (by rcases Nat.lt_succ_iff_lt_or_eq.mp ha with w | w; exact w; exact absurd ⟨w, w⟩ z)
    · unfold setM at z
      split at z
      · rename_i w; cases z; exact ⟨w.1.trans w.2.symm, rfl⟩
      · exact h6 a b c z
  rintro σ S3 ⟨M, m, o, h5, h6, x3, rfl⟩
  refine s_fr (i_seq (v_var rfl (.inl ⟨_, rfl, ?_⟩)))
  refine for_ind (fun r σ S' => ∃ dn td M, rows = dn ++ td ∧ r = td.map rowD ∧ Mat S' p rs (n + 1) M ∧ Off (p :: rs) S S' ∧ Snd rows M ∧ Dg (n + 1) M ∧ (∀ r ∈ dn, ole (M (r.1 + 1).toNat (r.2.1 + 1).toNat) (some r.2.2)) ∧ ∃ x3 x4 x5 x6, σ = [some (.int n), some (.tup (rows.map rowD)), some (.ref p), x3, x4, x5, x6, none, none]) (fun _ _ _ _ => trivial) ?_ ?_ _ _ _ ⟨[], rows, M, rfl, rfl, m, o, fun a b c z => ?_, fun a ha => by rw [h5 a ha]; exact ole.rfl' _, fun r hr => (nomatch hr), x3, none, none, none, rfl⟩
  rotate_right
  · obtain ⟨rfl, rfl⟩ := h6 a b c z; exact .nil a
  rotate_left
  · rintro d r σ S' N ⟨dn, td, M, er, e0, m, o, hs, hg, hd, x3, x4, x5, x6, rfl⟩ hNx
    cases td with
    | nil => cases e0
    | cons q td =>
      simp only [List.map_cons, List.cons.injEq] at e0
      obtain ⟨rfl, rfl⟩ := e0
      have hq0 : q ∈ rows := by rw [er]; simp
      obtain ⟨q1, q2, q3, q4, q5, q6⟩ := hr q hq0
      obtain ⟨i, ei⟩ : ∃ i : Nat, q.1 + 1 = i := ⟨(q.1 + 1).toNat, by omega⟩
      obtain ⟨j, ej⟩ : ∃ j : Nat, q.2.1 + 1 = j := ⟨(q.2.1 + 1).toNat, by omega⟩
      have hi : i < n + 1 := by omega
      have hj : j < n + 1 := by omega
      have ti : (q.1 + 1).toNat = i := by omega
      have tj : (q.2.1 + 1).toNat = j := by omega
      obtain ⟨r, e1, e2, e3⟩ := m.get hi
      unfold rowD
      (repeat fail)
      refine o_subL m.top (by rw [ei]; exact e2) ?_
      (repeat fail)
      refine o_subL e3 (by rw [ej]; exact rowM_get hj) ?_
      have keep : ∀ (v : Option Int), ole v (M i j) → ole v (some q.2.2) → (∀ c, v = some c → Wk rows i j c) → Snd rows (setM M i j v) ∧ Dg (n + 1) (setM M i j v) ∧ (∀ r ∈ dn ++ [q], ole (setM M i j v (r.1 + 1).toNat (r.2.1 + 1).toNat) (some r.2.2)) := fun v h7 h8 h9 => ⟨hs.set h9, hg.set h7, fun r hr => by
        unfold setM
        rcases List.mem_append.mp hr with hr | hr
        · split
          · rename_i z; exact h7.trans (by have := hd r hr; rwa [z.1, z.2] at this)
          · exact hd r hr
        · obtain rfl := List.mem_singleton.mp hr
          rw [ti, tj, if_pos ⟨rfl, rfl⟩]; exact h8⟩
      have wk : Wk rows i j q.2.2 := by have := Wk.cons (c := q.2.2) ⟨q, hq0, ei, ej, rfl⟩ (Wk.nil (rows := rows) j); simpa using this
      have fin : ∀ (v : Option Int) (S2 : Sto) x3 x4 x5 x6, Mat S2 p rs (n + 1) (setM M i j v) → Off (p :: rs) S S2 → ole v (M i j) → ole v (some q.2.2) → (∀ c, v = some c → Wk rows i j c) → N [some (.int n), some (.tup (rows.map rowD)), some (.ref p), x3, x4, x5, x6, none, none] S2 := fun v S2 x3 x4 x5 x6 m2 o2 h7 h8 h9 => by
        obtain ⟨k1, k2, k3⟩ := keep v h7 h8 h9
        exact hNx _ _ ⟨dn ++ [q], td, _, by rw [er]; simp, rfl, m2, o2, k1, k2, k3, _, _, _, _, rfl⟩
      have same : setM M i j (M i j) = M := by
        funext a b
        unfold setM
        split
        · rename_i z; rw [z.1, z.2]
        · rfl
      cases hM : M i j with
      | none =>
        simp only [od]
        (repeat fail)
        refine o_subL m.top (by rw [ei]; exact e2) ?_
        (repeat fail)
        refine o_setL e3 (by rw [ej, rowM_len]; exact ixN_nat hj) ?_
        (repeat fail)
        exact fin (some q.2.2) _ _ _ _ _ (m.set (v := some q.2.2) e1) (m.setOff o e1) (by rw [hM]; simp only [ole]; try omega) (ole.rfl' _) fun c z => by cases z; exact wk
      | some h =>
        simp only [od]
        (repeat fail)
        refine o_isIN ?_
        (repeat fail)
        refine c_dec (fun hlt => ?_) (fun hlt => ?_)
        · (repeat fail)
          refine o_subL m.top (by rw [ei]; exact e2) ?_
          (repeat fail)
          refine o_setL e3 (by rw [ej, rowM_len]; exact ixN_nat hj) ?_
          (repeat fail)
          exact fin (some q.2.2) _ _ _ _ _ (m.set (v := some q.2.2) e1) (m.setOff o e1) (by rw [hM]; simp only [ole]; try omega) (ole.rfl' _) fun c z => by cases z; exact wk
        · (repeat fail)
          exact fin (M i j) _ _ _ _ _ (by rw [same]; exact m) o (ole.rfl' _) (by rw [hM]; simp only [ole]; omega) fun c z => hs i j c z
  rintro σ S4 ⟨dn, td, M, er, e0, m, o, hs, hg, hd, x3, x4, x5, x6, rfl⟩
  have htd : td = [] := by cases td with | nil => rfl | cons _ _ => cases e0
  subst htd
  rw [List.append_nil] at er
  subst er
  have g : Gd rows (n + 1) M := ⟨hs, hg, hd⟩
  clear hs hg hd
  refine s_fr (i_rng1 (v_bin (v_var rfl (v_int (o_add ⟨_, rfl, by omega, by omega, ?_⟩)))))
  rw [hN]
  refine for_rng (fun kk σ S' => ∃ M, Mat S' p rs (n + 1) M ∧ Off (p :: rs) S S' ∧ Gd rows (n + 1) M ∧ (Neg (n + 1) M ∨ Tri (n + 1) kk M) ∧ ∃ x3 x4 x5 x6 x7 x8, σ = [some (.int n), some (.tup (rows.map rowD)), some (.ref p), x3, x4, x5, x6, x7, x8]) (fun _ _ _ _ => trivial) ?_ ?_ ⟨M, m, o, g, .inr fun p hp => absurd hp (by omega), x3, x4, x5, x6, none, none, rfl⟩
  · rintro σ S5 ⟨M, m, o, g, ht, x3, x4, x5, x6, x7, x8, rfl⟩
    (repeat fail)
    exact hq p S5 rs M hpS (fun r hr => (h2 r hr).1) m (fun b ob hb e => o b ob (fun z => by rw [fr b z] at e; cases e) e) g.snd g.dg g.le ht
  rintro kk σ S5 N hkk ⟨M0, m, o, g, ht, x3, x4, x5, x6, x7, x8, rfl⟩ hN5
  refine g_nm ?_
  refine s_fr (i_rng1 (v_bin (v_var rfl (v_int (o_add ⟨_, rfl, by omega, by omega, ?_⟩)))))
  rw [hN]
  have h00 : Neg (n + 1) M0 ∨ (M0 kk kk = some 0 ∧ Tri (n + 1) kk M0) := by
    rcases ht with ht | ht
    · exact .inl ht
    · have := g.dg kk hkk
      cases e : M0 kk kk with
      | none => rw [e] at this; simp [ole] at this
      | some c =>
        rw [e] at this
        simp only [ole] at this
        by_cases hc : c < 0
        · exact .inl ⟨kk, hkk, c, e, hc⟩
        · exact .inr ⟨by rw [show c = 0 by omega], ht⟩
  refine for_rng (fun i σ S' => ∃ M, Mat S' p rs (n + 1) M ∧ Off (p :: rs) S S' ∧ Gd rows (n + 1) M ∧ (Neg (n + 1) M ∨ (M0 kk kk = some 0 ∧ Tri (n + 1) kk M0 ∧ Eqn (n + 1) M (mix M0 kk i 0))) ∧ ∃ x3 x4 x5 x6 x8, σ = [some (.int n), some (.tup (rows.map rowD)), some (.ref p), x3, x4, x5, x6, some (.int (kk : Nat)), x8]) (fun _ _ _ _ => trivial) ?_ ?_ ⟨M0, m, o, g, h00.imp id fun z => ⟨z.1, z.2, fun a b _ _ => by unfold mix; rw [if_neg (by omega)]⟩, x3, x4, x5, x6, x8, rfl⟩
  · rintro σ S6 ⟨M, m, o, g, ht, x3, x4, x5, x6, x8, rfl⟩
    refine hN5 _ _ ⟨M, m, o, g, ht.imp id fun z => ?_, x3, x4, x5, x6, _, x8, rfl⟩
    obtain ⟨z1, z2, z3⟩ := z
    refine tri_eqn (by omega) (M' := stg M0 kk) (fun a b ha hb => ?_) (tri_stg hkk z2 z1)
    rw [z3 a b ha hb]
    unfold mix
    rw [if_pos (.inl ha)]
  rintro i σ S6 N hi ⟨M, m, o, g, ht, x3, x4, x5, x6, x8, rfl⟩ hN6
  refine g_nm ?_
  refine s_fr (i_rng1 (v_bin (v_var rfl (v_int (o_add ⟨_, rfl, by omega, by omega, ?_⟩)))))
  rw [hN]
  refine for_rng (fun j σ S' => ∃ M, Mat S' p rs (n + 1) M ∧ Off (p :: rs) S S' ∧ Gd rows (n + 1) M ∧ (Neg (n + 1) M ∨ (M0 kk kk = some 0 ∧ Tri (n + 1) kk M0 ∧ Eqn (n + 1) M (mix M0 kk i j))) ∧ ∃ x4 x5 x6 x8, σ = [some (.int n), some (.tup (rows.map rowD)), some (.ref p), some (.int (i : Nat)), x4, x5, x6, some (.int (kk : Nat)), x8]) (fun _ _ _ _ => trivial) ?_ ?_ ⟨M, m, o, g, ht, x4, x5, x6, x8, rfl⟩
  · rintro σ S7 ⟨M, m, o, g, ht, x4, x5, x6, x8, rfl⟩
    refine hN6 _ _ ⟨M, m, o, g, ht.imp id fun z => ⟨z.1, z.2.1, fun a b ha hb => ?_⟩, _, x4, x5, x6, x8, rfl⟩
    rw [z.2.2 a b ha hb]
    unfold mix
    by_cases c : a < i ∨ (a = i ∧ b < n + 1)
    · rw [if_pos c, if_pos (by omega)]
    · rw [if_neg c, if_neg (by omega)]
  rintro j σ S7 N hj ⟨M, m, o, g, ht, x4, x5, x6, x8, rfl⟩ hN7
  obtain ⟨ri, e1, e2, e3⟩ := m.get hi
  obtain ⟨rk, d1, d2, d3⟩ := m.get hkk
  have fin : ∀ (v : Option Int) (S2 : Sto) x8, v = omin (M i j) (oadd (M i kk) (M kk j)) → Mat S2 p rs (n + 1) (setM M i j v) → Off (p :: rs) S S2 → N [some (.int n), some (.tup (rows.map rowD)), some (.ref p), some (.int (i : Nat)), some (.int (j : Nat)), x5, x6, some (.int (kk : Nat)), x8] S2 := fun v S2 x8 ev m2 o2 => by
    subst ev
    exact hN7 _ _ ⟨_, m2, o2, g.cell i j kk, ht.imp (fun z => z.set (omin_l _ _)) fun z => ⟨z.1, z.2.1, z.2.2.cell hi hj hkk z.1⟩, _, _, _, _, rfl⟩
  have stay : ∀ x8, M i j = omin (M i j) (oadd (M i kk) (M kk j)) → N [some (.int n), some (.tup (rows.map rowD)), some (.ref p), some (.int (i : Nat)), some (.int (j : Nat)), x5, x6, some (.int (kk : Nat)), x8] S7 := fun x8 ev => fin (M i j) S7 x8 ev (by rw [setM_same]; exact m) o
  (repeat fail)
  refine o_subL m.top e2 ?_
  (repeat fail)
  refine o_subL e3 (rowM_get hkk) ?_
  cases hA : M i kk with
  | none =>
    simp only [od]
    (repeat fail)
    refine o_isnN ?_
    (repeat fail)
    exact stay _ (by rw [hA]; cases M i j <;> simp [oadd, omin])
  | some A =>
    simp only [od]
    (repeat fail)
    refine o_isnI ?_
    (repeat fail)
    refine o_subL m.top d2 ?_
    (repeat fail)
    refine o_subL d3 (rowM_get hj) ?_
    cases hB : M kk j with
    | none =>
      simp only [od]
      (repeat fail)
      refine o_isnN ?_
      (repeat fail)
      exact stay _ (by rw [hA, hB]; cases M i j <;> simp [oadd, omin])
    | some B =>
      simp only [od]
      (repeat fail)
      refine o_isnI ?_
      (repeat fail)
      refine o_subL m.top e2 ?_
      (repeat fail)
      refine o_subL e3 (rowM_get hkk) ?_
      (repeat fail)
      refine o_subL m.top d2 ?_
      (repeat fail)
      refine o_subL d3 (rowM_get hj) ?_
      rw [hA, hB]
      simp only [od]
      (repeat fail)
      refine o_subL m.top e2 ?_
      (repeat fail)
      refine o_subL e3 (rowM_get hj) ?_
      cases hC : M i j with
      | none =>
        rw [show od none = D.non from rfl]
        (repeat fail)
        refine o_subL m.top e2 ?_
        (repeat fail)
        refine o_setL e3 (by rw [rowM_len]; exact ixN_nat hj) ?_
        (repeat fail)
        exact fin (some (A + B)) _ _ (by rw [hA, hB, hC]; simp [oadd, omin]) (m.set (v := some (A + B)) e1) (m.setOff o e1)
      | some c =>
        rw [show od (some c) = D.int c from rfl]
        (repeat fail)
        refine o_isIN ?_
        (repeat fail)
        refine o_subL m.top e2 ?_
        (repeat fail)
        refine o_subL e3 (rowM_get hj) ?_
        rw [hC, show od (some c) = D.int c from rfl]
        (repeat fail)
        refine c_dec (fun hlt => ?_) (fun hlt => ?_)
        · (repeat fail)
          refine o_subL m.top e2 ?_
          (repeat fail)
          refine o_setL e3 (by rw [rowM_len]; exact ixN_nat hj) ?_
          (repeat fail)
          exact fin (some (A + B)) _ _ (by rw [hA, hB, hC]; simp [oadd, omin, hlt]) (m.set (v := some (A + B)) e1) (m.setOff o e1)
        · (repeat fail)
          exact stay _ (by rw [hA, hB, hC]; simp [oadd, omin, hlt])
end
end Z

set_option Elab.async false
set_option linter.all false
set_option maxRecDepth 100000
set_option maxHeartbeats 4000000
namespace Z
open PySem PySem.Spec PyProof.Rows L2
structure Bo (S : Sto) (b p : Addr) (rs : List Addr) (n : Nat) (rows : List Row) (M : Mx) : Prop where
  at_ : S b = some (.ins "Bounds" [("many", .int n), ("given", .tup (rows.map rowD)), ("sums", .ref p)])
  mat : Mat S p rs (n + 1) M
  gd : Gd rows (n + 1) M
  tri : Neg (n + 1) M ∨ Tri (n + 1) (n + 1) M
theorem Bo.off {S S' : Sto} {b p : Addr} {rs : List Addr} {n : Nat} {rows : List Row} {M : Mx} (h : Bo S b p rs n rows M) (o : Off [] S S') : Bo S' b p rs n rows M :=
  ⟨o b _ (by simp) h.at_, h.mat.off o (by simp) (by simp), h.gd, h.tri⟩
theorem padT2 : padT "Bounds.__init__" 2 = [] := by decide +kernel
section
variable {defs : Str → Option DefT} {gl : Str → Option D} {k : Nat} {S : Sto} {Q : D → Sto → Prop} {E : Exc → Sto → Prop}
theorem blsOf_map {α : Type} (g : α → Bool) : ∀ xs : List α, blsOf (xs.map fun x => D.bl (g x)) = some (xs.map g)
  | [] => rfl
  | x :: xs => by simp [blsOf, blsOf_map g xs]
theorem o_anyB {a : Addr} {α : Type} {xs : List α} {g : α → Bool} (e : S a = some (.lst (xs.map fun x => D.bl (g x)))) (h : Q (.bl ((xs.map g).any id)) S) : wBlt .any [.ref a] S Q := by
  unfold wBlt
  simp only [e, blsOf_map]
  exact h
local macro_rules | `(tactic| fail) => `(tactic| ((with_reducible refine And.intro ?_ ?_); (focus (exact Nat.le_of_ble_eq_true rfl))))
local macro_rules | `(tactic| fail) => `(tactic| with_reducible refine ⟨_, rfl, ?_⟩)
local macro_rules | `(tactic| fail) => `(tactic| ((with_reducible apply o_sliceT); (focus rfl)))
local macro_rules | `(tactic| fail) => `(tactic| ((with_reducible apply o_inTf); (focus rfl); (focus rfl); (focus (simp [inF, eqF, str_beq]; done))))
local macro_rules | `(tactic| fail) => `(tactic| ((with_reducible apply o_inTt); (focus rfl); (focus rfl); (focus (simp [inF, eqF, str_beq]; done))))
local macro_rules | `(tactic| fail) => `(tactic| ((with_reducible apply o_subC); (focus ((repeat (first | with_reducible exact lk_hit | ((with_reducible apply lk_miss); (focus (exact str_ne (by decide)))))); done))))
local macro_rules | `(tactic| fail) => `(tactic| ((with_reducible apply o_inC); (focus ((repeat (first | with_reducible exact lk_hit | ((with_reducible apply lk_miss); (focus (exact str_ne (by decide)))))); done))))
local macro_rules | `(tactic| fail) => `(tactic| ((with_reducible apply o_ninC); (focus ((repeat (first | with_reducible exact lk_hit | ((with_reducible apply lk_miss); (focus (exact str_ne (by decide)))))); done))))
local macro_rules | `(tactic| fail) => `(tactic| ((with_reducible apply o_isinF); (focus rfl); (focus (decide +kernel))))
local macro_rules | `(tactic| fail) => `(tactic| ((with_reducible apply o_isinT); (focus rfl); (focus (decide +kernel))))
local macro_rules | `(tactic| fail) => `(tactic| with_reducible refine i_enm ?_)
local macro_rules | `(tactic| fail) => `(tactic| ((with_reducible apply g_tup); (focus rfl); (focus rfl)))
local macro_rules | `(tactic| fail) => `(tactic| ((with_reducible apply v_dctN); (focus (decide +kernel))))
local macro_rules | `(tactic| fail) => `(tactic| ((with_reducible apply o_len); (focus (exact len_ref (by (first | assumption | exact updS_same | exact upd_at (by assumption) (by assumption)))))))
local macro_rules | `(tactic| fail) => `(tactic| ((with_reducible apply o_tuple); (focus (first | rfl | exact items_ref (by (first | assumption | exact updS_same | exact upd_at (by assumption) (by assumption)))))))
local macro_rules | `(tactic| fail) => `(tactic| ((with_reducible apply o_get2); (focus (first | assumption | exact updS_same | exact upd_at (by assumption) (by assumption))); (focus rfl); (focus ((repeat (first | with_reducible exact getD_hit | with_reducible exact getD_nil | ((with_reducible apply getD_miss); (focus (exact str_ne (by decide)))))); done))))
local macro_rules | `(tactic| fail) => `(tactic| ((with_reducible apply o_get1); (focus (first | assumption | exact updS_same | exact upd_at (by assumption) (by assumption))); (focus rfl); (focus ((repeat (first | with_reducible exact getD_hit | with_reducible exact getD_nil | ((with_reducible apply getD_miss); (focus (exact str_ne (by decide)))))); done))))
local macro_rules | `(tactic| fail) => `(tactic| ((with_reducible refine And.intro ?_ ?_); (focus (first | exact recvL (by (first | assumption | exact updS_same | exact upd_at (by assumption) (by assumption))) rfl | exact recvD (by (first | assumption | exact updS_same | exact upd_at (by assumption) (by assumption))) rfl))))
local macro_rules | `(tactic| fail) => `(tactic| ((with_reducible apply o_subD); (focus (first | assumption | exact updS_same | exact upd_at (by assumption) (by assumption))); (focus rfl); (focus ((repeat (first | with_reducible exact lookD_hit | ((with_reducible apply look_miss); (focus (exact str_ne (by decide)))))); done))))
local macro_rules | `(tactic| fail) => `(tactic| ((with_reducible apply c_ndF); (focus (((try simp only [List.length_cons, List.length_nil, List.length_append, List.length_map]); omega)))))
local macro_rules | `(tactic| fail) => `(tactic| ((with_reducible apply c_ndT); (focus (((try simp only [List.length_cons, List.length_nil, List.length_append, List.length_map]); omega)))))
local macro_rules | `(tactic| fail) => `(tactic| with_reducible refine o_intB ?_)
local macro_rules | `(tactic| fail) => `(tactic| ((with_reducible apply c_decF); (focus (((try simp only [List.length_cons, List.length_nil, List.length_append, List.length_map]); omega)))))
local macro_rules | `(tactic| fail) => `(tactic| ((with_reducible apply c_decT); (focus (((try simp only [List.length_cons, List.length_nil, List.length_append, List.length_map]); omega)))))
local macro_rules | `(tactic| fail) => `(tactic| with_reducible refine c_notf ?_)
local macro_rules | `(tactic| fail) => `(tactic| with_reducible refine c_nott ?_)
local macro_rules | `(tactic| fail) => `(tactic| with_reducible refine o_eqI ?_)
local macro_rules | `(tactic| fail) => `(tactic| ((with_reducible apply o_eqIf); (focus (((try simp only [List.length_cons, List.length_nil, List.length_append, List.length_map]); omega)))))
local macro_rules | `(tactic| fail) => `(tactic| ((with_reducible apply o_eqIt); (focus (((try simp only [List.length_cons, List.length_nil, List.length_append, List.length_map]); omega)))))
local macro_rules | `(tactic| fail) => `(tactic| with_reducible refine o_isB ?_)
local macro_rules | `(tactic| fail) => `(tactic| with_reducible refine o_isN ?_)
local macro_rules | `(tactic| fail) => `(tactic| with_reducible refine o_isR ?_)
local macro_rules | `(tactic| fail) => `(tactic| with_reducible refine o_eqB ?_)
local macro_rules | `(tactic| fail) => `(tactic| ((with_reducible apply o_neIf); (focus (((try simp only [List.length_cons, List.length_nil, List.length_append, List.length_map]); omega)))))
local macro_rules | `(tactic| fail) => `(tactic| ((with_reducible apply o_neIt); (focus (((try simp only [List.length_cons, List.length_nil, List.length_append, List.length_map]); omega)))))
local macro_rules | `(tactic| fail) => `(tactic| with_reducible refine o_neII ?_)
local macro_rules | `(tactic| fail) => `(tactic| with_reducible refine o_neBB ?_)
local macro_rules | `(tactic| fail) => `(tactic| ((with_reducible apply o_eqSf); (focus decide)))
local macro_rules | `(tactic| fail) => `(tactic| ((with_reducible apply o_atr); (focus rfl)))
local macro_rules | `(tactic| fail) => `(tactic| with_reducible refine o_isx ?_)
local macro_rules | `(tactic| fail) => `(tactic| with_reducible refine o_eqSt ?_)
local macro_rules | `(tactic| fail) => `(tactic| ((with_reducible apply o_len); focus (first | rfl | (simp only [lenD]; simp only [*]; done))))
local macro_rules | `(tactic| fail) => `(tactic| ((with_reducible apply o_setL); (focus (first | assumption | exact updS_same | exact upd_at (by assumption) (by assumption))); (focus rfl)))
local macro_rules | `(tactic| fail) => `(tactic| ((with_reducible refine And.intro ?_ ?_); (focus (first | exact selfOk (by (first | assumption | exact updS_same | exact upd_at (by assumption) (by assumption))) rfl | exact insOk (by (first | assumption | exact updS_same | exact upd_at (by assumption) (by assumption)))))))
local macro_rules | `(tactic| fail) => `(tactic| ((with_reducible apply o_setf); (focus (first | assumption | exact updS_same | exact upd_at (by assumption) (by assumption))); (focus (exact Nat.le_of_ble_eq_true rfl))))
local macro_rules | `(tactic| fail) => `(tactic| ((with_reducible apply o_fld); (focus (first | assumption | exact updS_same | exact upd_at (by assumption) (by assumption))); (focus rfl)))
local macro_rules | `(tactic| fail) => `(tactic| ((with_reducible apply o_subT); focus (rfl)))
local macro_rules | `(tactic| fail) => `(tactic| ((with_reducible apply o_subL); (focus (first | assumption | exact updS_same | exact upd_at (by assumption) (by assumption))); (focus rfl)))
local macro_rules | `(tactic| fail) => `(tactic| ((with_reducible apply o_pow); focus (unfold CPow; omega)))
local macro_rules | `(tactic| fail) => `(tactic| ((with_reducible apply o_mod); focus (omega)))
local macro_rules | `(tactic| fail) => `(tactic| ((with_reducible apply o_div); focus (unfold CDiv; omega)))
local macro_rules | `(tactic| fail) => `(tactic| ((with_reducible apply o_mul); focus (unfold CMul; omega)))
local macro_rules | `(tactic| fail) => `(tactic| ((with_reducible apply v_glob); focus (first | assumption | rfl)))
local macro_rules | `(tactic| fail) => `(tactic| ((with_reducible apply t_var); focus (rfl)))
local macro_rules | `(tactic| fail) => `(tactic| ((with_reducible apply v_var); focus (rfl)))
local macro_rules | `(tactic| fail) => `(tactic| with_reducible refine c_false ?_)
local macro_rules | `(tactic| fail) => `(tactic| with_reducible refine c_true ?_)
local macro_rules | `(tactic| fail) => `(tactic| with_reducible refine o_ge ?_)
local macro_rules | `(tactic| fail) => `(tactic| with_reducible refine o_gt ?_)
local macro_rules | `(tactic| fail) => `(tactic| with_reducible refine o_le ?_)
local macro_rules | `(tactic| fail) => `(tactic| with_reducible refine o_lt ?_)
local macro_rules | `(tactic| fail) => `(tactic| with_reducible refine o_sub ?_)
local macro_rules | `(tactic| fail) => `(tactic| with_reducible refine o_add ?_)
local macro_rules | `(tactic| fail) => `(tactic| with_reducible refine o_sub1 ?_)
local macro_rules | `(tactic| fail) => `(tactic| with_reducible refine o_sub0 ?_)
local macro_rules | `(tactic| fail) => `(tactic| with_reducible refine i_rng1 ?_)
local macro_rules | `(tactic| fail) => `(tactic| with_reducible refine i_seq ?_)
local macro_rules | `(tactic| fail) => `(tactic| with_reducible refine g_cons ?_)
local macro_rules | `(tactic| fail) => `(tactic| with_reducible refine g_nil ?_)
local macro_rules | `(tactic| fail) => `(tactic| with_reducible refine g_nm ?_)
local macro_rules | `(tactic| fail) => `(tactic| with_reducible refine ts_one ?_)
local macro_rules | `(tactic| fail) => `(tactic| with_reducible refine ts_nil ?_)
local macro_rules | `(tactic| fail) => `(tactic| with_reducible refine tr_int ?_)
local macro_rules | `(tactic| fail) => `(tactic| with_reducible refine tr_bl ?_)
local macro_rules | `(tactic| fail) => `(tactic| with_reducible refine tb_or ?_)
local macro_rules | `(tactic| fail) => `(tactic| with_reducible refine tb_and ?_)
local macro_rules | `(tactic| fail) => `(tactic| with_reducible refine tb_one ?_)
local macro_rules | `(tactic| fail) => `(tactic| with_reducible refine t_chain ?_)
local macro_rules | `(tactic| fail) => `(tactic| with_reducible refine t_sub ?_)
local macro_rules | `(tactic| fail) => `(tactic| with_reducible refine t_blt ?_)
local macro_rules | `(tactic| fail) => `(tactic| with_reducible refine t_call ?_)
local macro_rules | `(tactic| fail) => `(tactic| with_reducible refine t_cmp ?_)
local macro_rules | `(tactic| fail) => `(tactic| with_reducible refine t_nt ?_)
local macro_rules | `(tactic| fail) => `(tactic| with_reducible refine t_bop ?_)
local macro_rules | `(tactic| fail) => `(tactic| with_reducible refine vb_or ?_)
local macro_rules | `(tactic| fail) => `(tactic| with_reducible refine vb_and ?_)
local macro_rules | `(tactic| fail) => `(tactic| with_reducible refine vb_one ?_)
local macro_rules | `(tactic| fail) => `(tactic| with_reducible refine vo_some ?_)
local macro_rules | `(tactic| fail) => `(tactic| with_reducible refine vo_none ?_)
local macro_rules | `(tactic| fail) => `(tactic| with_reducible refine vs_cons ?_)
local macro_rules | `(tactic| fail) => `(tactic| with_reducible refine vs_nil ?_)
local macro_rules | `(tactic| fail) => `(tactic| with_reducible refine s_try ?_)
local macro_rules | `(tactic| fail) => `(tactic| with_reducible refine s_setf ?_)
local macro_rules | `(tactic| fail) => `(tactic| with_reducible refine v_eqo ?_)
local macro_rules | `(tactic| fail) => `(tactic| with_reducible refine t_isc ?_)
local macro_rules | `(tactic| fail) => `(tactic| with_reducible refine v_isc ?_)
local macro_rules | `(tactic| fail) => `(tactic| with_reducible refine t_meth ?_)
local macro_rules | `(tactic| fail) => `(tactic| with_reducible refine v_meth ?_)
local macro_rules | `(tactic| fail) => `(tactic| with_reducible refine v_new ?_)
local macro_rules | `(tactic| fail) => `(tactic| with_reducible refine v_fld ?_)
local macro_rules | `(tactic| fail) => `(tactic| with_reducible refine v_atr ?_)
local macro_rules | `(tactic| fail) => `(tactic| with_reducible refine v_isx ?_)
local macro_rules | `(tactic| fail) => `(tactic| with_reducible refine v_back ?_)
local macro_rules | `(tactic| fail) => `(tactic| with_reducible refine v_lc ?_)
local macro_rules | `(tactic| fail) => `(tactic| with_reducible refine v_mth ?_)
local macro_rules | `(tactic| fail) => `(tactic| with_reducible refine v_lzip ?_)
local macro_rules | `(tactic| fail) => `(tactic| with_reducible refine v_lrev ?_)
local macro_rules | `(tactic| fail) => `(tactic| with_reducible refine v_blt ?_)
local macro_rules | `(tactic| fail) => `(tactic| with_reducible refine v_call ?_)
local macro_rules | `(tactic| fail) => `(tactic| with_reducible refine v_slice ?_)
local macro_rules | `(tactic| fail) => `(tactic| with_reducible refine v_sub ?_)
local macro_rules | `(tactic| fail) => `(tactic| with_reducible refine v_lst ?_)
local macro_rules | `(tactic| fail) => `(tactic| with_reducible refine v_tup ?_)
local macro_rules | `(tactic| fail) => `(tactic| with_reducible refine v_ite ?_)
local macro_rules | `(tactic| fail) => `(tactic| with_reducible refine v_nt ?_)
local macro_rules | `(tactic| fail) => `(tactic| with_reducible refine v_bop ?_)
local macro_rules | `(tactic| fail) => `(tactic| with_reducible refine v_cmp ?_)
local macro_rules | `(tactic| fail) => `(tactic| with_reducible refine v_bin ?_)
local macro_rules | `(tactic| fail) => `(tactic| with_reducible refine v_bty ?_)
local macro_rules | `(tactic| fail) => `(tactic| with_reducible refine v_str ?_)
local macro_rules | `(tactic| fail) => `(tactic| with_reducible refine v_non ?_)
local macro_rules | `(tactic| fail) => `(tactic| with_reducible refine v_bl ?_)
local macro_rules | `(tactic| fail) => `(tactic| with_reducible refine v_int ?_)
local macro_rules | `(tactic| fail) => `(tactic| with_reducible refine s_cont ?_)
local macro_rules | `(tactic| fail) => `(tactic| with_reducible refine s_brk ?_)
local macro_rules | `(tactic| fail) => `(tactic| with_reducible refine s_nil ?_)
local macro_rules | `(tactic| fail) => `(tactic| with_reducible refine s_pass ?_)
local macro_rules | `(tactic| fail) => `(tactic| with_reducible refine s_retN ?_)
local macro_rules | `(tactic| fail) => `(tactic| with_reducible refine s_ret ?_)
local macro_rules | `(tactic| fail) => `(tactic| with_reducible refine s_ife ?_)
local macro_rules | `(tactic| fail) => `(tactic| with_reducible refine s_set ?_)
local macro_rules | `(tactic| fail) => `(tactic| with_reducible refine s_par ?_)
local macro_rules | `(tactic| fail) => `(tactic| with_reducible refine s_asg ?_)
local macro_rules | `(tactic| fail) => `(tactic| with_reducible refine s_ex ?_)

theorem spec_init (hd : defs "Bounds.__init__" = some dBoundsInit) (hd1 : defs "closed" = some dClosed) {n : Nat} {f : Int} {rows : List Row} {b lp : Addr} (hk : 2 ≤ k) (hn : n ≤ 10) (hr : ∀ r ∈ rows, RowOk n f r) (hl : rows.length ≤ 100)
    (hb : S b = none) (hS : S lp = some (.lst (rows.map rowD)))
    (hq : ∀ S' p rs M, S p = none → (∀ r ∈ rs, S r = none) → Bo S' b p rs n rows M → Off [] S S' → Q .non S') : sem defs gl k "Bounds.__init__" [.ref b, .int n, .ref lp] (updS S b (.ins "Bounds" [])) Q E := by
  obtain ⟨k, rfl⟩ : ∃ j, k = j + 1 := ⟨k - 1, by omega⟩
  have e0 : updS S b (.ins "Bounds" []) b = some (.ins "Bounds" []) := updS_same
  have hne : lp ≠ b := fun z => by subst z; rw [hb] at hS; cases hS
  (refine sem_of hd rfl ?_; unfold dBoundsInit; simp only [startD, List.map_cons, List.map_nil, List.length_cons, List.length_nil, List.replicate_succ, List.replicate_zero, List.cons_append, List.nil_append, Nat.reduceAdd, Nat.reduceSub])
  (repeat fail)
  have eL : ∀ o, updS (updS S b (.ins "Bounds" [])) b o lp = some (.lst (rows.map rowD)) := fun o => by rw [updS_ne hne, updS_ne hne]; exact hS
  refine .inr (.inr ⟨_, _, rfl, eL _, ?_⟩)
  have eB : updS (updS S b (.ins "Bounds" [])) b (.ins "Bounds" (putFD "many" (.int n) [])) b = some (.ins "Bounds" [("many", .int n)]) := updS_same
  have oB : Off [b] S (updS (updS S b (.ins "Bounds" [])) b (.ins "Bounds" (putFD "many" (.int n) []))) := (Off.upd (by simp)).trans (Off.upd (by simp))
  have eL' := eL (.ins "Bounds" (putFD "many" (.int n) []))
  generalize updS (updS S b (.ins "Bounds" [])) b (.ins "Bounds" (putFD "many" (.int n) [])) = S1 at eB oB eL' ⊢
  refine lc_ind (fun r acc S' => ∃ dn td, rows = dn ++ td ∧ r = td.map rowD ∧ acc = dn.map rowD ∧ S' = S1) (fun _ _ _ ⟨_, _, _, _, _, z⟩ => by rw [z]; exact eL') ?_ ?_ _ _ _ ⟨[], rows, rfl, rfl, rfl, rfl⟩
  rotate_left
  · rintro d r acc S' K ⟨dn, td, er, e1, rfl, rfl⟩ hK -
    cases td with
    | nil => cases e1
    | cons q td =>
      simp only [List.map_cons, List.cons.injEq] at e1
      obtain ⟨rfl, rfl⟩ := e1
      refine ⟨by rw [List.length_map, sizeLine_eq]; have := congrArg List.length er; simp at this; omega, ?_⟩
      rw [show rowD q = .tup [.int q.1, .int q.2.1, .int q.2.2] from rfl]
      (repeat fail)
      exact hK _ _ ⟨dn ++ [q], td, by rw [er]; simp, rfl, by simp [rowD], rfl⟩
  rintro acc S' ⟨dn, td, er, e1, rfl, rfl⟩ tp htp
  have htd : td = [] := by cases td with | nil => rfl | cons _ _ => cases e1
  subst htd
  rw [List.append_nil] at er
  subst er
  have eB2 : updS S' tp (.lst (rows.map rowD)) b = some (.ins "Bounds" [("many", .int n)]) := upd_at htp eB
  have oB2 : Off [b] S (updS S' tp (.lst (rows.map rowD))) := oB.trans (Off.new htp)
  have eT : updS S' tp (.lst (rows.map rowD)) tp = some (.lst (rows.map rowD)) := updS_same
  generalize updS S' tp (.lst (rows.map rowD)) = S2 at eB2 oB2 eT ⊢
  (repeat fail)
  have eB3 : updS S2 b (.ins "Bounds" (putFD "given" (.tup (rows.map rowD)) [("many", .int n)])) b = some (.ins "Bounds" [("many", .int n), ("given", .tup (rows.map rowD))]) := updS_same
  have oB3 : Off [b] S (updS S2 b (.ins "Bounds" (putFD "given" (.tup (rows.map rowD)) [("many", .int n)]))) := oB2.trans (Off.upd (by simp))
  generalize updS S2 b (.ins "Bounds" (putFD "given" (.tup (rows.map rowD)) [("many", .int n)])) = S3 at eB3 oB3 ⊢
  have n3 : ∀ x, S3 x = none → S x = none := fun x hx => by
    cases q : S x with
    | none => rfl
    | some ob =>
      have := oB3 x ob (fun z => by rw [List.mem_singleton.mp z, hb] at q; cases q) q
      rw [hx] at this; cases this
  refine spec_closed hd1 (by omega) hn hr fun p S4 rs M f1 f2 m o hs hg hl ht => ?_
  have e4 := o b _ (by simp) eB3
  (repeat fail)
  have hbp : ∀ x, S3 x = none → x ≠ b := fun x hx z => by rw [z, eB3] at hx; cases hx
  refine hq _ p rs M (n3 p f1) (fun r hr => n3 r (f2 r hr)) ⟨updS_same, ?_, ⟨hs, hg, hl⟩, ht⟩ ?_
  · exact ⟨m.len, m.nd, m.out, by rw [updS_ne (hbp p f1)]; exact m.top, fun i r e => by rw [updS_ne (hbp r (f2 r (List.mem_of_getElem? e)))]; exact m.row i r e⟩
  · exact Off.drop (p := b) ((oB3.trans (o.mono (by simp))).trans (Off.upd (by simp))) hb
theorem spec_is_empty (hd : defs "Bounds.is_empty" = some dBoundsIsEmpty) {n : Nat} {rows : List Row} {b p : Addr} {rs : List Addr} {M : Mx} (hk : 1 ≤ k) (hn : n ≤ 10) (B : Bo S b p rs n rows M)
    (hq : ∀ S', Off [] S S' → Q (.bl ((List.range (n + 1)).any fun i => (match M i i with | some c => decide (c < 0) | none => false))) S') : sem defs gl k "Bounds.is_empty" [.ref b] S Q E := by
  obtain ⟨k, rfl⟩ : ∃ j, k = j + 1 := ⟨k - 1, by omega⟩
  have e0 := B.at_
  (refine sem_of hd rfl ?_; unfold dBoundsIsEmpty; simp only [startD, List.map_cons, List.map_nil, List.length_cons, List.length_nil, List.replicate_succ, List.replicate_zero, List.cons_append, List.nil_append, Nat.reduceAdd, Nat.reduceSub])
  (repeat fail)
  refine ⟨by omega, by omega, ?_⟩
  have hN : ((n : Int) + 1).toNat = n + 1 := by omega
  rw [hN, List.range_eq_range']
  refine lc_ind (fun r acc S' => ∃ i, i ≤ n + 1 ∧ r = rngD i (n + 1 - i) ∧ acc = (List.range i).map (fun i => D.bl (match M i i with | some c => decide (c < 0) | none => false)) ∧ S' = S) (fun _ _ _ _ => trivial) ?_ ?_ _ _ _ ⟨0, by omega, rfl, rfl, rfl⟩
  · rintro acc S' ⟨i, hi, e, rfl, rfl⟩ lp hlp
    have hi' : i = n + 1 := by
      rcases Nat.eq_or_lt_of_le hi with z | z
      · exact z
      · obtain ⟨m, hm⟩ : ∃ m, n + 1 - i = m + 1 := ⟨n + 1 - i - 1, by omega⟩
        rw [hm] at e; simp [rngD, List.range'_succ] at e
    subst hi'
    (repeat fail)
    refine o_anyB updS_same ?_
    rw [List.any_map]
    exact hq _ (Off.new hlp)
  · rintro d r acc S' K ⟨i, hi, e, rfl, rfl⟩ hK -
    rcases Nat.eq_or_lt_of_le hi with z | z
    · rw [z] at e; simp [rngD] at e
    · obtain ⟨m, hm⟩ : ∃ m, n + 1 - i = m + 1 := ⟨n + 1 - i - 1, by omega⟩
      rw [hm] at e
      simp only [rngD, List.range'_succ, List.map_cons, List.cons.injEq] at e
      obtain ⟨rfl, rfl⟩ := e
      refine ⟨by rw [List.length_map, List.length_range, sizeLine_eq]; omega, ?_⟩
      obtain ⟨r, e1, e2, e3⟩ := B.mat.get z
      have hdg := B.gd.dg i z
      (repeat fail)
      refine o_subL B.mat.top e2 ?_
      (repeat fail)
      refine o_subL e3 (rowM_get z) ?_
      cases hM : M i i with
      | none => rw [hM] at hdg; simp [ole] at hdg
      | some c =>
        rw [show od (some c) = D.int c from rfl]
        (repeat fail)
        refine hK _ _ ⟨i + 1, z, by rw [show n + 1 - (i + 1) = m by omega]; rfl, ?_, rfl⟩
        rw [List.range_succ, List.map_append, List.map_cons, List.map_nil, hM]
end
end Z

set_option Elab.async false
set_option linter.all false
set_option maxRecDepth 100000
set_option maxHeartbeats 4000000
namespace Z
open PySem PySem.Spec PyProof.Rows L2
section
variable {defs : Str → Option DefT} {gl : Str → Option D} {k : Nat} {S : Sto} {Q : D → Sto → Prop} {E : Exc → Sto → Prop}
theorem o_addLB {a b : Addr} {xs ys : List D} (e : S a = some (.lst xs)) (e2 : S b = some (.lst ys)) (l : xs.length + ys.length ≤ sizeLine) (h : ∀ p, S p = none → Q (.ref p) (updS S p (.lst (xs ++ ys)))) : wBin .Add (.ref a) (.ref b) S Q := by unfold wBin; simp only [e, e2]; exact ⟨l, h⟩
local macro_rules | `(tactic| fail) => `(tactic| ((with_reducible refine And.intro ?_ ?_); (focus (exact Nat.le_of_ble_eq_true rfl))))
local macro_rules | `(tactic| fail) => `(tactic| with_reducible refine ⟨_, rfl, ?_⟩)
local macro_rules | `(tactic| fail) => `(tactic| ((with_reducible apply o_sliceT); (focus rfl)))
local macro_rules | `(tactic| fail) => `(tactic| ((with_reducible apply o_inTf); (focus rfl); (focus rfl); (focus (simp [inF, eqF, str_beq]; done))))
local macro_rules | `(tactic| fail) => `(tactic| ((with_reducible apply o_inTt); (focus rfl); (focus rfl); (focus (simp [inF, eqF, str_beq]; done))))
local macro_rules | `(tactic| fail) => `(tactic| ((with_reducible apply o_subC); (focus ((repeat (first | with_reducible exact lk_hit | ((with_reducible apply lk_miss); (focus (exact str_ne (by decide)))))); done))))
local macro_rules | `(tactic| fail) => `(tactic| ((with_reducible apply o_inC); (focus ((repeat (first | with_reducible exact lk_hit | ((with_reducible apply lk_miss); (focus (exact str_ne (by decide)))))); done))))
local macro_rules | `(tactic| fail) => `(tactic| ((with_reducible apply o_ninC); (focus ((repeat (first | with_reducible exact lk_hit | ((with_reducible apply lk_miss); (focus (exact str_ne (by decide)))))); done))))
local macro_rules | `(tactic| fail) => `(tactic| ((with_reducible apply o_isinF); (focus rfl); (focus (decide +kernel))))
local macro_rules | `(tactic| fail) => `(tactic| ((with_reducible apply o_isinT); (focus rfl); (focus (decide +kernel))))
local macro_rules | `(tactic| fail) => `(tactic| with_reducible refine i_enm ?_)
local macro_rules | `(tactic| fail) => `(tactic| ((with_reducible apply g_tup); (focus rfl); (focus rfl)))
local macro_rules | `(tactic| fail) => `(tactic| ((with_reducible apply v_dctN); (focus (decide +kernel))))
local macro_rules | `(tactic| fail) => `(tactic| ((with_reducible apply o_len); (focus (exact len_ref (by (first | assumption | exact updS_same | exact upd_at (by assumption) (by assumption)))))))
local macro_rules | `(tactic| fail) => `(tactic| ((with_reducible apply o_tuple); (focus (first | rfl | exact items_ref (by (first | assumption | exact updS_same | exact upd_at (by assumption) (by assumption)))))))
local macro_rules | `(tactic| fail) => `(tactic| ((with_reducible apply o_get2); (focus (first | assumption | exact updS_same | exact upd_at (by assumption) (by assumption))); (focus rfl); (focus ((repeat (first | with_reducible exact getD_hit | with_reducible exact getD_nil | ((with_reducible apply getD_miss); (focus (exact str_ne (by decide)))))); done))))
local macro_rules | `(tactic| fail) => `(tactic| ((with_reducible apply o_get1); (focus (first | assumption | exact updS_same | exact upd_at (by assumption) (by assumption))); (focus rfl); (focus ((repeat (first | with_reducible exact getD_hit | with_reducible exact getD_nil | ((with_reducible apply getD_miss); (focus (exact str_ne (by decide)))))); done))))
local macro_rules | `(tactic| fail) => `(tactic| ((with_reducible refine And.intro ?_ ?_); (focus (first | exact recvL (by (first | assumption | exact updS_same | exact upd_at (by assumption) (by assumption))) rfl | exact recvD (by (first | assumption | exact updS_same | exact upd_at (by assumption) (by assumption))) rfl))))
local macro_rules | `(tactic| fail) => `(tactic| ((with_reducible apply o_subD); (focus (first | assumption | exact updS_same | exact upd_at (by assumption) (by assumption))); (focus rfl); (focus ((repeat (first | with_reducible exact lookD_hit | ((with_reducible apply look_miss); (focus (exact str_ne (by decide)))))); done))))
local macro_rules | `(tactic| fail) => `(tactic| ((with_reducible apply c_ndF); (focus (((try simp only [List.length_cons, List.length_nil, List.length_append, List.length_map]); omega)))))
local macro_rules | `(tactic| fail) => `(tactic| ((with_reducible apply c_ndT); (focus (((try simp only [List.length_cons, List.length_nil, List.length_append, List.length_map]); omega)))))
local macro_rules | `(tactic| fail) => `(tactic| with_reducible refine o_intB ?_)
local macro_rules | `(tactic| fail) => `(tactic| ((with_reducible apply c_decF); (focus (((try simp only [List.length_cons, List.length_nil, List.length_append, List.length_map]); omega)))))
local macro_rules | `(tactic| fail) => `(tactic| ((with_reducible apply c_decT); (focus (((try simp only [List.length_cons, List.length_nil, List.length_append, List.length_map]); omega)))))
local macro_rules | `(tactic| fail) => `(tactic| with_reducible refine c_notf ?_)
local macro_rules | `(tactic| fail) => `(tactic| with_reducible refine c_nott ?_)
local macro_rules | `(tactic| fail) => `(tactic| with_reducible refine o_eqI ?_)
local macro_rules | `(tactic| fail) => `(tactic| ((with_reducible apply o_eqIf); (focus (((try simp only [List.length_cons, List.length_nil, List.length_append, List.length_map]); omega)))))
local macro_rules | `(tactic| fail) => `(tactic| ((with_reducible apply o_eqIt); (focus (((try simp only [List.length_cons, List.length_nil, List.length_append, List.length_map]); omega)))))
local macro_rules | `(tactic| fail) => `(tactic| with_reducible refine o_isB ?_)
local macro_rules | `(tactic| fail) => `(tactic| with_reducible refine o_isN ?_)
local macro_rules | `(tactic| fail) => `(tactic| with_reducible refine o_isR ?_)
local macro_rules | `(tactic| fail) => `(tactic| with_reducible refine o_eqB ?_)
local macro_rules | `(tactic| fail) => `(tactic| ((with_reducible apply o_neIf); (focus (((try simp only [List.length_cons, List.length_nil, List.length_append, List.length_map]); omega)))))
local macro_rules | `(tactic| fail) => `(tactic| ((with_reducible apply o_neIt); (focus (((try simp only [List.length_cons, List.length_nil, List.length_append, List.length_map]); omega)))))
local macro_rules | `(tactic| fail) => `(tactic| with_reducible refine o_neII ?_)
local macro_rules | `(tactic| fail) => `(tactic| with_reducible refine o_neBB ?_)
local macro_rules | `(tactic| fail) => `(tactic| ((with_reducible apply o_eqSf); (focus decide)))
local macro_rules | `(tactic| fail) => `(tactic| ((with_reducible apply o_atr); (focus rfl)))
local macro_rules | `(tactic| fail) => `(tactic| with_reducible refine o_isx ?_)
local macro_rules | `(tactic| fail) => `(tactic| with_reducible refine o_eqSt ?_)
local macro_rules | `(tactic| fail) => `(tactic| ((with_reducible apply o_len); focus (first | rfl | (simp only [lenD]; simp only [*]; done))))
local macro_rules | `(tactic| fail) => `(tactic| ((with_reducible apply o_setL); (focus (first | assumption | exact updS_same | exact upd_at (by assumption) (by assumption))); (focus rfl)))
local macro_rules | `(tactic| fail) => `(tactic| ((with_reducible refine And.intro ?_ ?_); (focus (first | exact selfOk (by (first | assumption | exact updS_same | exact upd_at (by assumption) (by assumption))) rfl | exact insOk (by (first | assumption | exact updS_same | exact upd_at (by assumption) (by assumption)))))))
local macro_rules | `(tactic| fail) => `(tactic| ((with_reducible apply o_setf); (focus (first | assumption | exact updS_same | exact upd_at (by assumption) (by assumption))); (focus (exact Nat.le_of_ble_eq_true rfl))))
local macro_rules | `(tactic| fail) => `(tactic| ((with_reducible apply o_fld); (focus (first | assumption | exact updS_same | exact upd_at (by assumption) (by assumption))); (focus rfl)))
local macro_rules | `(tactic| fail) => `(tactic| ((with_reducible apply o_subT); focus (rfl)))
local macro_rules | `(tactic| fail) => `(tactic| ((with_reducible apply o_subL); (focus (first | assumption | exact updS_same | exact upd_at (by assumption) (by assumption))); (focus rfl)))
local macro_rules | `(tactic| fail) => `(tactic| ((with_reducible apply o_pow); focus (unfold CPow; omega)))
local macro_rules | `(tactic| fail) => `(tactic| ((with_reducible apply o_mod); focus (omega)))
local macro_rules | `(tactic| fail) => `(tactic| ((with_reducible apply o_div); focus (unfold CDiv; omega)))
local macro_rules | `(tactic| fail) => `(tactic| ((with_reducible apply o_mul); focus (unfold CMul; omega)))
local macro_rules | `(tactic| fail) => `(tactic| ((with_reducible apply v_glob); focus (first | assumption | rfl)))
local macro_rules | `(tactic| fail) => `(tactic| ((with_reducible apply t_var); focus (rfl)))
local macro_rules | `(tactic| fail) => `(tactic| ((with_reducible apply v_var); focus (rfl)))
local macro_rules | `(tactic| fail) => `(tactic| with_reducible refine c_false ?_)
local macro_rules | `(tactic| fail) => `(tactic| with_reducible refine c_true ?_)
local macro_rules | `(tactic| fail) => `(tactic| with_reducible refine o_ge ?_)
local macro_rules | `(tactic| fail) => `(tactic| with_reducible refine o_gt ?_)
local macro_rules | `(tactic| fail) => `(tactic| with_reducible refine o_le ?_)
local macro_rules | `(tactic| fail) => `(tactic| with_reducible refine o_lt ?_)
local macro_rules | `(tactic| fail) => `(tactic| with_reducible refine o_sub ?_)
local macro_rules | `(tactic| fail) => `(tactic| with_reducible refine o_add ?_)
local macro_rules | `(tactic| fail) => `(tactic| with_reducible refine o_sub1 ?_)
local macro_rules | `(tactic| fail) => `(tactic| with_reducible refine o_sub0 ?_)
local macro_rules | `(tactic| fail) => `(tactic| with_reducible refine i_rng1 ?_)
local macro_rules | `(tactic| fail) => `(tactic| with_reducible refine i_seq ?_)
local macro_rules | `(tactic| fail) => `(tactic| with_reducible refine g_cons ?_)
local macro_rules | `(tactic| fail) => `(tactic| with_reducible refine g_nil ?_)
local macro_rules | `(tactic| fail) => `(tactic| with_reducible refine g_nm ?_)
local macro_rules | `(tactic| fail) => `(tactic| with_reducible refine ts_one ?_)
local macro_rules | `(tactic| fail) => `(tactic| with_reducible refine ts_nil ?_)
local macro_rules | `(tactic| fail) => `(tactic| with_reducible refine tr_int ?_)
local macro_rules | `(tactic| fail) => `(tactic| with_reducible refine tr_bl ?_)
local macro_rules | `(tactic| fail) => `(tactic| with_reducible refine tb_or ?_)
local macro_rules | `(tactic| fail) => `(tactic| with_reducible refine tb_and ?_)
local macro_rules | `(tactic| fail) => `(tactic| with_reducible refine tb_one ?_)
local macro_rules | `(tactic| fail) => `(tactic| with_reducible refine t_chain ?_)
local macro_rules | `(tactic| fail) => `(tactic| with_reducible refine t_sub ?_)
local macro_rules | `(tactic| fail) => `(tactic| with_reducible refine t_blt ?_)
local macro_rules | `(tactic| fail) => `(tactic| with_reducible refine t_call ?_)
local macro_rules | `(tactic| fail) => `(tactic| with_reducible refine t_cmp ?_)
local macro_rules | `(tactic| fail) => `(tactic| with_reducible refine t_nt ?_)
local macro_rules | `(tactic| fail) => `(tactic| with_reducible refine t_bop ?_)
local macro_rules | `(tactic| fail) => `(tactic| with_reducible refine vb_or ?_)
local macro_rules | `(tactic| fail) => `(tactic| with_reducible refine vb_and ?_)
local macro_rules | `(tactic| fail) => `(tactic| with_reducible refine vb_one ?_)
local macro_rules | `(tactic| fail) => `(tactic| with_reducible refine vo_some ?_)
local macro_rules | `(tactic| fail) => `(tactic| with_reducible refine vo_none ?_)
local macro_rules | `(tactic| fail) => `(tactic| with_reducible refine vs_cons ?_)
local macro_rules | `(tactic| fail) => `(tactic| with_reducible refine vs_nil ?_)
local macro_rules | `(tactic| fail) => `(tactic| with_reducible refine s_try ?_)
local macro_rules | `(tactic| fail) => `(tactic| with_reducible refine s_setf ?_)
local macro_rules | `(tactic| fail) => `(tactic| with_reducible refine v_eqo ?_)
local macro_rules | `(tactic| fail) => `(tactic| with_reducible refine t_isc ?_)
local macro_rules | `(tactic| fail) => `(tactic| with_reducible refine v_isc ?_)
local macro_rules | `(tactic| fail) => `(tactic| with_reducible refine t_meth ?_)
local macro_rules | `(tactic| fail) => `(tactic| with_reducible refine v_meth ?_)
local macro_rules | `(tactic| fail) => `(tactic| with_reducible refine v_new ?_)
local macro_rules | `(tactic| fail) => `(tactic| with_reducible refine v_fld ?_)
local macro_rules | `(tactic| fail) => `(tactic| with_reducible refine v_atr ?_)
local macro_rules | `(tactic| fail) => `(tactic| with_reducible refine v_isx ?_)
local macro_rules | `(tactic| fail) => `(tactic| with_reducible refine v_back ?_)
local macro_rules | `(tactic| fail) => `(tactic| with_reducible refine v_lc ?_)
local macro_rules | `(tactic| fail) => `(tactic| with_reducible refine v_mth ?_)
local macro_rules | `(tactic| fail) => `(tactic| with_reducible refine v_lzip ?_)
local macro_rules | `(tactic| fail) => `(tactic| with_reducible refine v_lrev ?_)
local macro_rules | `(tactic| fail) => `(tactic| with_reducible refine v_blt ?_)
local macro_rules | `(tactic| fail) => `(tactic| with_reducible refine v_call ?_)
local macro_rules | `(tactic| fail) => `(tactic| with_reducible refine v_slice ?_)
local macro_rules | `(tactic| fail) => `(tactic| with_reducible refine v_sub ?_)
local macro_rules | `(tactic| fail) => `(tactic| with_reducible refine v_lst ?_)
local macro_rules | `(tactic| fail) => `(tactic| with_reducible refine v_tup ?_)
local macro_rules | `(tactic| fail) => `(tactic| with_reducible refine v_ite ?_)
local macro_rules | `(tactic| fail) => `(tactic| with_reducible refine v_nt ?_)
local macro_rules | `(tactic| fail) => `(tactic| with_reducible refine v_bop ?_)
local macro_rules | `(tactic| fail) => `(tactic| with_reducible refine v_cmp ?_)
local macro_rules | `(tactic| fail) => `(tactic| with_reducible refine v_bin ?_)
local macro_rules | `(tactic| fail) => `(tactic| with_reducible refine v_bty ?_)
local macro_rules | `(tactic| fail) => `(tactic| with_reducible refine v_str ?_)
local macro_rules | `(tactic| fail) => `(tactic| with_reducible refine v_non ?_)
local macro_rules | `(tactic| fail) => `(tactic| with_reducible refine v_bl ?_)
local macro_rules | `(tactic| fail) => `(tactic| with_reducible refine v_int ?_)
local macro_rules | `(tactic| fail) => `(tactic| with_reducible refine s_cont ?_)
local macro_rules | `(tactic| fail) => `(tactic| with_reducible refine s_brk ?_)
local macro_rules | `(tactic| fail) => `(tactic| with_reducible refine s_nil ?_)
local macro_rules | `(tactic| fail) => `(tactic| with_reducible refine s_pass ?_)
local macro_rules | `(tactic| fail) => `(tactic| with_reducible refine s_retN ?_)
local macro_rules | `(tactic| fail) => `(tactic| with_reducible refine s_ret ?_)
local macro_rules | `(tactic| fail) => `(tactic| with_reducible refine s_ife ?_)
local macro_rules | `(tactic| fail) => `(tactic| with_reducible refine s_set ?_)
local macro_rules | `(tactic| fail) => `(tactic| with_reducible refine s_par ?_)
local macro_rules | `(tactic| fail) => `(tactic| with_reducible refine s_asg ?_)
local macro_rules | `(tactic| fail) => `(tactic| with_reducible refine s_ex ?_)

end
end Z

set_option Elab.async false
set_option linter.all false
set_option maxRecDepth 100000
set_option maxHeartbeats 4000000
namespace Z
open PySem PySem.Spec PyProof.Rows L2
mutual
def plP : PyData → Bool
  | .none => true
  | .int _ => true
  | .list xs => plPs xs
  | .tuple xs => plPs xs
  | _ => false
def plPs : List PyData → Bool
  | [] => true
  | x :: xs => plP x && plPs xs
end
mutual
theorem eqv_pl : ∀ p q : PyData, plP p = true → plP q = true → (PyData.eqv p q = true ↔ p = q)
  | .none, .none, _, _ => by simp [PyData.eqv]
  | .none, .int _, _, _ => by simp [PyData.eqv]
  | .none, .list _, _, _ => by simp [PyData.eqv]
  | .none, .tuple _, _, _ => by simp [PyData.eqv]
  | .int _, .none, _, _ => by simp [PyData.eqv]
  | .int i, .int j, _, _ => by simp [PyData.eqv]
  | .int _, .list _, _, _ => by simp [PyData.eqv]
  | .int _, .tuple _, _, _ => by simp [PyData.eqv]
  | .list _, .none, _, _ => by simp [PyData.eqv]
  | .list _, .int _, _, _ => by simp [PyData.eqv]
  | .list xs, .list ys, h, k => by rw [PyData.eqv, eqvs_pl xs ys (by simpa [plP] using h) (by simpa [plP] using k)]; simp
  | .list _, .tuple _, _, _ => by simp [PyData.eqv]
  | .tuple _, .none, _, _ => by simp [PyData.eqv]
  | .tuple _, .int _, _, _ => by simp [PyData.eqv]
  | .tuple _, .list _, _, _ => by simp [PyData.eqv]
  | .tuple xs, .tuple ys, h, k => by rw [PyData.eqv, eqvs_pl xs ys (by simpa [plP] using h) (by simpa [plP] using k)]; simp
theorem eqvs_pl : ∀ p q : List PyData, plPs p = true → plPs q = true → (PyData.eqvAll p q = true ↔ p = q)
  | [], [], _, _ => by simp [PyData.eqvAll]
  | [], _ :: _, _, _ => by simp [PyData.eqvAll]
  | _ :: _, [], _, _ => by simp [PyData.eqvAll]
  | x :: xs, y :: ys, h, k => by
    simp only [plPs, Bool.and_eq_true] at h k
    rw [PyData.eqvAll, Bool.and_eq_true, eqv_pl x y h.1 k.1, eqvs_pl xs ys h.2 k.2]
    simp
end
section
variable {rows : List Row} {n : Nat} {f : Int} {M : Mx}
theorem eg_lt (hr : ∀ r ∈ rows, RowOk n f r) {i j : Nat} {c : Int} (h : Eg rows i j c) : i < n + 1 ∧ j < n + 1 ∧ -f ≤ c ∧ c ≤ f := by
  obtain ⟨r, hm, h1, h2, h3⟩ := h
  have := hr r hm
  unfold RowOk at this
  omega
theorem eg_le (g : Gd rows (n + 1) M) {i j : Nat} {c : Int} (h : Eg rows i j c) : ole (M i j) (some c) := by
  obtain ⟨r, hm, h1, h2, h3⟩ := h
  have := g.le r hm
  rw [h1, h2, h3] at this
  simpa using this
theorem wk_le (g : Gd rows (n + 1) M) (t : Tri (n + 1) (n + 1) M) (hr : ∀ r ∈ rows, RowOk n f r) {i j : Nat} {c : Int} (w : Wk rows i j c) (hj : j < n + 1) : ole (M i j) (some c) := by
  induction w with
  | nil i => exact g.dg i hj
  | cons e w ih =>
    have h1 := eg_lt hr e
    exact ole.trans (t _ h1.2.1 _ _ h1.1 hj) (oadd_mono (eg_le g e) (ih hj))
theorem wk_ring (g : Gd rows (n + 1) M) (t : Tri (n + 1) (n + 1) M) (hr : ∀ r ∈ rows, RowOk n f r) (hN : ¬ Neg (n + 1) M) {i : Nat} {c : Int} (hi : i < n + 1) (w : Wk rows i i c) : 0 ≤ c := by
  have h := wk_le g t hr w hi
  cases e : M i i with
  | none => rw [e] at h; simp [ole] at h
  | some d =>
    rw [e] at h
    simp only [ole] at h
    have : ¬ d < 0 := fun z => hN ⟨i, hi, d, e, z⟩
    omega
def Sh (rows : List Row) (i j : Nat) (c : Int) : Prop := (i = j ∧ c = 0) ∨ (i ≠ j ∧ Eg rows i j c) ∨ ∃ k c1 c2, k ≠ i ∧ k ≠ j ∧ i ≠ j ∧ Eg rows i k c1 ∧ Eg rows k j c2 ∧ c = c1 + c2
theorem eg_wk {i j : Nat} {c : Int} (h : Eg rows i j c) : Wk rows i j c := by
  have := Wk.cons h (.nil j)
  simpa using this
end
end Z

set_option Elab.async false
set_option linter.all false
set_option maxRecDepth 100000
set_option maxHeartbeats 4000000
namespace Z
open PySem PySem.Spec PyProof.Rows L2
mutual
theorem pl_lay : ∀ p : PyData, plP p = true → p.canLay0 = true
  | .none, _ => by simp [PyData.canLay0]
  | .int i, _ => by simp [PyData.canLay0]
  | .list xs, h => by simp only [PyData.canLay0]; exact pls_lay xs (by simpa [plP] using h)
  | .tuple xs, h => by simp only [PyData.canLay0]; exact pls_lay xs (by simpa [plP] using h)
  | .bool _, h => by simp [plP] at h
  | .str _, h => by simp [plP] at h
  | .dict _, h => by simp [plP] at h
theorem pls_lay : ∀ p : List PyData, plPs p = true → PyData.canLayAll0 p = true
  | [], _ => by simp [PyData.canLayAll0]
  | x :: xs, h => by
    simp only [plPs, Bool.and_eq_true] at h
    simp [PyData.canLayAll0, pl_lay x h.1, pls_lay xs h.2]
end
theorem pls_map {α : Type} {g : α → PyData} (h : ∀ a, plP (g a) = true) : ∀ xs : List α, plPs (xs.map g) = true
  | [] => rfl
  | x :: xs => by simp [plPs, h x, pls_map h xs]
theorem dep_map {α : Type} {g : α → PyData} {m : Nat} (h : ∀ a, (g a).depth ≤ m) : ∀ xs : List α, PyData.depthAll (xs.map g) ≤ m
  | [] => by simp [PyData.depthAll]
  | x :: xs => by
    have := h x
    have := dep_map h xs
    simp only [List.map_cons, PyData.depthAll]
    omega
theorem toPs_map {α : Type} {g : α → D} {g' : α → PyData} (h : ∀ a, toP (g a) = some (g' a)) : ∀ xs : List α, toPs (xs.map g) = some (xs.map g')
  | [] => rfl
  | x :: xs => by simp [toPs, h x, toPs_map h xs]
theorem sh_pl {p : PyData} (h : plP p = true) (hd : p.depth ≤ 10) : SeqAt.shaped p = true := by
  unfold SeqAt.shaped
  rw [pl_lay p h, Bool.true_and]
  exact decide_eq_true (by omega)
theorem map_inj {α β : Type} {g : α → β} (h : ∀ a b, g a = g b → a = b) : ∀ {xs ys : List α}, xs.map g = ys.map g → xs = ys
  | [], [], _ => rfl
  | [], _ :: _, e => by simp at e
  | _ :: _, [], e => by simp at e
  | x :: xs, y :: ys, e => by
    simp only [List.map_cons, List.cons.injEq] at e
    rw [h _ _ e.1, map_inj h e.2]
section
variable {defs : Str → Option DefT} {gl : Str → Option D} {k : Nat} {S : Sto} {Q : D → Sto → Prop} {E : Exc → Sto → Prop}
theorem o_eqP {x y : D} {p q : PyData} (ex : toPS S x = some p) (ey : toPS S y = some q) (hp : plP p = true) (hq : plP q = true) (dp : p.depth ≤ 10) (dq : q.depth ≤ 10) (h : ∀ z : Bool, (z = true ↔ p = q) → Q (.bl z) S) : wCmp .Eq x y S Q := by
  unfold wCmp wEq
  simp only [ex, ey]
  exact ⟨sh_pl hp dp, sh_pl hq dq, h _ (eqv_pl p q hp hq)⟩
def oP : Option Int → PyData
  | some c => .int c
  | none => .none
def rowP (n : Nat) (f : Nat → Option Int) : PyData := .list ((List.range n).map fun j => oP (f j))
theorem toP_od (o : Option Int) : toP (od o) = some (oP o) := by cases o <;> rfl
theorem toP1_row {S : Sto} {r : Addr} {n : Nat} {f : Nat → Option Int} (e : S r = some (.lst (rowM n f))) : toP1 S (.ref r) = some (rowP n f) := by
  unfold toP1
  simp only [e]
  unfold rowM
  rw [toPs_map (g' := fun j => oP (f j)) (fun j => toP_od (f j))]
  rfl
theorem toPS_mat {S : Sto} {a : Addr} {rs : List Addr} {n : Nat} {M : Mx} (m : Mat S a rs (n + 1) M) : toPS S (.ref a) = some (.list ((List.range (n + 1)).map fun i => rowP (n + 1) (M i))) := by
  unfold toPS
  simp only [m.top]
  have h0 : toPs (rs.map D.ref) = none := by
    cases h : rs with
    | nil => have := m.len; rw [h] at this; simp at this
    | cons r rs => simp [toPs, toP]
  rw [h0]
  have : ∀ (l : List Addr) (i : Nat), (∀ j r, l[j]? = some r → S r = some (.lst (rowM (n + 1) (M (i + j))))) → toP1s S (l.map D.ref) = some ((List.range' i l.length).map fun i => rowP (n + 1) (M i)) := by
    intro l
    induction l with
    | nil => intro i _; rfl
    | cons r l ih =>
      intro i h
      have h1 := toP1_row (h 0 r rfl)
      have h2 := ih (i + 1) fun j r e => by have := h (j + 1) r (by simpa using e); rwa [show i + (j + 1) = i + 1 + j by omega] at this
      simp only [List.map_cons, toP1s, h1, h2, List.length_cons, List.range'_succ]
      simp
  rw [this rs 0 (fun j r e => by rw [Nat.zero_add]; exact m.row j r e), m.len, List.range_eq_range']
  rfl
theorem oP_inj {a b : Option Int} (e : oP a = oP b) : a = b := by cases a <;> cases b <;> simp [oP] at e ⊢; exact e
theorem rowP_inj {n : Nat} {f g : Nat → Option Int} (e : rowP n f = rowP n g) : ∀ j, j < n → f j = g j := fun j hj => by
  unfold rowP at e
  injection e with e
  have := congrArg (fun l => l[j]?) e
  simp only [List.getElem?_map, List.getElem?_range hj, Option.map_some, Option.some.injEq] at this
  exact oP_inj this
theorem o_eqMat {a b : Addr} {rs rs' : List Addr} {n : Nat} {M M' : Mx} (m : Mat S a rs (n + 1) M) (m' : Mat S b rs' (n + 1) M') (h : ∀ z : Bool, (z = true ↔ Eqn (n + 1) M M') → Q (.bl z) S) : wCmp .Eq (.ref a) (.ref b) S Q := by
  have hpl : ∀ M : Mx, plP (.list ((List.range (n + 1)).map fun i => rowP (n + 1) (M i))) = true := fun M => by
    simp only [plP]
    exact pls_map (fun i => by simp only [rowP, plP]; exact pls_map (fun j => by cases M i j <;> rfl) _) _
  have hdp : ∀ M : Mx, (PyData.list ((List.range (n + 1)).map fun i => rowP (n + 1) (M i))).depth ≤ 10 := fun M => by
    simp only [PyData.depth]
    have := dep_map (g := fun i => rowP (n + 1) (M i)) (m := 2) (fun i => by
      simp only [rowP, PyData.depth]
      have := dep_map (g := fun j => oP (M i j)) (m := 0) (fun j => by cases M i j <;> simp [oP, PyData.depth]) (List.range (n + 1))
      omega) (List.range (n + 1))
    omega
  refine o_eqP (toPS_mat m) (toPS_mat m') (hpl M) (hpl M') (hdp M) (hdp M') fun z hz => h z (hz.trans ?_)
  constructor
  · intro e i j hi hj
    injection e with e
    have := congrArg (fun l => l[i]?) e
    simp only [List.getElem?_map, List.getElem?_range hi, Option.map_some, Option.some.injEq] at this
    exact rowP_inj this j hj
  · intro e
    congr 1
    refine List.map_congr_left fun i hi => ?_
    unfold rowP
    congr 1
    exact List.map_congr_left fun j hj => by rw [e i j (List.mem_range.mp hi) (List.mem_range.mp hj)]
def negB (n : Nat) (M : Mx) : Bool := (List.range n).any fun i => (match M i i with | some c => decide (c < 0) | none => false)
theorem negB_iff {n : Nat} {M : Mx} : negB n M = true ↔ Neg n M := by
  unfold negB Neg
  rw [List.any_eq_true]
  constructor
  · rintro ⟨i, hi, h⟩
    cases e : M i i with
    | none => rw [e] at h; cases h
    | some c => rw [e] at h; exact ⟨i, List.mem_range.mp hi, c, e, of_decide_eq_true h⟩
  · rintro ⟨i, hi, c, e, h⟩
    exact ⟨i, List.mem_range.mpr hi, by rw [e]; exact decide_eq_true h⟩
theorem o_neBX {a b : Bool} (h : Q (.bl (a != b)) S) : wCmp .NotEq (.bl a) (.bl b) S Q := by
  unfold wCmp wEq
  simp only [toPS, toP]
  refine ⟨shB a, shB b, ?_⟩
  rw [PyData.eqv]
  simpa [bne] using h
theorem o_neIX {a b : Int} (h : Q (.bl (a != b)) S) : wCmp .NotEq (.int a) (.int b) S Q := by
  unfold wCmp wEq
  simp only [toPS, toP]
  refine ⟨shI a, shI b, ?_⟩
  rw [PyData.eqv]
  simpa [bne] using h
theorem spec_empB (hd : defs "Bounds.is_empty" = some dBoundsIsEmpty) {n : Nat} {rows : List Row} {b p : Addr} {rs : List Addr} {M : Mx} (hk : 1 ≤ k) (hn : n ≤ 10) (B : Bo S b p rs n rows M)
    (hq : ∀ S', Off [] S S' → Q (.bl (negB (n + 1) M)) S') : sem defs gl k "Bounds.is_empty" [.ref b] S Q E := spec_is_empty hd hk hn B fun S' o => hq S' o
local macro_rules | `(tactic| fail) => `(tactic| ((with_reducible refine And.intro ?_ ?_); (focus (exact Nat.le_of_ble_eq_true rfl))))
local macro_rules | `(tactic| fail) => `(tactic| with_reducible refine ⟨_, rfl, ?_⟩)
local macro_rules | `(tactic| fail) => `(tactic| ((with_reducible apply o_sliceT); (focus rfl)))
local macro_rules | `(tactic| fail) => `(tactic| ((with_reducible apply o_inTf); (focus rfl); (focus rfl); (focus (simp [inF, eqF, str_beq]; done))))
local macro_rules | `(tactic| fail) => `(tactic| ((with_reducible apply o_inTt); (focus rfl); (focus rfl); (focus (simp [inF, eqF, str_beq]; done))))
local macro_rules | `(tactic| fail) => `(tactic| ((with_reducible apply o_subC); (focus ((repeat (first | with_reducible exact lk_hit | ((with_reducible apply lk_miss); (focus (exact str_ne (by decide)))))); done))))
local macro_rules | `(tactic| fail) => `(tactic| ((with_reducible apply o_inC); (focus ((repeat (first | with_reducible exact lk_hit | ((with_reducible apply lk_miss); (focus (exact str_ne (by decide)))))); done))))
local macro_rules | `(tactic| fail) => `(tactic| ((with_reducible apply o_ninC); (focus ((repeat (first | with_reducible exact lk_hit | ((with_reducible apply lk_miss); (focus (exact str_ne (by decide)))))); done))))
local macro_rules | `(tactic| fail) => `(tactic| ((with_reducible apply o_isinF); (focus rfl); (focus (decide +kernel))))
local macro_rules | `(tactic| fail) => `(tactic| ((with_reducible apply o_isinT); (focus rfl); (focus (decide +kernel))))
local macro_rules | `(tactic| fail) => `(tactic| with_reducible refine i_enm ?_)
local macro_rules | `(tactic| fail) => `(tactic| ((with_reducible apply g_tup); (focus rfl); (focus rfl)))
local macro_rules | `(tactic| fail) => `(tactic| ((with_reducible apply v_dctN); (focus (decide +kernel))))
local macro_rules | `(tactic| fail) => `(tactic| ((with_reducible apply o_len); (focus (exact len_ref (by (first | assumption | exact updS_same | exact upd_at (by assumption) (by assumption)))))))
local macro_rules | `(tactic| fail) => `(tactic| ((with_reducible apply o_tuple); (focus (first | rfl | exact items_ref (by (first | assumption | exact updS_same | exact upd_at (by assumption) (by assumption)))))))
local macro_rules | `(tactic| fail) => `(tactic| ((with_reducible apply o_get2); (focus (first | assumption | exact updS_same | exact upd_at (by assumption) (by assumption))); (focus rfl); (focus ((repeat (first | with_reducible exact getD_hit | with_reducible exact getD_nil | ((with_reducible apply getD_miss); (focus (exact str_ne (by decide)))))); done))))
local macro_rules | `(tactic| fail) => `(tactic| ((with_reducible apply o_get1); (focus (first | assumption | exact updS_same | exact upd_at (by assumption) (by assumption))); (focus rfl); (focus ((repeat (first | with_reducible exact getD_hit | with_reducible exact getD_nil | ((with_reducible apply getD_miss); (focus (exact str_ne (by decide)))))); done))))
local macro_rules | `(tactic| fail) => `(tactic| ((with_reducible refine And.intro ?_ ?_); (focus (first | exact recvL (by (first | assumption | exact updS_same | exact upd_at (by assumption) (by assumption))) rfl | exact recvD (by (first | assumption | exact updS_same | exact upd_at (by assumption) (by assumption))) rfl))))
local macro_rules | `(tactic| fail) => `(tactic| ((with_reducible apply o_subD); (focus (first | assumption | exact updS_same | exact upd_at (by assumption) (by assumption))); (focus rfl); (focus ((repeat (first | with_reducible exact lookD_hit | ((with_reducible apply look_miss); (focus (exact str_ne (by decide)))))); done))))
local macro_rules | `(tactic| fail) => `(tactic| ((with_reducible apply c_ndF); (focus (((try simp only [List.length_cons, List.length_nil, List.length_append, List.length_map]); omega)))))
local macro_rules | `(tactic| fail) => `(tactic| ((with_reducible apply c_ndT); (focus (((try simp only [List.length_cons, List.length_nil, List.length_append, List.length_map]); omega)))))
local macro_rules | `(tactic| fail) => `(tactic| with_reducible refine o_intB ?_)
local macro_rules | `(tactic| fail) => `(tactic| ((with_reducible apply c_decF); (focus (((try simp only [List.length_cons, List.length_nil, List.length_append, List.length_map]); omega)))))
local macro_rules | `(tactic| fail) => `(tactic| ((with_reducible apply c_decT); (focus (((try simp only [List.length_cons, List.length_nil, List.length_append, List.length_map]); omega)))))
local macro_rules | `(tactic| fail) => `(tactic| with_reducible refine c_notf ?_)
local macro_rules | `(tactic| fail) => `(tactic| with_reducible refine c_nott ?_)
local macro_rules | `(tactic| fail) => `(tactic| with_reducible refine o_eqI ?_)
local macro_rules | `(tactic| fail) => `(tactic| ((with_reducible apply o_eqIf); (focus (((try simp only [List.length_cons, List.length_nil, List.length_append, List.length_map]); omega)))))
local macro_rules | `(tactic| fail) => `(tactic| ((with_reducible apply o_eqIt); (focus (((try simp only [List.length_cons, List.length_nil, List.length_append, List.length_map]); omega)))))
local macro_rules | `(tactic| fail) => `(tactic| with_reducible refine o_isB ?_)
local macro_rules | `(tactic| fail) => `(tactic| with_reducible refine o_isN ?_)
local macro_rules | `(tactic| fail) => `(tactic| with_reducible refine o_isR ?_)
local macro_rules | `(tactic| fail) => `(tactic| with_reducible refine o_eqB ?_)
local macro_rules | `(tactic| fail) => `(tactic| ((with_reducible apply o_neIf); (focus (((try simp only [List.length_cons, List.length_nil, List.length_append, List.length_map]); omega)))))
local macro_rules | `(tactic| fail) => `(tactic| ((with_reducible apply o_neIt); (focus (((try simp only [List.length_cons, List.length_nil, List.length_append, List.length_map]); omega)))))
local macro_rules | `(tactic| fail) => `(tactic| with_reducible refine o_neII ?_)
local macro_rules | `(tactic| fail) => `(tactic| with_reducible refine o_neBB ?_)
local macro_rules | `(tactic| fail) => `(tactic| ((with_reducible apply o_eqSf); (focus decide)))
local macro_rules | `(tactic| fail) => `(tactic| ((with_reducible apply o_atr); (focus rfl)))
local macro_rules | `(tactic| fail) => `(tactic| with_reducible refine o_isx ?_)
local macro_rules | `(tactic| fail) => `(tactic| with_reducible refine o_eqSt ?_)
local macro_rules | `(tactic| fail) => `(tactic| ((with_reducible apply o_len); focus (first | rfl | (simp only [lenD]; simp only [*]; done))))
local macro_rules | `(tactic| fail) => `(tactic| ((with_reducible apply o_setL); (focus (first | assumption | exact updS_same | exact upd_at (by assumption) (by assumption))); (focus rfl)))
local macro_rules | `(tactic| fail) => `(tactic| ((with_reducible refine And.intro ?_ ?_); (focus (first | exact selfOk (by (first | assumption | exact updS_same | exact upd_at (by assumption) (by assumption))) rfl | exact insOk (by (first | assumption | exact updS_same | exact upd_at (by assumption) (by assumption)))))))
local macro_rules | `(tactic| fail) => `(tactic| ((with_reducible apply o_setf); (focus (first | assumption | exact updS_same | exact upd_at (by assumption) (by assumption))); (focus (exact Nat.le_of_ble_eq_true rfl))))
local macro_rules | `(tactic| fail) => `(tactic| ((with_reducible apply o_fld); (focus (first | assumption | exact updS_same | exact upd_at (by assumption) (by assumption))); (focus rfl)))
local macro_rules | `(tactic| fail) => `(tactic| ((with_reducible apply o_subT); focus (rfl)))
local macro_rules | `(tactic| fail) => `(tactic| ((with_reducible apply o_subL); (focus (first | assumption | exact updS_same | exact upd_at (by assumption) (by assumption))); (focus rfl)))
local macro_rules | `(tactic| fail) => `(tactic| ((with_reducible apply o_pow); focus (unfold CPow; omega)))
local macro_rules | `(tactic| fail) => `(tactic| ((with_reducible apply o_mod); focus (omega)))
local macro_rules | `(tactic| fail) => `(tactic| ((with_reducible apply o_div); focus (unfold CDiv; omega)))
local macro_rules | `(tactic| fail) => `(tactic| ((with_reducible apply o_mul); focus (unfold CMul; omega)))
local macro_rules | `(tactic| fail) => `(tactic| ((with_reducible apply v_glob); focus (first | assumption | rfl)))
local macro_rules | `(tactic| fail) => `(tactic| ((with_reducible apply t_var); focus (rfl)))
local macro_rules | `(tactic| fail) => `(tactic| ((with_reducible apply v_var); focus (rfl)))
local macro_rules | `(tactic| fail) => `(tactic| with_reducible refine c_false ?_)
local macro_rules | `(tactic| fail) => `(tactic| with_reducible refine c_true ?_)
local macro_rules | `(tactic| fail) => `(tactic| with_reducible refine o_ge ?_)
local macro_rules | `(tactic| fail) => `(tactic| with_reducible refine o_gt ?_)
local macro_rules | `(tactic| fail) => `(tactic| with_reducible refine o_le ?_)
local macro_rules | `(tactic| fail) => `(tactic| with_reducible refine o_lt ?_)
local macro_rules | `(tactic| fail) => `(tactic| with_reducible refine o_sub ?_)
local macro_rules | `(tactic| fail) => `(tactic| with_reducible refine o_add ?_)
local macro_rules | `(tactic| fail) => `(tactic| with_reducible refine o_sub1 ?_)
local macro_rules | `(tactic| fail) => `(tactic| with_reducible refine o_sub0 ?_)
local macro_rules | `(tactic| fail) => `(tactic| with_reducible refine i_rng1 ?_)
local macro_rules | `(tactic| fail) => `(tactic| with_reducible refine i_seq ?_)
local macro_rules | `(tactic| fail) => `(tactic| with_reducible refine g_cons ?_)
local macro_rules | `(tactic| fail) => `(tactic| with_reducible refine g_nil ?_)
local macro_rules | `(tactic| fail) => `(tactic| with_reducible refine g_nm ?_)
local macro_rules | `(tactic| fail) => `(tactic| with_reducible refine ts_one ?_)
local macro_rules | `(tactic| fail) => `(tactic| with_reducible refine ts_nil ?_)
local macro_rules | `(tactic| fail) => `(tactic| with_reducible refine tr_int ?_)
local macro_rules | `(tactic| fail) => `(tactic| with_reducible refine tr_bl ?_)
local macro_rules | `(tactic| fail) => `(tactic| with_reducible refine tb_or ?_)
local macro_rules | `(tactic| fail) => `(tactic| with_reducible refine tb_and ?_)
local macro_rules | `(tactic| fail) => `(tactic| with_reducible refine tb_one ?_)
local macro_rules | `(tactic| fail) => `(tactic| with_reducible refine t_chain ?_)
local macro_rules | `(tactic| fail) => `(tactic| with_reducible refine t_sub ?_)
local macro_rules | `(tactic| fail) => `(tactic| with_reducible refine t_blt ?_)
local macro_rules | `(tactic| fail) => `(tactic| with_reducible refine t_call ?_)
local macro_rules | `(tactic| fail) => `(tactic| with_reducible refine t_cmp ?_)
local macro_rules | `(tactic| fail) => `(tactic| with_reducible refine t_nt ?_)
local macro_rules | `(tactic| fail) => `(tactic| with_reducible refine t_bop ?_)
local macro_rules | `(tactic| fail) => `(tactic| with_reducible refine vb_or ?_)
local macro_rules | `(tactic| fail) => `(tactic| with_reducible refine vb_and ?_)
local macro_rules | `(tactic| fail) => `(tactic| with_reducible refine vb_one ?_)
local macro_rules | `(tactic| fail) => `(tactic| with_reducible refine vo_some ?_)
local macro_rules | `(tactic| fail) => `(tactic| with_reducible refine vo_none ?_)
local macro_rules | `(tactic| fail) => `(tactic| with_reducible refine vs_cons ?_)
local macro_rules | `(tactic| fail) => `(tactic| with_reducible refine vs_nil ?_)
local macro_rules | `(tactic| fail) => `(tactic| with_reducible refine s_try ?_)
local macro_rules | `(tactic| fail) => `(tactic| with_reducible refine s_setf ?_)
local macro_rules | `(tactic| fail) => `(tactic| with_reducible refine v_eqo ?_)
local macro_rules | `(tactic| fail) => `(tactic| with_reducible refine t_isc ?_)
local macro_rules | `(tactic| fail) => `(tactic| with_reducible refine v_isc ?_)
local macro_rules | `(tactic| fail) => `(tactic| with_reducible refine t_meth ?_)
local macro_rules | `(tactic| fail) => `(tactic| with_reducible refine v_meth ?_)
local macro_rules | `(tactic| fail) => `(tactic| with_reducible refine v_new ?_)
local macro_rules | `(tactic| fail) => `(tactic| with_reducible refine v_fld ?_)
local macro_rules | `(tactic| fail) => `(tactic| with_reducible refine v_atr ?_)
local macro_rules | `(tactic| fail) => `(tactic| with_reducible refine v_isx ?_)
local macro_rules | `(tactic| fail) => `(tactic| with_reducible refine v_back ?_)
local macro_rules | `(tactic| fail) => `(tactic| with_reducible refine v_lc ?_)
local macro_rules | `(tactic| fail) => `(tactic| with_reducible refine v_mth ?_)
local macro_rules | `(tactic| fail) => `(tactic| with_reducible refine v_lzip ?_)
local macro_rules | `(tactic| fail) => `(tactic| with_reducible refine v_lrev ?_)
local macro_rules | `(tactic| fail) => `(tactic| with_reducible refine v_blt ?_)
local macro_rules | `(tactic| fail) => `(tactic| with_reducible refine v_call ?_)
local macro_rules | `(tactic| fail) => `(tactic| with_reducible refine v_slice ?_)
local macro_rules | `(tactic| fail) => `(tactic| with_reducible refine v_sub ?_)
local macro_rules | `(tactic| fail) => `(tactic| with_reducible refine v_lst ?_)
local macro_rules | `(tactic| fail) => `(tactic| with_reducible refine v_tup ?_)
local macro_rules | `(tactic| fail) => `(tactic| with_reducible refine v_ite ?_)
local macro_rules | `(tactic| fail) => `(tactic| with_reducible refine v_nt ?_)
local macro_rules | `(tactic| fail) => `(tactic| with_reducible refine v_bop ?_)
local macro_rules | `(tactic| fail) => `(tactic| with_reducible refine v_cmp ?_)
local macro_rules | `(tactic| fail) => `(tactic| with_reducible refine v_bin ?_)
local macro_rules | `(tactic| fail) => `(tactic| with_reducible refine v_bty ?_)
local macro_rules | `(tactic| fail) => `(tactic| with_reducible refine v_str ?_)
local macro_rules | `(tactic| fail) => `(tactic| with_reducible refine v_non ?_)
local macro_rules | `(tactic| fail) => `(tactic| with_reducible refine v_bl ?_)
local macro_rules | `(tactic| fail) => `(tactic| with_reducible refine v_int ?_)
local macro_rules | `(tactic| fail) => `(tactic| with_reducible refine s_cont ?_)
local macro_rules | `(tactic| fail) => `(tactic| with_reducible refine s_brk ?_)
local macro_rules | `(tactic| fail) => `(tactic| with_reducible refine s_nil ?_)
local macro_rules | `(tactic| fail) => `(tactic| with_reducible refine s_pass ?_)
local macro_rules | `(tactic| fail) => `(tactic| with_reducible refine s_retN ?_)
local macro_rules | `(tactic| fail) => `(tactic| with_reducible refine s_ret ?_)
local macro_rules | `(tactic| fail) => `(tactic| with_reducible refine s_ife ?_)
local macro_rules | `(tactic| fail) => `(tactic| with_reducible refine s_set ?_)
local macro_rules | `(tactic| fail) => `(tactic| with_reducible refine s_par ?_)
local macro_rules | `(tactic| fail) => `(tactic| with_reducible refine s_asg ?_)
local macro_rules | `(tactic| fail) => `(tactic| with_reducible refine s_ex ?_)

theorem spec_beq (hd : defs "Bounds.__eq__" = some dBoundsEq) (hd1 : defs "Bounds.is_empty" = some dBoundsIsEmpty) {n : Nat} {rows rows' : List Row} {b p b' p' : Addr} {rs rs' : List Addr} {M M' : Mx} (hk : 2 ≤ k) (hn : n ≤ 10) (B : Bo S b p rs n rows M) (B' : Bo S b' p' rs' n rows' M')
    (hq : ∀ S' z, Off [] S S' → (z = true ↔ (Neg (n + 1) M ∧ Neg (n + 1) M') ∨ Eqn (n + 1) M M') → Q (.bl z) S') : sem defs gl k "Bounds.__eq__" [.ref b, .ref b'] S Q E := by
  obtain ⟨k, rfl⟩ : ∃ j, k = j + 1 := ⟨k - 1, by omega⟩
  have e0 := B.at_
  have e0' := B'.at_
  (refine sem_of hd rfl ?_; unfold dBoundsEq; simp only [startD, List.map_cons, List.map_nil, List.length_cons, List.length_nil, List.replicate_succ, List.replicate_zero, List.cons_append, List.nil_append, Nat.reduceAdd, Nat.reduceSub])
  (repeat fail)
  refine o_neIX ?_
  rw [show ((n : Int) != (n : Int)) = false by simp]
  (repeat fail)
  have last : ∀ S', Off [] S S' → ¬ (Neg (n + 1) M ∧ Neg (n + 1) M') → wpE ⟨sem defs gl k, gl⟩ (fun x _ S' => E x S') (.cmp .Eq (.fld (.var 0) "sums") (.fld (.var 1) "sums")) [some (.ref b), some (.ref b')] S' Q := fun S' o hN => by
    have C := B.off o
    have C' := B'.off o
    have e0 := C.at_
    have e0' := C'.at_
    (repeat fail)
    refine o_eqMat C.mat C'.mat fun z hz => hq S' z o (hz.trans ?_)
    exact ⟨.inr, fun z => z.resolve_left hN⟩
  refine spec_empB hd1 (by omega) hn B fun S1 o1 => ?_
  refine ⟨_, rfl, ?_⟩
  by_cases hN : Neg (n + 1) M
  · rw [negB_iff.mpr hN]
    refine c_true ?_
    have e1 := (B.off o1).at_
    have e1' := (B'.off o1).at_
    (repeat fail)
    refine spec_empB hd1 (by omega) hn (B'.off o1) fun S2 o2 => ?_
    refine ⟨_, rfl, ?_⟩
    by_cases hN' : Neg (n + 1) M'
    · rw [negB_iff.mpr hN']
      refine c_true ?_
      exact hq _ _ (o1.trans o2) (by simp [hN, hN'])
    · rw [show negB (n + 1) M' = false from by simpa using fun z => hN' (negB_iff.mp z)]
      refine c_false ?_
      refine vb_one ?_
      exact last S2 (o1.trans o2) fun z => hN' z.2
  · rw [show negB (n + 1) M = false from by simpa using fun z => hN (negB_iff.mp z)]
    refine c_false ?_
    refine ⟨_, rfl, c_false (vb_one ?_)⟩
    exact last S1 o1 fun z => hN z.1
end
end Z

set_option Elab.async false
set_option linter.all false
set_option maxRecDepth 100000
set_option maxHeartbeats 4000000
namespace Z
open PySem PySem.Spec PyProof.Rows L2
def updF {α : Type} (f : Nat → α) (i : Nat) (v : α) : Nat → α := fun x => if x = i then v else f x
theorem updF_s {α : Type} {f : Nat → α} {i : Nat} {v : α} : updF f i v i = v := by simp [updF]
theorem updF_n {α : Type} {f : Nat → α} {i j : Nat} {v : α} (h : j ≠ i) : updF f i v j = f j := by simp [updF, h]
abbrev fr (r : Row) : Nat := (r.1 + 1).toNat
abbrev to (r : Row) : Nat := (r.2.1 + 1).toNat
structure Bf (rows : List Row) (n t a : Nat) (num : Nat → Int) (bye : Nat → Option Nat) (last : Option Nat) (ch ta : Nat → Nat) (clk : Nat) : Prop where
  b1 : ∀ i k, bye i = some k → ∃ r, rows[k]? = some r ∧ fr r = i ∧ num (to r) + r.2.2 ≤ num i ∧ (num (to r) + r.2.2 < num i ∨ ta (to r) < ta i) ∧ ch i ≤ ch (to r) + 1
  b2 : ∀ i, 1 ≤ ch i → ∃ k, bye i = some k
  b4 : ∀ k r, rows[k]? = some r → (k < a → num (fr r) ≤ num (to r) + r.2.2 ∨ t + 1 ≤ ch (to r)) ∧ (1 ≤ t → num (fr r) ≤ num (to r) + r.2.2 ∨ t ≤ ch (to r))
  b5 : ∀ i, ta i ≤ clk
  b6 : ∀ i, ch i ≤ t + 1
  b7 : last = none → ∀ i, ch i ≤ t
  b8 : ∀ i, last = some i → ch i = t + 1 ∧ i ≤ n
section
variable {rows : List Row} {n t a v : Nat} {num : Nat → Int} {bye : Nat → Option Nat} {last : Option Nat} {ch ta : Nat → Nat} {clk : Nat} {f : Int}
theorem Bf.init : Bf rows n 0 0 (fun _ => 0) (fun _ => none) none (fun _ => 0) (fun _ => 0) 0 where
  b1 := fun i k h => by cases h
  b2 := fun i h => by omega
  b4 := fun k r _ => ⟨fun h => by omega, fun h => by omega⟩
  b5 := fun i => Nat.le_refl _
  b6 := fun i => by omega
  b7 := fun _ i => Nat.le_refl _
  b8 := fun i h => by cases h
theorem Bf.turn (b : Bf rows n t rows.length num bye last ch ta clk) : Bf rows n (t + 1) 0 num bye none ch ta clk where
  b1 := b.b1
  b2 := b.b2
  b4 := fun k r h => ⟨fun z => by omega, fun _ => (b.b4 k r h).1 (List.getElem?_eq_some_iff.mp h).1⟩
  b5 := b.b5
  b6 := fun i => by have := b.b6 i; omega
  b7 := fun _ i => b.b6 i
  b8 := fun i h => by cases h
theorem Bf.stay (b : Bf rows n t a num bye last ch ta clk) {r : Row} (h : rows[a]? = some r) (hc : ¬ num (to r) + r.2.2 < num (fr r)) : Bf rows n t (a + 1) num bye last ch ta clk where
  b1 := b.b1
  b2 := b.b2
  b4 := fun k r' h' => ⟨fun z => by
    by_cases hk : k = a
    · subst hk
      rw [h] at h'
      cases h'
      exact .inl (by omega)
    · exact (b.b4 k r' h').1 (by omega), (b.b4 k r' h').2⟩
  b5 := b.b5
  b6 := b.b6
  b7 := b.b7
  b8 := b.b8
theorem Bf.keeps (b : Bf rows n t rows.length num bye none ch ta clk) : ∀ r ∈ rows, num (fr r) ≤ num (to r) + r.2.2 := fun r hr => by
  obtain ⟨k, hk⟩ := List.mem_iff_getElem?.mp hr
  rcases (b.b4 k r hk).1 (List.getElem?_eq_some_iff.mp hk).1 with z | z
  · exact z
  · have := b.b7 rfl (to r)
    omega
def nxt (rows : List Row) (bye : Nat → Option Nat) (i : Nat) : Nat := match bye i with
  | some k => to (rows.getD k (0, 0, 0))
  | none => 0
def wgt (rows : List Row) (bye : Nat → Option Nat) (i : Nat) : Int := match bye i with
  | some k => (rows.getD k (0, 0, 0)).2.2
  | none => 0
def itr (g : Nat → Nat) : Nat → Nat → Nat
  | 0, i => i
  | m + 1, i => g (itr g m i)
def sumw (rows : List Row) (bye : Nat → Option Nat) : Nat → Nat → Int
  | 0, _ => 0
  | m + 1, i => sumw rows bye m i + wgt rows bye (itr (nxt rows bye) m i)
theorem Bf.at_ (b : Bf rows n t a num bye last ch ta clk) {i : Nat} (h : bye i ≠ none) : ∃ k r, bye i = some k ∧ rows[k]? = some r ∧ rows.getD k (0, 0, 0) = r ∧ fr r = i ∧ nxt rows bye i = to r ∧ wgt rows bye i = r.2.2 ∧ num (to r) + r.2.2 ≤ num i ∧ (num (to r) + r.2.2 < num i ∨ ta (to r) < ta i) ∧ ch i ≤ ch (to r) + 1 := by
  cases e : bye i with
  | none => exact absurd e h
  | some k =>
    obtain ⟨r, h1, h2, h3⟩ := b.b1 i k e
    have hg : rows.getD k (0, 0, 0) = r := by rw [List.getD_eq_getElem?_getD, h1]; rfl
    exact ⟨k, r, rfl, h1, hg, h2, by unfold nxt; rw [e]; simp only []; rw [hg], by unfold wgt; rw [e]; simp only []; rw [hg], h3⟩
theorem Bf.chain (b : Bf rows n t a num bye last ch ta clk) {v : Nat} : ∀ m, m < ch v → bye (itr (nxt rows bye) m v) ≠ none ∧ ch v ≤ ch (itr (nxt rows bye) m v) + m
  | 0, h => by
    obtain ⟨k, e⟩ := b.b2 v (by omega)
    refine ⟨?_, by show ch v ≤ ch v + 0; omega⟩
    show bye v ≠ none
    rw [e]
    exact fun z => nomatch z
  | m + 1, h => by
    obtain ⟨h1, h2⟩ := b.chain (v := v) m (by omega)
    obtain ⟨k, r, e1, e2, e3, e4, e5, e6, e7, e8, e9⟩ := b.at_ h1
    have e : itr (nxt rows bye) (m + 1) v = to r := e5
    rw [e]
    have hc : ch v ≤ ch (to r) + (m + 1) := by omega
    refine ⟨?_, hc⟩
    obtain ⟨k', e'⟩ := b.b2 (to r) (by omega)
    rw [e']
    exact fun z => nomatch z
theorem Bf.sums (b : Bf rows n t a num bye last ch ta clk) (hr : ∀ r ∈ rows, RowOk n f r) {L : Nat} (h : ∀ m, bye (itr (nxt rows bye) m L) ≠ none) : ∀ p, sumw rows bye p L ≤ num L - num (itr (nxt rows bye) p L) ∧ (1 ≤ p → sumw rows bye p L < num L - num (itr (nxt rows bye) p L) ∨ ta (itr (nxt rows bye) p L) < ta L) ∧ Wk rows L (itr (nxt rows bye) p L) (sumw rows bye p L)
  | 0 => ⟨by show (0 : Int) ≤ num L - num L; omega, fun z => by omega, .nil _⟩
  | p + 1 => by
    obtain ⟨h1, h2, h3⟩ := b.sums hr h p
    obtain ⟨k, r, e1, e2, e3, e4, e5, e6, e7, e8, e9⟩ := b.at_ (h p)
    have ei : itr (nxt rows bye) (p + 1) L = to r := e5
    have es : sumw rows bye (p + 1) L = sumw rows bye p L + r.2.2 := by show _ + wgt rows bye _ = _; rw [e6]
    rw [ei, es]
    have hok := hr r (List.mem_of_getElem? e2)
    unfold RowOk at hok
    refine ⟨by omega, fun _ => ?_, ?_⟩
    · rcases e8 with z | z
      · exact .inl (by omega)
      · by_cases hp : 1 ≤ p
        · rcases h2 hp with q | q
          · exact .inl (by omega)
          · exact .inr (by omega)
        · have : p = 0 := by omega
          subst this
          exact .inr z
    · refine h3.app (eg_wk ⟨r, List.mem_of_getElem? e2, ?_, ?_, rfl⟩)
      · have e4' : fr r = itr (nxt rows bye) p L := e4
        rw [← e4']
        show r.1 + 1 = (((r.1 + 1).toNat : Nat) : Int)
        omega
      · show r.2.1 + 1 = (((r.2.1 + 1).toNat : Nat) : Int)
        omega
end
end Z

set_option Elab.async false
set_option linter.all false
set_option maxRecDepth 100000
set_option maxHeartbeats 4000000
namespace Z
open PySem PySem.Spec PyProof.Rows L2
def nD : Option Nat → D
  | some k => .int k
  | none => .non
section
variable {C : Cw} {ex : EX} {σ : StD} {defs : Str → Option DefT} {gl : Str → Option D} {k : Nat} {S : Sto} {Q : D → Sto → Prop} {E : Exc → Sto → Prop}
local macro_rules | `(tactic| fail) => `(tactic| ((with_reducible refine And.intro ?_ ?_); (focus (exact Nat.le_of_ble_eq_true rfl))))
local macro_rules | `(tactic| fail) => `(tactic| with_reducible refine ⟨_, rfl, ?_⟩)
local macro_rules | `(tactic| fail) => `(tactic| ((with_reducible apply o_sliceT); (focus rfl)))
local macro_rules | `(tactic| fail) => `(tactic| ((with_reducible apply o_inTf); (focus rfl); (focus rfl); (focus (simp [inF, eqF, str_beq]; done))))
local macro_rules | `(tactic| fail) => `(tactic| ((with_reducible apply o_inTt); (focus rfl); (focus rfl); (focus (simp [inF, eqF, str_beq]; done))))
local macro_rules | `(tactic| fail) => `(tactic| ((with_reducible apply o_subC); (focus ((repeat (first | with_reducible exact lk_hit | ((with_reducible apply lk_miss); (focus (exact str_ne (by decide)))))); done))))
local macro_rules | `(tactic| fail) => `(tactic| ((with_reducible apply o_inC); (focus ((repeat (first | with_reducible exact lk_hit | ((with_reducible apply lk_miss); (focus (exact str_ne (by decide)))))); done))))
local macro_rules | `(tactic| fail) => `(tactic| ((with_reducible apply o_ninC); (focus ((repeat (first | with_reducible exact lk_hit | ((with_reducible apply lk_miss); (focus (exact str_ne (by decide)))))); done))))
local macro_rules | `(tactic| fail) => `(tactic| ((with_reducible apply o_isinF); (focus rfl); (focus (decide +kernel))))
local macro_rules | `(tactic| fail) => `(tactic| ((with_reducible apply o_isinT); (focus rfl); (focus (decide +kernel))))
local macro_rules | `(tactic| fail) => `(tactic| with_reducible refine i_enm ?_)
local macro_rules | `(tactic| fail) => `(tactic| ((with_reducible apply g_tup); (focus rfl); (focus rfl)))
local macro_rules | `(tactic| fail) => `(tactic| ((with_reducible apply v_dctN); (focus (decide +kernel))))
local macro_rules | `(tactic| fail) => `(tactic| ((with_reducible apply o_len); (focus (exact len_ref (by (first | assumption | exact updS_same | exact upd_at (by assumption) (by assumption)))))))
local macro_rules | `(tactic| fail) => `(tactic| ((with_reducible apply o_tuple); (focus (first | rfl | exact items_ref (by (first | assumption | exact updS_same | exact upd_at (by assumption) (by assumption)))))))
local macro_rules | `(tactic| fail) => `(tactic| ((with_reducible apply o_get2); (focus (first | assumption | exact updS_same | exact upd_at (by assumption) (by assumption))); (focus rfl); (focus ((repeat (first | with_reducible exact getD_hit | with_reducible exact getD_nil | ((with_reducible apply getD_miss); (focus (exact str_ne (by decide)))))); done))))
local macro_rules | `(tactic| fail) => `(tactic| ((with_reducible apply o_get1); (focus (first | assumption | exact updS_same | exact upd_at (by assumption) (by assumption))); (focus rfl); (focus ((repeat (first | with_reducible exact getD_hit | with_reducible exact getD_nil | ((with_reducible apply getD_miss); (focus (exact str_ne (by decide)))))); done))))
local macro_rules | `(tactic| fail) => `(tactic| ((with_reducible refine And.intro ?_ ?_); (focus (first | exact recvL (by (first | assumption | exact updS_same | exact upd_at (by assumption) (by assumption))) rfl | exact recvD (by (first | assumption | exact updS_same | exact upd_at (by assumption) (by assumption))) rfl))))
local macro_rules | `(tactic| fail) => `(tactic| ((with_reducible apply o_subD); (focus (first | assumption | exact updS_same | exact upd_at (by assumption) (by assumption))); (focus rfl); (focus ((repeat (first | with_reducible exact lookD_hit | ((with_reducible apply look_miss); (focus (exact str_ne (by decide)))))); done))))
local macro_rules | `(tactic| fail) => `(tactic| ((with_reducible apply c_ndF); (focus (((try simp only [List.length_cons, List.length_nil, List.length_append, List.length_map]); omega)))))
local macro_rules | `(tactic| fail) => `(tactic| ((with_reducible apply c_ndT); (focus (((try simp only [List.length_cons, List.length_nil, List.length_append, List.length_map]); omega)))))
local macro_rules | `(tactic| fail) => `(tactic| with_reducible refine o_intB ?_)
local macro_rules | `(tactic| fail) => `(tactic| ((with_reducible apply c_decF); (focus (((try simp only [List.length_cons, List.length_nil, List.length_append, List.length_map]); omega)))))
local macro_rules | `(tactic| fail) => `(tactic| ((with_reducible apply c_decT); (focus (((try simp only [List.length_cons, List.length_nil, List.length_append, List.length_map]); omega)))))
local macro_rules | `(tactic| fail) => `(tactic| with_reducible refine c_notf ?_)
local macro_rules | `(tactic| fail) => `(tactic| with_reducible refine c_nott ?_)
local macro_rules | `(tactic| fail) => `(tactic| with_reducible refine o_eqI ?_)
local macro_rules | `(tactic| fail) => `(tactic| ((with_reducible apply o_eqIf); (focus (((try simp only [List.length_cons, List.length_nil, List.length_append, List.length_map]); omega)))))
local macro_rules | `(tactic| fail) => `(tactic| ((with_reducible apply o_eqIt); (focus (((try simp only [List.length_cons, List.length_nil, List.length_append, List.length_map]); omega)))))
local macro_rules | `(tactic| fail) => `(tactic| with_reducible refine o_isB ?_)
local macro_rules | `(tactic| fail) => `(tactic| with_reducible refine o_isN ?_)
local macro_rules | `(tactic| fail) => `(tactic| with_reducible refine o_isR ?_)
local macro_rules | `(tactic| fail) => `(tactic| with_reducible refine o_eqB ?_)
local macro_rules | `(tactic| fail) => `(tactic| ((with_reducible apply o_neIf); (focus (((try simp only [List.length_cons, List.length_nil, List.length_append, List.length_map]); omega)))))
local macro_rules | `(tactic| fail) => `(tactic| ((with_reducible apply o_neIt); (focus (((try simp only [List.length_cons, List.length_nil, List.length_append, List.length_map]); omega)))))
local macro_rules | `(tactic| fail) => `(tactic| with_reducible refine o_neII ?_)
local macro_rules | `(tactic| fail) => `(tactic| with_reducible refine o_neBB ?_)
local macro_rules | `(tactic| fail) => `(tactic| ((with_reducible apply o_eqSf); (focus decide)))
local macro_rules | `(tactic| fail) => `(tactic| ((with_reducible apply o_atr); (focus rfl)))
local macro_rules | `(tactic| fail) => `(tactic| with_reducible refine o_isx ?_)
local macro_rules | `(tactic| fail) => `(tactic| with_reducible refine o_eqSt ?_)
local macro_rules | `(tactic| fail) => `(tactic| ((with_reducible apply o_len); focus (first | rfl | (simp only [lenD]; simp only [*]; done))))
local macro_rules | `(tactic| fail) => `(tactic| ((with_reducible apply o_setL); (focus (first | assumption | exact updS_same | exact upd_at (by assumption) (by assumption))); (focus rfl)))
local macro_rules | `(tactic| fail) => `(tactic| ((with_reducible refine And.intro ?_ ?_); (focus (first | exact selfOk (by (first | assumption | exact updS_same | exact upd_at (by assumption) (by assumption))) rfl | exact insOk (by (first | assumption | exact updS_same | exact upd_at (by assumption) (by assumption)))))))
local macro_rules | `(tactic| fail) => `(tactic| ((with_reducible apply o_setf); (focus (first | assumption | exact updS_same | exact upd_at (by assumption) (by assumption))); (focus (exact Nat.le_of_ble_eq_true rfl))))
local macro_rules | `(tactic| fail) => `(tactic| ((with_reducible apply o_fld); (focus (first | assumption | exact updS_same | exact upd_at (by assumption) (by assumption))); (focus rfl)))
local macro_rules | `(tactic| fail) => `(tactic| ((with_reducible apply o_subT); focus (rfl)))
local macro_rules | `(tactic| fail) => `(tactic| ((with_reducible apply o_subL); (focus (first | assumption | exact updS_same | exact upd_at (by assumption) (by assumption))); (focus rfl)))
local macro_rules | `(tactic| fail) => `(tactic| ((with_reducible apply o_pow); focus (unfold CPow; omega)))
local macro_rules | `(tactic| fail) => `(tactic| ((with_reducible apply o_mod); focus (omega)))
local macro_rules | `(tactic| fail) => `(tactic| ((with_reducible apply o_div); focus (unfold CDiv; omega)))
local macro_rules | `(tactic| fail) => `(tactic| ((with_reducible apply o_mul); focus (unfold CMul; omega)))
local macro_rules | `(tactic| fail) => `(tactic| ((with_reducible apply v_glob); focus (first | assumption | rfl)))
local macro_rules | `(tactic| fail) => `(tactic| ((with_reducible apply t_var); focus (rfl)))
local macro_rules | `(tactic| fail) => `(tactic| ((with_reducible apply v_var); focus (rfl)))
local macro_rules | `(tactic| fail) => `(tactic| with_reducible refine c_false ?_)
local macro_rules | `(tactic| fail) => `(tactic| with_reducible refine c_true ?_)
local macro_rules | `(tactic| fail) => `(tactic| with_reducible refine o_ge ?_)
local macro_rules | `(tactic| fail) => `(tactic| with_reducible refine o_gt ?_)
local macro_rules | `(tactic| fail) => `(tactic| with_reducible refine o_le ?_)
local macro_rules | `(tactic| fail) => `(tactic| with_reducible refine o_lt ?_)
local macro_rules | `(tactic| fail) => `(tactic| with_reducible refine o_sub ?_)
local macro_rules | `(tactic| fail) => `(tactic| with_reducible refine o_add ?_)
local macro_rules | `(tactic| fail) => `(tactic| with_reducible refine o_sub1 ?_)
local macro_rules | `(tactic| fail) => `(tactic| with_reducible refine o_sub0 ?_)
local macro_rules | `(tactic| fail) => `(tactic| with_reducible refine i_rng1 ?_)
local macro_rules | `(tactic| fail) => `(tactic| with_reducible refine i_seq ?_)
local macro_rules | `(tactic| fail) => `(tactic| with_reducible refine g_cons ?_)
local macro_rules | `(tactic| fail) => `(tactic| with_reducible refine g_nil ?_)
local macro_rules | `(tactic| fail) => `(tactic| with_reducible refine g_nm ?_)
local macro_rules | `(tactic| fail) => `(tactic| with_reducible refine ts_one ?_)
local macro_rules | `(tactic| fail) => `(tactic| with_reducible refine ts_nil ?_)
local macro_rules | `(tactic| fail) => `(tactic| with_reducible refine tr_int ?_)
local macro_rules | `(tactic| fail) => `(tactic| with_reducible refine tr_bl ?_)
local macro_rules | `(tactic| fail) => `(tactic| with_reducible refine tb_or ?_)
local macro_rules | `(tactic| fail) => `(tactic| with_reducible refine tb_and ?_)
local macro_rules | `(tactic| fail) => `(tactic| with_reducible refine tb_one ?_)
local macro_rules | `(tactic| fail) => `(tactic| with_reducible refine t_chain ?_)
local macro_rules | `(tactic| fail) => `(tactic| with_reducible refine t_sub ?_)
local macro_rules | `(tactic| fail) => `(tactic| with_reducible refine t_blt ?_)
local macro_rules | `(tactic| fail) => `(tactic| with_reducible refine t_call ?_)
local macro_rules | `(tactic| fail) => `(tactic| with_reducible refine t_cmp ?_)
local macro_rules | `(tactic| fail) => `(tactic| with_reducible refine t_nt ?_)
local macro_rules | `(tactic| fail) => `(tactic| with_reducible refine t_bop ?_)
local macro_rules | `(tactic| fail) => `(tactic| with_reducible refine vb_or ?_)
local macro_rules | `(tactic| fail) => `(tactic| with_reducible refine vb_and ?_)
local macro_rules | `(tactic| fail) => `(tactic| with_reducible refine vb_one ?_)
local macro_rules | `(tactic| fail) => `(tactic| with_reducible refine vo_some ?_)
local macro_rules | `(tactic| fail) => `(tactic| with_reducible refine vo_none ?_)
local macro_rules | `(tactic| fail) => `(tactic| with_reducible refine vs_cons ?_)
local macro_rules | `(tactic| fail) => `(tactic| with_reducible refine vs_nil ?_)
local macro_rules | `(tactic| fail) => `(tactic| with_reducible refine s_try ?_)
local macro_rules | `(tactic| fail) => `(tactic| with_reducible refine s_setf ?_)
local macro_rules | `(tactic| fail) => `(tactic| with_reducible refine v_eqo ?_)
local macro_rules | `(tactic| fail) => `(tactic| with_reducible refine t_isc ?_)
local macro_rules | `(tactic| fail) => `(tactic| with_reducible refine v_isc ?_)
local macro_rules | `(tactic| fail) => `(tactic| with_reducible refine t_meth ?_)
local macro_rules | `(tactic| fail) => `(tactic| with_reducible refine v_meth ?_)
local macro_rules | `(tactic| fail) => `(tactic| with_reducible refine v_new ?_)
local macro_rules | `(tactic| fail) => `(tactic| with_reducible refine v_fld ?_)
local macro_rules | `(tactic| fail) => `(tactic| with_reducible refine v_atr ?_)
local macro_rules | `(tactic| fail) => `(tactic| with_reducible refine v_isx ?_)
local macro_rules | `(tactic| fail) => `(tactic| with_reducible refine v_back ?_)
local macro_rules | `(tactic| fail) => `(tactic| with_reducible refine v_lc ?_)
local macro_rules | `(tactic| fail) => `(tactic| with_reducible refine v_mth ?_)
local macro_rules | `(tactic| fail) => `(tactic| with_reducible refine v_lzip ?_)
local macro_rules | `(tactic| fail) => `(tactic| with_reducible refine v_lrev ?_)
local macro_rules | `(tactic| fail) => `(tactic| with_reducible refine v_blt ?_)
local macro_rules | `(tactic| fail) => `(tactic| with_reducible refine v_call ?_)
local macro_rules | `(tactic| fail) => `(tactic| with_reducible refine v_slice ?_)
local macro_rules | `(tactic| fail) => `(tactic| with_reducible refine v_sub ?_)
local macro_rules | `(tactic| fail) => `(tactic| with_reducible refine v_lst ?_)
local macro_rules | `(tactic| fail) => `(tactic| with_reducible refine v_tup ?_)
local macro_rules | `(tactic| fail) => `(tactic| with_reducible refine v_ite ?_)
local macro_rules | `(tactic| fail) => `(tactic| with_reducible refine v_nt ?_)
local macro_rules | `(tactic| fail) => `(tactic| with_reducible refine v_bop ?_)
local macro_rules | `(tactic| fail) => `(tactic| with_reducible refine v_cmp ?_)
local macro_rules | `(tactic| fail) => `(tactic| with_reducible refine v_bin ?_)
local macro_rules | `(tactic| fail) => `(tactic| with_reducible refine v_bty ?_)
local macro_rules | `(tactic| fail) => `(tactic| with_reducible refine v_str ?_)
local macro_rules | `(tactic| fail) => `(tactic| with_reducible refine v_non ?_)
local macro_rules | `(tactic| fail) => `(tactic| with_reducible refine v_bl ?_)
local macro_rules | `(tactic| fail) => `(tactic| with_reducible refine v_int ?_)
local macro_rules | `(tactic| fail) => `(tactic| with_reducible refine s_cont ?_)
local macro_rules | `(tactic| fail) => `(tactic| with_reducible refine s_brk ?_)
local macro_rules | `(tactic| fail) => `(tactic| with_reducible refine s_nil ?_)
local macro_rules | `(tactic| fail) => `(tactic| with_reducible refine s_pass ?_)
local macro_rules | `(tactic| fail) => `(tactic| with_reducible refine s_retN ?_)
local macro_rules | `(tactic| fail) => `(tactic| with_reducible refine s_ret ?_)
local macro_rules | `(tactic| fail) => `(tactic| with_reducible refine s_ife ?_)
local macro_rules | `(tactic| fail) => `(tactic| with_reducible refine s_set ?_)
local macro_rules | `(tactic| fail) => `(tactic| with_reducible refine s_par ?_)
local macro_rules | `(tactic| fail) => `(tactic| with_reducible refine s_asg ?_)
local macro_rules | `(tactic| fail) => `(tactic| with_reducible refine s_ex ?_)

end
end Z

set_option Elab.async false
set_option linter.all false
set_option maxRecDepth 100000
set_option maxHeartbeats 4000000
namespace Z
open PySem PySem.Spec PyProof.Rows L2
def NegR (n : Nat) (rows : List Row) : Prop := ∃ i c, i < n + 1 ∧ Wk rows i i c ∧ c < 0
section
variable {rows : List Row} {n : Nat} {f : Int} {M : Mx}
theorem neg_iff (hr : ∀ r ∈ rows, RowOk n f r) (g : Gd rows (n + 1) M) (t : Neg (n + 1) M ∨ Tri (n + 1) (n + 1) M) : Neg (n + 1) M ↔ NegR n rows := by
  constructor
  · rintro ⟨i, hi, c, e, hc⟩
    exact ⟨i, c, hi, g.snd _ _ _ e, hc⟩
  · rintro ⟨i, c, hi, w, hc⟩
    by_cases hN : Neg (n + 1) M
    · exact hN
    · have := wk_ring g (t.resolve_left hN) hr hN hi w
      omega
end
section
variable {C : Cw} {ex : EX} {σ : StD} {D' : EndD} {ss : List TS} {defs : Str → Option DefT} {gl : Str → Option D} {k : Nat} {S : Sto} {Q : D → Sto → Prop} {E : Exc → Sto → Prop}
local macro_rules | `(tactic| fail) => `(tactic| ((with_reducible refine And.intro ?_ ?_); (focus (exact Nat.le_of_ble_eq_true rfl))))
local macro_rules | `(tactic| fail) => `(tactic| with_reducible refine ⟨_, rfl, ?_⟩)
local macro_rules | `(tactic| fail) => `(tactic| ((with_reducible apply o_sliceT); (focus rfl)))
local macro_rules | `(tactic| fail) => `(tactic| ((with_reducible apply o_inTf); (focus rfl); (focus rfl); (focus (simp [inF, eqF, str_beq]; done))))
local macro_rules | `(tactic| fail) => `(tactic| ((with_reducible apply o_inTt); (focus rfl); (focus rfl); (focus (simp [inF, eqF, str_beq]; done))))
local macro_rules | `(tactic| fail) => `(tactic| ((with_reducible apply o_subC); (focus ((repeat (first | with_reducible exact lk_hit | ((with_reducible apply lk_miss); (focus (exact str_ne (by decide)))))); done))))
local macro_rules | `(tactic| fail) => `(tactic| ((with_reducible apply o_inC); (focus ((repeat (first | with_reducible exact lk_hit | ((with_reducible apply lk_miss); (focus (exact str_ne (by decide)))))); done))))
local macro_rules | `(tactic| fail) => `(tactic| ((with_reducible apply o_ninC); (focus ((repeat (first | with_reducible exact lk_hit | ((with_reducible apply lk_miss); (focus (exact str_ne (by decide)))))); done))))
local macro_rules | `(tactic| fail) => `(tactic| ((with_reducible apply o_isinF); (focus rfl); (focus (decide +kernel))))
local macro_rules | `(tactic| fail) => `(tactic| ((with_reducible apply o_isinT); (focus rfl); (focus (decide +kernel))))
local macro_rules | `(tactic| fail) => `(tactic| with_reducible refine i_enm ?_)
local macro_rules | `(tactic| fail) => `(tactic| ((with_reducible apply g_tup); (focus rfl); (focus rfl)))
local macro_rules | `(tactic| fail) => `(tactic| ((with_reducible apply v_dctN); (focus (decide +kernel))))
local macro_rules | `(tactic| fail) => `(tactic| ((with_reducible apply o_len); (focus (exact len_ref (by (first | assumption | exact updS_same | exact upd_at (by assumption) (by assumption)))))))
local macro_rules | `(tactic| fail) => `(tactic| ((with_reducible apply o_tuple); (focus (first | rfl | exact items_ref (by (first | assumption | exact updS_same | exact upd_at (by assumption) (by assumption)))))))
local macro_rules | `(tactic| fail) => `(tactic| ((with_reducible apply o_get2); (focus (first | assumption | exact updS_same | exact upd_at (by assumption) (by assumption))); (focus rfl); (focus ((repeat (first | with_reducible exact getD_hit | with_reducible exact getD_nil | ((with_reducible apply getD_miss); (focus (exact str_ne (by decide)))))); done))))
local macro_rules | `(tactic| fail) => `(tactic| ((with_reducible apply o_get1); (focus (first | assumption | exact updS_same | exact upd_at (by assumption) (by assumption))); (focus rfl); (focus ((repeat (first | with_reducible exact getD_hit | with_reducible exact getD_nil | ((with_reducible apply getD_miss); (focus (exact str_ne (by decide)))))); done))))
local macro_rules | `(tactic| fail) => `(tactic| ((with_reducible refine And.intro ?_ ?_); (focus (first | exact recvL (by (first | assumption | exact updS_same | exact upd_at (by assumption) (by assumption))) rfl | exact recvD (by (first | assumption | exact updS_same | exact upd_at (by assumption) (by assumption))) rfl))))
local macro_rules | `(tactic| fail) => `(tactic| ((with_reducible apply o_subD); (focus (first | assumption | exact updS_same | exact upd_at (by assumption) (by assumption))); (focus rfl); (focus ((repeat (first | with_reducible exact lookD_hit | ((with_reducible apply look_miss); (focus (exact str_ne (by decide)))))); done))))
local macro_rules | `(tactic| fail) => `(tactic| ((with_reducible apply c_ndF); (focus (((try simp only [List.length_cons, List.length_nil, List.length_append, List.length_map]); omega)))))
local macro_rules | `(tactic| fail) => `(tactic| ((with_reducible apply c_ndT); (focus (((try simp only [List.length_cons, List.length_nil, List.length_append, List.length_map]); omega)))))
local macro_rules | `(tactic| fail) => `(tactic| with_reducible refine o_intB ?_)
local macro_rules | `(tactic| fail) => `(tactic| ((with_reducible apply c_decF); (focus (((try simp only [List.length_cons, List.length_nil, List.length_append, List.length_map]); omega)))))
local macro_rules | `(tactic| fail) => `(tactic| ((with_reducible apply c_decT); (focus (((try simp only [List.length_cons, List.length_nil, List.length_append, List.length_map]); omega)))))
local macro_rules | `(tactic| fail) => `(tactic| with_reducible refine c_notf ?_)
local macro_rules | `(tactic| fail) => `(tactic| with_reducible refine c_nott ?_)
local macro_rules | `(tactic| fail) => `(tactic| with_reducible refine o_eqI ?_)
local macro_rules | `(tactic| fail) => `(tactic| ((with_reducible apply o_eqIf); (focus (((try simp only [List.length_cons, List.length_nil, List.length_append, List.length_map]); omega)))))
local macro_rules | `(tactic| fail) => `(tactic| ((with_reducible apply o_eqIt); (focus (((try simp only [List.length_cons, List.length_nil, List.length_append, List.length_map]); omega)))))
local macro_rules | `(tactic| fail) => `(tactic| with_reducible refine o_isB ?_)
local macro_rules | `(tactic| fail) => `(tactic| with_reducible refine o_isN ?_)
local macro_rules | `(tactic| fail) => `(tactic| with_reducible refine o_isR ?_)
local macro_rules | `(tactic| fail) => `(tactic| with_reducible refine o_eqB ?_)
local macro_rules | `(tactic| fail) => `(tactic| ((with_reducible apply o_neIf); (focus (((try simp only [List.length_cons, List.length_nil, List.length_append, List.length_map]); omega)))))
local macro_rules | `(tactic| fail) => `(tactic| ((with_reducible apply o_neIt); (focus (((try simp only [List.length_cons, List.length_nil, List.length_append, List.length_map]); omega)))))
local macro_rules | `(tactic| fail) => `(tactic| with_reducible refine o_neII ?_)
local macro_rules | `(tactic| fail) => `(tactic| with_reducible refine o_neBB ?_)
local macro_rules | `(tactic| fail) => `(tactic| ((with_reducible apply o_eqSf); (focus decide)))
local macro_rules | `(tactic| fail) => `(tactic| ((with_reducible apply o_atr); (focus rfl)))
local macro_rules | `(tactic| fail) => `(tactic| with_reducible refine o_isx ?_)
local macro_rules | `(tactic| fail) => `(tactic| with_reducible refine o_eqSt ?_)
local macro_rules | `(tactic| fail) => `(tactic| ((with_reducible apply o_len); focus (first | rfl | (simp only [lenD]; simp only [*]; done))))
local macro_rules | `(tactic| fail) => `(tactic| ((with_reducible apply o_setL); (focus (first | assumption | exact updS_same | exact upd_at (by assumption) (by assumption))); (focus rfl)))
local macro_rules | `(tactic| fail) => `(tactic| ((with_reducible refine And.intro ?_ ?_); (focus (first | exact selfOk (by (first | assumption | exact updS_same | exact upd_at (by assumption) (by assumption))) rfl | exact insOk (by (first | assumption | exact updS_same | exact upd_at (by assumption) (by assumption)))))))
local macro_rules | `(tactic| fail) => `(tactic| ((with_reducible apply o_setf); (focus (first | assumption | exact updS_same | exact upd_at (by assumption) (by assumption))); (focus (exact Nat.le_of_ble_eq_true rfl))))
local macro_rules | `(tactic| fail) => `(tactic| ((with_reducible apply o_fld); (focus (first | assumption | exact updS_same | exact upd_at (by assumption) (by assumption))); (focus rfl)))
local macro_rules | `(tactic| fail) => `(tactic| ((with_reducible apply o_subT); focus (rfl)))
local macro_rules | `(tactic| fail) => `(tactic| ((with_reducible apply o_subL); (focus (first | assumption | exact updS_same | exact upd_at (by assumption) (by assumption))); (focus rfl)))
local macro_rules | `(tactic| fail) => `(tactic| ((with_reducible apply o_pow); focus (unfold CPow; omega)))
local macro_rules | `(tactic| fail) => `(tactic| ((with_reducible apply o_mod); focus (omega)))
local macro_rules | `(tactic| fail) => `(tactic| ((with_reducible apply o_div); focus (unfold CDiv; omega)))
local macro_rules | `(tactic| fail) => `(tactic| ((with_reducible apply o_mul); focus (unfold CMul; omega)))
local macro_rules | `(tactic| fail) => `(tactic| ((with_reducible apply v_glob); focus (first | assumption | rfl)))
local macro_rules | `(tactic| fail) => `(tactic| ((with_reducible apply t_var); focus (rfl)))
local macro_rules | `(tactic| fail) => `(tactic| ((with_reducible apply v_var); focus (rfl)))
local macro_rules | `(tactic| fail) => `(tactic| with_reducible refine c_false ?_)
local macro_rules | `(tactic| fail) => `(tactic| with_reducible refine c_true ?_)
local macro_rules | `(tactic| fail) => `(tactic| with_reducible refine o_ge ?_)
local macro_rules | `(tactic| fail) => `(tactic| with_reducible refine o_gt ?_)
local macro_rules | `(tactic| fail) => `(tactic| with_reducible refine o_le ?_)
local macro_rules | `(tactic| fail) => `(tactic| with_reducible refine o_lt ?_)
local macro_rules | `(tactic| fail) => `(tactic| with_reducible refine o_sub ?_)
local macro_rules | `(tactic| fail) => `(tactic| with_reducible refine o_add ?_)
local macro_rules | `(tactic| fail) => `(tactic| with_reducible refine o_sub1 ?_)
local macro_rules | `(tactic| fail) => `(tactic| with_reducible refine o_sub0 ?_)
local macro_rules | `(tactic| fail) => `(tactic| with_reducible refine i_rng1 ?_)
local macro_rules | `(tactic| fail) => `(tactic| with_reducible refine i_seq ?_)
local macro_rules | `(tactic| fail) => `(tactic| with_reducible refine g_cons ?_)
local macro_rules | `(tactic| fail) => `(tactic| with_reducible refine g_nil ?_)
local macro_rules | `(tactic| fail) => `(tactic| with_reducible refine g_nm ?_)
local macro_rules | `(tactic| fail) => `(tactic| with_reducible refine ts_one ?_)
local macro_rules | `(tactic| fail) => `(tactic| with_reducible refine ts_nil ?_)
local macro_rules | `(tactic| fail) => `(tactic| with_reducible refine tr_int ?_)
local macro_rules | `(tactic| fail) => `(tactic| with_reducible refine tr_bl ?_)
local macro_rules | `(tactic| fail) => `(tactic| with_reducible refine tb_or ?_)
local macro_rules | `(tactic| fail) => `(tactic| with_reducible refine tb_and ?_)
local macro_rules | `(tactic| fail) => `(tactic| with_reducible refine tb_one ?_)
local macro_rules | `(tactic| fail) => `(tactic| with_reducible refine t_chain ?_)
local macro_rules | `(tactic| fail) => `(tactic| with_reducible refine t_sub ?_)
local macro_rules | `(tactic| fail) => `(tactic| with_reducible refine t_blt ?_)
local macro_rules | `(tactic| fail) => `(tactic| with_reducible refine t_call ?_)
local macro_rules | `(tactic| fail) => `(tactic| with_reducible refine t_cmp ?_)
local macro_rules | `(tactic| fail) => `(tactic| with_reducible refine t_nt ?_)
local macro_rules | `(tactic| fail) => `(tactic| with_reducible refine t_bop ?_)
local macro_rules | `(tactic| fail) => `(tactic| with_reducible refine vb_or ?_)
local macro_rules | `(tactic| fail) => `(tactic| with_reducible refine vb_and ?_)
local macro_rules | `(tactic| fail) => `(tactic| with_reducible refine vb_one ?_)
local macro_rules | `(tactic| fail) => `(tactic| with_reducible refine vo_some ?_)
local macro_rules | `(tactic| fail) => `(tactic| with_reducible refine vo_none ?_)
local macro_rules | `(tactic| fail) => `(tactic| with_reducible refine vs_cons ?_)
local macro_rules | `(tactic| fail) => `(tactic| with_reducible refine vs_nil ?_)
local macro_rules | `(tactic| fail) => `(tactic| with_reducible refine s_try ?_)
local macro_rules | `(tactic| fail) => `(tactic| with_reducible refine s_setf ?_)
local macro_rules | `(tactic| fail) => `(tactic| with_reducible refine v_eqo ?_)
local macro_rules | `(tactic| fail) => `(tactic| with_reducible refine t_isc ?_)
local macro_rules | `(tactic| fail) => `(tactic| with_reducible refine v_isc ?_)
local macro_rules | `(tactic| fail) => `(tactic| with_reducible refine t_meth ?_)
local macro_rules | `(tactic| fail) => `(tactic| with_reducible refine v_meth ?_)
local macro_rules | `(tactic| fail) => `(tactic| with_reducible refine v_new ?_)
local macro_rules | `(tactic| fail) => `(tactic| with_reducible refine v_fld ?_)
local macro_rules | `(tactic| fail) => `(tactic| with_reducible refine v_atr ?_)
local macro_rules | `(tactic| fail) => `(tactic| with_reducible refine v_isx ?_)
local macro_rules | `(tactic| fail) => `(tactic| with_reducible refine v_back ?_)
local macro_rules | `(tactic| fail) => `(tactic| with_reducible refine v_lc ?_)
local macro_rules | `(tactic| fail) => `(tactic| with_reducible refine v_mth ?_)
local macro_rules | `(tactic| fail) => `(tactic| with_reducible refine v_lzip ?_)
local macro_rules | `(tactic| fail) => `(tactic| with_reducible refine v_lrev ?_)
local macro_rules | `(tactic| fail) => `(tactic| with_reducible refine v_blt ?_)
local macro_rules | `(tactic| fail) => `(tactic| with_reducible refine v_call ?_)
local macro_rules | `(tactic| fail) => `(tactic| with_reducible refine v_slice ?_)
local macro_rules | `(tactic| fail) => `(tactic| with_reducible refine v_sub ?_)
local macro_rules | `(tactic| fail) => `(tactic| with_reducible refine v_lst ?_)
local macro_rules | `(tactic| fail) => `(tactic| with_reducible refine v_tup ?_)
local macro_rules | `(tactic| fail) => `(tactic| with_reducible refine v_ite ?_)
local macro_rules | `(tactic| fail) => `(tactic| with_reducible refine v_nt ?_)
local macro_rules | `(tactic| fail) => `(tactic| with_reducible refine v_bop ?_)
local macro_rules | `(tactic| fail) => `(tactic| with_reducible refine v_cmp ?_)
local macro_rules | `(tactic| fail) => `(tactic| with_reducible refine v_bin ?_)
local macro_rules | `(tactic| fail) => `(tactic| with_reducible refine v_bty ?_)
local macro_rules | `(tactic| fail) => `(tactic| with_reducible refine v_str ?_)
local macro_rules | `(tactic| fail) => `(tactic| with_reducible refine v_non ?_)
local macro_rules | `(tactic| fail) => `(tactic| with_reducible refine v_bl ?_)
local macro_rules | `(tactic| fail) => `(tactic| with_reducible refine v_int ?_)
local macro_rules | `(tactic| fail) => `(tactic| with_reducible refine s_cont ?_)
local macro_rules | `(tactic| fail) => `(tactic| with_reducible refine s_brk ?_)
local macro_rules | `(tactic| fail) => `(tactic| with_reducible refine s_nil ?_)
local macro_rules | `(tactic| fail) => `(tactic| with_reducible refine s_pass ?_)
local macro_rules | `(tactic| fail) => `(tactic| with_reducible refine s_retN ?_)
local macro_rules | `(tactic| fail) => `(tactic| with_reducible refine s_ret ?_)
local macro_rules | `(tactic| fail) => `(tactic| with_reducible refine s_ife ?_)
local macro_rules | `(tactic| fail) => `(tactic| with_reducible refine s_set ?_)
local macro_rules | `(tactic| fail) => `(tactic| with_reducible refine s_par ?_)
local macro_rules | `(tactic| fail) => `(tactic| with_reducible refine s_asg ?_)
local macro_rules | `(tactic| fail) => `(tactic| with_reducible refine s_ex ?_)

end
end Z

set_option Elab.async false
set_option linter.all false
set_option maxRecDepth 100000
set_option maxHeartbeats 4000000
namespace Z
open PySem PySem.Spec PyProof.Rows L2
def rowAt (rows : List Row) (t : Int) : Row := rows.getD t.toNat (0, 0, 0)
structure RingTo (rows : List Row) (ts : List Int) (m : Nat) : Prop where
  nd : ∀ a, a < m → ts.getD a 0 ∉ ts.take a
  lt : ∀ a, a < m → 0 ≤ ts.getD a 0 ∧ ts.getD a 0 < rows.length
  rnd : ∀ a, a < m → (rowAt rows (ts.getD a 0)).2.1 = (rowAt rows (ts.getD ((a + 1) % ts.length) 0)).1
theorem RingTo.nil {rows : List Row} {ts : List Int} : RingTo rows ts 0 := ⟨fun a h => by omega, fun a h => by omega, fun a h => by omega⟩
section
variable {defs : Str → Option DefT} {gl : Str → Option D} {k : Nat} {S : Sto} {Q : D → Sto → Prop} {E : Exc → Sto → Prop}
local macro_rules | `(tactic| fail) => `(tactic| ((with_reducible refine And.intro ?_ ?_); (focus (exact Nat.le_of_ble_eq_true rfl))))
local macro_rules | `(tactic| fail) => `(tactic| with_reducible refine ⟨_, rfl, ?_⟩)
local macro_rules | `(tactic| fail) => `(tactic| ((with_reducible apply o_sliceT); (focus rfl)))
local macro_rules | `(tactic| fail) => `(tactic| ((with_reducible apply o_inTf); (focus rfl); (focus rfl); (focus (simp [inF, eqF, str_beq]; done))))
local macro_rules | `(tactic| fail) => `(tactic| ((with_reducible apply o_inTt); (focus rfl); (focus rfl); (focus (simp [inF, eqF, str_beq]; done))))
local macro_rules | `(tactic| fail) => `(tactic| ((with_reducible apply o_subC); (focus ((repeat (first | with_reducible exact lk_hit | ((with_reducible apply lk_miss); (focus (exact str_ne (by decide)))))); done))))
local macro_rules | `(tactic| fail) => `(tactic| ((with_reducible apply o_inC); (focus ((repeat (first | with_reducible exact lk_hit | ((with_reducible apply lk_miss); (focus (exact str_ne (by decide)))))); done))))
local macro_rules | `(tactic| fail) => `(tactic| ((with_reducible apply o_ninC); (focus ((repeat (first | with_reducible exact lk_hit | ((with_reducible apply lk_miss); (focus (exact str_ne (by decide)))))); done))))
local macro_rules | `(tactic| fail) => `(tactic| ((with_reducible apply o_isinF); (focus rfl); (focus (decide +kernel))))
local macro_rules | `(tactic| fail) => `(tactic| ((with_reducible apply o_isinT); (focus rfl); (focus (decide +kernel))))
local macro_rules | `(tactic| fail) => `(tactic| with_reducible refine i_enm ?_)
local macro_rules | `(tactic| fail) => `(tactic| ((with_reducible apply g_tup); (focus rfl); (focus rfl)))
local macro_rules | `(tactic| fail) => `(tactic| ((with_reducible apply v_dctN); (focus (decide +kernel))))
local macro_rules | `(tactic| fail) => `(tactic| ((with_reducible apply o_len); (focus (exact len_ref (by (first | assumption | exact updS_same | exact upd_at (by assumption) (by assumption)))))))
local macro_rules | `(tactic| fail) => `(tactic| ((with_reducible apply o_tuple); (focus (first | rfl | exact items_ref (by (first | assumption | exact updS_same | exact upd_at (by assumption) (by assumption)))))))
local macro_rules | `(tactic| fail) => `(tactic| ((with_reducible apply o_get2); (focus (first | assumption | exact updS_same | exact upd_at (by assumption) (by assumption))); (focus rfl); (focus ((repeat (first | with_reducible exact getD_hit | with_reducible exact getD_nil | ((with_reducible apply getD_miss); (focus (exact str_ne (by decide)))))); done))))
local macro_rules | `(tactic| fail) => `(tactic| ((with_reducible apply o_get1); (focus (first | assumption | exact updS_same | exact upd_at (by assumption) (by assumption))); (focus rfl); (focus ((repeat (first | with_reducible exact getD_hit | with_reducible exact getD_nil | ((with_reducible apply getD_miss); (focus (exact str_ne (by decide)))))); done))))
local macro_rules | `(tactic| fail) => `(tactic| ((with_reducible refine And.intro ?_ ?_); (focus (first | exact recvL (by (first | assumption | exact updS_same | exact upd_at (by assumption) (by assumption))) rfl | exact recvD (by (first | assumption | exact updS_same | exact upd_at (by assumption) (by assumption))) rfl))))
local macro_rules | `(tactic| fail) => `(tactic| ((with_reducible apply o_subD); (focus (first | assumption | exact updS_same | exact upd_at (by assumption) (by assumption))); (focus rfl); (focus ((repeat (first | with_reducible exact lookD_hit | ((with_reducible apply look_miss); (focus (exact str_ne (by decide)))))); done))))
local macro_rules | `(tactic| fail) => `(tactic| ((with_reducible apply c_ndF); (focus (((try simp only [List.length_cons, List.length_nil, List.length_append, List.length_map]); omega)))))
local macro_rules | `(tactic| fail) => `(tactic| ((with_reducible apply c_ndT); (focus (((try simp only [List.length_cons, List.length_nil, List.length_append, List.length_map]); omega)))))
local macro_rules | `(tactic| fail) => `(tactic| with_reducible refine o_intB ?_)
local macro_rules | `(tactic| fail) => `(tactic| ((with_reducible apply c_decF); (focus (((try simp only [List.length_cons, List.length_nil, List.length_append, List.length_map]); omega)))))
local macro_rules | `(tactic| fail) => `(tactic| ((with_reducible apply c_decT); (focus (((try simp only [List.length_cons, List.length_nil, List.length_append, List.length_map]); omega)))))
local macro_rules | `(tactic| fail) => `(tactic| with_reducible refine c_notf ?_)
local macro_rules | `(tactic| fail) => `(tactic| with_reducible refine c_nott ?_)
local macro_rules | `(tactic| fail) => `(tactic| with_reducible refine o_eqI ?_)
local macro_rules | `(tactic| fail) => `(tactic| ((with_reducible apply o_eqIf); (focus (((try simp only [List.length_cons, List.length_nil, List.length_append, List.length_map]); omega)))))
local macro_rules | `(tactic| fail) => `(tactic| ((with_reducible apply o_eqIt); (focus (((try simp only [List.length_cons, List.length_nil, List.length_append, List.length_map]); omega)))))
local macro_rules | `(tactic| fail) => `(tactic| with_reducible refine o_isB ?_)
local macro_rules | `(tactic| fail) => `(tactic| with_reducible refine o_isN ?_)
local macro_rules | `(tactic| fail) => `(tactic| with_reducible refine o_isR ?_)
local macro_rules | `(tactic| fail) => `(tactic| with_reducible refine o_eqB ?_)
local macro_rules | `(tactic| fail) => `(tactic| ((with_reducible apply o_neIf); (focus (((try simp only [List.length_cons, List.length_nil, List.length_append, List.length_map]); omega)))))
local macro_rules | `(tactic| fail) => `(tactic| ((with_reducible apply o_neIt); (focus (((try simp only [List.length_cons, List.length_nil, List.length_append, List.length_map]); omega)))))
local macro_rules | `(tactic| fail) => `(tactic| with_reducible refine o_neII ?_)
local macro_rules | `(tactic| fail) => `(tactic| with_reducible refine o_neBB ?_)
local macro_rules | `(tactic| fail) => `(tactic| ((with_reducible apply o_eqSf); (focus decide)))
local macro_rules | `(tactic| fail) => `(tactic| ((with_reducible apply o_atr); (focus rfl)))
local macro_rules | `(tactic| fail) => `(tactic| with_reducible refine o_isx ?_)
local macro_rules | `(tactic| fail) => `(tactic| with_reducible refine o_eqSt ?_)
local macro_rules | `(tactic| fail) => `(tactic| ((with_reducible apply o_len); focus (first | rfl | (simp only [lenD]; simp only [*]; done))))
local macro_rules | `(tactic| fail) => `(tactic| ((with_reducible apply o_setL); (focus (first | assumption | exact updS_same | exact upd_at (by assumption) (by assumption))); (focus rfl)))
local macro_rules | `(tactic| fail) => `(tactic| ((with_reducible refine And.intro ?_ ?_); (focus (first | exact selfOk (by (first | assumption | exact updS_same | exact upd_at (by assumption) (by assumption))) rfl | exact insOk (by (first | assumption | exact updS_same | exact upd_at (by assumption) (by assumption)))))))
local macro_rules | `(tactic| fail) => `(tactic| ((with_reducible apply o_setf); (focus (first | assumption | exact updS_same | exact upd_at (by assumption) (by assumption))); (focus (exact Nat.le_of_ble_eq_true rfl))))
local macro_rules | `(tactic| fail) => `(tactic| ((with_reducible apply o_fld); (focus (first | assumption | exact updS_same | exact upd_at (by assumption) (by assumption))); (focus rfl)))
local macro_rules | `(tactic| fail) => `(tactic| ((with_reducible apply o_subT); focus (rfl)))
local macro_rules | `(tactic| fail) => `(tactic| ((with_reducible apply o_subL); (focus (first | assumption | exact updS_same | exact upd_at (by assumption) (by assumption))); (focus rfl)))
local macro_rules | `(tactic| fail) => `(tactic| ((with_reducible apply o_pow); focus (unfold CPow; omega)))
local macro_rules | `(tactic| fail) => `(tactic| ((with_reducible apply o_mod); focus (omega)))
local macro_rules | `(tactic| fail) => `(tactic| ((with_reducible apply o_div); focus (unfold CDiv; omega)))
local macro_rules | `(tactic| fail) => `(tactic| ((with_reducible apply o_mul); focus (unfold CMul; omega)))
local macro_rules | `(tactic| fail) => `(tactic| ((with_reducible apply v_glob); focus (first | assumption | rfl)))
local macro_rules | `(tactic| fail) => `(tactic| ((with_reducible apply t_var); focus (rfl)))
local macro_rules | `(tactic| fail) => `(tactic| ((with_reducible apply v_var); focus (rfl)))
local macro_rules | `(tactic| fail) => `(tactic| with_reducible refine c_false ?_)
local macro_rules | `(tactic| fail) => `(tactic| with_reducible refine c_true ?_)
local macro_rules | `(tactic| fail) => `(tactic| with_reducible refine o_ge ?_)
local macro_rules | `(tactic| fail) => `(tactic| with_reducible refine o_gt ?_)
local macro_rules | `(tactic| fail) => `(tactic| with_reducible refine o_le ?_)
local macro_rules | `(tactic| fail) => `(tactic| with_reducible refine o_lt ?_)
local macro_rules | `(tactic| fail) => `(tactic| with_reducible refine o_sub ?_)
local macro_rules | `(tactic| fail) => `(tactic| with_reducible refine o_add ?_)
local macro_rules | `(tactic| fail) => `(tactic| with_reducible refine o_sub1 ?_)
local macro_rules | `(tactic| fail) => `(tactic| with_reducible refine o_sub0 ?_)
local macro_rules | `(tactic| fail) => `(tactic| with_reducible refine i_rng1 ?_)
local macro_rules | `(tactic| fail) => `(tactic| with_reducible refine i_seq ?_)
local macro_rules | `(tactic| fail) => `(tactic| with_reducible refine g_cons ?_)
local macro_rules | `(tactic| fail) => `(tactic| with_reducible refine g_nil ?_)
local macro_rules | `(tactic| fail) => `(tactic| with_reducible refine g_nm ?_)
local macro_rules | `(tactic| fail) => `(tactic| with_reducible refine ts_one ?_)
local macro_rules | `(tactic| fail) => `(tactic| with_reducible refine ts_nil ?_)
local macro_rules | `(tactic| fail) => `(tactic| with_reducible refine tr_int ?_)
local macro_rules | `(tactic| fail) => `(tactic| with_reducible refine tr_bl ?_)
local macro_rules | `(tactic| fail) => `(tactic| with_reducible refine tb_or ?_)
local macro_rules | `(tactic| fail) => `(tactic| with_reducible refine tb_and ?_)
local macro_rules | `(tactic| fail) => `(tactic| with_reducible refine tb_one ?_)
local macro_rules | `(tactic| fail) => `(tactic| with_reducible refine t_chain ?_)
local macro_rules | `(tactic| fail) => `(tactic| with_reducible refine t_sub ?_)
local macro_rules | `(tactic| fail) => `(tactic| with_reducible refine t_blt ?_)
local macro_rules | `(tactic| fail) => `(tactic| with_reducible refine t_call ?_)
local macro_rules | `(tactic| fail) => `(tactic| with_reducible refine t_cmp ?_)
local macro_rules | `(tactic| fail) => `(tactic| with_reducible refine t_nt ?_)
local macro_rules | `(tactic| fail) => `(tactic| with_reducible refine t_bop ?_)
local macro_rules | `(tactic| fail) => `(tactic| with_reducible refine vb_or ?_)
local macro_rules | `(tactic| fail) => `(tactic| with_reducible refine vb_and ?_)
local macro_rules | `(tactic| fail) => `(tactic| with_reducible refine vb_one ?_)
local macro_rules | `(tactic| fail) => `(tactic| with_reducible refine vo_some ?_)
local macro_rules | `(tactic| fail) => `(tactic| with_reducible refine vo_none ?_)
local macro_rules | `(tactic| fail) => `(tactic| with_reducible refine vs_cons ?_)
local macro_rules | `(tactic| fail) => `(tactic| with_reducible refine vs_nil ?_)
local macro_rules | `(tactic| fail) => `(tactic| with_reducible refine s_try ?_)
local macro_rules | `(tactic| fail) => `(tactic| with_reducible refine s_setf ?_)
local macro_rules | `(tactic| fail) => `(tactic| with_reducible refine v_eqo ?_)
local macro_rules | `(tactic| fail) => `(tactic| with_reducible refine t_isc ?_)
local macro_rules | `(tactic| fail) => `(tactic| with_reducible refine v_isc ?_)
local macro_rules | `(tactic| fail) => `(tactic| with_reducible refine t_meth ?_)
local macro_rules | `(tactic| fail) => `(tactic| with_reducible refine v_meth ?_)
local macro_rules | `(tactic| fail) => `(tactic| with_reducible refine v_new ?_)
local macro_rules | `(tactic| fail) => `(tactic| with_reducible refine v_fld ?_)
local macro_rules | `(tactic| fail) => `(tactic| with_reducible refine v_atr ?_)
local macro_rules | `(tactic| fail) => `(tactic| with_reducible refine v_isx ?_)
local macro_rules | `(tactic| fail) => `(tactic| with_reducible refine v_back ?_)
local macro_rules | `(tactic| fail) => `(tactic| with_reducible refine v_lc ?_)
local macro_rules | `(tactic| fail) => `(tactic| with_reducible refine v_mth ?_)
local macro_rules | `(tactic| fail) => `(tactic| with_reducible refine v_lzip ?_)
local macro_rules | `(tactic| fail) => `(tactic| with_reducible refine v_lrev ?_)
local macro_rules | `(tactic| fail) => `(tactic| with_reducible refine v_blt ?_)
local macro_rules | `(tactic| fail) => `(tactic| with_reducible refine v_call ?_)
local macro_rules | `(tactic| fail) => `(tactic| with_reducible refine v_slice ?_)
local macro_rules | `(tactic| fail) => `(tactic| with_reducible refine v_sub ?_)
local macro_rules | `(tactic| fail) => `(tactic| with_reducible refine v_lst ?_)
local macro_rules | `(tactic| fail) => `(tactic| with_reducible refine v_tup ?_)
local macro_rules | `(tactic| fail) => `(tactic| with_reducible refine v_ite ?_)
local macro_rules | `(tactic| fail) => `(tactic| with_reducible refine v_nt ?_)
local macro_rules | `(tactic| fail) => `(tactic| with_reducible refine v_bop ?_)
local macro_rules | `(tactic| fail) => `(tactic| with_reducible refine v_cmp ?_)
local macro_rules | `(tactic| fail) => `(tactic| with_reducible refine v_bin ?_)
local macro_rules | `(tactic| fail) => `(tactic| with_reducible refine v_bty ?_)
local macro_rules | `(tactic| fail) => `(tactic| with_reducible refine v_str ?_)
local macro_rules | `(tactic| fail) => `(tactic| with_reducible refine v_non ?_)
local macro_rules | `(tactic| fail) => `(tactic| with_reducible refine v_bl ?_)
local macro_rules | `(tactic| fail) => `(tactic| with_reducible refine v_int ?_)
local macro_rules | `(tactic| fail) => `(tactic| with_reducible refine s_cont ?_)
local macro_rules | `(tactic| fail) => `(tactic| with_reducible refine s_brk ?_)
local macro_rules | `(tactic| fail) => `(tactic| with_reducible refine s_nil ?_)
local macro_rules | `(tactic| fail) => `(tactic| with_reducible refine s_pass ?_)
local macro_rules | `(tactic| fail) => `(tactic| with_reducible refine s_retN ?_)
local macro_rules | `(tactic| fail) => `(tactic| with_reducible refine s_ret ?_)
local macro_rules | `(tactic| fail) => `(tactic| with_reducible refine s_ife ?_)
local macro_rules | `(tactic| fail) => `(tactic| with_reducible refine s_set ?_)
local macro_rules | `(tactic| fail) => `(tactic| with_reducible refine s_par ?_)
local macro_rules | `(tactic| fail) => `(tactic| with_reducible refine s_asg ?_)
local macro_rules | `(tactic| fail) => `(tactic| with_reducible refine s_ex ?_)

end
end Z

set_option Elab.async false
set_option linter.all false
set_option maxRecDepth 100000
set_option maxHeartbeats 4000000
namespace Z
open PySem PySem.Spec PyProof.Rows L2
section
variable {defs : Str → Option DefT} {gl : Str → Option D} {k : Nat} {S : Sto} {Q : D → Sto → Prop} {E : Exc → Sto → Prop}
local macro_rules | `(tactic| fail) => `(tactic| ((with_reducible refine And.intro ?_ ?_); (focus (exact Nat.le_of_ble_eq_true rfl))))
local macro_rules | `(tactic| fail) => `(tactic| with_reducible refine ⟨_, rfl, ?_⟩)
local macro_rules | `(tactic| fail) => `(tactic| ((with_reducible apply o_sliceT); (focus rfl)))
local macro_rules | `(tactic| fail) => `(tactic| ((with_reducible apply o_inTf); (focus rfl); (focus rfl); (focus (simp [inF, eqF, str_beq]; done))))
local macro_rules | `(tactic| fail) => `(tactic| ((with_reducible apply o_inTt); (focus rfl); (focus rfl); (focus (simp [inF, eqF, str_beq]; done))))
local macro_rules | `(tactic| fail) => `(tactic| ((with_reducible apply o_subC); (focus ((repeat (first | with_reducible exact lk_hit | ((with_reducible apply lk_miss); (focus (exact str_ne (by decide)))))); done))))
local macro_rules | `(tactic| fail) => `(tactic| ((with_reducible apply o_inC); (focus ((repeat (first | with_reducible exact lk_hit | ((with_reducible apply lk_miss); (focus (exact str_ne (by decide)))))); done))))
local macro_rules | `(tactic| fail) => `(tactic| ((with_reducible apply o_ninC); (focus ((repeat (first | with_reducible exact lk_hit | ((with_reducible apply lk_miss); (focus (exact str_ne (by decide)))))); done))))
local macro_rules | `(tactic| fail) => `(tactic| ((with_reducible apply o_isinF); (focus rfl); (focus (decide +kernel))))
local macro_rules | `(tactic| fail) => `(tactic| ((with_reducible apply o_isinT); (focus rfl); (focus (decide +kernel))))
local macro_rules | `(tactic| fail) => `(tactic| with_reducible refine i_enm ?_)
local macro_rules | `(tactic| fail) => `(tactic| ((with_reducible apply g_tup); (focus rfl); (focus rfl)))
local macro_rules | `(tactic| fail) => `(tactic| ((with_reducible apply v_dctN); (focus (decide +kernel))))
local macro_rules | `(tactic| fail) => `(tactic| ((with_reducible apply o_len); (focus (exact len_ref (by (first | assumption | exact updS_same | exact upd_at (by assumption) (by assumption)))))))
local macro_rules | `(tactic| fail) => `(tactic| ((with_reducible apply o_tuple); (focus (first | rfl | exact items_ref (by (first | assumption | exact updS_same | exact upd_at (by assumption) (by assumption)))))))
local macro_rules | `(tactic| fail) => `(tactic| ((with_reducible apply o_get2); (focus (first | assumption | exact updS_same | exact upd_at (by assumption) (by assumption))); (focus rfl); (focus ((repeat (first | with_reducible exact getD_hit | with_reducible exact getD_nil | ((with_reducible apply getD_miss); (focus (exact str_ne (by decide)))))); done))))
local macro_rules | `(tactic| fail) => `(tactic| ((with_reducible apply o_get1); (focus (first | assumption | exact updS_same | exact upd_at (by assumption) (by assumption))); (focus rfl); (focus ((repeat (first | with_reducible exact getD_hit | with_reducible exact getD_nil | ((with_reducible apply getD_miss); (focus (exact str_ne (by decide)))))); done))))
local macro_rules | `(tactic| fail) => `(tactic| ((with_reducible refine And.intro ?_ ?_); (focus (first | exact recvL (by (first | assumption | exact updS_same | exact upd_at (by assumption) (by assumption))) rfl | exact recvD (by (first | assumption | exact updS_same | exact upd_at (by assumption) (by assumption))) rfl))))
local macro_rules | `(tactic| fail) => `(tactic| ((with_reducible apply o_subD); (focus (first | assumption | exact updS_same | exact upd_at (by assumption) (by assumption))); (focus rfl); (focus ((repeat (first | with_reducible exact lookD_hit | ((with_reducible apply look_miss); (focus (exact str_ne (by decide)))))); done))))
local macro_rules | `(tactic| fail) => `(tactic| ((with_reducible apply c_ndF); (focus (((try simp only [List.length_cons, List.length_nil, List.length_append, List.length_map]); omega)))))
local macro_rules | `(tactic| fail) => `(tactic| ((with_reducible apply c_ndT); (focus (((try simp only [List.length_cons, List.length_nil, List.length_append, List.length_map]); omega)))))
local macro_rules | `(tactic| fail) => `(tactic| with_reducible refine o_intB ?_)
local macro_rules | `(tactic| fail) => `(tactic| ((with_reducible apply c_decF); (focus (((try simp only [List.length_cons, List.length_nil, List.length_append, List.length_map]); omega)))))
local macro_rules | `(tactic| fail) => `(tactic| ((with_reducible apply c_decT); (focus (((try simp only [List.length_cons, List.length_nil, List.length_append, List.length_map]); omega)))))
local macro_rules | `(tactic| fail) => `(tactic| with_reducible refine c_notf ?_)
local macro_rules | `(tactic| fail) => `(tactic| with_reducible refine c_nott ?_)
local macro_rules | `(tactic| fail) => `(tactic| with_reducible refine o_eqI ?_)
local macro_rules | `(tactic| fail) => `(tactic| ((with_reducible apply o_eqIf); (focus (((try simp only [List.length_cons, List.length_nil, List.length_append, List.length_map]); omega)))))
local macro_rules | `(tactic| fail) => `(tactic| ((with_reducible apply o_eqIt); (focus (((try simp only [List.length_cons, List.length_nil, List.length_append, List.length_map]); omega)))))
local macro_rules | `(tactic| fail) => `(tactic| with_reducible refine o_isB ?_)
local macro_rules | `(tactic| fail) => `(tactic| with_reducible refine o_isN ?_)
local macro_rules | `(tactic| fail) => `(tactic| with_reducible refine o_isR ?_)
local macro_rules | `(tactic| fail) => `(tactic| with_reducible refine o_eqB ?_)
local macro_rules | `(tactic| fail) => `(tactic| ((with_reducible apply o_neIf); (focus (((try simp only [List.length_cons, List.length_nil, List.length_append, List.length_map]); omega)))))
local macro_rules | `(tactic| fail) => `(tactic| ((with_reducible apply o_neIt); (focus (((try simp only [List.length_cons, List.length_nil, List.length_append, List.length_map]); omega)))))
local macro_rules | `(tactic| fail) => `(tactic| with_reducible refine o_neII ?_)
local macro_rules | `(tactic| fail) => `(tactic| with_reducible refine o_neBB ?_)
local macro_rules | `(tactic| fail) => `(tactic| ((with_reducible apply o_eqSf); (focus decide)))
local macro_rules | `(tactic| fail) => `(tactic| ((with_reducible apply o_atr); (focus rfl)))
local macro_rules | `(tactic| fail) => `(tactic| with_reducible refine o_isx ?_)
local macro_rules | `(tactic| fail) => `(tactic| with_reducible refine o_eqSt ?_)
local macro_rules | `(tactic| fail) => `(tactic| ((with_reducible apply o_len); focus (first | rfl | (simp only [lenD]; simp only [*]; done))))
local macro_rules | `(tactic| fail) => `(tactic| ((with_reducible apply o_setL); (focus (first | assumption | exact updS_same | exact upd_at (by assumption) (by assumption))); (focus rfl)))
local macro_rules | `(tactic| fail) => `(tactic| ((with_reducible refine And.intro ?_ ?_); (focus (first | exact selfOk (by (first | assumption | exact updS_same | exact upd_at (by assumption) (by assumption))) rfl | exact insOk (by (first | assumption | exact updS_same | exact upd_at (by assumption) (by assumption)))))))
local macro_rules | `(tactic| fail) => `(tactic| ((with_reducible apply o_setf); (focus (first | assumption | exact updS_same | exact upd_at (by assumption) (by assumption))); (focus (exact Nat.le_of_ble_eq_true rfl))))
local macro_rules | `(tactic| fail) => `(tactic| ((with_reducible apply o_fld); (focus (first | assumption | exact updS_same | exact upd_at (by assumption) (by assumption))); (focus rfl)))
local macro_rules | `(tactic| fail) => `(tactic| ((with_reducible apply o_subT); focus (rfl)))
local macro_rules | `(tactic| fail) => `(tactic| ((with_reducible apply o_subL); (focus (first | assumption | exact updS_same | exact upd_at (by assumption) (by assumption))); (focus rfl)))
local macro_rules | `(tactic| fail) => `(tactic| ((with_reducible apply o_pow); focus (unfold CPow; omega)))
local macro_rules | `(tactic| fail) => `(tactic| ((with_reducible apply o_mod); focus (omega)))
local macro_rules | `(tactic| fail) => `(tactic| ((with_reducible apply o_div); focus (unfold CDiv; omega)))
local macro_rules | `(tactic| fail) => `(tactic| ((with_reducible apply o_mul); focus (unfold CMul; omega)))
local macro_rules | `(tactic| fail) => `(tactic| ((with_reducible apply v_glob); focus (first | assumption | rfl)))
local macro_rules | `(tactic| fail) => `(tactic| ((with_reducible apply t_var); focus (rfl)))
local macro_rules | `(tactic| fail) => `(tactic| ((with_reducible apply v_var); focus (rfl)))
local macro_rules | `(tactic| fail) => `(tactic| with_reducible refine c_false ?_)
local macro_rules | `(tactic| fail) => `(tactic| with_reducible refine c_true ?_)
local macro_rules | `(tactic| fail) => `(tactic| with_reducible refine o_ge ?_)
local macro_rules | `(tactic| fail) => `(tactic| with_reducible refine o_gt ?_)
local macro_rules | `(tactic| fail) => `(tactic| with_reducible refine o_le ?_)
local macro_rules | `(tactic| fail) => `(tactic| with_reducible refine o_lt ?_)
local macro_rules | `(tactic| fail) => `(tactic| with_reducible refine o_sub ?_)
local macro_rules | `(tactic| fail) => `(tactic| with_reducible refine o_add ?_)
local macro_rules | `(tactic| fail) => `(tactic| with_reducible refine o_sub1 ?_)
local macro_rules | `(tactic| fail) => `(tactic| with_reducible refine o_sub0 ?_)
local macro_rules | `(tactic| fail) => `(tactic| with_reducible refine i_rng1 ?_)
local macro_rules | `(tactic| fail) => `(tactic| with_reducible refine i_seq ?_)
local macro_rules | `(tactic| fail) => `(tactic| with_reducible refine g_cons ?_)
local macro_rules | `(tactic| fail) => `(tactic| with_reducible refine g_nil ?_)
local macro_rules | `(tactic| fail) => `(tactic| with_reducible refine g_nm ?_)
local macro_rules | `(tactic| fail) => `(tactic| with_reducible refine ts_one ?_)
local macro_rules | `(tactic| fail) => `(tactic| with_reducible refine ts_nil ?_)
local macro_rules | `(tactic| fail) => `(tactic| with_reducible refine tr_int ?_)
local macro_rules | `(tactic| fail) => `(tactic| with_reducible refine tr_bl ?_)
local macro_rules | `(tactic| fail) => `(tactic| with_reducible refine tb_or ?_)
local macro_rules | `(tactic| fail) => `(tactic| with_reducible refine tb_and ?_)
local macro_rules | `(tactic| fail) => `(tactic| with_reducible refine tb_one ?_)
local macro_rules | `(tactic| fail) => `(tactic| with_reducible refine t_chain ?_)
local macro_rules | `(tactic| fail) => `(tactic| with_reducible refine t_sub ?_)
local macro_rules | `(tactic| fail) => `(tactic| with_reducible refine t_blt ?_)
local macro_rules | `(tactic| fail) => `(tactic| with_reducible refine t_call ?_)
local macro_rules | `(tactic| fail) => `(tactic| with_reducible refine t_cmp ?_)
local macro_rules | `(tactic| fail) => `(tactic| with_reducible refine t_nt ?_)
local macro_rules | `(tactic| fail) => `(tactic| with_reducible refine t_bop ?_)
local macro_rules | `(tactic| fail) => `(tactic| with_reducible refine vb_or ?_)
local macro_rules | `(tactic| fail) => `(tactic| with_reducible refine vb_and ?_)
local macro_rules | `(tactic| fail) => `(tactic| with_reducible refine vb_one ?_)
local macro_rules | `(tactic| fail) => `(tactic| with_reducible refine vo_some ?_)
local macro_rules | `(tactic| fail) => `(tactic| with_reducible refine vo_none ?_)
local macro_rules | `(tactic| fail) => `(tactic| with_reducible refine vs_cons ?_)
local macro_rules | `(tactic| fail) => `(tactic| with_reducible refine vs_nil ?_)
local macro_rules | `(tactic| fail) => `(tactic| with_reducible refine s_try ?_)
local macro_rules | `(tactic| fail) => `(tactic| with_reducible refine s_setf ?_)
local macro_rules | `(tactic| fail) => `(tactic| with_reducible refine v_eqo ?_)
local macro_rules | `(tactic| fail) => `(tactic| with_reducible refine t_isc ?_)
local macro_rules | `(tactic| fail) => `(tactic| with_reducible refine v_isc ?_)
local macro_rules | `(tactic| fail) => `(tactic| with_reducible refine t_meth ?_)
local macro_rules | `(tactic| fail) => `(tactic| with_reducible refine v_meth ?_)
local macro_rules | `(tactic| fail) => `(tactic| with_reducible refine v_new ?_)
local macro_rules | `(tactic| fail) => `(tactic| with_reducible refine v_fld ?_)
local macro_rules | `(tactic| fail) => `(tactic| with_reducible refine v_atr ?_)
local macro_rules | `(tactic| fail) => `(tactic| with_reducible refine v_isx ?_)
local macro_rules | `(tactic| fail) => `(tactic| with_reducible refine v_back ?_)
local macro_rules | `(tactic| fail) => `(tactic| with_reducible refine v_lc ?_)
local macro_rules | `(tactic| fail) => `(tactic| with_reducible refine v_mth ?_)
local macro_rules | `(tactic| fail) => `(tactic| with_reducible refine v_lzip ?_)
local macro_rules | `(tactic| fail) => `(tactic| with_reducible refine v_lrev ?_)
local macro_rules | `(tactic| fail) => `(tactic| with_reducible refine v_blt ?_)
local macro_rules | `(tactic| fail) => `(tactic| with_reducible refine v_call ?_)
local macro_rules | `(tactic| fail) => `(tactic| with_reducible refine v_slice ?_)
local macro_rules | `(tactic| fail) => `(tactic| with_reducible refine v_sub ?_)
local macro_rules | `(tactic| fail) => `(tactic| with_reducible refine v_lst ?_)
local macro_rules | `(tactic| fail) => `(tactic| with_reducible refine v_tup ?_)
local macro_rules | `(tactic| fail) => `(tactic| with_reducible refine v_ite ?_)
local macro_rules | `(tactic| fail) => `(tactic| with_reducible refine v_nt ?_)
local macro_rules | `(tactic| fail) => `(tactic| with_reducible refine v_bop ?_)
local macro_rules | `(tactic| fail) => `(tactic| with_reducible refine v_cmp ?_)
local macro_rules | `(tactic| fail) => `(tactic| with_reducible refine v_bin ?_)
local macro_rules | `(tactic| fail) => `(tactic| with_reducible refine v_bty ?_)
local macro_rules | `(tactic| fail) => `(tactic| with_reducible refine v_str ?_)
local macro_rules | `(tactic| fail) => `(tactic| with_reducible refine v_non ?_)
local macro_rules | `(tactic| fail) => `(tactic| with_reducible refine v_bl ?_)
local macro_rules | `(tactic| fail) => `(tactic| with_reducible refine v_int ?_)
local macro_rules | `(tactic| fail) => `(tactic| with_reducible refine s_cont ?_)
local macro_rules | `(tactic| fail) => `(tactic| with_reducible refine s_brk ?_)
local macro_rules | `(tactic| fail) => `(tactic| with_reducible refine s_nil ?_)
local macro_rules | `(tactic| fail) => `(tactic| with_reducible refine s_pass ?_)
local macro_rules | `(tactic| fail) => `(tactic| with_reducible refine s_retN ?_)
local macro_rules | `(tactic| fail) => `(tactic| with_reducible refine s_ret ?_)
local macro_rules | `(tactic| fail) => `(tactic| with_reducible refine s_ife ?_)
local macro_rules | `(tactic| fail) => `(tactic| with_reducible refine s_set ?_)
local macro_rules | `(tactic| fail) => `(tactic| with_reducible refine s_par ?_)
local macro_rules | `(tactic| fail) => `(tactic| with_reducible refine s_asg ?_)
local macro_rules | `(tactic| fail) => `(tactic| with_reducible refine s_ex ?_)

end
end Z

set_option Elab.async false
set_option linter.all false
set_option maxRecDepth 100000
set_option maxHeartbeats 4000000
namespace Z
open PySem PySem.Spec PyProof.Rows L2
structure Rnd (rs : List Row) : Prop where
  ne : rs ≠ []
  rnd : ∀ m, m < rs.length → (rs.getD m (0, 0, 0)).2.1 = (rs.getD ((m + 1) % rs.length) (0, 0, 0)).1
section
variable {rs : List Row} {n : Nat} {f : Int}
theorem Rnd.pos (h : Rnd rs) : 0 < rs.length := List.length_pos_iff.mpr h.ne
end
end Z

set_option Elab.async false
set_option linter.all false
set_option maxRecDepth 100000
set_option maxHeartbeats 4000000
namespace Z
open PySem PySem.Spec PyProof.Rows L2
abbrev Sm := Nat → Option Int
def stepD (s : Sm × Bool) (r : Row) : Sm × Bool := match s.1 (to r) with
  | none => s
  | some d => match s.1 (fr r) with
    | none => (updF s.1 (fr r) (some (d + r.2.2)), true)
    | some e => if d + r.2.2 < e then (updF s.1 (fr r) (some (d + r.2.2)), true) else s
def turnD (rows : List Row) (s : Sm) : Sm × Bool := rows.foldl stepD (s, false)
def itD (rows : List Row) (b : Nat) : Nat → Sm × Bool
  | 0 => (fun x => if x = b then some 0 else none, false)
  | t + 1 => turnD rows (itD rows b t).1
def downD (n : Nat) (rows : List Row) (b : Nat) : Sm × Bool := itD rows b (n + 2)
def Calm (n : Nat) (rows : List Row) : Prop := ∀ b, b ≤ n → (downD n rows b).2 = false
def Stab (s : Sm) (r : Row) : Prop := ∀ d, s (to r) = some d → ole (s (fr r)) (some (d + r.2.2))
section
variable {rows : List Row} {n b : Nat} {f : Int}
theorem stepD_true {s : Sm × Bool} {r : Row} (h : s.2 = true) : (stepD s r).2 = true := by
  unfold stepD
  split
  · exact h
  · split
    · rfl
    · split
      · rfl
      · exact h
theorem fold_true : ∀ (rs : List Row) {s : Sm × Bool}, s.2 = true → (rs.foldl stepD s).2 = true
  | [], s, h => h
  | r :: rs, s, h => fold_true rs (stepD_true h)
theorem stepD_false {s : Sm × Bool} {r : Row} (h : (stepD s r).2 = false) : stepD s r = s ∧ Stab s.1 r := by
  cases e : s.1 (to r) with
  | none =>
    have : stepD s r = s := by unfold stepD; rw [e]
    exact ⟨this, fun d h2 => by rw [e] at h2; cases h2⟩
  | some d =>
    cases e2 : s.1 (fr r) with
    | none =>
      have : (stepD s r).2 = true := by unfold stepD; rw [e]; simp only; rw [e2]
      rw [this] at h
      cases h
    | some v =>
      by_cases hlt : d + r.2.2 < v
      · have : (stepD s r).2 = true := by unfold stepD; rw [e]; simp only; rw [e2]; simp only; rw [if_pos hlt]
        rw [this] at h
        cases h
      · have : stepD s r = s := by unfold stepD; rw [e]; simp only; rw [e2]; simp only; rw [if_neg hlt]
        refine ⟨this, fun d2 h2 => ?_⟩
        rw [e] at h2
        cases h2
        rw [e2]
        simp only [ole]
        omega
theorem fold_false : ∀ (rs : List Row) {s : Sm × Bool}, (rs.foldl stepD s).2 = false → rs.foldl stepD s = s ∧ ∀ r ∈ rs, Stab s.1 r
  | [], s, _ => ⟨rfl, by simp⟩
  | r :: rs, s, h => by
    have h1 : (stepD s r).2 = false := by
      cases q : (stepD s r).2 with
      | false => rfl
      | true => rw [List.foldl_cons, fold_true rs q] at h; cases h
    obtain ⟨h2, h3⟩ := stepD_false h1
    rw [List.foldl_cons, h2] at h ⊢
    obtain ⟨h4, h5⟩ := fold_false rs h
    exact ⟨h4, fun r' hr' => by
      rcases List.mem_cons.mp hr' with rfl | hr'
      · exact h3
      · exact h5 r' hr'⟩
structure SmOk (rows : List Row) (b : Nat) (f : Int) (m : Nat) (s : Sm) : Prop where
  wk : ∀ x c, s x = some c → Wk rows x b c
  bd : ∀ x c, s x = some c → -(f * m) ≤ c ∧ c ≤ f * m
  at_ : ∃ d, s b = some d ∧ d ≤ 0
theorem SmOk.init (hf : 0 ≤ f) : SmOk rows b f 0 (itD rows b 0).1 where
  wk := fun x c h => by
    unfold itD at h
    simp only at h
    split at h
    · rename_i e; cases h; rw [e]; exact .nil _
    · cases h
  bd := fun x c h => by
    unfold itD at h
    simp only at h
    split at h
    · cases h; simp
    · cases h
  at_ := ⟨0, by simp [itD], by omega⟩
theorem SmOk.step {m : Nat} {s : Sm × Bool} {r : Row} (hf : 0 ≤ f) (hr : RowOk n f r) (hm : r ∈ rows) (h : SmOk rows b f m s.1) : SmOk rows b f (m + 1) (stepD s r).1 := by
  have hfm : f * ((m + 1 : Nat) : Int) = f * m + f := by rw [Int.natCast_add, Int.mul_add]; simp
  have same : SmOk rows b f (m + 1) s.1 := ⟨h.wk, fun x c e => by have := h.bd x c e; rw [hfm]; omega, h.at_⟩
  have new : ∀ d, s.1 (to r) = some d → (∀ e, s.1 (fr r) = some e → d + r.2.2 < e) → SmOk rows b f (m + 1) (updF s.1 (fr r) (some (d + r.2.2))) := fun d hd hlt => by
    unfold RowOk at hr
    refine ⟨fun x c e => ?_, fun x c e => ?_, ?_⟩
    · by_cases hx : x = fr r
      · rw [hx, updF_s] at e
        cases e
        have := Wk.cons (rows := rows) (i := fr r) (j := to r) (c := r.2.2) ⟨r, hm, by show r.1 + 1 = (((r.1 + 1).toNat : Nat) : Int); omega, by show r.2.1 + 1 = (((r.2.1 + 1).toNat : Nat) : Int); omega, rfl⟩ (h.wk _ _ hd)
        rw [hx, Int.add_comm]
        exact this
      · rw [updF_n hx] at e
        exact h.wk x c e
    · by_cases hx : x = fr r
      · rw [hx, updF_s] at e
        cases e
        have := h.bd _ _ hd
        rw [hfm]
        omega
      · rw [updF_n hx] at e
        exact same.bd x c e
    · obtain ⟨d0, e0, h0⟩ := h.at_
      by_cases hx : b = fr r
      · rw [hx, updF_s]
        rw [hx] at e0
        exact ⟨_, rfl, by have := hlt d0 e0; omega⟩
      · rw [updF_n hx]
        exact ⟨d0, e0, h0⟩
  unfold stepD
  split
  · exact same
  · rename_i d e
    split
    · rename_i e2
      exact new d e fun e' z => by rw [e2] at z; cases z
    · rename_i e1 e2
      split
      · rename_i hlt
        exact new d e fun e' z => by rw [e2] at z; cases z; exact hlt
      · exact same
theorem SmOk.fold (hf : 0 ≤ f) : ∀ (rs : List Row) {m : Nat} {s : Sm × Bool}, (∀ r ∈ rs, RowOk n f r) → (∀ r ∈ rs, r ∈ rows) → SmOk rows b f m s.1 → SmOk rows b f (m + rs.length) (rs.foldl stepD s).1
  | [], m, s, _, _, h => by simpa using h
  | r :: rs, m, s, h1, h2, h => by
    have := SmOk.fold hf rs (fun x hx => h1 x (by simp [hx])) (fun x hx => h2 x (by simp [hx])) (h.step (s := s) hf (h1 r (by simp)) (h2 r (by simp)))
    rw [List.foldl_cons, List.length_cons, show m + (rs.length + 1) = m + 1 + rs.length by omega]
    exact this
theorem SmOk.it (hf : 0 ≤ f) (hr : ∀ r ∈ rows, RowOk n f r) : ∀ t, SmOk rows b f (t * rows.length) (itD rows b t).1
  | 0 => by simpa using SmOk.init hf
  | t + 1 => by
    have := SmOk.fold (n := n) (s := ((itD rows b t).1, false)) hf rows hr (fun r h => h) (SmOk.it hf hr t)
    rw [Nat.add_mul, Nat.one_mul]
    exact this
theorem down_stab (h : (downD n rows b).2 = false) : ∀ r ∈ rows, Stab (downD n rows b).1 r := by
  have h : (turnD rows (itD rows b (n + 1)).1).2 = false := h
  have e : downD n rows b = turnD rows (itD rows b (n + 1)).1 := rfl
  obtain ⟨h1, h2⟩ := fold_false rows h
  rw [e]
  unfold turnD
  rw [h1]
  exact h2
theorem ole_trans {a : Option Int} {c d : Int} (h : ole a (some c)) (h2 : c ≤ d) : ole a (some d) := ole.trans h (by simp only [ole]; exact h2)
theorem down_le (hf : 0 ≤ f) (hr : ∀ r ∈ rows, RowOk n f r) (h : (downD n rows b).2 = false) {x : Nat} {c : Int} (w : Wk rows x b c) : ole ((downD n rows b).1 x) (some c) := by
  revert h
  induction w with
  | nil i =>
    intro h
    obtain ⟨d, e, hd⟩ := (SmOk.it (b := i) hf hr (n + 2)).at_
    have e : (downD n rows i).1 i = some d := e
    rw [e]
    exact hd
  | @cons i j b c d e w ih =>
    intro h
    have ih := ih h
    obtain ⟨r, hm, h1, h2, h3⟩ := e
    have hok := hr r hm
    unfold RowOk at hok
    have e1 : fr r = i := by show (r.1 + 1).toNat = i; omega
    have e2 : to r = j := by show (r.2.1 + 1).toNat = j; omega
    cases q : (downD n rows b).1 j with
    | none => rw [q] at ih; simp [ole] at ih
    | some v =>
      rw [q] at ih
      simp only [ole] at ih
      have := down_stab h r hm v (by rw [e2]; exact q)
      rw [e1, h3] at this
      exact ole_trans this (by omega)
theorem calm_neg (hf : 0 ≤ f) (hr : ∀ r ∈ rows, RowOk n f r) (h : Calm n rows) : ¬ NegR n rows := fun ⟨i, c, hi, w, hc⟩ => by
  have hb := h i (by omega)
  obtain ⟨d, e, hd⟩ := (SmOk.it (b := i) hf hr (n + 2)).at_
  have e : (downD n rows i).1 i = some d := e
  have wd := (SmOk.it (b := i) hf hr (n + 2)).wk i d e
  have := down_le hf hr hb (w.app wd)
  rw [e] at this
  simp only [ole] at this
  omega
theorem down_eq {M : Mx} (hf : 0 ≤ f) (hr : ∀ r ∈ rows, RowOk n f r) (h : Calm n rows) (g : Gd rows (n + 1) M) (t : Neg (n + 1) M ∨ Tri (n + 1) (n + 1) M) {i j : Nat} (hj : j ≤ n) : (downD n rows j).1 i = M i j := by
  have hN : ¬ Neg (n + 1) M := fun z => calm_neg hf hr h ((neg_iff hr g t).mp z)
  have tri := t.resolve_left hN
  have a1 : ∀ c, (downD n rows j).1 i = some c → ole (M i j) (some c) := fun c e => wk_le g tri hr ((SmOk.it (b := j) hf hr (n + 2)).wk i c e) (by omega)
  have a2 : ∀ c, M i j = some c → ole ((downD n rows j).1 i) (some c) := fun c e => down_le hf hr (h j hj) (g.snd _ _ _ e)
  cases q1 : (downD n rows j).1 i with
  | none =>
    cases q2 : M i j with
    | none => rfl
    | some c => have := a2 c q2; rw [q1] at this; simp [ole] at this
  | some c =>
    have h1 := a1 c q1
    cases q2 : M i j with
    | none => rw [q2] at h1; simp [ole] at h1
    | some d =>
      rw [q2] at h1
      simp only [ole] at h1
      have h2 := a2 d q2
      rw [q1] at h2
      simp only [ole] at h2
      rw [show c = d by omega]
end
def dL (n : Nat) (s : Sm) : List D := (List.range n).map (fun i => od (s (i + 1))) ++ [od (s 0)]
theorem dL_len {n : Nat} {s : Sm} : (dL n s).length = n + 1 := by simp [dL]
theorem dL_ix {n : Nat} {i : Int} (h0 : -1 ≤ i) (h1 : i < n) : ∃ j, ixN (n + 1) i = some j ∧ j = (if i = -1 then n else i.toNat) := by
  unfold ixN
  by_cases e : i = -1
  · subst e
    rw [if_neg (by omega)]
    exact ⟨n, by simp; omega, by simp⟩
  · rw [if_pos (by omega)]
    exact ⟨i.toNat, by simp; omega, by rw [if_neg e]⟩
theorem dL_at {n : Nat} {s : Sm} {i : Int} (h0 : -1 ≤ i) (h1 : i < n) : atI (dL n s) i = some (od (s (i + 1).toNat)) := by
  obtain ⟨j, e, ej⟩ := dL_ix h0 h1
  unfold atI
  rw [dL_len, e]
  show (dL n s)[j]? = _
  unfold dL
  by_cases e2 : i = -1
  · rw [if_pos e2] at ej
    subst ej e2
    rw [List.getElem?_append_right (by simp)]
    simp
  · rw [if_neg e2] at ej
    subst ej
    rw [List.getElem?_append_left (by simp; omega), List.getElem?_map, List.getElem?_range (by omega)]
    simp only [Option.map_some]
    rw [show (i + 1).toNat = i.toNat + 1 by omega]
theorem dL_set {n : Nat} {s : Sm} {i : Int} {v : Option Int} {j : Nat} (h0 : -1 ≤ i) (h1 : i < n) (e : ixN (n + 1) i = some j) : (dL n s).set j (od v) = dL n (updF s (i + 1).toNat v) := by
  obtain ⟨j', e', ej⟩ := dL_ix h0 h1
  rw [e] at e'
  cases e'
  apply List.ext_getElem?
  intro m
  rw [List.getElem?_set]
  unfold dL
  by_cases e2 : i = -1
  · rw [if_pos e2] at ej
    subst ej e2
    by_cases hm : j = m
    · subst hm
      rw [if_pos rfl, List.getElem?_append_right (by simp), if_pos (by simp)]
      simp [updF]
    · rw [if_neg hm]
      by_cases hl : m < j
      · rw [List.getElem?_append_left (by simpa using hl), List.getElem?_append_left (by simpa using hl), List.getElem?_map, List.getElem?_map, List.getElem?_range hl]
        simp [updF]
      · rw [List.getElem?_eq_none (by simp; omega), List.getElem?_eq_none (by simp; omega)]
  · rw [if_neg e2] at ej
    subst ej
    by_cases hm : i.toNat = m
    · subst hm
      rw [if_pos rfl, if_pos (by simp; omega), List.getElem?_append_left (by simp; omega), List.getElem?_map, List.getElem?_range (by omega)]
      simp only [Option.map_some]
      rw [show (i + 1).toNat = i.toNat + 1 by omega, updF_s]
    · rw [if_neg hm]
      by_cases hl : m < n
      · rw [List.getElem?_append_left (by simpa using hl), List.getElem?_append_left (by simpa using hl), List.getElem?_map, List.getElem?_map, List.getElem?_range hl]
        simp only [Option.map_some]
        rw [updF_n (by omega)]
      · by_cases hmn : m = n
        · subst hmn
          rw [List.getElem?_append_right (by simp), List.getElem?_append_right (by simp)]
          simp only [List.length_map, List.length_range, Nat.sub_self]
          rw [updF_n (by omega)]
        · rw [List.getElem?_eq_none (by simp; omega), List.getElem?_eq_none (by simp; omega)]
end Z

set_option Elab.async false
set_option linter.all false
set_option maxRecDepth 100000
set_option maxHeartbeats 4000000
namespace Z
open PySem PySem.Spec PyProof.Rows L2
section
variable {defs : Str → Option DefT} {gl : Str → Option D} {k : Nat} {S : Sto} {Q : D → Sto → Prop} {E : Exc → Sto → Prop}
theorem rep_dL {n : Nat} : (List.replicate ((n : Int) + 1).toNat [D.non]).flatten = dL n (fun _ => none) := by
  have : ((n : Int) + 1).toNat = n + 1 := by omega
  rw [this]
  unfold dL
  have h : ∀ m : Nat, (List.replicate m [D.non]).flatten = List.replicate m D.non := fun m => by
    induction m with
    | zero => rfl
    | succ m ih => rw [List.replicate_succ, List.flatten_cons, ih]; rfl
  rw [h, List.map_const', List.length_range, List.replicate_succ']
  rfl
local macro_rules | `(tactic| fail) => `(tactic| ((with_reducible refine And.intro ?_ ?_); (focus (exact Nat.le_of_ble_eq_true rfl))))
local macro_rules | `(tactic| fail) => `(tactic| with_reducible refine ⟨_, rfl, ?_⟩)
local macro_rules | `(tactic| fail) => `(tactic| ((with_reducible apply o_sliceT); (focus rfl)))
local macro_rules | `(tactic| fail) => `(tactic| ((with_reducible apply o_inTf); (focus rfl); (focus rfl); (focus (simp [inF, eqF, str_beq]; done))))
local macro_rules | `(tactic| fail) => `(tactic| ((with_reducible apply o_inTt); (focus rfl); (focus rfl); (focus (simp [inF, eqF, str_beq]; done))))
local macro_rules | `(tactic| fail) => `(tactic| ((with_reducible apply o_subC); (focus ((repeat (first | with_reducible exact lk_hit | ((with_reducible apply lk_miss); (focus (exact str_ne (by decide)))))); done))))
local macro_rules | `(tactic| fail) => `(tactic| ((with_reducible apply o_inC); (focus ((repeat (first | with_reducible exact lk_hit | ((with_reducible apply lk_miss); (focus (exact str_ne (by decide)))))); done))))
local macro_rules | `(tactic| fail) => `(tactic| ((with_reducible apply o_ninC); (focus ((repeat (first | with_reducible exact lk_hit | ((with_reducible apply lk_miss); (focus (exact str_ne (by decide)))))); done))))
local macro_rules | `(tactic| fail) => `(tactic| ((with_reducible apply o_isinF); (focus rfl); (focus (decide +kernel))))
local macro_rules | `(tactic| fail) => `(tactic| ((with_reducible apply o_isinT); (focus rfl); (focus (decide +kernel))))
local macro_rules | `(tactic| fail) => `(tactic| with_reducible refine i_enm ?_)
local macro_rules | `(tactic| fail) => `(tactic| ((with_reducible apply g_tup); (focus rfl); (focus rfl)))
local macro_rules | `(tactic| fail) => `(tactic| ((with_reducible apply v_dctN); (focus (decide +kernel))))
local macro_rules | `(tactic| fail) => `(tactic| ((with_reducible apply o_len); (focus (exact len_ref (by (first | assumption | exact updS_same | exact upd_at (by assumption) (by assumption)))))))
local macro_rules | `(tactic| fail) => `(tactic| ((with_reducible apply o_tuple); (focus (first | rfl | exact items_ref (by (first | assumption | exact updS_same | exact upd_at (by assumption) (by assumption)))))))
local macro_rules | `(tactic| fail) => `(tactic| ((with_reducible apply o_get2); (focus (first | assumption | exact updS_same | exact upd_at (by assumption) (by assumption))); (focus rfl); (focus ((repeat (first | with_reducible exact getD_hit | with_reducible exact getD_nil | ((with_reducible apply getD_miss); (focus (exact str_ne (by decide)))))); done))))
local macro_rules | `(tactic| fail) => `(tactic| ((with_reducible apply o_get1); (focus (first | assumption | exact updS_same | exact upd_at (by assumption) (by assumption))); (focus rfl); (focus ((repeat (first | with_reducible exact getD_hit | with_reducible exact getD_nil | ((with_reducible apply getD_miss); (focus (exact str_ne (by decide)))))); done))))
local macro_rules | `(tactic| fail) => `(tactic| ((with_reducible refine And.intro ?_ ?_); (focus (first | exact recvL (by (first | assumption | exact updS_same | exact upd_at (by assumption) (by assumption))) rfl | exact recvD (by (first | assumption | exact updS_same | exact upd_at (by assumption) (by assumption))) rfl))))
local macro_rules | `(tactic| fail) => `(tactic| ((with_reducible apply o_subD); (focus (first | assumption | exact updS_same | exact upd_at (by assumption) (by assumption))); (focus rfl); (focus ((repeat (first | with_reducible exact lookD_hit | ((with_reducible apply look_miss); (focus (exact str_ne (by decide)))))); done))))
local macro_rules | `(tactic| fail) => `(tactic| ((with_reducible apply c_ndF); (focus (((try simp only [List.length_cons, List.length_nil, List.length_append, List.length_map]); omega)))))
local macro_rules | `(tactic| fail) => `(tactic| ((with_reducible apply c_ndT); (focus (((try simp only [List.length_cons, List.length_nil, List.length_append, List.length_map]); omega)))))
local macro_rules | `(tactic| fail) => `(tactic| with_reducible refine o_intB ?_)
local macro_rules | `(tactic| fail) => `(tactic| ((with_reducible apply c_decF); (focus (((try simp only [List.length_cons, List.length_nil, List.length_append, List.length_map]); omega)))))
local macro_rules | `(tactic| fail) => `(tactic| ((with_reducible apply c_decT); (focus (((try simp only [List.length_cons, List.length_nil, List.length_append, List.length_map]); omega)))))
local macro_rules | `(tactic| fail) => `(tactic| with_reducible refine c_notf ?_)
local macro_rules | `(tactic| fail) => `(tactic| with_reducible refine c_nott ?_)
local macro_rules | `(tactic| fail) => `(tactic| with_reducible refine o_eqI ?_)
local macro_rules | `(tactic| fail) => `(tactic| ((with_reducible apply o_eqIf); (focus (((try simp only [List.length_cons, List.length_nil, List.length_append, List.length_map]); omega)))))
local macro_rules | `(tactic| fail) => `(tactic| ((with_reducible apply o_eqIt); (focus (((try simp only [List.length_cons, List.length_nil, List.length_append, List.length_map]); omega)))))
local macro_rules | `(tactic| fail) => `(tactic| with_reducible refine o_isB ?_)
local macro_rules | `(tactic| fail) => `(tactic| with_reducible refine o_isN ?_)
local macro_rules | `(tactic| fail) => `(tactic| with_reducible refine o_isR ?_)
local macro_rules | `(tactic| fail) => `(tactic| with_reducible refine o_eqB ?_)
local macro_rules | `(tactic| fail) => `(tactic| ((with_reducible apply o_neIf); (focus (((try simp only [List.length_cons, List.length_nil, List.length_append, List.length_map]); omega)))))
local macro_rules | `(tactic| fail) => `(tactic| ((with_reducible apply o_neIt); (focus (((try simp only [List.length_cons, List.length_nil, List.length_append, List.length_map]); omega)))))
local macro_rules | `(tactic| fail) => `(tactic| with_reducible refine o_neII ?_)
local macro_rules | `(tactic| fail) => `(tactic| with_reducible refine o_neBB ?_)
local macro_rules | `(tactic| fail) => `(tactic| ((with_reducible apply o_eqSf); (focus decide)))
local macro_rules | `(tactic| fail) => `(tactic| ((with_reducible apply o_atr); (focus rfl)))
local macro_rules | `(tactic| fail) => `(tactic| with_reducible refine o_isx ?_)
local macro_rules | `(tactic| fail) => `(tactic| with_reducible refine o_eqSt ?_)
local macro_rules | `(tactic| fail) => `(tactic| ((with_reducible apply o_len); focus (first | rfl | (simp only [lenD]; simp only [*]; done))))
local macro_rules | `(tactic| fail) => `(tactic| ((with_reducible apply o_setL); (focus (first | assumption | exact updS_same | exact upd_at (by assumption) (by assumption))); (focus rfl)))
local macro_rules | `(tactic| fail) => `(tactic| ((with_reducible refine And.intro ?_ ?_); (focus (first | exact selfOk (by (first | assumption | exact updS_same | exact upd_at (by assumption) (by assumption))) rfl | exact insOk (by (first | assumption | exact updS_same | exact upd_at (by assumption) (by assumption)))))))
local macro_rules | `(tactic| fail) => `(tactic| ((with_reducible apply o_setf); (focus (first | assumption | exact updS_same | exact upd_at (by assumption) (by assumption))); (focus (exact Nat.le_of_ble_eq_true rfl))))
local macro_rules | `(tactic| fail) => `(tactic| ((with_reducible apply o_fld); (focus (first | assumption | exact updS_same | exact upd_at (by assumption) (by assumption))); (focus rfl)))
local macro_rules | `(tactic| fail) => `(tactic| ((with_reducible apply o_subT); focus (rfl)))
local macro_rules | `(tactic| fail) => `(tactic| ((with_reducible apply o_subL); (focus (first | assumption | exact updS_same | exact upd_at (by assumption) (by assumption))); (focus rfl)))
local macro_rules | `(tactic| fail) => `(tactic| ((with_reducible apply o_pow); focus (unfold CPow; omega)))
local macro_rules | `(tactic| fail) => `(tactic| ((with_reducible apply o_mod); focus (omega)))
local macro_rules | `(tactic| fail) => `(tactic| ((with_reducible apply o_div); focus (unfold CDiv; omega)))
local macro_rules | `(tactic| fail) => `(tactic| ((with_reducible apply o_mul); focus (unfold CMul; omega)))
local macro_rules | `(tactic| fail) => `(tactic| ((with_reducible apply v_glob); focus (first | assumption | rfl)))
local macro_rules | `(tactic| fail) => `(tactic| ((with_reducible apply t_var); focus (rfl)))
local macro_rules | `(tactic| fail) => `(tactic| ((with_reducible apply v_var); focus (rfl)))
local macro_rules | `(tactic| fail) => `(tactic| with_reducible refine c_false ?_)
local macro_rules | `(tactic| fail) => `(tactic| with_reducible refine c_true ?_)
local macro_rules | `(tactic| fail) => `(tactic| with_reducible refine o_ge ?_)
local macro_rules | `(tactic| fail) => `(tactic| with_reducible refine o_gt ?_)
local macro_rules | `(tactic| fail) => `(tactic| with_reducible refine o_le ?_)
local macro_rules | `(tactic| fail) => `(tactic| with_reducible refine o_lt ?_)
local macro_rules | `(tactic| fail) => `(tactic| with_reducible refine o_sub ?_)
local macro_rules | `(tactic| fail) => `(tactic| with_reducible refine o_add ?_)
local macro_rules | `(tactic| fail) => `(tactic| with_reducible refine o_sub1 ?_)
local macro_rules | `(tactic| fail) => `(tactic| with_reducible refine o_sub0 ?_)
local macro_rules | `(tactic| fail) => `(tactic| with_reducible refine i_rng1 ?_)
local macro_rules | `(tactic| fail) => `(tactic| with_reducible refine i_seq ?_)
local macro_rules | `(tactic| fail) => `(tactic| with_reducible refine g_cons ?_)
local macro_rules | `(tactic| fail) => `(tactic| with_reducible refine g_nil ?_)
local macro_rules | `(tactic| fail) => `(tactic| with_reducible refine g_nm ?_)
local macro_rules | `(tactic| fail) => `(tactic| with_reducible refine ts_one ?_)
local macro_rules | `(tactic| fail) => `(tactic| with_reducible refine ts_nil ?_)
local macro_rules | `(tactic| fail) => `(tactic| with_reducible refine tr_int ?_)
local macro_rules | `(tactic| fail) => `(tactic| with_reducible refine tr_bl ?_)
local macro_rules | `(tactic| fail) => `(tactic| with_reducible refine tb_or ?_)
local macro_rules | `(tactic| fail) => `(tactic| with_reducible refine tb_and ?_)
local macro_rules | `(tactic| fail) => `(tactic| with_reducible refine tb_one ?_)
local macro_rules | `(tactic| fail) => `(tactic| with_reducible refine t_chain ?_)
local macro_rules | `(tactic| fail) => `(tactic| with_reducible refine t_sub ?_)
local macro_rules | `(tactic| fail) => `(tactic| with_reducible refine t_blt ?_)
local macro_rules | `(tactic| fail) => `(tactic| with_reducible refine t_call ?_)
local macro_rules | `(tactic| fail) => `(tactic| with_reducible refine t_cmp ?_)
local macro_rules | `(tactic| fail) => `(tactic| with_reducible refine t_nt ?_)
local macro_rules | `(tactic| fail) => `(tactic| with_reducible refine t_bop ?_)
local macro_rules | `(tactic| fail) => `(tactic| with_reducible refine vb_or ?_)
local macro_rules | `(tactic| fail) => `(tactic| with_reducible refine vb_and ?_)
local macro_rules | `(tactic| fail) => `(tactic| with_reducible refine vb_one ?_)
local macro_rules | `(tactic| fail) => `(tactic| with_reducible refine vo_some ?_)
local macro_rules | `(tactic| fail) => `(tactic| with_reducible refine vo_none ?_)
local macro_rules | `(tactic| fail) => `(tactic| with_reducible refine vs_cons ?_)
local macro_rules | `(tactic| fail) => `(tactic| with_reducible refine vs_nil ?_)
local macro_rules | `(tactic| fail) => `(tactic| with_reducible refine s_try ?_)
local macro_rules | `(tactic| fail) => `(tactic| with_reducible refine s_setf ?_)
local macro_rules | `(tactic| fail) => `(tactic| with_reducible refine v_eqo ?_)
local macro_rules | `(tactic| fail) => `(tactic| with_reducible refine t_isc ?_)
local macro_rules | `(tactic| fail) => `(tactic| with_reducible refine v_isc ?_)
local macro_rules | `(tactic| fail) => `(tactic| with_reducible refine t_meth ?_)
local macro_rules | `(tactic| fail) => `(tactic| with_reducible refine v_meth ?_)
local macro_rules | `(tactic| fail) => `(tactic| with_reducible refine v_new ?_)
local macro_rules | `(tactic| fail) => `(tactic| with_reducible refine v_fld ?_)
local macro_rules | `(tactic| fail) => `(tactic| with_reducible refine v_atr ?_)
local macro_rules | `(tactic| fail) => `(tactic| with_reducible refine v_isx ?_)
local macro_rules | `(tactic| fail) => `(tactic| with_reducible refine v_back ?_)
local macro_rules | `(tactic| fail) => `(tactic| with_reducible refine v_lc ?_)
local macro_rules | `(tactic| fail) => `(tactic| with_reducible refine v_mth ?_)
local macro_rules | `(tactic| fail) => `(tactic| with_reducible refine v_lzip ?_)
local macro_rules | `(tactic| fail) => `(tactic| with_reducible refine v_lrev ?_)
local macro_rules | `(tactic| fail) => `(tactic| with_reducible refine v_blt ?_)
local macro_rules | `(tactic| fail) => `(tactic| with_reducible refine v_call ?_)
local macro_rules | `(tactic| fail) => `(tactic| with_reducible refine v_slice ?_)
local macro_rules | `(tactic| fail) => `(tactic| with_reducible refine v_sub ?_)
local macro_rules | `(tactic| fail) => `(tactic| with_reducible refine v_lst ?_)
local macro_rules | `(tactic| fail) => `(tactic| with_reducible refine v_tup ?_)
local macro_rules | `(tactic| fail) => `(tactic| with_reducible refine v_ite ?_)
local macro_rules | `(tactic| fail) => `(tactic| with_reducible refine v_nt ?_)
local macro_rules | `(tactic| fail) => `(tactic| with_reducible refine v_bop ?_)
local macro_rules | `(tactic| fail) => `(tactic| with_reducible refine v_cmp ?_)
local macro_rules | `(tactic| fail) => `(tactic| with_reducible refine v_bin ?_)
local macro_rules | `(tactic| fail) => `(tactic| with_reducible refine v_bty ?_)
local macro_rules | `(tactic| fail) => `(tactic| with_reducible refine v_str ?_)
local macro_rules | `(tactic| fail) => `(tactic| with_reducible refine v_non ?_)
local macro_rules | `(tactic| fail) => `(tactic| with_reducible refine v_bl ?_)
local macro_rules | `(tactic| fail) => `(tactic| with_reducible refine v_int ?_)
local macro_rules | `(tactic| fail) => `(tactic| with_reducible refine s_cont ?_)
local macro_rules | `(tactic| fail) => `(tactic| with_reducible refine s_brk ?_)
local macro_rules | `(tactic| fail) => `(tactic| with_reducible refine s_nil ?_)
local macro_rules | `(tactic| fail) => `(tactic| with_reducible refine s_pass ?_)
local macro_rules | `(tactic| fail) => `(tactic| with_reducible refine s_retN ?_)
local macro_rules | `(tactic| fail) => `(tactic| with_reducible refine s_ret ?_)
local macro_rules | `(tactic| fail) => `(tactic| with_reducible refine s_ife ?_)
local macro_rules | `(tactic| fail) => `(tactic| with_reducible refine s_set ?_)
local macro_rules | `(tactic| fail) => `(tactic| with_reducible refine s_par ?_)
local macro_rules | `(tactic| fail) => `(tactic| with_reducible refine s_asg ?_)
local macro_rules | `(tactic| fail) => `(tactic| with_reducible refine s_ex ?_)

theorem spec_down (hd : defs "_law_down" = some dLDown) {n : Nat} {f : Int} {rows : List Row} {lp : Addr} {b : Int} (hk : 1 ≤ k) (hn : n ≤ 10) (hr : ∀ r ∈ rows, RowOk n f r) (hS : S lp = some (.lst (rows.map rowD))) (hb : -1 ≤ b ∧ b < n)
    (hq : ∀ S' p, S p = none → S' p = some (.lst (dL n (downD n rows (b + 1).toNat).1)) → Off [] S S' → Q (.tup [.ref p, .bl (downD n rows (b + 1).toNat).2]) S') : sem defs gl k "_law_down" [.int n, .ref lp, .int b] S Q E := by
  obtain ⟨k, rfl⟩ : ∃ j, k = j + 1 := ⟨k - 1, by omega⟩
  (refine sem_of hd rfl ?_; unfold dLDown; simp only [startD, List.map_cons, List.map_nil, List.length_cons, List.length_nil, List.replicate_succ, List.replicate_zero, List.cons_append, List.nil_append, Nat.reduceAdd, Nat.reduceSub])
  (repeat fail)
  intro q hq0
  (repeat fail)
  refine o_mulL updS_same (by omega) (by omega) (by simp) fun p hp => ?_
  rw [rep_dL]
  have hpS : S p = none := by
    cases z : S p with
    | none => rfl
    | some ob => rw [upd_at hq0 z] at hp; cases hp
  have nlp : lp ≠ p := fun z => by rw [z, hpS] at hS; cases hS
  have hS1 : updS (updS S q (.lst [.non])) p (.lst (dL n fun _ => none)) lp = some (.lst (rows.map rowD)) := upd_at hp (upd_at hq0 hS)
  have e1 : updS (updS S q (.lst [.non])) p (.lst (dL n fun _ => none)) p = some (.lst (dL n fun _ => none)) := updS_same
  have o1 : Off [p] S (updS (updS S q (.lst [.non])) p (.lst (dL n fun _ => none))) := (Off.new hq0).trans (Off.new hp)
  generalize updS (updS S q (.lst [.non])) p (.lst (dL n fun _ => none)) = S1 at hS1 e1 o1
  (repeat fail)
  obtain ⟨jb, ejb, _⟩ := dL_ix hb.1 hb.2
  refine o_setL (j := jb) e1 (by rw [dL_len]; exact ejb) ?_
  rw [show (D.int 0) = od (some 0) from rfl, dL_set hb.1 hb.2 ejb]
  have hS2 : updS S1 p (.lst (dL n (updF (fun _ => none) (b + 1).toNat (some 0)))) lp = some (.lst (rows.map rowD)) := by rw [updS_ne nlp]; exact hS1
  have e2 : updS S1 p (.lst (dL n (updF (fun _ => none) (b + 1).toNat (some 0)))) p = some (.lst (dL n (itD rows (b + 1).toNat 0).1)) := updS_same
  have o2 : Off [p] S (updS S1 p (.lst (dL n (updF (fun _ => none) (b + 1).toNat (some 0))))) := o1.trans (Off.upd (by simp))
  generalize updS S1 p (.lst (dL n (updF (fun _ => none) (b + 1).toNat (some 0)))) = S2 at hS2 e2 o2
  generalize hB : (b + 1).toNat = B at *
  (repeat fail)
  refine s_fr (i_rng1 ?_)
  (repeat fail)
  refine ⟨by omega, by omega, ?_⟩
  rw [show ((n : Int) + 2).toNat = n + 2 by omega]
  refine for_rng (fun t σ S' => S' p = some (.lst (dL n (itD rows B t).1)) ∧ S' lp = some (.lst (rows.map rowD)) ∧ Off [p] S S' ∧ ∃ x5 x6 x7 x8, σ = [some (.int n), some (.ref lp), some (.int b), some (.ref p), some (.bl (itD rows B t).2), x5, x6, x7, x8]) (fun _ _ _ _ => trivial) ?_ ?_ ⟨e2, hS2, o2, _, _, _, _, rfl⟩
  · rintro σ S3 ⟨e3, _, o3, x5, x6, x7, x8, rfl⟩
    (repeat fail)
    exact hq _ _ hpS e3 (Off.drop o3 hpS)
  · rintro t σ S3 N ht ⟨e3, hS3, o3, x5, x6, x7, x8, rfl⟩ hN
    (repeat fail)
    refine s_fr (i_seq ?_)
    (repeat fail)
    refine .inr (.inr ⟨_, _, rfl, hS3, ?_⟩)
    refine for_ind (fun r σ S' => ∃ dn td, rows = dn ++ td ∧ r = td.map rowD ∧ S' p = some (.lst (dL n (dn.foldl stepD ((itD rows B t).1, false)).1)) ∧ S' lp = some (.lst (rows.map rowD)) ∧ Off [p] S S' ∧
        ∃ x6 x7 x8, σ = [some (.int n), some (.ref lp), some (.int b), some (.ref p), some (.bl (dn.foldl stepD ((itD rows B t).1, false)).2), some (.int (t : Nat)), x6, x7, x8]) (fun _ _ _ ⟨_, _, _, _, _, z, _⟩ => z) ?_ ?_ _ _ _ ⟨[], rows, rfl, rfl, e3, hS3, o3, _, _, _, rfl⟩
    · rintro σ S4 ⟨dn, td, er, e1, e4, hS4, o4, x6, x7, x8, rfl⟩
      have htd : td = [] := by cases td with | nil => rfl | cons _ _ => cases e1
      subst htd
      rw [List.append_nil] at er
      subst er
      exact hN _ _ ⟨e4, hS4, o4, _, _, _, _, rfl⟩
    · rintro d r σ S4 N2 ⟨dn, td, er, e1, e4, hS4, o4, x6, x7, x8, rfl⟩ hN2
      cases td with
      | nil => cases e1
      | cons q td =>
        simp only [List.map_cons, List.cons.injEq] at e1
        obtain ⟨rfl, rfl⟩ := e1
        obtain ⟨q1, q2, q3, q4, q5, q6⟩ := hr q (by rw [er]; simp)
        have hfold : (dn ++ [q]).foldl stepD ((itD rows B t).1, false) = stepD (dn.foldl stepD ((itD rows B t).1, false)) q := by rw [List.foldl_append]; rfl
        generalize dn.foldl stepD ((itD rows B t).1, false) = s at e4 hfold
        have go : ∀ S' fl x6 x7 x8, S' p = some (.lst (dL n (stepD s q).1)) → S' lp = some (.lst (rows.map rowD)) → Off [p] S S' → fl = (stepD s q).2 → N2 [some (.int n), some (.ref lp), some (.int b), some (.ref p), some (.bl fl), some (.int (t : Nat)), x6, x7, x8] S' := fun S' fl x6 x7 x8 h1 h2 h3 h4 => by
          subst h4
          exact hN2 _ _ ⟨dn ++ [q], td, by rw [er]; simp, rfl, by rw [hfold]; exact h1, h2, h3, x6, x7, x8, by rw [hfold]⟩
        rw [show rowD q = .tup [.int q.1, .int q.2.1, .int q.2.2] from rfl]
        (repeat fail)
        refine o_subL e4 (dL_at q3 (by omega)) ?_
        cases hd1 : s.1 (to q) with
        | none =>
          have hst : stepD s q = s := by unfold stepD; rw [hd1]
          rw [show od none = .non from rfl]
          (repeat fail)
          refine o_isnN ?_
          (repeat fail)
          exact go _ _ _ _ _ (by rw [hst]; exact e4) hS4 o4 (by rw [hst])
        | some d1 =>
          have g1 : atI (dL n s.1) q.2.1 = some (.int d1) := (dL_at q3 (by omega)).trans (congrArg (fun z => some (od z)) hd1)
          rw [show od (some d1) = .int d1 from rfl]
          (repeat fail)
          refine o_isnI ?_
          (repeat fail)
          refine o_subL e4 (dL_at q1 (by omega)) ?_
          obtain ⟨ji, eji, _⟩ := dL_ix (n := n) q1 (by omega)
          cases hd2 : s.1 (fr q) with
          | none =>
            have hst : stepD s q = (updF s.1 (fr q) (some (d1 + q.2.2)), true) := by unfold stepD; rw [hd1]; simp only; rw [hd2]
            rw [show od none = .non from rfl]
            (repeat fail)
            refine o_subL e4 g1 ?_
            (repeat fail)
            refine o_setL (j := ji) e4 (by rw [dL_len]; exact eji) ?_
            rw [show (D.int (d1 + q.2.2)) = od (some (d1 + q.2.2)) from rfl, dL_set q1 (by omega) eji]
            (repeat fail)
            exact go _ _ _ _ _ (by rw [hst, updS_same]) (by rw [updS_ne nlp]; exact hS4) (o4.trans (Off.upd (by simp))) (by rw [hst])
          | some d2 =>
            have g2 : atI (dL n s.1) q.1 = some (.int d2) := (dL_at q1 (by omega)).trans (congrArg (fun z => some (od z)) hd2)
            rw [show od (some d2) = .int d2 from rfl]
            (repeat fail)
            refine o_isIN ?_
            (repeat fail)
            refine o_subL e4 g1 ?_
            (repeat fail)
            refine o_subL e4 g2 ?_
            (repeat fail)
            refine c_dec (fun hlt => ?_) (fun hlt => ?_)
            · have hst : stepD s q = (updF s.1 (fr q) (some (d1 + q.2.2)), true) := by unfold stepD; rw [hd1]; simp only; rw [hd2]; simp only; rw [if_pos hlt]
              (repeat fail)
              refine o_subL e4 g1 ?_
              (repeat fail)
              refine o_setL (j := ji) e4 (by rw [dL_len]; exact eji) ?_
              rw [show (D.int (d1 + q.2.2)) = od (some (d1 + q.2.2)) from rfl, dL_set q1 (by omega) eji]
              (repeat fail)
              exact go _ _ _ _ _ (by rw [hst, updS_same]) (by rw [updS_ne nlp]; exact hS4) (o4.trans (Off.upd (by simp))) (by rw [hst])
            · have hst : stepD s q = s := by unfold stepD; rw [hd1]; simp only; rw [hd2]; simp only; rw [if_neg hlt]
              (repeat fail)
              exact go _ _ _ _ _ (by rw [hst]; exact e4) hS4 o4 (by rw [hst])
end
end Z

set_option Elab.async false
set_option linter.all false
set_option maxRecDepth 100000
set_option maxHeartbeats 4000000
namespace Z
open PySem PySem.Spec PyProof.Rows L2

def dWall : DefT := ⟨1, 1, [
    .whil (.bl true) [.pass]]⟩


def dLIsEmpty : DefT := ⟨2, 3, [
    .ret (.cmp .NotEq (.lc (.nm 2) (.rng2 (.neg (.int 1)) (.var 0)) [(.sub (.call "_law_down" [(.var 0), (.var 1), (.var 2)]) (.int 1))] [("_law_k", 2)] (.int 1)) (.lst []))]⟩
def dLFollow : DefT := ⟨3, 7, [
    .fr (.tup [(.nm 3), (.nm 4), (.nm 5)]) (.seq (.var 1)) [.asg (.nm 6) (.sub (.sub (.call "_law_down" [(.var 0), (.var 2), (.var 4)]) (.int 0)) (.var 3)), .ife (.bop .Or [(.cmp .Is (.var 6) .non), (.cmp .Gt (.var 6) (.var 5))]) [.ret (.bl false)] []],
    .ret (.bl true)]⟩
def dLDue : DefT := ⟨3, 3, [
    .ife (.bop .Or [(.call "_law_is_empty" [(.var 0), (.var 1)]), (.call "_law_is_empty" [(.var 0), (.var 2)])]) [.ret (.bop .And [(.call "_law_is_empty" [(.var 0), (.var 1)]), (.call "_law_is_empty" [(.var 0), (.var 2)])])] [],
    .ret (.bop .And [(.call "_law_follow" [(.var 0), (.var 1), (.var 2)]), (.call "_law_follow" [(.var 0), (.var 2), (.var 1)])])]⟩
def dLMore : DefT := ⟨3, 9, [
    .asg (.nm 3) (.blt .list [(.var 2)]),
    .fr (.nm 4) (.rng1 (.int 2)) [.par 5 6 (.bin .Sub (.call "_law_draw" [(.var 0), (.bin .Add (.var 1) (.int 1))]) (.int 1)) (.bin .Sub (.call "_law_draw" [(.var 0), (.bin .Add (.var 1) (.int 1))]) (.int 1)), .asg (.nm 7) (.sub (.sub (.call "_law_down" [(.var 1), (.var 2), (.var 6)]) (.int 0)) (.var 5)), .ife (.bop .And [(.cmp .IsNot (.var 7) .non), (.cmp .Lt (.blt .abs [(.var 7)]) (.int 900))]) [.ex (.mth .append (.var 3) [(.tup [(.var 5), (.var 6), (.bin .Add (.var 7) (.call "_law_draw" [(.var 0), (.int 3)]))])])] []],
    .ife (.cmp .Gt (.blt .len [(.var 3)]) (.int 0)) [.asg (.nm 8) (.call "_law_draw" [(.var 0), (.blt .len [(.var 3)])]), .asg (.nm 3) (.bin .Add (.bin .Add (.slice (.var 3) (some (.var 8)) none) (.slice (.var 3) none (some (.var 8)))) (.slice (.var 3) (some (.var 8)) (some (.bin .Add (.var 8) (.int 1)))))] [],
    .ret (.var 3)]⟩
def dLOtherwise : DefT := ⟨3, 8, [
    .ife (.cmp .Eq (.blt .len [(.var 2)]) (.int 0)) [.ret (.lst [(.tup [(.call "_law_draw" [(.var 0), (.var 1)]), (.neg (.int 1)), (.int 3)])])] [],
    .asg (.nm 3) (.call "_law_draw" [(.var 0), (.blt .len [(.var 2)])]),
    .asg (.tup [(.nm 4), (.nm 5), (.nm 6)]) (.sub (.var 2) (.var 3)),
    .asg (.nm 7) (.sub (.lst [(.tup [(.var 4), (.var 5), (.bin .Sub (.var 6) (.int 1))]), (.tup [(.var 4), (.var 5), (.bin .Add (.var 6) (.int 1))]), (.tup [(.var 5), (.var 4), (.var 6)]), (.tup [(.var 4), (.call "_law_draw" [(.var 0), (.var 1)]), (.var 6)])]) (.call "_law_draw" [(.var 0), (.int 4)])),
    .ret (.bin .Add (.bin .Add (.slice (.var 2) none (some (.var 3))) (.lst [(.var 7)])) (.slice (.var 2) (some (.bin .Add (.var 3) (.int 1))) none))]⟩
def dLaw : DefT := ⟨1, 12, [
    .fr (.nm 1) (.rng1 (.blt .max [(.int 1), (.blt .min [(.int 3), (.blt .len [(.var 0)])])])) [.asg (.nm 2) (.call "_law_flow" [(.var 0), (.var 1)]), .asg (.nm 3) (.bin .Add (.int 1) (.call "_law_draw" [(.var 2), (.int 4)])), .asg (.nm 4) (.call "_law_rows" [(.var 2), (.var 3), (.int 8), (.sub (.lst [(.int 2), (.int 5)]) (.call "_law_draw" [(.var 2), (.int 2)]))]), .asg (.nm 5) (.lst [(.var 4), (.call "_law_more" [(.var 2), (.var 3), (.var 4)]), (.call "_law_otherwise" [(.var 2), (.var 3), (.var 4)]), (.lst [(.tup [(.neg (.int 1)), (.int 0), (.neg (.int 3))]), (.tup [(.int 0), (.neg (.int 1)), (.int 2)])])]), .asg (.nm 6) (.lc (.nm 11) (.seq (.var 5)) [] [("_law_one", 11)] (.new "Bounds.__init__" "Bounds" [(.var 3), (.var 11)])), .fr (.nm 7) (.rng1 (.int 4)) [.fr (.nm 8) (.rng1 (.int 4)) [.asg (.nm 9) (.call "_law_due" [(.var 3), (.sub (.var 5) (.var 7)), (.sub (.var 5) (.var 8))]), .ife (.bop .Or [(.cmp .NotEq (.cmpo .Eq "Bounds.__eq__" "Bounds" (.sub (.var 6) (.var 7)) (.sub (.var 6) (.var 8))) (.var 9)), (.cmp .Eq (.cmpo .NotEq "Bounds.__eq__" "Bounds" (.sub (.var 6) (.var 7)) (.sub (.var 6) (.var 8))) (.var 9)), (.cmp .NotEq (.cmpo .In "Bounds.__eq__" "Bounds" (.sub (.var 6) (.var 7)) (.lst [(.sub (.var 6) (.var 8))])) (.var 9))]) [.ret (.bl false)] []]], .asg (.nm 10) (.new "Bounds.__init__" "Bounds" [(.bin .Add (.var 3) (.int 1)), (.var 4)]), .ife (.bop .Or [(.cmpo .Eq "Bounds.__eq__" "Bounds" (.var 10) (.sub (.var 6) (.int 0))), (.cmpo .In "Bounds.__eq__" "Bounds" (.sub (.var 6) (.int 0)) (.lst [.non, (.int 7), (.var 3), (.blt .tuple [(.var 4)]), (.rpo "Bounds.__repr__" "Bounds" (.sub (.var 6) (.int 0)))])), (.cmpo .Eq "Bounds.__eq__" "Bounds" (.sub (.var 6) (.int 0)) (.var 4))]) [.ret (.bl false)] [], .ife (.cmp .NotEq (.lc (.nm 11) (.seq (.var 6)) [] [("_law_one", 11)] (.meth "Bounds.rows" "Bounds" "rows" (.var 11) [])) (.lc (.nm 11) (.seq (.var 5)) [] [("_law_one", 11)] (.blt .tuple [(.var 11)]))) [.ret (.bl false)] []],
    .ret (.bl true)]⟩
def dBoundsRepr : DefT := ⟨1, 1, [
    .ret (.fs2 "Bounds(" (.fld (.var 0) "many") ", " (.blt .len [(.fld (.var 0) "given")]) ")")]⟩
def table : List (Str × DefT) := [("_wall", dWall), ("closed", dClosed), ("_law_cell", dLCell), ("_law_flow", dLFlowB), ("_law_draw", dLDrawB), ("_law_rows", dLRows), ("_law_down", dLDown), ("_law_is_empty", dLIsEmpty), ("_law_follow", dLFollow), ("_law_due", dLDue), ("_law_more", dLMore), ("_law_otherwise", dLOtherwise), ("law", dLaw), ("Bounds.__eq__", dBoundsEq), ("Bounds.__init__", dBoundsInit), ("Bounds.__repr__", dBoundsRepr), ("Bounds.rows", dBoundsRows), ("Bounds.is_empty", dBoundsIsEmpty)]
def defs (f : Str) : Option DefT := table.lookup f
theorem df_dClosed : defs "closed" = some dClosed := by rfl
theorem df_dLCell : defs "_law_cell" = some dLCell := by rfl
theorem df_dLFlowB : defs "_law_flow" = some dLFlowB := by rfl
theorem df_dLDrawB : defs "_law_draw" = some dLDrawB := by rfl
theorem df_dLRows : defs "_law_rows" = some dLRows := by rfl
theorem df_dLDown : defs "_law_down" = some dLDown := by rfl
theorem df_dLIsEmpty : defs "_law_is_empty" = some dLIsEmpty := by rfl
theorem df_dLFollow : defs "_law_follow" = some dLFollow := by rfl
theorem df_dLDue : defs "_law_due" = some dLDue := by rfl
theorem df_dLMore : defs "_law_more" = some dLMore := by rfl
theorem df_dLOtherwise : defs "_law_otherwise" = some dLOtherwise := by rfl
theorem df_dLaw : defs "law" = some dLaw := by rfl
theorem df_dBoundsEq : defs "Bounds.__eq__" = some dBoundsEq := by rfl
theorem df_dBoundsInit : defs "Bounds.__init__" = some dBoundsInit := by rfl
theorem df_dBoundsRepr : defs "Bounds.__repr__" = some dBoundsRepr := by rfl
theorem df_dBoundsRows : defs "Bounds.rows" = some dBoundsRows := by rfl
theorem df_dBoundsIsEmpty : defs "Bounds.is_empty" = some dBoundsIsEmpty := by rfl
end Z

set_option Elab.async false
set_option linter.all false
set_option maxRecDepth 100000
set_option maxHeartbeats 4000000
namespace Z
open PySem PySem.Spec PyProof.Rows L2
section
variable {rows : List Row} {n b : Nat} {f : Int} {M : Mx}
theorem stepD_le (s : Sm × Bool) (r : Row) (x : Nat) : ole ((stepD s r).1 x) (s.1 x) := by
  unfold stepD
  split
  · exact ole.rfl' _
  · rename_i d e
    split
    · rename_i e2
      by_cases hx : x = fr r
      · rw [hx, e2]; cases h : updF s.1 (fr r) (some (d + r.2.2)) (fr r) <;> simp [ole]
      · dsimp only; rw [updF_n hx]; exact ole.rfl' _
    · rename_i v e2
      split
      · rename_i hlt
        by_cases hx : x = fr r
        · dsimp only; rw [hx, e2, updF_s]; simp only [ole]; omega
        · dsimp only; rw [updF_n hx]; exact ole.rfl' _
      · exact ole.rfl' _
theorem stepD_at (s : Sm × Bool) (r : Row) {d : Int} (e : s.1 (to r) = some d) : ole ((stepD s r).1 (fr r)) (some (d + r.2.2)) := by
  unfold stepD
  rw [e]
  simp only
  split
  · dsimp only; rw [updF_s]; exact Int.le_refl _
  · rename_i v e2
    split
    · dsimp only; rw [updF_s]; exact Int.le_refl _
    · rw [e2]; simp only [ole]; omega
theorem fold_le : ∀ (rs : List Row) (s : Sm × Bool) (x : Nat), ole ((rs.foldl stepD s).1 x) (s.1 x)
  | [], s, x => ole.rfl' _
  | r :: rs, s, x => (fold_le rs (stepD s r) x).trans (stepD_le s r x)
theorem fold_at : ∀ (rs : List Row) (s : Sm × Bool) {r : Row} {d : Int}, r ∈ rs → ole (s.1 (to r)) (some d) → ole ((rs.foldl stepD s).1 (fr r)) (some (d + r.2.2))
  | r0 :: rs, s, r, d, hm, h => by
    rcases List.mem_cons.mp hm with rfl | hm
    · cases e : s.1 (to r) with
      | none => rw [e] at h; simp [ole] at h
      | some v =>
        rw [e] at h
        simp only [ole] at h
        exact (fold_le rs (stepD s r) _).trans ((stepD_at s r e).trans (by simp only [ole]; omega))
    · exact fold_at rs (stepD s r0) hm ((stepD_le s r0 _).trans h)
theorem turn_le (s : Sm) (x : Nat) : ole ((turnD rows s).1 x) (s x) := fold_le rows (s, false) x
theorem turn_at (s : Sm) {r : Row} {d : Int} (hm : r ∈ rows) (h : ole (s (to r)) (some d)) : ole ((turnD rows s).1 (fr r)) (some (d + r.2.2)) := fold_at rows (s, false) hm h
def Tgt (M : Mx) (b : Nat) (s : Sm) (x : Nat) : Prop := ∀ c, M x b = some c → s x = some c
theorem tgt_of (hf : 0 ≤ f) (hr : ∀ r ∈ rows, RowOk n f r) (g : Gd rows (n + 1) M) (t : Tri (n + 1) (n + 1) M) (hb : b < n + 1) {m : Nat} {x : Nat} {s : Sm} (ok : SmOk rows b f m s) {c : Int} (e : M x b = some c) (h : ole (s x) (some c)) : s x = some c := by
  cases q : s x with
  | none => rw [q] at h; simp [ole] at h
  | some v =>
    rw [q] at h
    simp only [ole] at h
    have := wk_le g t hr (ok.wk x v q) hb
    rw [e] at this
    simp only [ole] at this
    congr 1
    omega
theorem tgt_next (hf : 0 ≤ f) (hr : ∀ r ∈ rows, RowOk n f r) (g : Gd rows (n + 1) M) (t : Tri (n + 1) (n + 1) M) (hb : b < n + 1) {k x : Nat} (h : Tgt M b (itD rows b k).1 x) : Tgt M b (itD rows b (k + 1)).1 x := fun c e =>
  tgt_of hf hr g t hb (SmOk.it (b := b) hf hr (k + 1)) e (by
    have := turn_le (rows := rows) (itD rows b k).1 x
    rw [h c e] at this
    exact this)
theorem tgt_all (hf : 0 ≤ f) (hr : ∀ r ∈ rows, RowOk n f r) (g : Gd rows (n + 1) M) (t : Tri (n + 1) (n + 1) M) (hN : ¬ Neg (n + 1) M) (hb : b < n + 1) {k : Nat} (h : ∀ x, x < n + 1 → Tgt M b (itD rows b (k + 1)).1 x → Tgt M b (itD rows b k).1 x) {x : Nat} {c : Int} (w : Wk rows x b c) : M x b = some c → (itD rows b k).1 x = some c := by
  induction w with
  | nil i =>
    intro e
    obtain ⟨d, e1, hd⟩ := (SmOk.it (b := i) hf hr k).at_
    have wd := (SmOk.it (b := i) hf hr k).wk i d e1
    have := wk_ring g t hr hN hb wd
    rw [e1]
    congr 1
    omega
  | @cons i j b c d e w ih =>
    intro eM
    obtain ⟨hi, hj, _⟩ := eg_lt hr e
    have l1 := wk_le g t hr w hb
    cases q : M j b with
    | none => rw [q] at l1; simp [ole] at l1
    | some v =>
      rw [q] at l1
      simp only [ole] at l1
      have l2 := wk_le g t hr (Wk.cons e (g.snd _ _ _ q)) hb
      rw [eM] at l2
      simp only [ole] at l2
      have hv : d = v := by omega
      subst hv
      have hz := ih hb h q
      refine h i hi (fun c' e' => ?_) _ eM
      rw [eM] at e'
      cases e'
      refine tgt_of hf hr g t hb (SmOk.it (b := b) hf hr (k + 1)) eM ?_
      obtain ⟨r, hm, h1, h2, h3⟩ := e
      have e1 : fr r = i := by show (r.1 + 1).toNat = i; rw [h1]; exact Int.toNat_natCast _
      have e2 : to r = j := by show (r.2.1 + 1).toNat = j; rw [h2]; exact Int.toNat_natCast _
      have := turn_at (rows := rows) (itD rows b k).1 hm (d := d) (by rw [e2, hz]; exact Int.le_refl _)
      rw [e1, h3, Int.add_comm] at this
      exact this
open Classical in
noncomputable def cntT (rows : List Row) (n : Nat) (M : Mx) (b k : Nat) : Nat := (List.range (n + 1)).countP fun x => decide (Tgt M b (itD rows b k).1 x)
open Classical in
theorem countP_lt {α : Type} {p q : α → Bool} : ∀ {l : List α}, (∀ x ∈ l, p x = true → q x = true) → (∃ x ∈ l, p x = false ∧ q x = true) → l.countP p < l.countP q
  | [], _, ⟨x, h, _⟩ => by cases h
  | a :: l, h, ⟨x, hx, h1, h2⟩ => by
    have hm : l.countP p ≤ l.countP q := List.countP_mono_left fun y hy => h y (by simp [hy])
    rcases List.mem_cons.mp hx with rfl | hx
    · rw [List.countP_cons_of_neg (by rw [h1]; decide), List.countP_cons_of_pos h2]
      omega
    · have ih := countP_lt (fun y hy => h y (by simp [hy])) ⟨x, hx, h1, h2⟩
      by_cases ha : p a = true
      · rw [List.countP_cons_of_pos ha, List.countP_cons_of_pos (h a (by simp) ha)]
        omega
      · rw [List.countP_cons_of_neg ha]
        have := List.countP_le_length (p := q) (l := l)
        by_cases hb : q a = true
        · rw [List.countP_cons_of_pos hb]; omega
        · rw [List.countP_cons_of_neg hb]; exact ih
open Classical in
theorem tgt_some (hf : 0 ≤ f) (hr : ∀ r ∈ rows, RowOk n f r) (g : Gd rows (n + 1) M) (t : Tri (n + 1) (n + 1) M) (hb : b < n + 1) : ∃ k, k ≤ n + 1 ∧ ∀ x, x < n + 1 → Tgt M b (itD rows b (k + 1)).1 x → Tgt M b (itD rows b k).1 x := by
  by_cases h : ∃ k, k ≤ n + 1 ∧ ∀ x, x < n + 1 → Tgt M b (itD rows b (k + 1)).1 x → Tgt M b (itD rows b k).1 x
  · exact h
  · exfalso
    have up : ∀ k, k ≤ n + 1 → cntT rows n M b k < cntT rows n M b (k + 1) := fun k hk => by
      have : ∃ x, x < n + 1 ∧ Tgt M b (itD rows b (k + 1)).1 x ∧ ¬ Tgt M b (itD rows b k).1 x := by
        by_cases h2 : ∃ x, x < n + 1 ∧ Tgt M b (itD rows b (k + 1)).1 x ∧ ¬ Tgt M b (itD rows b k).1 x
        · exact h2
        · exact absurd ⟨k, hk, fun x hx hT => Classical.byContradiction fun hn => h2 ⟨x, hx, hT, hn⟩⟩ h
      obtain ⟨x, hx, h1, h2⟩ := this
      refine countP_lt (fun y _ hy => ?_) ⟨x, List.mem_range.mpr hx, by simpa using h2, by simpa using h1⟩
      exact decide_eq_true (tgt_next hf hr g t hb (of_decide_eq_true hy))
    have lo : ∀ k, k ≤ n + 2 → k ≤ cntT rows n M b k := fun k => by
      induction k with
      | zero => intro _; exact Nat.zero_le _
      | succ k ih => intro hk; have := ih (by omega); have := up k (by omega); omega
    have h1 := lo (n + 2) (Nat.le_refl _)
    have h2 : cntT rows n M b (n + 2) ≤ n + 1 := by
      have := List.countP_le_length (p := fun x => decide (Tgt M b (itD rows b (n + 2)).1 x)) (l := List.range (n + 1))
      rw [List.length_range] at this
      exact this
    omega
theorem tgt_add (hf : 0 ≤ f) (hr : ∀ r ∈ rows, RowOk n f r) (g : Gd rows (n + 1) M) (t : Tri (n + 1) (n + 1) M) (hb : b < n + 1) {k x : Nat} (h : Tgt M b (itD rows b k).1 x) : ∀ m, Tgt M b (itD rows b (k + m)).1 x
  | 0 => h
  | m + 1 => tgt_next hf hr g t hb (tgt_add hf hr g t hb h m)
theorem fold_still : ∀ (rs : List Row) {s : Sm × Bool}, (∀ r ∈ rs, stepD s r = s) → rs.foldl stepD s = s
  | [], s, _ => rfl
  | r :: rs, s, h => by rw [List.foldl_cons, h r (by simp)]; exact fold_still rs fun r' hr' => h r' (by simp [hr'])
theorem neg_calm (hf : 0 ≤ f) (hr : ∀ r ∈ rows, RowOk n f r) (g : Gd rows (n + 1) M) (t : Neg (n + 1) M ∨ Tri (n + 1) (n + 1) M) (hN : ¬ Neg (n + 1) M) : Calm n rows := fun b hb => by
  have tri := t.resolve_left hN
  have hb : b < n + 1 := by omega
  obtain ⟨k, hk, h⟩ := tgt_some hf hr g tri hb
  have all : ∀ x c, M x b = some c → (itD rows b (n + 1)).1 x = some c := fun x c e => by
    have h1 : Tgt M b (itD rows b k).1 x := fun c' e' => tgt_all hf hr g tri hN hb h (g.snd _ _ _ e') e'
    have := tgt_add hf hr g tri hb h1 (n + 1 - k) c e
    rwa [show k + (n + 1 - k) = n + 1 by omega] at this
  show (rows.foldl stepD ((itD rows b (n + 1)).1, false)).2 = false
  rw [fold_still rows fun r hm => ?_]
  unfold stepD
  cases e : (itD rows b (n + 1)).1 (to r) with
  | none => rfl
  | some d =>
    have wd := (SmOk.it (b := b) hf hr (n + 1)).wk _ d e
    have hok := hr r hm
    unfold RowOk at hok
    have wr := Wk.cons (rows := rows) (i := fr r) (j := to r) (c := r.2.2) ⟨r, hm, by show r.1 + 1 = (((r.1 + 1).toNat : Nat) : Int); omega, by show r.2.1 + 1 = (((r.2.1 + 1).toNat : Nat) : Int); omega, rfl⟩ wd
    have l := wk_le g tri hr wr hb
    cases q : M (fr r) b with
    | none => rw [q] at l; simp [ole] at l
    | some v =>
      rw [q] at l
      simp only [ole] at l
      have := all _ _ q
      simp only
      rw [this]
      simp only
      rw [if_neg (by omega)]
theorem calm_iff (hf : 0 ≤ f) (hr : ∀ r ∈ rows, RowOk n f r) (g : Gd rows (n + 1) M) (t : Neg (n + 1) M ∨ Tri (n + 1) (n + 1) M) : Calm n rows ↔ ¬ Neg (n + 1) M :=
  ⟨fun h z => calm_neg hf hr h ((neg_iff hr g t).mp z), neg_calm hf hr g t⟩
def Fol (n : Nat) (M : Mx) (rows : List Row) : Prop := ∀ r ∈ rows, ole (M (fr r) (to r)) (some r.2.2)
theorem fol_walk {rows' : List Row} {M' : Mx} (hr : ∀ r ∈ rows, RowOk n f r) (g' : Gd rows' (n + 1) M') (t' : Tri (n + 1) (n + 1) M') (h : Fol n M' rows) {i j : Nat} {c : Int} (w : Wk rows i j c) (hj : j < n + 1) : ole (M' i j) (some c) := by
  induction w with
  | nil i => exact g'.dg i hj
  | @cons i j k c d e w ih =>
    obtain ⟨hi, hj2, _⟩ := eg_lt hr e
    have ih := ih hj
    have l : ole (M' i j) (some c) := by
      obtain ⟨r, hm, h1, h2, h3⟩ := e
      have e1 : fr r = i := by show (r.1 + 1).toNat = i; rw [h1]; exact Int.toNat_natCast _
      have e2 : to r = j := by show (r.2.1 + 1).toNat = j; rw [h2]; exact Int.toNat_natCast _
      have := h r hm
      rw [e1, e2, h3] at this
      exact this
    have tr := t' j hj2 i k hi hj
    cases q1 : M' i j with
    | none => rw [q1] at l; simp [ole] at l
    | some a =>
      cases q2 : M' j k with
      | none => rw [q2] at ih; simp [ole] at ih
      | some b2 =>
        rw [q1] at l
        rw [q2] at ih
        rw [q1, q2] at tr
        simp only [ole] at l ih
        refine tr.trans ?_
        simp only [oadd, ole]
        omega
theorem eqn_iff {rows' : List Row} {M' : Mx} (hr : ∀ r ∈ rows, RowOk n f r) (hr' : ∀ r ∈ rows', RowOk n f r) (g : Gd rows (n + 1) M) (t : Tri (n + 1) (n + 1) M) (g' : Gd rows' (n + 1) M') (t' : Tri (n + 1) (n + 1) M') : Eqn (n + 1) M M' ↔ Fol n M' rows ∧ Fol n M rows' := by
  constructor
  · intro h
    refine ⟨fun r hm => ?_, fun r hm => ?_⟩
    · have hok := hr r hm
      unfold RowOk at hok
      rw [← h (fr r) (to r) (by show (r.1 + 1).toNat < n + 1; omega) (by show (r.2.1 + 1).toNat < n + 1; omega)]
      exact g.le r hm
    · have hok := hr' r hm
      unfold RowOk at hok
      rw [h (fr r) (to r) (by show (r.1 + 1).toNat < n + 1; omega) (by show (r.2.1 + 1).toNat < n + 1; omega)]
      exact g'.le r hm
  · rintro ⟨h1, h2⟩ a b ha hb
    have l1 : ∀ c, M a b = some c → ole (M' a b) (some c) := fun c e => fol_walk hr g' t' h1 (g.snd _ _ _ e) hb
    have l2 : ∀ c, M' a b = some c → ole (M a b) (some c) := fun c e => fol_walk hr' g t h2 (g'.snd _ _ _ e) hb
    cases q1 : M a b with
    | none =>
      cases q2 : M' a b with
      | none => rfl
      | some c => have := l2 c q2; rw [q1] at this; simp [ole] at this
    | some c =>
      have h3 := l1 c q1
      cases q2 : M' a b with
      | none => rw [q2] at h3; simp [ole] at h3
      | some d =>
        rw [q2] at h3
        have h4 := l2 d q2
        rw [q1] at h4
        simp only [ole] at h3 h4
        rw [show c = d by omega]
def Due (n : Nat) (M M' : Mx) : Prop := (Neg (n + 1) M ∧ Neg (n + 1) M') ∨ Eqn (n + 1) M M'
theorem neg_eqn {M' : Mx} (h : Eqn (n + 1) M M') : Neg (n + 1) M ↔ Neg (n + 1) M' :=
  ⟨fun ⟨i, hi, c, e, hc⟩ => ⟨i, hi, c, by rw [← h i i hi hi]; exact e, hc⟩, fun ⟨i, hi, c, e, hc⟩ => ⟨i, hi, c, by rw [h i i hi hi]; exact e, hc⟩⟩
end
end Z

set_option Elab.async false
set_option linter.all false
set_option maxRecDepth 100000
set_option maxHeartbeats 4000000
namespace Z
open PySem PySem.Spec PyProof.Rows L2
def glT : List (Str × D) := []
def gl (x : Str) : Option D := glT.lookup x
section
variable {k : Nat} {S : Sto} {Q : D → Sto → Prop} {E : Exc → Sto → Prop}
theorem o_eqBX {a b : Bool} (h : Q (.bl (a == b)) S) : wCmp .Eq (.bl a) (.bl b) S Q := by
  unfold wCmp wEq; simp only [toPS, toP]
  refine ⟨shB a, shB b, ?_⟩
  have e : PyData.eqv (.bool a) (.bool b) = (a == b) := by simp only [PyData.eqv]
  rw [e]
  exact h
theorem o_neLI {a b : Addr} {xs : List Int} (e : S a = some (.lst (xs.map D.int))) (e2 : S b = some (.lst [])) (h : Q (.bl (!decide (xs = []))) S) : wCmp .NotEq (.ref a) (.ref b) S Q := by
  have t : ∀ xs : List Int, toPs (xs.map D.int) = some (xs.map PyData.int) := fun xs => toPs_map (g := D.int) (g' := PyData.int) (fun _ => rfl) xs
  have s : ∀ xs : List Int, SeqAt.shaped (.list (xs.map PyData.int)) = true := fun xs => sh_pl (by rw [plP]; exact pls_map (fun _ => rfl) xs) (by
    have := dep_map (g := PyData.int) (m := 1) (fun _ => by simp [PyData.depth]) xs
    simp only [PyData.depth]
    omega)
  unfold wCmp wEq
  simp only [toPS, e, e2, t, show toPs [] = some [] from rfl]
  refine ⟨s xs, s [], ?_⟩
  have : PyData.eqv (.list (xs.map PyData.int)) (.list []) = decide (xs = []) := by cases xs <;> simp [PyData.eqv, PyData.eqvAll]
  rw [this]
  exact h
theorem o_sliceLB {a : Addr} {xs : List D} {lo hi : Option Int} (e : S a = some (.lst xs)) (h : ∀ p, S p = none → Q (.ref p) (updS S p (.lst (cutD xs lo hi)))) : wSlice (.ref a) lo hi S Q := by unfold wSlice; simp only [e]; exact h
theorem o_maxIB {i j : Int} (h : ∀ c, (c = i ∨ c = j) → i ≤ c → j ≤ c → Q (.int c) S) : wBlt .max [.int i, .int j] S Q := by
  show Q (.int (if j > i then j else i)) S
  split
  · exact h _ (.inr rfl) (by omega) (by omega)
  · exact h _ (.inl rfl) (by omega) (by omega)
theorem v_negB {C : Cw} {ex : EX} {σ : StD} {i : Int} (h : Q (.int (-i)) S) : wpE C ex (.neg (.int i)) σ S Q := by unfold wpE; unfold wpE; exact h
theorem i_rng2 {C : Cw} {ex : EX} {σ : StD} {a b : T} {R : List D → (Sto → Prop) → Sto → Prop} (h : wpE C ex a σ S fun x S1 => wpE C ex b σ S1 fun y S2 => ∃ i j, x = .int i ∧ y = .int j ∧ (-(2 ^ 62) ≤ i ∧ i < 2 ^ 62 ∧ -(2 ^ 62) ≤ j ∧ j < 2 ^ 62) ∧ R ((List.range (j - i).toNat).map fun k => .int (i + (k : Nat))) (fun _ => True) S2) : wpI C ex (.rng2 a b) σ S R := by
  unfold wpI
  have : (fun (x : D) (S1 : Sto) => wpE C ex b σ S1 fun y S2 => ∃ i j, x = .int i ∧ y = .int j ∧ (-(2 ^ 62) ≤ i ∧ i < 2 ^ 62 ∧ -(2 ^ 62) ≤ j ∧ j < 2 ^ 62) ∧ R ((List.range (j - i).toNat).map fun k => .int (i + (k : Nat))) (fun _ => True) S2)
      = (fun x S1 => wpE C ex b σ S1 fun y S2 => match x, y with
        | .int i, .int j => (-(2 ^ 62) ≤ i ∧ i < 2 ^ 62 ∧ -(2 ^ 62) ≤ j ∧ j < 2 ^ 62) ∧ R ((List.range (j - i).toNat).map fun k => .int (i + (k : Nat))) (fun _ => True) S2
        | _, _ => False) := by
    funext x S1
    congr 1
    funext y S2
    cases x <;> cases y <;> simp
  rw [this] at h
  exact h

theorem t_cmpoX {C : Cw} {ex : EX} {σ : StD} {B : Bool → Sto → Prop} {op : CmpOp} {q c : Str} {a b : T} (h : wpE C ex a σ S fun x S1 => wpE C ex b σ S1 fun y S2 => wOwn C.cal q c op x y S2 fun z S3 => ∃ k, z = .bl k ∧ B k S3) : wpT C ex (.cmpo op q c a b) σ S B := by
  unfold wpT
  have : (fun (z : D) (S3 : Sto) => ∃ k, z = .bl k ∧ B k S3) = (fun z S3 => match z with | .bl k => B k S3 | _ => False) := by
    funext z S3
    cases z <;> simp
  rw [this] at h
  exact h
theorem o_listL {a : Addr} {xs : List D} (e : S a = some (.lst xs)) (h : ∀ p, S p = none → Q (.ref p) (updS S p (.lst xs))) : wBlt .list [.ref a] S Q := by
  unfold wBlt
  simp only [itemsD, e]
  exact h
theorem cut_rows {rows : List Row} {lo hi : Option Int} : ∃ rs : List Row, cutD (rows.map rowD) lo hi = rs.map rowD ∧ (∀ r ∈ rs, r ∈ rows) ∧ rs.length ≤ rows.length := by
  unfold cutD
  rw [List.length_map]
  refine ⟨(rows.drop (HT.sIx rows.length 0 lo)).take (HT.sIx rows.length rows.length hi - HT.sIx rows.length 0 lo), by rw [List.map_take, List.map_drop], fun r hr => List.mem_of_mem_drop (List.mem_of_mem_take hr), ?_⟩
  rw [List.length_take, List.length_drop]
  omega
theorem o_neSame {a b : Addr} {xs : List D} {ps : List PyData} (e : S a = some (.lst xs)) (e2 : S b = some (.lst xs)) (et : toPs xs = some ps) (hp : plPs ps = true) (hd : PyData.depthAll ps ≤ 8) (h : Q (.bl false) S) : wCmp .NotEq (.ref a) (.ref b) S Q := by
  have hp' : plP (.list ps) = true := by rw [plP]; exact hp
  have hd' : (PyData.list ps).depth ≤ 10 := by simp only [PyData.depth]; omega
  unfold wCmp wEq
  simp only [toPS, e, e2, et]
  refine ⟨sh_pl hp' hd', sh_pl hp' hd', ?_⟩
  have : PyData.eqv (.list ps) (.list ps) = true := (eqv_pl _ _ hp' hp').mpr rfl
  rw [this]
  exact h
def rowPy (r : Row) : PyData := .tuple [.int r.1, .int r.2.1, .int r.2.2]
def rowsPy (rows : List Row) : PyData := .tuple (rows.map rowPy)
theorem toP_rows (rows : List Row) : toP (.tup (rows.map rowD)) = some (rowsPy rows) := by
  unfold rowsPy
  simp only [toP]
  rw [toPs_map (g := rowD) (g' := rowPy) (fun a => rfl) rows]
  rfl
theorem toPs_rowss (rss : List (List Row)) : toPs (rss.map fun rows => D.tup (rows.map rowD)) = some (rss.map rowsPy) := toPs_map (fun a => toP_rows a) rss
theorem pl_row (r : Row) : plP (rowPy r) = true := by simp [rowPy, plP, plPs]
theorem pl_rows (rows : List Row) : plP (rowsPy rows) = true := by unfold rowsPy; rw [plP]; exact pls_map pl_row rows
theorem pl_rowss (rss : List (List Row)) : plPs (rss.map rowsPy) = true := pls_map pl_rows rss
theorem dep_row (r : Row) : (rowPy r).depth ≤ 3 := by simp [rowPy, PyData.depth, PyData.depthAll]
theorem dep_rows (rows : List Row) : (rowsPy rows).depth ≤ 6 := by
  have := dep_map (m := 3) dep_row rows
  unfold rowsPy
  simp only [PyData.depth]
  omega
theorem dep_rowss (rss : List (List Row)) : PyData.depthAll (rss.map rowsPy) ≤ 8 := by
  have := dep_map (m := 6) dep_rows rss
  omega
theorem log_little {c : Int} (h : -1000 ≤ c ∧ c ≤ 1000) : c.natAbs.log2 < 1920 := by
  by_cases h0 : c.natAbs = 0
  · rw [h0]; decide
  · rw [Nat.log2_lt h0]
    have : c.natAbs < 2 ^ 20 := by omega
    exact Nat.lt_of_lt_of_le this (Nat.pow_le_pow_right (by omega) (by omega))
theorem due_symm {n : Nat} {M M' : Mx} (h : Due n M M') : Due n M' M := h.elim (fun z => .inl ⟨z.2, z.1⟩) fun z => .inr fun a b ha hb => (z a b ha hb).symm
theorem at_rows {rows : List Row} {u : Int} (h : 0 ≤ u ∧ u < rows.length) : ∃ q ∈ rows, atI (rows.map rowD) u = some (rowD q) := by
  obtain ⟨j, rfl⟩ : ∃ j : Nat, u = j := ⟨u.toNat, by omega⟩
  have hj : j < rows.length := by omega
  exact ⟨rows[j], List.getElem_mem hj, atI_nat (by rw [List.getElem?_map, List.getElem?_eq_getElem hj]; rfl)⟩
theorem at4r {q0 q1 q2 q3 : D} {i : Int} (h : 0 ≤ i ∧ i < 4) : ∃ q, atI [q0, q1, q2, q3] i = some q ∧ (q = q0 ∨ q = q1 ∨ q = q2 ∨ q = q3) := by
  have : i = 0 ∨ i = 1 ∨ i = 2 ∨ i = 3 := by omega
  rcases this with rfl | rfl | rfl | rfl
  · exact ⟨q0, rfl, .inl rfl⟩
  · exact ⟨q1, rfl, .inr (.inl rfl)⟩
  · exact ⟨q2, rfl, .inr (.inr (.inl rfl))⟩
  · exact ⟨q3, rfl, .inr (.inr (.inr rfl))⟩
theorem od_inj {x y : Option Int} (h : od x = od y) : x = y := by
  cases x <;> cases y <;> simp [od] at h ⊢
  exact h
theorem mat_eqn {S : Sto} {p : Addr} {rs rs' : List Addr} {n : Nat} {M M' : Mx} (m : Mat S p rs n M) (m' : Mat S p rs' n M') : Eqn n M M' := fun i j hi hj => by
  have e := m.top.symm.trans m'.top
  have e2 : rs = rs' := map_inj (g := D.ref) (fun a b h => by injection h) (by injection e with e; injection e)
  subst e2
  obtain ⟨r, h1, _, h2⟩ := m.get hi
  obtain ⟨r', h3, _, h4⟩ := m'.get hi
  rw [h1] at h3
  cases h3
  rw [h2] at h4
  have e3 : rowM n (M i) = rowM n (M' i) := by injection h4 with h4; injection h4
  have a1 := rowM_get (f := M i) hj
  have a2 := rowM_get (f := M' i) hj
  rw [e3, a2] at a1
  exact (od_inj (Option.some.inj a1)).symm
theorem lc_cons {turn : D → Sto → (Option D → Sto → Prop) → Prop} {G : Sto → Prop} {d : D} {ds acc : List D} (hG : G S) (hl : acc.length < sizeLine) (h : turn d S fun o S' => match o with | some v => lcL turn G Q ds (acc ++ [v]) S' | none => lcL turn G Q ds acc S') : lcL turn G Q (d :: ds) acc S := ⟨hG, hl, h⟩
theorem lc_end {turn : D → Sto → (Option D → Sto → Prop) → Prop} {G : Sto → Prop} {acc : List D} (hG : G S) (h : ∀ p, S p = none → Q (.ref p) (updS S p (.lst acc))) : lcL turn G Q [] acc S := ⟨hG, h⟩
theorem o_inOne {cal : Cal} {q c : Str} {x y l : Addr} {z : Bool} (e : S l = some (.lst [.ref y])) (i1 : isIns c S (.ref x) = true) (i2 : isIns c S (.ref y) = true) (hsame : y = x → z = true) (hcal : ∀ R : D → Sto → Prop, (∀ S', Off [] S S' → R (.bl z) S') → cal q [.ref y, .ref x] S R fun _ _ => False) (hins : ∀ S', Off [] S S' → isIns c S' (.ref x) = true) (h : ∀ S', Off [] S S' → Q (.bl z) S') : wOwn cal q c .In (.ref x) (.ref l) S Q := by
  unfold wOwn
  simp only [e]
  refine ⟨e, i1, ?_⟩
  by_cases hb : y = x
  · have := hsame hb
    subst this
    exact .inl ⟨by rw [hb], h S (Off.refl _ _)⟩
  · refine .inr (.inl ⟨fun w => hb (by injection w), i2, hcal _ fun S' o => ⟨z, rfl, ?_⟩⟩)
    cases z with
    | true => exact h S' o
    | false => exact ⟨o l _ (by simp) e, hins S' o, h S' o⟩
theorem o_inPl {cal : Cal} {q c : Str} {x : D} {l : Addr} {ys : List D} (e : S l = some (.lst ys)) (i1 : isIns c S x = true) (hys : ∀ y ∈ ys, ∃ t, tyD S y = some t ∧ t ∈ ["NoneType", "int", "str", "tuple"]) (hcal : ∀ y ∈ ys, ∀ R : D → Sto → Prop, R (.bl false) S → cal q [x, y] S R fun _ _ => False) (h : Q (.bl false) S) : wOwn cal q c .In x (.ref l) S Q := by
  unfold wOwn
  simp only [e]
  have : ∀ r : List D, (∀ y ∈ r, y ∈ ys) → inOL cal q c x l ys Q r S := fun r => by
    induction r with
    | nil => intro _; exact ⟨e, i1, h⟩
    | cons y r ih =>
      intro hr
      exact ⟨e, i1, .inr (.inr ⟨hys y (hr y (by simp)), hcal y (hr y (by simp)) _ ⟨false, rfl, ih fun y' hy' => hr y' (by simp [hy'])⟩⟩)⟩
  exact this ys fun _ h => h
theorem at2c {i : Int} (h : 0 ≤ i ∧ i < 2) : ∃ f : Int, atI [D.int 2, D.int 5] i = some (.int f) ∧ 1 ≤ f ∧ f ≤ 5 := by
  have : i = 0 ∨ i = 1 := by omega
  rcases this with rfl | rfl
  · exact ⟨2, rfl, by omega⟩
  · exact ⟨5, rfl, by omega⟩
theorem sz4 {m : Nat} (h : m ≤ 4) : m < sizeLine := by rw [sizeLine_eq]; omega
local macro_rules | `(tactic| fail) => `(tactic| ((with_reducible refine And.intro ?_ ?_); (focus (exact Nat.le_of_ble_eq_true rfl))))
local macro_rules | `(tactic| fail) => `(tactic| with_reducible refine ⟨_, rfl, ?_⟩)
local macro_rules | `(tactic| fail) => `(tactic| ((with_reducible apply o_sliceT); (focus rfl)))
local macro_rules | `(tactic| fail) => `(tactic| ((with_reducible apply o_inTf); (focus rfl); (focus rfl); (focus (simp [inF, eqF, str_beq]; done))))
local macro_rules | `(tactic| fail) => `(tactic| ((with_reducible apply o_inTt); (focus rfl); (focus rfl); (focus (simp [inF, eqF, str_beq]; done))))
local macro_rules | `(tactic| fail) => `(tactic| ((with_reducible apply o_subC); (focus ((repeat (first | with_reducible exact lk_hit | ((with_reducible apply lk_miss); (focus (exact str_ne (by decide)))))); done))))
local macro_rules | `(tactic| fail) => `(tactic| ((with_reducible apply o_inC); (focus ((repeat (first | with_reducible exact lk_hit | ((with_reducible apply lk_miss); (focus (exact str_ne (by decide)))))); done))))
local macro_rules | `(tactic| fail) => `(tactic| ((with_reducible apply o_ninC); (focus ((repeat (first | with_reducible exact lk_hit | ((with_reducible apply lk_miss); (focus (exact str_ne (by decide)))))); done))))
local macro_rules | `(tactic| fail) => `(tactic| ((with_reducible apply o_isinF); (focus rfl); (focus (decide +kernel))))
local macro_rules | `(tactic| fail) => `(tactic| ((with_reducible apply o_isinT); (focus rfl); (focus (decide +kernel))))
local macro_rules | `(tactic| fail) => `(tactic| with_reducible refine i_enm ?_)
local macro_rules | `(tactic| fail) => `(tactic| ((with_reducible apply g_tup); (focus rfl); (focus rfl)))
local macro_rules | `(tactic| fail) => `(tactic| ((with_reducible apply v_dctN); (focus (decide +kernel))))
local macro_rules | `(tactic| fail) => `(tactic| ((with_reducible apply o_len); (focus (exact len_ref (by (first | assumption | exact updS_same | exact upd_at (by assumption) (by assumption)))))))
local macro_rules | `(tactic| fail) => `(tactic| ((with_reducible apply o_tuple); (focus (first | rfl | exact items_ref (by (first | assumption | exact updS_same | exact upd_at (by assumption) (by assumption)))))))
local macro_rules | `(tactic| fail) => `(tactic| ((with_reducible apply o_get2); (focus (first | assumption | exact updS_same | exact upd_at (by assumption) (by assumption))); (focus rfl); (focus ((repeat (first | with_reducible exact getD_hit | with_reducible exact getD_nil | ((with_reducible apply getD_miss); (focus (exact str_ne (by decide)))))); done))))
local macro_rules | `(tactic| fail) => `(tactic| ((with_reducible apply o_get1); (focus (first | assumption | exact updS_same | exact upd_at (by assumption) (by assumption))); (focus rfl); (focus ((repeat (first | with_reducible exact getD_hit | with_reducible exact getD_nil | ((with_reducible apply getD_miss); (focus (exact str_ne (by decide)))))); done))))
local macro_rules | `(tactic| fail) => `(tactic| ((with_reducible refine And.intro ?_ ?_); (focus (first | exact recvL (by (first | assumption | exact updS_same | exact upd_at (by assumption) (by assumption))) rfl | exact recvD (by (first | assumption | exact updS_same | exact upd_at (by assumption) (by assumption))) rfl))))
local macro_rules | `(tactic| fail) => `(tactic| ((with_reducible apply o_subD); (focus (first | assumption | exact updS_same | exact upd_at (by assumption) (by assumption))); (focus rfl); (focus ((repeat (first | with_reducible exact lookD_hit | ((with_reducible apply look_miss); (focus (exact str_ne (by decide)))))); done))))
local macro_rules | `(tactic| fail) => `(tactic| ((with_reducible apply c_ndF); (focus (((try simp only [List.length_cons, List.length_nil, List.length_append, List.length_map]); omega)))))
local macro_rules | `(tactic| fail) => `(tactic| ((with_reducible apply c_ndT); (focus (((try simp only [List.length_cons, List.length_nil, List.length_append, List.length_map]); omega)))))
local macro_rules | `(tactic| fail) => `(tactic| with_reducible refine o_intB ?_)
local macro_rules | `(tactic| fail) => `(tactic| ((with_reducible apply c_decF); (focus (((try simp only [List.length_cons, List.length_nil, List.length_append, List.length_map]); omega)))))
local macro_rules | `(tactic| fail) => `(tactic| ((with_reducible apply c_decT); (focus (((try simp only [List.length_cons, List.length_nil, List.length_append, List.length_map]); omega)))))
local macro_rules | `(tactic| fail) => `(tactic| with_reducible refine c_notf ?_)
local macro_rules | `(tactic| fail) => `(tactic| with_reducible refine c_nott ?_)
local macro_rules | `(tactic| fail) => `(tactic| with_reducible refine o_eqI ?_)
local macro_rules | `(tactic| fail) => `(tactic| ((with_reducible apply o_eqIf); (focus (((try simp only [List.length_cons, List.length_nil, List.length_append, List.length_map]); omega)))))
local macro_rules | `(tactic| fail) => `(tactic| ((with_reducible apply o_eqIt); (focus (((try simp only [List.length_cons, List.length_nil, List.length_append, List.length_map]); omega)))))
local macro_rules | `(tactic| fail) => `(tactic| with_reducible refine o_isB ?_)
local macro_rules | `(tactic| fail) => `(tactic| with_reducible refine o_isN ?_)
local macro_rules | `(tactic| fail) => `(tactic| with_reducible refine o_isR ?_)
local macro_rules | `(tactic| fail) => `(tactic| with_reducible refine o_eqB ?_)
local macro_rules | `(tactic| fail) => `(tactic| ((with_reducible apply o_neIf); (focus (((try simp only [List.length_cons, List.length_nil, List.length_append, List.length_map]); omega)))))
local macro_rules | `(tactic| fail) => `(tactic| ((with_reducible apply o_neIt); (focus (((try simp only [List.length_cons, List.length_nil, List.length_append, List.length_map]); omega)))))
local macro_rules | `(tactic| fail) => `(tactic| with_reducible refine o_neII ?_)
local macro_rules | `(tactic| fail) => `(tactic| with_reducible refine o_neBB ?_)
local macro_rules | `(tactic| fail) => `(tactic| ((with_reducible apply o_eqSf); (focus decide)))
local macro_rules | `(tactic| fail) => `(tactic| ((with_reducible apply o_atr); (focus rfl)))
local macro_rules | `(tactic| fail) => `(tactic| with_reducible refine o_isx ?_)
local macro_rules | `(tactic| fail) => `(tactic| with_reducible refine o_eqSt ?_)
local macro_rules | `(tactic| fail) => `(tactic| ((with_reducible apply o_len); focus (first | rfl | (simp only [lenD]; simp only [*]; done))))
local macro_rules | `(tactic| fail) => `(tactic| ((with_reducible apply o_setL); (focus (first | assumption | exact updS_same | exact upd_at (by assumption) (by assumption))); (focus rfl)))
local macro_rules | `(tactic| fail) => `(tactic| ((with_reducible refine And.intro ?_ ?_); (focus (first | exact selfOk (by (first | assumption | exact updS_same | exact upd_at (by assumption) (by assumption))) rfl | exact insOk (by (first | assumption | exact updS_same | exact upd_at (by assumption) (by assumption)))))))
local macro_rules | `(tactic| fail) => `(tactic| ((with_reducible apply o_setf); (focus (first | assumption | exact updS_same | exact upd_at (by assumption) (by assumption))); (focus (exact Nat.le_of_ble_eq_true rfl))))
local macro_rules | `(tactic| fail) => `(tactic| ((with_reducible apply o_fld); (focus (first | assumption | exact updS_same | exact upd_at (by assumption) (by assumption))); (focus rfl)))
local macro_rules | `(tactic| fail) => `(tactic| ((with_reducible apply o_subT); focus (rfl)))
local macro_rules | `(tactic| fail) => `(tactic| ((with_reducible apply o_subL); (focus (first | assumption | exact updS_same | exact upd_at (by assumption) (by assumption))); (focus rfl)))
local macro_rules | `(tactic| fail) => `(tactic| ((with_reducible apply o_pow); focus (unfold CPow; omega)))
local macro_rules | `(tactic| fail) => `(tactic| ((with_reducible apply o_mod); focus (omega)))
local macro_rules | `(tactic| fail) => `(tactic| ((with_reducible apply o_div); focus (unfold CDiv; omega)))
local macro_rules | `(tactic| fail) => `(tactic| ((with_reducible apply o_mul); focus (unfold CMul; omega)))
local macro_rules | `(tactic| fail) => `(tactic| ((with_reducible apply v_glob); focus (first | assumption | rfl)))
local macro_rules | `(tactic| fail) => `(tactic| ((with_reducible apply t_var); focus (rfl)))
local macro_rules | `(tactic| fail) => `(tactic| ((with_reducible apply v_var); focus (rfl)))
local macro_rules | `(tactic| fail) => `(tactic| with_reducible refine c_false ?_)
local macro_rules | `(tactic| fail) => `(tactic| with_reducible refine c_true ?_)
local macro_rules | `(tactic| fail) => `(tactic| with_reducible refine o_ge ?_)
local macro_rules | `(tactic| fail) => `(tactic| with_reducible refine o_gt ?_)
local macro_rules | `(tactic| fail) => `(tactic| with_reducible refine o_le ?_)
local macro_rules | `(tactic| fail) => `(tactic| with_reducible refine o_lt ?_)
local macro_rules | `(tactic| fail) => `(tactic| with_reducible refine o_sub ?_)
local macro_rules | `(tactic| fail) => `(tactic| with_reducible refine o_add ?_)
local macro_rules | `(tactic| fail) => `(tactic| with_reducible refine o_sub1 ?_)
local macro_rules | `(tactic| fail) => `(tactic| with_reducible refine o_sub0 ?_)
local macro_rules | `(tactic| fail) => `(tactic| with_reducible refine i_rng1 ?_)
local macro_rules | `(tactic| fail) => `(tactic| with_reducible refine i_seq ?_)
local macro_rules | `(tactic| fail) => `(tactic| with_reducible refine g_cons ?_)
local macro_rules | `(tactic| fail) => `(tactic| with_reducible refine g_nil ?_)
local macro_rules | `(tactic| fail) => `(tactic| with_reducible refine g_nm ?_)
local macro_rules | `(tactic| fail) => `(tactic| with_reducible refine ts_one ?_)
local macro_rules | `(tactic| fail) => `(tactic| with_reducible refine ts_nil ?_)
local macro_rules | `(tactic| fail) => `(tactic| with_reducible refine tr_int ?_)
local macro_rules | `(tactic| fail) => `(tactic| with_reducible refine tr_bl ?_)
local macro_rules | `(tactic| fail) => `(tactic| with_reducible refine tb_or ?_)
local macro_rules | `(tactic| fail) => `(tactic| with_reducible refine tb_and ?_)
local macro_rules | `(tactic| fail) => `(tactic| with_reducible refine tb_one ?_)
local macro_rules | `(tactic| fail) => `(tactic| with_reducible refine t_chain ?_)
local macro_rules | `(tactic| fail) => `(tactic| with_reducible refine t_sub ?_)
local macro_rules | `(tactic| fail) => `(tactic| with_reducible refine t_blt ?_)
local macro_rules | `(tactic| fail) => `(tactic| with_reducible refine t_call ?_)
local macro_rules | `(tactic| fail) => `(tactic| with_reducible refine t_cmp ?_)
local macro_rules | `(tactic| fail) => `(tactic| with_reducible refine t_nt ?_)
local macro_rules | `(tactic| fail) => `(tactic| with_reducible refine t_bop ?_)
local macro_rules | `(tactic| fail) => `(tactic| with_reducible refine vb_or ?_)
local macro_rules | `(tactic| fail) => `(tactic| with_reducible refine vb_and ?_)
local macro_rules | `(tactic| fail) => `(tactic| with_reducible refine vb_one ?_)
local macro_rules | `(tactic| fail) => `(tactic| with_reducible refine vo_some ?_)
local macro_rules | `(tactic| fail) => `(tactic| with_reducible refine vo_none ?_)
local macro_rules | `(tactic| fail) => `(tactic| with_reducible refine vs_cons ?_)
local macro_rules | `(tactic| fail) => `(tactic| with_reducible refine vs_nil ?_)
local macro_rules | `(tactic| fail) => `(tactic| with_reducible refine s_try ?_)
local macro_rules | `(tactic| fail) => `(tactic| with_reducible refine s_setf ?_)
local macro_rules | `(tactic| fail) => `(tactic| with_reducible refine v_newK ?_)
local macro_rules | `(tactic| fail) => `(tactic| with_reducible refine v_fs2 ?_)
local macro_rules | `(tactic| fail) => `(tactic| with_reducible refine v_rpo ?_)
local macro_rules | `(tactic| fail) => `(tactic| with_reducible refine v_lno ?_)
local macro_rules | `(tactic| fail) => `(tactic| with_reducible refine v_eqo ?_)
local macro_rules | `(tactic| fail) => `(tactic| with_reducible refine t_isc ?_)
local macro_rules | `(tactic| fail) => `(tactic| with_reducible refine v_isc ?_)
local macro_rules | `(tactic| fail) => `(tactic| with_reducible refine t_meth ?_)
local macro_rules | `(tactic| fail) => `(tactic| with_reducible refine v_meth ?_)
local macro_rules | `(tactic| fail) => `(tactic| with_reducible refine v_new ?_)
local macro_rules | `(tactic| fail) => `(tactic| with_reducible refine v_fld ?_)
local macro_rules | `(tactic| fail) => `(tactic| with_reducible refine v_atr ?_)
local macro_rules | `(tactic| fail) => `(tactic| with_reducible refine v_isx ?_)
local macro_rules | `(tactic| fail) => `(tactic| with_reducible refine v_back ?_)
local macro_rules | `(tactic| fail) => `(tactic| with_reducible refine v_lc ?_)
local macro_rules | `(tactic| fail) => `(tactic| with_reducible refine v_mth ?_)
local macro_rules | `(tactic| fail) => `(tactic| with_reducible refine v_lzip ?_)
local macro_rules | `(tactic| fail) => `(tactic| with_reducible refine v_lrev ?_)
local macro_rules | `(tactic| fail) => `(tactic| with_reducible refine v_blt ?_)
local macro_rules | `(tactic| fail) => `(tactic| with_reducible refine v_call ?_)
local macro_rules | `(tactic| fail) => `(tactic| with_reducible refine v_slice ?_)
local macro_rules | `(tactic| fail) => `(tactic| with_reducible refine v_sub ?_)
local macro_rules | `(tactic| fail) => `(tactic| with_reducible refine v_lst ?_)
local macro_rules | `(tactic| fail) => `(tactic| with_reducible refine v_tup ?_)
local macro_rules | `(tactic| fail) => `(tactic| with_reducible refine v_ite ?_)
local macro_rules | `(tactic| fail) => `(tactic| with_reducible refine v_nt ?_)
local macro_rules | `(tactic| fail) => `(tactic| with_reducible refine v_bop ?_)
local macro_rules | `(tactic| fail) => `(tactic| with_reducible refine v_cmp ?_)
local macro_rules | `(tactic| fail) => `(tactic| with_reducible refine v_bin ?_)
local macro_rules | `(tactic| fail) => `(tactic| with_reducible refine v_bty ?_)
local macro_rules | `(tactic| fail) => `(tactic| with_reducible refine v_str ?_)
local macro_rules | `(tactic| fail) => `(tactic| with_reducible refine v_non ?_)
local macro_rules | `(tactic| fail) => `(tactic| with_reducible refine v_bl ?_)
local macro_rules | `(tactic| fail) => `(tactic| with_reducible refine v_int ?_)
local macro_rules | `(tactic| fail) => `(tactic| with_reducible refine s_cont ?_)
local macro_rules | `(tactic| fail) => `(tactic| with_reducible refine s_brk ?_)
local macro_rules | `(tactic| fail) => `(tactic| with_reducible refine s_nil ?_)
local macro_rules | `(tactic| fail) => `(tactic| with_reducible refine s_pass ?_)
local macro_rules | `(tactic| fail) => `(tactic| with_reducible refine s_retN ?_)
local macro_rules | `(tactic| fail) => `(tactic| with_reducible refine s_ret ?_)
local macro_rules | `(tactic| fail) => `(tactic| with_reducible refine s_ife ?_)
local macro_rules | `(tactic| fail) => `(tactic| with_reducible refine s_set ?_)
local macro_rules | `(tactic| fail) => `(tactic| with_reducible refine s_par ?_)
local macro_rules | `(tactic| fail) => `(tactic| with_reducible refine s_asg ?_)
local macro_rules | `(tactic| fail) => `(tactic| with_reducible refine s_ex ?_)

theorem spec_lempty {n : Nat} {f : Int} {rows : List Row} {lp : Addr} (hk : 2 ≤ k) (hn : n ≤ 10) (hr : ∀ r ∈ rows, RowOk n f r) (hS : S lp = some (.lst (rows.map rowD)))
    (hq : ∀ S' z, Off [] S S' → (z = true ↔ ¬ Calm n rows) → Q (.bl z) S') : sem defs gl k "_law_is_empty" [.int n, .ref lp] S Q E := by
  obtain ⟨k, rfl⟩ : ∃ j, k = j + 1 := ⟨k - 1, by omega⟩
  (refine sem_of df_dLIsEmpty rfl ?_; unfold dLIsEmpty; simp only [startD, List.map_cons, List.map_nil, List.length_cons, List.length_nil, List.replicate_succ, List.replicate_zero, List.cons_append, List.nil_append, Nat.reduceAdd, Nat.reduceSub])
  (repeat fail)
  refine i_rng2 (v_negB (v_var rfl ⟨_, _, rfl, rfl, by omega, ?_⟩))
  rw [show ((n : Int) - -1).toNat = n + 1 by omega]
  refine lc_ind (fun r acc S' => ∃ i, i ≤ n + 1 ∧ r = ((List.range (n + 1)).map fun k => D.int (-1 + (k : Nat))).drop i ∧ (∃ m, acc = (List.replicate m (1 : Int)).map D.int ∧ m ≤ i ∧ (m = 0 ↔ ∀ b, b < i → (downD n rows b).2 = false)) ∧ Off [] S S') (fun _ _ _ _ => trivial) ?_ ?_ _ _ _ ⟨0, by omega, rfl, ⟨0, rfl, by omega, by simp⟩, Off.refl _ _⟩
  · rintro acc S2 ⟨i, hi, er, ⟨m, rfl, hm, hm2⟩, o2⟩ ap hap
    have hi' : i = n + 1 := by
      have := congrArg List.length er
      simp at this
      omega
    subst hi'
    have eA : updS S2 ap (.lst ((List.replicate m (1 : Int)).map D.int)) ap = some (.lst ((List.replicate m (1 : Int)).map D.int)) := updS_same
    have oA : Off [] S (updS S2 ap (.lst ((List.replicate m (1 : Int)).map D.int))) := o2.trans (Off.new hap)
    generalize updS S2 ap (.lst ((List.replicate m (1 : Int)).map D.int)) = S3 at eA oA
    (repeat fail)
    intro bp hbp
    refine o_neLI (upd_at hbp eA) updS_same ?_
    refine hq _ _ (oA.trans (Off.new hbp)) ?_
    have e0 : List.replicate m (1 : Int) = [] ↔ m = 0 := by cases m <;> simp [List.replicate]
    have e1 : m = 0 ↔ Calm n rows := hm2.trans ⟨fun h b hb => h b (by omega), fun h b hb => h b (by omega)⟩
    rw [Bool.not_eq_true', decide_eq_false_iff_not, e0, e1]
  · rintro d r acc S2 K ⟨i, hi, er, ⟨m, rfl, hm, hm2⟩, o2⟩ hK1 hK2
    have hi' : i < n + 1 := by
      have := congrArg List.length er
      simp at this
      omega
    have hd0 : d = .int (-1 + (i : Nat)) ∧ r = ((List.range (n + 1)).map fun k => D.int (-1 + (k : Nat))).drop (i + 1) := by
      rw [List.drop_eq_getElem_cons (by simpa using hi')] at er
      injection er with e1 e2
      exact ⟨by rw [e1]; simp, e2⟩
    obtain ⟨rfl, rfl⟩ := hd0
    refine ⟨by rw [List.length_map, List.length_replicate, sizeLine_eq]; omega, ?_⟩
    (repeat fail)
    refine spec_down df_dLDown (by omega) hn hr (o2 lp _ (by simp) hS) (by omega) fun S6 p hp e6 o6 => ?_
    have hbi : (-1 + ((i : Nat) : Int) + 1).toNat = i := by omega
    rw [hbi]
    (repeat fail)
    cases hfl : (downD n rows i).2 with
    | false =>
      (repeat fail)
      refine hK2 _ ⟨i + 1, by omega, rfl, ⟨m, rfl, by omega, hm2.trans ⟨fun h b hb => ?_, fun h b hb => h b (by omega)⟩⟩, o2.trans o6⟩
      by_cases e : b = i
      · rw [e]; exact hfl
      · exact h b (by omega)
    | true =>
      (repeat fail)
      refine hK1 _ _ ⟨i + 1, by omega, rfl, ⟨m + 1, by rw [List.replicate_succ', List.map_append]; rfl, by omega, ⟨fun z => by omega, fun h => ?_⟩⟩, o2.trans o6⟩
      have := h i (by omega)
      rw [hfl] at this
      cases this
theorem spec_lfollow {n : Nat} {f : Int} {rows others : List Row} {lp op : Addr} (hk : 2 ≤ k) (hn : n ≤ 10) (hr : ∀ r ∈ rows, RowOk n f r) (hr' : ∀ r ∈ others, RowOk n f r) (hS : S lp = some (.lst (rows.map rowD))) (hS' : S op = some (.lst (others.map rowD)))
    (hq : ∀ S' z, Off [] S S' → (z = true ↔ ∀ r ∈ rows, ole ((downD n others (to r)).1 (fr r)) (some r.2.2)) → Q (.bl z) S') : sem defs gl k "_law_follow" [.int n, .ref lp, .ref op] S Q E := by
  obtain ⟨k, rfl⟩ : ∃ j, k = j + 1 := ⟨k - 1, by omega⟩
  (refine sem_of df_dLFollow rfl ?_; unfold dLFollow; simp only [startD, List.map_cons, List.map_nil, List.length_cons, List.length_nil, List.replicate_succ, List.replicate_zero, List.cons_append, List.nil_append, Nat.reduceAdd, Nat.reduceSub])
  (repeat fail)
  refine s_fr (i_seq ?_)
  (repeat fail)
  refine .inr (.inr ⟨_, _, rfl, hS, ?_⟩)
  refine for_ind (fun r σ S' => Off [] S S' ∧ (∃ dn td : List Row, rows = dn ++ td ∧ r = td.map rowD ∧ ∀ q ∈ dn, ole ((downD n others (to q)).1 (fr q)) (some q.2.2)) ∧ ∃ x3 x4 x5 x6, σ = [some (.int n), some (.ref lp), some (.ref op), x3, x4, x5, x6]) (fun r σ S' h => h.1 lp _ (by simp) hS) ?_ ?_ _ _ _ ⟨Off.refl _ _, ⟨[], rows, rfl, rfl, by simp⟩, _, _, _, _, rfl⟩
  · rintro σ S1 ⟨o1, ⟨dn, td, er, e1, hd⟩, x3, x4, x5, x6, rfl⟩
    have htd : td = [] := by cases td with | nil => rfl | cons _ _ => cases e1
    subst htd
    rw [List.append_nil] at er
    subst er
    (repeat fail)
    exact hq _ _ o1 ⟨fun _ => hd, fun _ => rfl⟩
  · rintro d r σ S1 N ⟨o1, ⟨dn, td, er, e1, hd⟩, x3, x4, x5, x6, rfl⟩ hN
    cases td with
    | nil => cases e1
    | cons q td =>
      simp only [List.map_cons, List.cons.injEq] at e1
      obtain ⟨rfl, rfl⟩ := e1
      obtain ⟨q1, q2, q3, q4, q5, q6⟩ := hr q (by rw [er]; simp)
      rw [show rowD q = .tup [.int q.1, .int q.2.1, .int q.2.2] from rfl]
      (repeat fail)
      refine spec_down df_dLDown (by omega) hn hr' (o1 op _ (by simp) hS') (by omega) fun S6 p hp e6 o6 => ?_
      rw [show (q.2.1 + 1).toNat = to q from rfl] at e6 ⊢
      (repeat fail)
      refine o_subL e6 (dL_at q1 (by omega)) ?_
      rw [show (q.1 + 1).toNat = fr q from rfl]
      have hno : ¬ ole ((downD n others (to q)).1 (fr q)) (some q.2.2) → Q (.bl false) S6 := fun h => hq _ _ (o1.trans o6) ⟨fun z => (by cases z), fun z => absurd (z q (by rw [er]; simp)) h⟩
      cases hM : (downD n others (to q)).1 (fr q) with
      | none =>
        rw [show od none = .non from rfl]
        (repeat fail)
        exact hno (by rw [hM]; simp [ole])
      | some v =>
        rw [show od (some v) = .int v from rfl]
        (repeat fail)
        refine o_isIN ?_
        (repeat fail)
        refine c_dec (fun hlt => ?_) (fun hlt => ?_)
        · (repeat fail)
          exact hno (by rw [hM]; simp only [ole]; omega)
        · (repeat fail)
          refine hN _ _ ⟨o1.trans o6, ⟨dn ++ [q], td, by rw [er]; simp, rfl, fun q' hq' => ?_⟩, _, _, _, _, rfl⟩
          rcases List.mem_append.mp hq' with h | h
          · exact hd q' h
          · rw [List.mem_singleton.mp h, hM]; simp only [ole]; omega
theorem spec_ldue {n : Nat} {rows others : List Row} {lp op : Addr} {M M' : Mx} (hk : 3 ≤ k) (hn : n ≤ 10) (hr : ∀ r ∈ rows, RowOk n 1000 r) (hr' : ∀ r ∈ others, RowOk n 1000 r) (hS : S lp = some (.lst (rows.map rowD))) (hS' : S op = some (.lst (others.map rowD)))
    (g : Gd rows (n + 1) M) (t : Neg (n + 1) M ∨ Tri (n + 1) (n + 1) M) (g' : Gd others (n + 1) M') (t' : Neg (n + 1) M' ∨ Tri (n + 1) (n + 1) M')
    (hq : ∀ S' z, Off [] S S' → (z = true ↔ Due n M M') → Q (.bl z) S') : sem defs gl k "_law_due" [.int n, .ref lp, .ref op] S Q E := by
  obtain ⟨k, rfl⟩ : ∃ j, k = j + 1 := ⟨k - 1, by omega⟩
  have c1 := calm_iff (by omega) hr g t
  have c2 := calm_iff (by omega) hr' g' t'
  have bool : ∀ {z : Bool} {P : Prop}, (z = true ↔ P) → (P → z = true) ∧ (¬ P → z = false) := fun {z P} h => ⟨h.mpr, fun hn => by cases z with | false => rfl | true => exact absurd (h.mp rfl) hn⟩
  (refine sem_of df_dLDue rfl ?_; unfold dLDue; simp only [startD, List.map_cons, List.map_nil, List.length_cons, List.length_nil, List.replicate_succ, List.replicate_zero, List.cons_append, List.nil_append, Nat.reduceAdd, Nat.reduceSub])
  (repeat fail)
  have after : ∀ S1, Off [] S S1 → (Neg (n + 1) M ∨ Neg (n + 1) M') → wpE ⟨sem defs gl k, gl⟩ (fun x _ S' => E x S') (.bop .And [(.call "_law_is_empty" [(.var 0), (.var 1)]), (.call "_law_is_empty" [(.var 0), (.var 2)])]) [some (.int n), some (.ref lp), some (.ref op)] S1 Q := fun S1 o1 hN => by
    (repeat fail)
    refine spec_lempty (by omega) hn hr (o1 lp _ (by simp) hS) fun S2 z o2 hz => ?_
    rw [c1, Classical.not_not] at hz
    refine ⟨_, rfl, ?_⟩
    by_cases h1 : Neg (n + 1) M
    · rw [(bool hz).1 h1]
      refine c_true ?_
      (repeat fail)
      refine spec_lempty (by omega) hn hr' ((o1.trans o2) op _ (by simp) hS') fun S3 z' o3 hz' => ?_
      rw [c2, Classical.not_not] at hz'
      refine hq _ _ ((o1.trans o2).trans o3) (hz'.trans ⟨fun h => .inl ⟨h1, h⟩, fun h => h.elim (fun h => h.2) fun h => (neg_eqn h).mp h1⟩)
    · rw [(bool hz).2 h1]
      refine c_false ?_
      exact hq _ _ (o1.trans o2) ⟨fun z => (by cases z), fun h => h.elim (fun h => absurd h.1 h1) fun h => absurd ((neg_eqn h).mpr (hN.resolve_left h1)) h1⟩
  refine spec_lempty (by omega) hn hr hS fun S1 z o1 hz => ?_
  rw [c1, Classical.not_not] at hz
  by_cases h1 : Neg (n + 1) M
  · rw [(bool hz).1 h1]
    refine tr_bl (c_true ?_)
    refine c_true ?_
    refine s_ret ?_
    exact after S1 o1 (.inl h1)
  · rw [(bool hz).2 h1]
    refine tr_bl (c_false ?_)
    (repeat fail)
    refine spec_lempty (by omega) hn hr' (o1 op _ (by simp) hS') fun S2 z' o2 hz' => ?_
    rw [c2, Classical.not_not] at hz'
    by_cases h2 : Neg (n + 1) M'
    · rw [(bool hz').1 h2]
      refine tr_bl (c_true ?_)
      refine s_ret ?_
      exact after S2 (o1.trans o2) (.inr h2)
    · rw [(bool hz').2 h2]
      refine tr_bl (c_false ?_)
      have o12 := o1.trans o2
      have e1 : ∀ r ∈ rows, (downD n others (to r)).1 (fr r) = M' (fr r) (to r) := fun r hm => by
        have hok := hr r hm
        unfold RowOk at hok
        exact down_eq (by omega) hr' (c2.mpr h2) g' t' (by show (r.2.1 + 1).toNat ≤ n; omega)
      have e2 : ∀ r ∈ others, (downD n rows (to r)).1 (fr r) = M (fr r) (to r) := fun r hm => by
        have hok := hr' r hm
        unfold RowOk at hok
        exact down_eq (by omega) hr (c1.mpr h1) g t (by show (r.2.1 + 1).toNat ≤ n; omega)
      have due : Due n M M' ↔ Fol n M' rows ∧ Fol n M others := ⟨fun h => (eqn_iff hr hr' g (t.resolve_left h1) g' (t'.resolve_left h2)).mp (h.resolve_left fun z => h1 z.1), fun h => .inr ((eqn_iff hr hr' g (t.resolve_left h1) g' (t'.resolve_left h2)).mpr h)⟩
      (repeat fail)
      refine spec_lfollow (by omega) hn hr hr' (o12 lp _ (by simp) hS) (o12 op _ (by simp) hS') fun S3 z o3 hz => ?_
      have hz : z = true ↔ Fol n M' rows := hz.trans ⟨fun h r hm => by rw [← e1 r hm]; exact h r hm, fun h r hm => by rw [e1 r hm]; exact h r hm⟩
      have o13 := o12.trans o3
      refine ⟨_, rfl, ?_⟩
      by_cases h3 : Fol n M' rows
      · rw [(bool hz).1 h3]
        refine c_true ?_
        (repeat fail)
        refine spec_lfollow (by omega) hn hr' hr (o13 op _ (by simp) hS') (o13 lp _ (by simp) hS) fun S4 z o4 hz => ?_
        have hz : z = true ↔ Fol n M others := hz.trans ⟨fun h r hm => by rw [← e2 r hm]; exact h r hm, fun h r hm => by rw [e2 r hm]; exact h r hm⟩
        exact hq _ _ (o13.trans o4) (hz.trans ⟨fun h => due.mpr ⟨h3, h⟩, fun h => (due.mp h).2⟩)
      · rw [(bool hz).2 h3]
        refine c_false ?_
        exact hq _ _ o13 ⟨fun z => (by cases z), fun h => absurd (due.mp h).1 h3⟩
theorem spec_lmore {n : Nat} {rows : List Row} {a lp : Addr} (hk : 2 ≤ k) (hn : 1 ≤ n ∧ n ≤ 6) (hF : Flow S a) (hr : ∀ r ∈ rows, RowOk n 1000 r) (hl : rows.length ≤ 8) (hS : S lp = some (.lst (rows.map rowD)))
    (hq : ∀ S' p (rs : List Row), S p = none → S' p = some (.lst (rs.map rowD)) → (∀ r ∈ rs, RowOk n 1000 r) → rs.length ≤ 30 → Flow S' a → Off [a] S S' → Q (.ref p) S') : sem defs gl k "_law_more" [.ref a, .int n, .ref lp] S Q E := by
  obtain ⟨k, rfl⟩ : ∃ j, k = j + 1 := ⟨k - 1, by omega⟩
  have nla : lp ≠ a := fun z => by subst z; obtain ⟨_, _, _, z, _⟩ := hF; rw [hS] at z; cases rows <;> simp [rowD] at z
  (refine sem_of df_dLMore rfl ?_; unfold dLMore; simp only [startD, List.map_cons, List.map_nil, List.length_cons, List.length_nil, List.replicate_succ, List.replicate_zero, List.cons_append, List.nil_append, Nat.reduceAdd, Nat.reduceSub])
  (repeat fail)
  refine o_listL hS fun fp hfp => ?_
  have nfa : fp ≠ a := fun z => by subst z; obtain ⟨_, _, _, z, _⟩ := hF; rw [hfp] at z; cases z
  have nfl : lp ≠ fp := fun z => by rw [z, hfp] at hS; cases hS
  have e0 : updS S fp (.lst (rows.map rowD)) fp = some (.lst (rows.map rowD)) := updS_same
  have hS0 := upd_at (u := .lst (rows.map rowD)) hfp hS
  have F0 := hF.newB (o := .lst (rows.map rowD)) hfp
  have o0 : Off [fp, a] S (updS S fp (.lst (rows.map rowD))) := Off.new hfp
  generalize updS S fp (.lst (rows.map rowD)) = S0 at e0 hS0 F0 o0
  (repeat fail)
  refine s_fr (i_rng1 ?_)
  (repeat fail)
  refine ⟨by omega, by omega, ?_⟩
  rw [show (2 : Int).toNat = 2 from rfl]
  refine for_rng (fun t σ S' => (∃ rs : List Row, S' fp = some (.lst (rs.map rowD)) ∧ (∀ r ∈ rs, RowOk n 1000 r) ∧ rs.length ≤ 8 + t) ∧ S' lp = some (.lst (rows.map rowD)) ∧ Flow S' a ∧ Off [fp, a] S S' ∧ ∃ x4 x5 x6 x7, σ = [some (.ref a), some (.int n), some (.ref lp), some (.ref fp), x4, x5, x6, x7, none]) (fun _ _ _ _ => trivial) ?_ ?_ ⟨⟨rows, e0, hr, by omega⟩, hS0, F0, o0, _, _, _, _, rfl⟩
  · rintro σ S1 ⟨⟨rs, e1, h1, h2⟩, hS1, F1, o1, x4, x5, x6, x7, rfl⟩
    (repeat fail)
    rw [List.length_map]
    refine c_dec (fun hlt => ?_) (fun hlt => ?_)
    · (repeat fail)
      rw [List.length_map]
      refine spec_drawB df_dLDrawB (by omega) F1 (by omega) fun u S2 u0 u1 F2 o2 => ?_
      have e2 := o2 fp _ (by simpa using nfa) e1
      obtain ⟨r1, c1, m1, l1⟩ := cut_rows (rows := rs) (lo := some u) (hi := none)
      obtain ⟨r2, c2, m2, l2⟩ := cut_rows (rows := rs) (lo := none) (hi := some u)
      obtain ⟨r3, c3, m3, l3⟩ := cut_rows (rows := rs) (lo := some u) (hi := some (u + 1))
      (repeat fail)
      refine o_sliceLB e2 fun p1 hp1 => ?_
      rw [c1]
      have e2a := upd_at (u := .lst (r1.map rowD)) hp1 e2
      have f1 : updS S2 p1 (.lst (r1.map rowD)) p1 = some (.lst (r1.map rowD)) := updS_same
      have o3 : Off [] S2 (updS S2 p1 (.lst (r1.map rowD))) := Off.new hp1
      generalize updS S2 p1 (.lst (r1.map rowD)) = S3 at e2a f1 o3
      (repeat fail)
      refine o_sliceLB e2a fun p2 hp2 => ?_
      rw [c2]
      have e2b := upd_at (u := .lst (r2.map rowD)) hp2 e2a
      have f1b := upd_at (u := .lst (r2.map rowD)) hp2 f1
      have f2 : updS S3 p2 (.lst (r2.map rowD)) p2 = some (.lst (r2.map rowD)) := updS_same
      have o4 : Off [] S2 (updS S3 p2 (.lst (r2.map rowD))) := o3.trans (Off.new hp2)
      generalize updS S3 p2 (.lst (r2.map rowD)) = S4 at e2b f1b f2 o4
      refine o_addLB f1b f2 (by rw [sizeLine_eq, List.length_map, List.length_map]; omega) fun p3 hp3 => ?_
      have e2c := upd_at (u := .lst (r1.map rowD ++ r2.map rowD)) hp3 e2b
      have f3 : updS S4 p3 (.lst (r1.map rowD ++ r2.map rowD)) p3 = some (.lst (r1.map rowD ++ r2.map rowD)) := updS_same
      have o5 : Off [] S2 (updS S4 p3 (.lst (r1.map rowD ++ r2.map rowD))) := o4.trans (Off.new hp3)
      generalize updS S4 p3 (.lst (r1.map rowD ++ r2.map rowD)) = S5 at e2c f3 o5
      (repeat fail)
      refine o_sliceLB e2c fun p4 hp4 => ?_
      rw [c3]
      have f3b := upd_at (u := .lst (r3.map rowD)) hp4 f3
      have f4 : updS S5 p4 (.lst (r3.map rowD)) p4 = some (.lst (r3.map rowD)) := updS_same
      have o6 : Off [] S2 (updS S5 p4 (.lst (r3.map rowD))) := o5.trans (Off.new hp4)
      generalize updS S5 p4 (.lst (r3.map rowD)) = S6 at f3b f4 o6
      refine o_addLB f3b f4 (by rw [sizeLine_eq]; simp; omega) fun p5 hp5 => ?_
      rw [show r1.map rowD ++ r2.map rowD ++ r3.map rowD = (r1 ++ r2 ++ r3).map rowD by simp]
      have o7 : Off [fp, a] S (updS S6 p5 (.lst ((r1 ++ r2 ++ r3).map rowD))) := ((o1.trans (o2.mono (by simp))).trans (o6.mono (by simp))).trans (Off.new hp5)
      have hp5S : S p5 = none := by
        cases z : S p5 with
        | none => rfl
        | some ob =>
          by_cases h1 : p5 = fp
          · rw [h1, hfp] at z; cases z
          · by_cases h2 : p5 = a
            · obtain ⟨_, _, _, y, _⟩ := F2
              rw [h2] at hp5
              rw [o6 a _ (by simp) y] at hp5
              cases hp5
            · have := ((o1.trans (o2.mono (by simp))).trans (o6.mono (by simp))) p5 ob (by simp [h1, h2]) z
              rw [hp5] at this
              cases this
      (repeat fail)
      refine hq _ _ (r1 ++ r2 ++ r3) hp5S updS_same (fun r hr2 => ?_) (by simp; omega) ((F2.off o6 (by simp)).newB hp5) (Off.drop (p := fp) o7 hfp)
      simp only [List.mem_append] at hr2
      rcases hr2 with (h | h) | h
      · exact h1 r (m1 r h)
      · exact h1 r (m2 r h)
      · exact h1 r (m3 r h)
    · (repeat fail)
      exact hq _ _ rs hfp e1 h1 (by omega) F1 (Off.drop (p := fp) o1 hfp)
  · rintro t σ S1 N ht ⟨⟨rs, e1, h1, h2⟩, hS1, F1, o1, x4, x5, x6, x7, rfl⟩ hN
    (repeat fail)
    refine spec_drawB df_dLDrawB (by omega) F1 (by omega) fun u S2 u0 u1 F2 o2 => ?_
    (repeat fail)
    refine spec_drawB df_dLDrawB (by omega) F2 (by omega) fun v S3 v0 v1 F3 o3 => ?_
    have o23 : Off [a] S1 S3 := o2.trans o3
    (repeat fail)
    refine spec_down df_dLDown (by omega) (by omega) hr (o23 lp _ (by simpa using nla) hS1) (by omega) fun S4 p hp e4 o4 => ?_
    have e44 := o4 fp _ (by simp) (o23 fp _ (by simpa using nfa) e1)
    have hS4 := o4 lp _ (by simp) (o23 lp _ (by simpa using nla) hS1)
    have F4 := F3.off o4 (by simp)
    have O4 : Off [fp, a] S S4 := (o1.trans (o23.mono (by simp))).trans (o4.mono (by simp))
    (repeat fail)
    refine o_subL e4 (dL_at (by omega) (by omega)) ?_
    generalize (downD n rows (v - 1 + 1).toNat).1 (u - 1 + 1).toNat = sm
    have skip : ∀ x7, N [some (.ref a), some (.int n), some (.ref lp), some (.ref fp), some (.int (t : Nat)), some (.int (u - 1)), some (.int (v - 1)), x7, none] S4 := fun x7 => hN _ _ ⟨⟨rs, e44, h1, by omega⟩, hS4, F4, O4, _, _, _, _, rfl⟩
    cases sm with
    | none =>
      rw [show od none = .non from rfl]
      (repeat fail)
      refine o_isnN ?_
      (repeat fail)
      exact skip _
    | some c =>
      rw [show od (some c) = .int c from rfl]
      (repeat fail)
      refine o_isnI ?_
      (repeat fail)
      refine o_abs ?_
      (repeat fail)
      refine c_dec (fun hlt => ?_) (fun hlt => ?_)
      · (repeat fail)
        refine spec_drawB df_dLDrawB (by omega) F4 (by omega) fun w S5 w0 w1 F5 o5 => ?_
        (repeat fail)
        have e5 := o5 fp _ (by simpa using nfa) e44
        refine o_append e5 (by rw [sizeLine_eq, List.length_map]; omega) ?_
        (repeat fail)
        refine hN _ _ ⟨⟨rs ++ [(u - 1, v - 1, c + w)], by rw [updS_same, List.map_append]; rfl, fun r hm => ?_, by simp; omega⟩, by rw [updS_ne nfl]; exact o5 lp _ (by simpa using nla) hS4, F5.setB (Ne.symm nfa), (O4.trans (o5.mono (by simp))).trans (Off.upd (by simp)), _, _, _, _, rfl⟩
        rcases List.mem_append.mp hm with h | h
        · exact h1 r h
        · rw [List.mem_singleton.mp h]
          unfold RowOk
          dsimp only
          split at hlt <;> omega
      · (repeat fail)
        exact skip _
theorem spec_lother {n : Nat} {rows : List Row} {a lp : Addr} (hk : 2 ≤ k) (hn : 1 ≤ n ∧ n ≤ 6) (hF : Flow S a) (hr : ∀ r ∈ rows, RowOk n 900 r) (hl : rows.length ≤ 8) (hS : S lp = some (.lst (rows.map rowD)))
    (hq : ∀ S' p (rs : List Row), S p = none → S' p = some (.lst (rs.map rowD)) → (∀ r ∈ rs, RowOk n 1000 r) → rs.length ≤ 30 → Flow S' a → Off [a] S S' → Q (.ref p) S') : sem defs gl k "_law_otherwise" [.ref a, .int n, .ref lp] S Q E := by
  obtain ⟨k, rfl⟩ : ∃ j, k = j + 1 := ⟨k - 1, by omega⟩
  have nla : lp ≠ a := fun z => by subst z; obtain ⟨_, _, _, z, _⟩ := hF; rw [hS] at z; cases rows <;> simp [rowD] at z
  have out : ∀ {S1 S2 : Sto} {p : Addr}, Flow S1 a → Off [a] S S1 → Off [] S1 S2 → S2 p = none → S p = none := fun {S1 S2 p} F1 o1 o2 hp => by
    cases z : S p with
    | none => rfl
    | some ob =>
      by_cases h2 : p = a
      · obtain ⟨_, _, _, y, _⟩ := F1
        rw [h2] at hp
        rw [o2 a _ (by simp) y] at hp
        cases hp
      · have := (o1.trans (o2.mono (by simp))) p ob (by simp [h2]) z
        rw [hp] at this
        cases this
  (refine sem_of df_dLOtherwise rfl ?_; unfold dLOtherwise; simp only [startD, List.map_cons, List.map_nil, List.length_cons, List.length_nil, List.replicate_succ, List.replicate_zero, List.cons_append, List.nil_append, Nat.reduceAdd, Nat.reduceSub])
  (repeat fail)
  rw [List.length_map]
  refine c_dec (fun h0 => ?_) (fun h0 => ?_)
  · (repeat fail)
    refine spec_drawB df_dLDrawB (by omega) hF (by omega) fun u S2 u0 u1 F2 o2 => ?_
    (repeat fail)
    refine v_negB ?_
    (repeat fail)
    intro p hp
    refine hq _ p [(u, -1, 3)] (out F2 o2 (Off.refl _ _) hp) updS_same (fun r hm => ?_) (by simp) (F2.newB hp) (o2.trans (Off.new hp))
    rw [List.mem_singleton.mp hm]
    unfold RowOk
    dsimp only
    omega
  · (repeat fail)
    rw [List.length_map]
    refine spec_drawB df_dLDrawB (by omega) hF (by omega) fun u S2 u0 u1 F2 o2 => ?_
    have e2 := o2 lp _ (by simpa using nla) hS
    obtain ⟨q, hqm, eq⟩ := at_rows (rows := rows) (u := u) ⟨u0, by omega⟩
    have hok := hr q hqm
    unfold RowOk at hok
    (repeat fail)
    refine o_subL e2 eq ?_
    rw [show rowD q = .tup [.int q.1, .int q.2.1, .int q.2.2] from rfl]
    (repeat fail)
    refine spec_drawB df_dLDrawB (by omega) F2 (by omega) fun v S3 v0 v1 F3 o3 => ?_
    (repeat fail)
    intro p0 hp0
    have eP : updS S3 p0 (.lst [.tup [.int q.1, .int q.2.1, .int (q.2.2 - 1)], .tup [.int q.1, .int q.2.1, .int (q.2.2 + 1)], .tup [.int q.2.1, .int q.1, .int q.2.2], .tup [.int q.1, .int v, .int q.2.2]]) p0 = some (.lst [rowD (q.1, q.2.1, q.2.2 - 1), rowD (q.1, q.2.1, q.2.2 + 1), rowD (q.2.1, q.1, q.2.2), rowD (q.1, v, q.2.2)]) := updS_same
    have F4 := F3.newB (o := .lst [.tup [.int q.1, .int q.2.1, .int (q.2.2 - 1)], .tup [.int q.1, .int q.2.1, .int (q.2.2 + 1)], .tup [.int q.2.1, .int q.1, .int q.2.2], .tup [.int q.1, .int v, .int q.2.2]]) hp0
    have e4 := upd_at (u := .lst [.tup [.int q.1, .int q.2.1, .int (q.2.2 - 1)], .tup [.int q.1, .int q.2.1, .int (q.2.2 + 1)], .tup [.int q.2.1, .int q.1, .int q.2.2], .tup [.int q.1, .int v, .int q.2.2]]) hp0 (o3 lp _ (by simpa using nla) e2)
    have o4 : Off [a] S (updS S3 p0 (.lst [.tup [.int q.1, .int q.2.1, .int (q.2.2 - 1)], .tup [.int q.1, .int q.2.1, .int (q.2.2 + 1)], .tup [.int q.2.1, .int q.1, .int q.2.2], .tup [.int q.1, .int v, .int q.2.2]])) := (o2.trans o3).trans (Off.new hp0)
    have npa : p0 ≠ a := fun z => by subst z; obtain ⟨_, _, _, z, _⟩ := F3; rw [hp0] at z; cases z
    generalize updS S3 p0 (.lst [.tup [.int q.1, .int q.2.1, .int (q.2.2 - 1)], .tup [.int q.1, .int q.2.1, .int (q.2.2 + 1)], .tup [.int q.2.1, .int q.1, .int q.2.2], .tup [.int q.1, .int v, .int q.2.2]]) = S4 at eP F4 e4 o4
    (repeat fail)
    refine spec_drawB df_dLDrawB (by omega) F4 (by omega) fun w S5 w0 w1 F5 o5 => ?_
    obtain ⟨qd, ew, hw⟩ := at4r (q0 := rowD (q.1, q.2.1, q.2.2 - 1)) (q1 := rowD (q.1, q.2.1, q.2.2 + 1)) (q2 := rowD (q.2.1, q.1, q.2.2)) (q3 := rowD (q.1, v, q.2.2)) (i := w) ⟨w0, w1⟩
    refine o_subL (o5 p0 _ (by simpa using npa) eP) ew ?_
    obtain ⟨q', rfl, hok'⟩ : ∃ q', qd = rowD q' ∧ RowOk n 1000 q' := by
      rcases hw with rfl | rfl | rfl | rfl
      · exact ⟨_, rfl, by unfold RowOk; dsimp only; omega⟩
      · exact ⟨_, rfl, by unfold RowOk; dsimp only; omega⟩
      · exact ⟨_, rfl, by unfold RowOk; dsimp only; omega⟩
      · exact ⟨_, rfl, by unfold RowOk; dsimp only; omega⟩
    have e5 := o5 lp _ (by simpa using nla) e4
    have O5 := o4.trans o5
    obtain ⟨r1, c1, m1, l1⟩ := cut_rows (rows := rows) (lo := none) (hi := some u)
    obtain ⟨r3, c3, m3, l3⟩ := cut_rows (rows := rows) (lo := some (u + 1)) (hi := none)
    (repeat fail)
    refine o_sliceLB e5 fun p1 hp1 => ?_
    rw [c1]
    have e5a := upd_at (u := .lst (r1.map rowD)) hp1 e5
    have f1 : updS S5 p1 (.lst (r1.map rowD)) p1 = some (.lst (r1.map rowD)) := updS_same
    have o6 : Off [] S5 (updS S5 p1 (.lst (r1.map rowD))) := Off.new hp1
    generalize updS S5 p1 (.lst (r1.map rowD)) = S6 at e5a f1 o6
    (repeat fail)
    intro p2 hp2
    have e5b := upd_at (u := .lst [rowD q']) hp2 e5a
    have f1b := upd_at (u := .lst [rowD q']) hp2 f1
    have f2 : updS S6 p2 (.lst [rowD q']) p2 = some (.lst [rowD q']) := updS_same
    have o7 : Off [] S5 (updS S6 p2 (.lst [rowD q'])) := o6.trans (Off.new hp2)
    generalize updS S6 p2 (.lst [rowD q']) = S7 at e5b f1b f2 o7
    refine o_addLB f1b f2 (by rw [sizeLine_eq, List.length_map]; simp; omega) fun p3 hp3 => ?_
    have e5c := upd_at (u := .lst (r1.map rowD ++ [rowD q'])) hp3 e5b
    have f3 : updS S7 p3 (.lst (r1.map rowD ++ [rowD q'])) p3 = some (.lst (r1.map rowD ++ [rowD q'])) := updS_same
    have o8 : Off [] S5 (updS S7 p3 (.lst (r1.map rowD ++ [rowD q']))) := o7.trans (Off.new hp3)
    generalize updS S7 p3 (.lst (r1.map rowD ++ [rowD q'])) = S8 at e5c f3 o8
    (repeat fail)
    refine o_sliceLB e5c fun p4 hp4 => ?_
    rw [c3]
    have f3b := upd_at (u := .lst (r3.map rowD)) hp4 f3
    have f4 : updS S8 p4 (.lst (r3.map rowD)) p4 = some (.lst (r3.map rowD)) := updS_same
    have o9 : Off [] S5 (updS S8 p4 (.lst (r3.map rowD))) := o8.trans (Off.new hp4)
    generalize updS S8 p4 (.lst (r3.map rowD)) = S9 at f3b f4 o9
    refine o_addLB f3b f4 (by rw [sizeLine_eq]; simp; omega) fun p5 hp5 => ?_
    rw [show r1.map rowD ++ [rowD q'] ++ r3.map rowD = (r1 ++ [q'] ++ r3).map rowD by simp]
    refine hq _ _ (r1 ++ [q'] ++ r3) (out F5 O5 o9 hp5) updS_same (fun r hm => ?_) (by simp; omega) ((F5.off o9 (by simp)).newB hp5) ((O5.trans (o9.mono (by simp))).trans (Off.new hp5))
    simp only [List.mem_append, List.mem_singleton] at hm
    rcases hm with (h | h) | h
    · have := hr r (m1 r h); unfold RowOk at *; omega
    · rw [h]; exact hok'
    · have := hr r (m3 r h); unfold RowOk at *; omega
theorem spec_beqN {n : Nat} {rows : List Row} {b p : Addr} {rs : List Addr} {M : Mx} {d : D} (hk : 1 ≤ k) (B : Bo S b p rs n rows M) (hd : btOk S d = true) (hq : Q (.bl false) S) : sem defs gl k "Bounds.__eq__" [.ref b, d] S Q E := by
  obtain ⟨k, rfl⟩ : ∃ j, k = j + 1 := ⟨k - 1, by omega⟩
  have e0 := B.at_
  (refine sem_of df_dBoundsEq rfl ?_; unfold dBoundsEq; simp only [startD, List.map_cons, List.map_nil, List.length_cons, List.length_nil, List.replicate_succ, List.replicate_zero, List.cons_append, List.nil_append, Nat.reduceAdd, Nat.reduceSub])
  refine s_ife (t_bop (tb_or (t_nt (t_isc2 (v_var rfl (.inr ⟨hd, ?_⟩))))))
  (repeat fail)
  exact hq
theorem spec_beqW {n m : Nat} {rows rows' : List Row} {b p b' p' : Addr} {rs rs' : List Addr} {M M' : Mx} (hk : 1 ≤ k) (hnm : (n : Int) ≠ m) (B : Bo S b p rs n rows M) (B' : Bo S b' p' rs' m rows' M') (hq : Q (.bl false) S) : sem defs gl k "Bounds.__eq__" [.ref b, .ref b'] S Q E := by
  obtain ⟨k, rfl⟩ : ∃ j, k = j + 1 := ⟨k - 1, by omega⟩
  have e0 := B.at_
  have e0' := B'.at_
  (refine sem_of df_dBoundsEq rfl ?_; unfold dBoundsEq; simp only [startD, List.map_cons, List.map_nil, List.length_cons, List.length_nil, List.replicate_succ, List.replicate_zero, List.cons_append, List.nil_append, Nat.reduceAdd, Nat.reduceSub])
  (repeat fail)
  refine o_neIX ?_
  rw [show ((n : Int) != (m : Int)) = true by simpa using hnm]
  (repeat fail)
  exact hq
theorem spec_reprK {n : Nat} {rows : List Row} {b p : Addr} {rs : List Addr} {M : Mx} (hk : 1 ≤ k) (hn : n ≤ 10) (hl : rows.length ≤ 100) (B : Bo S b p rs n rows M) (hq : ∀ z, Q (.str z) S) : sem defs gl k "Bounds.__repr__" [.ref b] S Q E := by
  obtain ⟨k, rfl⟩ : ∃ j, k = j + 1 := ⟨k - 1, by omega⟩
  have e0 := B.at_
  (refine sem_of df_dBoundsRepr rfl ?_; unfold dBoundsRepr; simp only [startD, List.map_cons, List.map_nil, List.length_cons, List.length_nil, List.replicate_succ, List.replicate_zero, List.cons_append, List.nil_append, Nat.reduceAdd, Nat.reduceSub])
  (repeat fail)
  refine ⟨log_little (by omega), ?_⟩
  (repeat fail)
  rw [List.length_map]
  refine ⟨log_little (by omega), ?_⟩
  exact hq _
theorem spec_rowsK {n : Nat} {rows : List Row} {b p : Addr} {rs : List Addr} {M : Mx} (hk : 1 ≤ k) (B : Bo S b p rs n rows M) (hq : Q (.tup (rows.map rowD)) S) : sem defs gl k "Bounds.rows" [.ref b] S Q E := by
  obtain ⟨k, rfl⟩ : ∃ j, k = j + 1 := ⟨k - 1, by omega⟩
  have e0 := B.at_
  (refine sem_of df_dBoundsRows rfl ?_; unfold dBoundsRows; simp only [startD, List.map_cons, List.map_nil, List.length_cons, List.length_nil, List.replicate_succ, List.replicate_zero, List.cons_append, List.nil_append, Nat.reduceAdd, Nat.reduceSub])
  (repeat fail)
  exact hq
theorem d_law (ns : List Int) (hl : ns.length ≤ 63) (S : Sto) (hS : ∀ b, S b = none) : sem defs gl 9 "law" [.kl (ns.map D.int)] S (fun d _ => d = .bl true) fun _ _ => False := by
  (refine sem_of df_dLaw rfl ?_; unfold dLaw; simp only [startD, List.map_cons, List.map_nil, List.length_cons, List.length_nil, List.replicate_succ, List.replicate_zero, List.cons_append, List.nil_append, Nat.reduceAdd, Nat.reduceSub])
  (repeat fail)
  refine s_fr (i_rng1 ?_)
  (repeat fail)
  rw [List.length_map]
  refine o_min2 fun c1 hc1 hc2 hc3 => ?_
  (repeat fail)
  refine o_maxIB fun c2 hd1 hd2 hd3 => ?_
  refine ⟨_, rfl, by omega, by omega, ?_⟩
  refine for_ind (fun r σ S' => (∀ d ∈ r, ∃ i : Nat, d = .int i ∧ i < 1000) ∧ ∃ x1 x2 x3 x4 x5 x6 x7 x8 x9 x10, σ = [some (.kl (ns.map D.int)), x1, x2, x3, x4, x5, x6, x7, x8, x9, x10, none]) (fun _ _ _ _ => trivial) ?_ ?_ _ _ _ ⟨?_, _, _, _, _, _, _, _, _, _, _, rfl⟩
  · rintro σ S1 ⟨_, x1, x2, x3, x4, x5, x6, x7, x8, x9, x10, rfl⟩
    (repeat fail)
    rfl
  · rintro d r σ S1 N ⟨hr1, x1, x2, x3, x4, x5, x6, x7, x8, x9, x10, rfl⟩ hN
    obtain ⟨i, rfl, hi⟩ := hr1 d (by simp)
    (repeat fail)
    refine spec_flowB df_dLFlowB df_dLCell (by omega) (by omega) hl fun a S2 ha F2 o2 => ?_
    (repeat fail)
    refine spec_drawB df_dLDrawB (by omega) F2 (by omega) fun m S3 hm0 hm1 F3 o3 => ?_
    obtain ⟨n, hn⟩ : ∃ n : Nat, 1 + m = n := ⟨(1 + m).toNat, by omega⟩
    (repeat fail)
    rw [hn]
    intro tp htp
    have et : updS S3 tp (.lst [.int 2, .int 5]) tp = some (.lst [.int 2, .int 5]) := updS_same
    have nta : tp ≠ a := fun z => by subst z; obtain ⟨_, _, _, z, _⟩ := F3; rw [htp] at z; cases z
    have F3b := F3.newB (o := .lst [.int 2, .int 5]) htp
    generalize updS S3 tp (.lst [.int 2, .int 5]) = S4 at et F3b
    (repeat fail)
    refine spec_drawB df_dLDrawB (by omega) F3b (by omega) fun g S5 hg0 hg1 F5 o5 => ?_
    have et5 := o5 tp _ (by simpa using nta) et
    obtain ⟨f, hf, hf1, hf2⟩ := at2c (i := g) ⟨hg0, hg1⟩
    refine o_subL et5 hf ?_
    (repeat fail)
    refine spec_lrows df_dLRows df_dLDrawB (by omega) F5 (by omega) (by omega) (by omega) fun l0 S6 rows0 hp6 e6 hr6 hl6 F6 o6 => ?_
    have R0 : ∀ r ∈ rows0, RowOk n 1000 r := fun r h => by have := hr6 r h; unfold RowOk at *; omega
    have n0a : l0 ≠ a := fun z => by subst z; obtain ⟨_, _, _, z, _⟩ := F6; rw [e6] at z; cases rows0 <;> simp [rowD] at z
    (repeat fail)
    refine spec_lmore (by omega) (by omega) F6 R0 (by omega) e6 fun S7 l1 rows1 hp7 e7 R1 hl7 F7 o7 => ?_
    have n1a : l1 ≠ a := fun z => by subst z; obtain ⟨_, _, _, z, _⟩ := F7; rw [e7] at z; cases rows1 <;> simp [rowD] at z
    (repeat fail)
    refine spec_lother (by omega) (by omega) F7 (fun r h => by have := hr6 r h; unfold RowOk at *; omega) (by omega) (o7 l0 _ (by simpa using n0a) e6) fun S8 l2 rows2 hp8 e8 R2 hl8 F8 o8 => ?_
    have E0 := o8 l0 _ (by simpa using n0a) (o7 l0 _ (by simpa using n0a) e6)
    have E1 := o8 l1 _ (by simpa using n1a) e7
    (repeat fail)
    refine v_negB ?_
    (repeat fail)
    refine v_negB ?_
    (repeat fail)
    refine v_negB ?_
    (repeat fail)
    intro l3 hl3
    have L3 : updS S8 l3 (.lst [.tup [.int (-1), .int 0, .int (-3)], .tup [.int 0, .int (-1), .int 2]]) l3 = some (.lst (([(-1, 0, -3), (0, -1, 2)] : List Row).map rowD)) := updS_same
    have L0 := upd_at (u := .lst [.tup [.int (-1), .int 0, .int (-3)], .tup [.int 0, .int (-1), .int 2]]) hl3 E0
    have L1 := upd_at (u := .lst [.tup [.int (-1), .int 0, .int (-3)], .tup [.int 0, .int (-1), .int 2]]) hl3 E1
    have L2 := upd_at (u := .lst [.tup [.int (-1), .int 0, .int (-3)], .tup [.int 0, .int (-1), .int 2]]) hl3 e8
    have R3 : ∀ r ∈ ([(-1, 0, -3), (0, -1, 2)] : List Row), RowOk n 1000 r := fun r h => by
      simp only [List.mem_cons, List.not_mem_nil, or_false] at h
      rcases h with rfl | rfl <;> (unfold RowOk; dsimp only; omega)
    have hl3' : ([(-1, 0, -3), (0, -1, 2)] : List Row).length ≤ 30 := by simp
    generalize ([(-1, 0, -3), (0, -1, 2)] : List Row) = rows3 at L3 R3 hl3'
    generalize updS S8 l3 (.lst [.tup [.int (-1), .int 0, .int (-3)], .tup [.int 0, .int (-1), .int 2]]) = S9 at L0 L1 L2 L3
    (repeat fail)
    intro sp hsp
    have e0s : updS S9 sp (.lst [.ref l0, .ref l1, .ref l2, .ref l3]) sp = some (.lst [.ref l0, .ref l1, .ref l2, .ref l3]) := updS_same
    replace L0 := upd_at (u := .lst [.ref l0, .ref l1, .ref l2, .ref l3]) hsp L0
    replace L1 := upd_at (u := .lst [.ref l0, .ref l1, .ref l2, .ref l3]) hsp L1
    replace L2 := upd_at (u := .lst [.ref l0, .ref l1, .ref l2, .ref l3]) hsp L2
    replace L3 := upd_at (u := .lst [.ref l0, .ref l1, .ref l2, .ref l3]) hsp L3
    generalize updS S9 sp (.lst [.ref l0, .ref l1, .ref l2, .ref l3]) = SA at e0s L0 L1 L2 L3
    (repeat fail)
    refine .inr (.inr ⟨_, _, rfl, e0s, ?_⟩)
    refine lc_cons e0s (by simp; exact sz4 (by omega)) ?_
    (repeat fail)
    intro b0 hb0
    rw [show padT "Bounds.__init__" [T.var 3, T.var 11].length = [] from padT2]
    refine spec_init df_dBoundsInit df_dClosed (by omega) (by omega) R0 (by omega) hb0 L0 fun H0 q0 t0 M0 _ _ B0 w0 => ⟨rfl, ?_⟩
    have e1s := w0 sp _ (by simp) e0s
    replace L1 := w0 l1 _ (by simp) L1
    refine lc_cons e1s (by simp; exact sz4 (by omega)) ?_
    (repeat fail)
    intro b1 hb1
    rw [show padT "Bounds.__init__" [T.var 3, T.var 11].length = [] from padT2]
    refine spec_init df_dBoundsInit df_dClosed (by omega) (by omega) R1 (by omega) hb1 L1 fun H1 q1 t1 M1 _ _ B1 w1 => ⟨rfl, ?_⟩
    have e2s := w1 sp _ (by simp) e1s
    replace L2 := (w0.trans w1) l2 _ (by simp) L2
    refine lc_cons e2s (by simp; exact sz4 (by omega)) ?_
    (repeat fail)
    intro b2 hb2
    rw [show padT "Bounds.__init__" [T.var 3, T.var 11].length = [] from padT2]
    refine spec_init df_dBoundsInit df_dClosed (by omega) (by omega) R2 (by omega) hb2 L2 fun H2 q2 t2 M2 _ _ B2 w2 => ⟨rfl, ?_⟩
    have e3s := w2 sp _ (by simp) e2s
    replace L3 := ((w0.trans w1).trans w2) l3 _ (by simp) L3
    refine lc_cons e3s (by simp; exact sz4 (by omega)) ?_
    (repeat fail)
    intro b3 hb3
    rw [show padT "Bounds.__init__" [T.var 3, T.var 11].length = [] from padT2]
    refine spec_init df_dBoundsInit df_dClosed (by omega) (by omega) R3 (by omega) hb3 L3 fun H3 q3 t3 M3 _ _ B3 w3 => ⟨rfl, ?_⟩
    have e4s := w3 sp _ (by simp) e3s
    refine lc_end e4s fun hp hhp => ?_
    have eS := upd_at (u := .lst [.ref b0, .ref b1, .ref b2, .ref b3]) hhp e4s
    have eH : updS H3 hp (.lst [.ref b0, .ref b1, .ref b2, .ref b3]) hp = some (.lst [.ref b0, .ref b1, .ref b2, .ref b3]) := updS_same
    have oF : Off [] H3 (updS H3 hp (.lst [.ref b0, .ref b1, .ref b2, .ref b3])) := Off.new hhp
    replace L0 := oF l0 _ (by simp) ((((w0.trans w1).trans w2).trans w3) l0 _ (by simp) L0)
    replace L1 := oF l1 _ (by simp) (((w1.trans w2).trans w3) l1 _ (by simp) L1)
    replace L2 := oF l2 _ (by simp) ((w2.trans w3) l2 _ (by simp) L2)
    replace L3 := oF l3 _ (by simp) (w3 l3 _ (by simp) L3)
    replace B0 := B0.off (((w1.trans w2).trans w3).trans oF)
    replace B1 := B1.off ((w2.trans w3).trans oF)
    replace B2 := B2.off (w3.trans oF)
    replace B3 := B3.off oF
    change wpSs _ _ _ _ _ (updS H3 hp (.lst [.ref b0, .ref b1, .ref b2, .ref b3]))
    generalize updS H3 hp (.lst [.ref b0, .ref b1, .ref b2, .ref b3]) = SF at eS eH L0 L1 L2 L3 B0 B1 B2 B3
    have fx : ∀ x : Nat, x < 4 → ∃ l b rows p rs M, atI [D.ref l0, .ref l1, .ref l2, .ref l3] (x : Int) = some (.ref l) ∧ atI [D.ref b0, .ref b1, .ref b2, .ref b3] (x : Int) = some (.ref b) ∧ SF l = some (.lst (rows.map rowD)) ∧ (∀ r ∈ rows, RowOk n 1000 r) ∧ Bo SF b p rs n rows M := fun x hx => by
      have : x = 0 ∨ x = 1 ∨ x = 2 ∨ x = 3 := by omega
      rcases this with rfl | rfl | rfl | rfl
      · exact ⟨l0, b0, rows0, _, _, _, rfl, rfl, L0, R0, B0⟩
      · exact ⟨l1, b1, rows1, _, _, _, rfl, rfl, L1, R1, B1⟩
      · exact ⟨l2, b2, rows2, _, _, _, rfl, rfl, L2, R2, B2⟩
      · exact ⟨l3, b3, rows3, _, _, _, rfl, rfl, L3, R3, B3⟩
    refine s_fr (i_rng1 ?_)
    (repeat fail)
    refine ⟨by omega, by omega, ?_⟩
    rw [show (4 : Int).toNat = 4 from rfl]
    refine for_rng (fun t σ S' => Off [] SF S' ∧ ∃ x7 x8 x9 x10, σ = [some (.kl (ns.map D.int)), some (.int (i : Nat)), some (.ref a), some (.int (n : Nat)), some (.ref l0), some (.ref sp), some (.ref hp), x7, x8, x9, x10, none]) (fun _ _ _ _ => trivial) ?_ ?_ ⟨Off.refl _ _, _, _, _, _, rfl⟩
    rotate_left
    · rintro x σ T1 N2 hx ⟨y1, x7, x8, x9, x10, rfl⟩ hN2
      obtain ⟨lx, bx, rx, px, sx, Mx', ax, ax', Lx, Rx, Bx⟩ := fx x hx
      (repeat fail)
      refine s_fr (i_rng1 ?_)
      (repeat fail)
      refine ⟨by omega, by omega, ?_⟩
      rw [show (4 : Int).toNat = 4 from rfl]
      refine for_rng (fun t σ S' => Off [] SF S' ∧ ∃ x8 x9 x10, σ = [some (.kl (ns.map D.int)), some (.int (i : Nat)), some (.ref a), some (.int (n : Nat)), some (.ref l0), some (.ref sp), some (.ref hp), some (.int (x : Nat)), x8, x9, x10, none]) (fun _ _ _ _ => trivial) ?_ ?_ ⟨y1, _, _, _, rfl⟩
      · rintro σ T2 ⟨y2, x8, x9, x10, rfl⟩
        exact hN2 _ _ ⟨y2, _, _, _, _, rfl⟩
      · rintro y σ T2 N3 hy ⟨y2, x8, x9, x10, rfl⟩ hN3
        obtain ⟨ly, by_, ry, py, sy, My, ay, ay', Ly, Ry, By⟩ := fx y hy
        have eS2 := y2 sp _ (by simp) eS
        (repeat fail)
        refine o_subL eS2 ax ?_
        (repeat fail)
        refine o_subL eS2 ay ?_
        (repeat fail)
        refine spec_ldue (by omega) (by omega) Rx Ry (y2 lx _ (by simp) Lx) (y2 ly _ (by simp) Ly) Bx.gd Bx.tri By.gd By.tri fun T3 z o3 hz => ?_
        have y3 := y2.trans o3
        have eH3 := y3 hp _ (by simp) eH
        (repeat fail)
        refine v_cmpo ?_
        (repeat fail)
        refine o_subL eH3 ax' ?_
        (repeat fail)
        refine o_subL eH3 ay' ?_
        refine ⟨insOk (Bx.off y3).at_, .inl (insOk (By.off y3).at_), ?_⟩
        refine spec_beq df_dBoundsEq df_dBoundsIsEmpty (by omega) (by omega) (Bx.off y3) (By.off y3) fun T4 z4 o4 hz4 => ⟨_, rfl, ?_⟩
        have ez4 : z4 = z := by
          have : z4 = true ↔ z = true := hz4.trans hz.symm
          cases z4 <;> cases z <;> simp at this ⊢
        subst ez4
        have y4 := y3.trans o4
        have eH4 := y4 hp _ (by simp) eH
        (repeat fail)
        refine o_neBX ⟨_, rfl, ?_⟩
        rw [bne_self_eq_false]
        (repeat fail)
        refine v_cmpo ?_
        (repeat fail)
        refine o_subL eH4 ax' ?_
        (repeat fail)
        refine o_subL eH4 ay' ?_
        refine ⟨insOk (Bx.off y4).at_, insOk (By.off y4).at_, ?_⟩
        refine spec_beq df_dBoundsEq df_dBoundsIsEmpty (by omega) (by omega) (Bx.off y4) (By.off y4) fun T5 z5 o5 hz5 => ⟨_, rfl, ?_⟩
        have ez5 : z5 = z4 := by
          have : z5 = true ↔ z4 = true := hz5.trans hz.symm
          cases z5 <;> cases z4 <;> simp at this ⊢
        subst ez5
        have y5 := y4.trans o5
        have eH5 := y5 hp _ (by simp) eH
        (repeat fail)
        refine o_eqBX ⟨_, rfl, ?_⟩
        rw [show ((!z5) == z5) = false by cases z5 <;> rfl]
        (repeat fail)
        refine v_cmpo ?_
        (repeat fail)
        refine o_subL eH5 ax' ?_
        (repeat fail)
        refine o_subL eH5 ay' ?_
        (repeat fail)
        intro qp hqp
        have eQ : updS T5 qp (.lst [.ref by_]) qp = some (.lst [.ref by_]) := updS_same
        have y6 : Off [] SF (updS T5 qp (.lst [.ref by_])) := y5.trans (Off.new hqp)
        generalize updS T5 qp (.lst [.ref by_]) = T6 at eQ y6
        refine o_inOne (z := z5) eQ (insOk (Bx.off y6).at_) (insOk (By.off y6).at_) (fun hb => ?_) (fun R hR => ?_) (fun S' o => insOk ((Bx.off y6).off o).at_) fun T7 o7 => ?_
        · subst hb
          have b1 := Bx.at_
          have b2 := By.at_
          rw [b1] at b2
          simp only [Option.some.injEq, Ob.ins.injEq, List.cons.injEq, Prod.mk.injEq, D.ref.injEq, true_and, and_true] at b2
          have e3 : px = py := b2.2
          subst e3
          exact hz.mpr (.inr (mat_eqn Bx.mat By.mat))
        · refine spec_beq df_dBoundsEq df_dBoundsIsEmpty (by omega) (by omega) (By.off y6) (Bx.off y6) fun T7 z7 o7 hz7 => ?_
          have ez7 : z7 = z5 := by
            have : z7 = true ↔ z5 = true := hz7.trans (⟨due_symm, due_symm⟩ : Due n My Mx' ↔ Due n Mx' My) |>.trans hz.symm
            cases z7 <;> cases z5 <;> simp at this ⊢
          subst ez7
          exact hR _ o7
        have y7 := y6.trans o7
        (repeat fail)
        refine o_neBX ⟨_, rfl, ?_⟩
        rw [bne_self_eq_false]
        (repeat fail)
        exact hN3 _ _ ⟨y7, _, _, _, rfl⟩
    · rintro σ T1 ⟨y1, x7, x8, x9, x10, rfl⟩
      (repeat fail)
      intro bw hbw
      rw [show padT "Bounds.__init__" [T.bin .Add (T.var 3) (T.int 1), T.var 4].length = [] from padT2]
      rw [show ((n : Int) + 1) = ((n + 1 : Nat) : Int) by omega]
      refine spec_init df_dBoundsInit df_dClosed (by omega) (by omega) (f := 1000) (fun r h => by have := R0 r h; unfold RowOk at *; omega) (by omega) hbw (y1 l0 _ (by simp) L0) fun T2 pw rw_ Mw _ _ Bw o2 => ⟨rfl, ?_⟩
      have y2 := y1.trans o2
      have eH2 := y2 hp _ (by simp) eH
      have B02 := B0.off y2
      (repeat fail)
      refine t_cmpoX ?_
      (repeat fail)
      refine ⟨insOk Bw.at_, .inl (insOk B02.at_), ?_⟩
      refine spec_beqW (by omega) (by omega) Bw B02 ⟨_, rfl, _, rfl, ?_⟩
      (repeat fail)
      refine t_cmpoX ?_
      have eL02 := y2 l0 _ (by simp) L0
      (repeat fail)
      refine ⟨insOk B02.at_, ?_⟩
      refine spec_reprK (by omega) (by omega) (by omega) B02 fun zr => ⟨_, rfl, ?_⟩
      (repeat fail)
      intro qp hqp
      have eQ : updS T2 qp (.lst [.non, .int 7, .int (n : Nat), .tup (rows0.map rowD), .str zr]) qp = some (.lst [.non, .int 7, .int (n : Nat), .tup (rows0.map rowD), .str zr]) := updS_same
      have y3 : Off [] SF (updS T2 qp (.lst [.non, .int 7, .int (n : Nat), .tup (rows0.map rowD), .str zr])) := y2.trans (Off.new hqp)
      generalize updS T2 qp (.lst [.non, .int 7, .int (n : Nat), .tup (rows0.map rowD), .str zr]) = T3 at eQ y3
      have B03 := B0.off y3
      refine o_inPl eQ (insOk B03.at_) (fun y hy => ?_) (fun y hy R hR => ?_) ⟨_, rfl, ?_⟩
      · simp only [List.mem_cons, List.not_mem_nil, or_false] at hy
        rcases hy with rfl | rfl | rfl | rfl | rfl
        · exact ⟨_, rfl, by simp⟩
        · exact ⟨_, rfl, by simp⟩
        · exact ⟨_, rfl, by simp⟩
        · exact ⟨_, rfl, by simp⟩
        · exact ⟨_, rfl, by simp⟩
      · refine spec_beqN (by omega) B03 ?_ hR
        simp only [List.mem_cons, List.not_mem_nil, or_false] at hy
        rcases hy with rfl | rfl | rfl | rfl | rfl <;> rfl
      have eH3 := y3 hp _ (by simp) eH
      have eL03 := y3 l0 _ (by simp) L0
      (repeat fail)
      refine t_cmpoX ?_
      (repeat fail)
      refine ⟨insOk B03.at_, .inr (by unfold btOk tyD; simp only [eL03]; rfl), ?_⟩
      refine spec_beqN (by omega) B03 (by unfold btOk tyD; simp only [eL03]; rfl) ⟨_, rfl, _, rfl, ?_⟩
      (repeat fail)
      refine .inr (.inr ⟨_, _, rfl, eH3, ?_⟩)
      have B13 := B1.off y3
      have B23 := B2.off y3
      have B33 := B3.off y3
      refine lc_cons eH3 (by simp; exact sz4 (by omega)) ?_
      (repeat fail)
      refine ⟨selfOk B03.at_ rfl, ?_⟩
      (repeat fail)
      refine spec_rowsK (by omega) B03 ?_
      refine lc_cons eH3 (by simp; exact sz4 (by omega)) ?_
      (repeat fail)
      refine ⟨selfOk B13.at_ rfl, ?_⟩
      (repeat fail)
      refine spec_rowsK (by omega) B13 ?_
      refine lc_cons eH3 (by simp; exact sz4 (by omega)) ?_
      (repeat fail)
      refine ⟨selfOk B23.at_ rfl, ?_⟩
      (repeat fail)
      refine spec_rowsK (by omega) B23 ?_
      refine lc_cons eH3 (by simp; exact sz4 (by omega)) ?_
      (repeat fail)
      refine ⟨selfOk B33.at_ rfl, ?_⟩
      (repeat fail)
      refine spec_rowsK (by omega) B33 ?_
      refine lc_end eH3 fun g1 hg1 => ?_
      have eG1 : updS T3 g1 (.lst ([] ++ [D.tup (rows0.map rowD)] ++ [.tup (rows1.map rowD)] ++ [.tup (rows2.map rowD)] ++ [.tup (rows3.map rowD)])) g1 = some (.lst ([rows0, rows1, rows2, rows3].map fun rows => D.tup (rows.map rowD))) := updS_same
      have y4 : Off [] SF (updS T3 g1 (.lst ([] ++ [D.tup (rows0.map rowD)] ++ [.tup (rows1.map rowD)] ++ [.tup (rows2.map rowD)] ++ [.tup (rows3.map rowD)]))) := y3.trans (Off.new hg1)
      generalize updS T3 g1 (.lst ([] ++ [D.tup (rows0.map rowD)] ++ [.tup (rows1.map rowD)] ++ [.tup (rows2.map rowD)] ++ [.tup (rows3.map rowD)])) = T4 at eG1 y4
      have eS4 := y4 sp _ (by simp) eS
      have L04 := y4 l0 _ (by simp) L0
      have L14 := y4 l1 _ (by simp) L1
      have L24 := y4 l2 _ (by simp) L2
      have L34 := y4 l3 _ (by simp) L3
      (repeat fail)
      refine .inr (.inr ⟨_, _, rfl, eS4, ?_⟩)
      refine lc_cons eS4 (by simp; exact sz4 (by omega)) ?_
      (repeat fail)
      refine lc_cons eS4 (by simp; exact sz4 (by omega)) ?_
      (repeat fail)
      refine lc_cons eS4 (by simp; exact sz4 (by omega)) ?_
      (repeat fail)
      refine lc_cons eS4 (by simp; exact sz4 (by omega)) ?_
      (repeat fail)
      refine lc_end eS4 fun g2 hg2 => ?_
      refine o_neSame (upd_at hg2 eG1) updS_same (toPs_rowss _) (pl_rowss _) (dep_rowss _) ⟨_, rfl, ?_⟩
      (repeat fail)
      exact hN _ _ ⟨fun d hd => hr1 d (by simp [hd]), _, _, _, _, _, _, _, _, _, _, rfl⟩
  · intro d hd
    obtain ⟨j, hj, rfl⟩ := List.mem_map.mp hd
    rw [List.mem_range] at hj
    exact ⟨j, rfl, by omega⟩
end
end Z

set_option Elab.async false
set_option linter.all false
set_option maxRecDepth 100000
set_option maxHeartbeats 4000000
namespace Z
open PySem PySem.Spec PyProof.Rows L2
def top (i : Nat) : Stmt := PySem.Challenge.pw_leastmaker_k24_bounds_alike.main.body.getD i (.Pass ⟨0, 0, 0, 0⟩)
def dfs : List Str := ["_wall", "closed", "_law_cell", "_law_flow", "_law_draw", "_law_rows", "_law_down", "_law_is_empty", "_law_follow", "_law_due", "_law_more", "_law_otherwise", "law"]
def xsL : List Str := []
def xrL : List Str := []
def hotL : List Str := []
def msL : List (Str × Str × Str) := [("Bounds.__eq__", "Bounds", "__eq__"), ("Bounds.__repr__", "Bounds", "__repr__"), ("Bounds.is_empty", "Bounds", "is_empty"), ("Bounds.rows", "Bounds", "rows")]
def mksL : List (Str × Str × Nat) := [("Bounds.__init__", "Bounds", 2)]
def mt (i j : Nat) : Stmt := match top i with | .ClassDef _ _ _ body _ _ _ _ _ _ _ => body.getD j (.Pass ⟨0, 0, 0, 0⟩) | s => s
def dWallN : List Str := ["k"]

theorem dWall_ck : chkSs ⟨dWallN, defScope (top 0), fun _ => true, dfs, xsL, xrL, hotL, msL, mksL, true⟩ dWall.body (defBody (top 0)) = true := by decide +kernel
theorem dWall_sc : FnScope dWallN ["k"] (defScope (top 0)) := ⟨rfl, rfl, rfl, by decide +kernel, rfl, by decide +kernel, by decide +kernel⟩

def dClosedN : List Str := ["many", "rows", "sums", "i", "j", "c", "here", "k", "through"]

theorem dClosed_ck : chkSs ⟨dClosedN, defScope (top 2), fun _ => true, dfs, xsL, xrL, hotL, msL, mksL, true⟩ dClosed.body (defBody (top 2)) = true := by decide +kernel
theorem dClosed_sc : FnScope dClosedN ["many", "rows"] (defScope (top 2)) := ⟨rfl, rfl, rfl, by decide +kernel, rfl, by decide +kernel, by decide +kernel⟩

def dLCellN : List Str := ["_law_script", "_law_k", "_law_number"]

theorem dLCell_ck : chkSs ⟨dLCellN, defScope (top 5), fun _ => true, dfs, xsL, xrL, hotL, msL, mksL, true⟩ dLCell.body (defBody (top 5)) = true := by decide +kernel
theorem dLCell_sc : FnScope dLCellN ["_law_script", "_law_k"] (defScope (top 5)) := ⟨rfl, rfl, rfl, by decide +kernel, rfl, by decide +kernel, by decide +kernel⟩

def dLFlowBN : List Str := ["_law_script", "_law_k", "_law_cell_here"]

theorem dLFlowB_ck : chkSs ⟨dLFlowBN, defScope (top 6), fun _ => true, dfs, xsL, xrL, hotL, msL, mksL, true⟩ dLFlowB.body (defBody (top 6)) = true := by decide +kernel
theorem dLFlowB_sc : FnScope dLFlowBN ["_law_script", "_law_k"] (defScope (top 6)) := ⟨rfl, rfl, rfl, by decide +kernel, rfl, by decide +kernel, by decide +kernel⟩

def dLDrawBN : List Str := ["_law_flow_here", "_law_many", "_law_digit"]

theorem dLDrawB_ck : chkSs ⟨dLDrawBN, defScope (top 7), fun _ => true, dfs, xsL, xrL, hotL, msL, mksL, true⟩ dLDrawB.body (defBody (top 7)) = true := by decide +kernel
theorem dLDrawB_sc : FnScope dLDrawBN ["_law_flow_here", "_law_many"] (defScope (top 7)) := ⟨rfl, rfl, rfl, by decide +kernel, rfl, by decide +kernel, by decide +kernel⟩

def dLRowsN : List Str := ["_law_flow_here", "_law_many", "_law_most", "_law_far", "_law_found", "_law_k", "_law_i", "_law_j"]

theorem dLRows_ck : chkSs ⟨dLRowsN, defScope (top 8), fun _ => true, dfs, xsL, xrL, hotL, msL, mksL, true⟩ dLRows.body (defBody (top 8)) = true := by decide +kernel
theorem dLRows_sc : FnScope dLRowsN ["_law_flow_here", "_law_many", "_law_most", "_law_far"] (defScope (top 8)) := ⟨rfl, rfl, rfl, by decide +kernel, rfl, by decide +kernel, by decide +kernel⟩

def dLDownN : List Str := ["_law_many", "_law_rows_here", "_law_begin", "_law_sums", "_law_falls", "_law_turn", "_law_i", "_law_j", "_law_c"]

theorem dLDown_ck : chkSs ⟨dLDownN, defScope (top 9), fun _ => true, dfs, xsL, xrL, hotL, msL, mksL, true⟩ dLDown.body (defBody (top 9)) = true := by decide +kernel
theorem dLDown_sc : FnScope dLDownN ["_law_many", "_law_rows_here", "_law_begin"] (defScope (top 9)) := ⟨rfl, rfl, rfl, by decide +kernel, rfl, by decide +kernel, by decide +kernel⟩

def dLIsEmptyN : List Str := ["_law_many", "_law_rows_here", "_law_k"]

theorem dLIsEmpty_ck : chkSs ⟨dLIsEmptyN, defScope (top 10), fun _ => true, dfs, xsL, xrL, hotL, msL, mksL, true⟩ dLIsEmpty.body (defBody (top 10)) = true := by decide +kernel
theorem dLIsEmpty_sc : FnScope dLIsEmptyN ["_law_many", "_law_rows_here"] (defScope (top 10)) := ⟨rfl, rfl, rfl, by decide +kernel, rfl, by decide +kernel, by decide +kernel⟩

def dLFollowN : List Str := ["_law_many", "_law_rows_here", "_law_others", "_law_i", "_law_j", "_law_c", "_law_least"]

theorem dLFollow_ck : chkSs ⟨dLFollowN, defScope (top 11), fun _ => true, dfs, xsL, xrL, hotL, msL, mksL, true⟩ dLFollow.body (defBody (top 11)) = true := by decide +kernel
theorem dLFollow_sc : FnScope dLFollowN ["_law_many", "_law_rows_here", "_law_others"] (defScope (top 11)) := ⟨rfl, rfl, rfl, by decide +kernel, rfl, by decide +kernel, by decide +kernel⟩

def dLDueN : List Str := ["_law_many", "_law_rows_here", "_law_others"]

theorem dLDue_ck : chkSs ⟨dLDueN, defScope (top 12), fun _ => true, dfs, xsL, xrL, hotL, msL, mksL, true⟩ dLDue.body (defBody (top 12)) = true := by decide +kernel
theorem dLDue_sc : FnScope dLDueN ["_law_many", "_law_rows_here", "_law_others"] (defScope (top 12)) := ⟨rfl, rfl, rfl, by decide +kernel, rfl, by decide +kernel, by decide +kernel⟩

def dLMoreN : List Str := ["_law_flow_here", "_law_many", "_law_rows_here", "_law_found", "_law_turn", "_law_i", "_law_j", "_law_least", "_law_at"]

theorem dLMore_ck : chkSs ⟨dLMoreN, defScope (top 13), fun _ => true, dfs, xsL, xrL, hotL, msL, mksL, true⟩ dLMore.body (defBody (top 13)) = true := by decide +kernel
theorem dLMore_sc : FnScope dLMoreN ["_law_flow_here", "_law_many", "_law_rows_here"] (defScope (top 13)) := ⟨rfl, rfl, rfl, by decide +kernel, rfl, by decide +kernel, by decide +kernel⟩

def dLOtherwiseN : List Str := ["_law_flow_here", "_law_many", "_law_rows_here", "_law_at", "_law_i", "_law_j", "_law_c", "_law_other"]

theorem dLOtherwise_ck : chkSs ⟨dLOtherwiseN, defScope (top 14), fun _ => true, dfs, xsL, xrL, hotL, msL, mksL, true⟩ dLOtherwise.body (defBody (top 14)) = true := by decide +kernel
theorem dLOtherwise_sc : FnScope dLOtherwiseN ["_law_flow_here", "_law_many", "_law_rows_here"] (defScope (top 14)) := ⟨rfl, rfl, rfl, by decide +kernel, rfl, by decide +kernel, by decide +kernel⟩

def dLawN : List Str := ["_law_script", "_law_k", "_law_flow_here", "_law_many", "_law_rows_here", "_law_some", "_law_held", "_law_x", "_law_y", "_law_due_here", "_law_wider", "_law_one"]

theorem dLaw_ck : chkSs ⟨dLawN, defScope (top 15), fun _ => true, dfs, xsL, xrL, hotL, msL, mksL, true⟩ dLaw.body (defBody (top 15)) = true := by decide +kernel
theorem dLaw_sc : FnScope dLawN ["_law_script"] (defScope (top 15)) := ⟨rfl, rfl, rfl, by decide +kernel, rfl, by decide +kernel, by decide +kernel⟩

def dBoundsEqN : List Str := ["self", "other"]

theorem dBoundsEq_ck : chkSs ⟨dBoundsEqN, defScope (mt 3 8), fun _ => true, dfs, xsL, xrL, hotL, msL, mksL, true⟩ dBoundsEq.body (defBody (mt 3 8)) = true := by decide +kernel
theorem dBoundsEq_sc : FnScope dBoundsEqN ["self", "other"] (defScope (mt 3 8)) := ⟨rfl, rfl, rfl, by decide +kernel, rfl, by decide +kernel, by decide +kernel⟩

def dBoundsInitN : List Str := ["self", "many", "rows", "i", "j", "c"]

theorem dBoundsInit_ck : chkSs ⟨dBoundsInitN, defScope (mt 3 0), fun _ => true, dfs, xsL, xrL, hotL, msL, mksL, true⟩ dBoundsInit.body (defBody (mt 3 0)) = true := by decide +kernel
theorem dBoundsInit_sc : FnScope dBoundsInitN ["self", "many", "rows"] (defScope (mt 3 0)) := ⟨rfl, rfl, rfl, by decide +kernel, rfl, by decide +kernel, by decide +kernel⟩

def dBoundsReprN : List Str := ["self"]

theorem dBoundsRepr_ck : chkSs ⟨dBoundsReprN, defScope (mt 3 10), fun _ => true, dfs, xsL, xrL, hotL, msL, mksL, true⟩ dBoundsRepr.body (defBody (mt 3 10)) = true := by decide +kernel
theorem dBoundsRepr_sc : FnScope dBoundsReprN ["self"] (defScope (mt 3 10)) := ⟨rfl, rfl, rfl, by decide +kernel, rfl, by decide +kernel, by decide +kernel⟩

def dBoundsRowsN : List Str := ["self"]

theorem dBoundsRows_ck : chkSs ⟨dBoundsRowsN, defScope (mt 3 1), fun _ => true, dfs, xsL, xrL, hotL, msL, mksL, true⟩ dBoundsRows.body (defBody (mt 3 1)) = true := by decide +kernel
theorem dBoundsRows_sc : FnScope dBoundsRowsN ["self"] (defScope (mt 3 1)) := ⟨rfl, rfl, rfl, by decide +kernel, rfl, by decide +kernel, by decide +kernel⟩

def dBoundsIsEmptyN : List Str := ["self", "k"]

theorem dBoundsIsEmpty_ck : chkSs ⟨dBoundsIsEmptyN, defScope (mt 3 3), fun _ => true, dfs, xsL, xrL, hotL, msL, mksL, true⟩ dBoundsIsEmpty.body (defBody (mt 3 3)) = true := by decide +kernel
theorem dBoundsIsEmpty_sc : FnScope dBoundsIsEmptyN ["self"] (defScope (mt 3 3)) := ⟨rfl, rfl, rfl, by decide +kernel, rfl, by decide +kernel, by decide +kernel⟩

end Z

set_option Elab.async false
set_option linter.all false
set_option maxRecDepth 100000
set_option maxHeartbeats 4000000
namespace Z
open PySem PySem.Spec PyProof.Rows L2
theorem all_mk {P : Program} {w : World} {K : PySem.W.Frag} {h : Heap} {mg : Str → Option Value} {fa : Addr} (X : K.In h) (G : h.Ns mainGlobals mg) (hfa : mg "law" = some (.ref fa))
    {f0 f1 f2 f3 f4 f5 f6 f7 f8 f9 f10 f11 f12 f13 f14 f15 f16 f17 : Addr} {od0 od1 od2 od3 od4 od5 od6 od7 od8 od9 od10 od11 od12 od13 od14 od15 od16 od17 an0 an1 an2 an3 an4 an5 an6 an7 an8 an9 an10 an11 an12 an13 an14 an15 an16 an17 : Option Addr} {sl0 sl1 sl2 sl3 sl4 sl5 sl6 sl7 sl8 sl9 sl10 sl11 sl12 sl13 sl14 sl15 sl16 sl17 : Array (Option Value)} {oc0 oc1 oc2 oc3 oc4 oc5 oc6 oc7 oc8 oc9 oc10 oc11 oc12 oc13 oc14 oc15 oc16 oc17 kV0 kV1 kV2 kV3 kV4 kV5 kV6 kV7 kV8 kV9 kV10 kV11 kV12 kV13 kV14 kV15 kV16 kV17 dc0 dc1 dc2 dc3 dc4 dc5 dc6 dc7 dc8 dc9 dc10 dc11 dc12 dc13 dc14 dc15 dc16 dc17 pm0 pm1 pm2 pm3 pm4 pm5 pm6 pm7 pm8 pm9 pm10 pm11 pm12 pm13 pm14 pm15 pm16 pm17 cd0 cd1 cd2 cd3 cd4 cd5 cd6 cd7 cd8 cd9 cd10 cd11 cd12 cd13 cd14 cd15 cd16 cd17 ct0 ct1 ct2 ct3 ct4 ct5 ct6 ct7 ct8 ct9 ct10 ct11 ct12 ct13 ct14 ct15 ct16 ct17 : Value} {dT14 de14 : Addr} {do14 eo14 : Obj} {dn14 en14 : Nat} {ca0 : Addr}
    (cn0 : PySem.W.nsIn K mainGlobals "Bounds" = some (some (.ref ca0))) (cc0 : Cls K ca0) (cf0 : ∀ f ∈ cflds, PySem.W.findIn K (.ref ca0) f = some none) (ch0 : PySem.W.findIn K (.ref ca0) "__class__" = some (some (.builtin "object.__class__"))) (ci0 : PySem.W.specialIn K (.builtin "object.__class__") "__get__" = some (some (.builtin "getset_descriptor.__get__"))) (cj0 : PySem.W.takesIn K (.builtin "object.__class__") = some true) (co0 : PySem.W.mroIn K ca0 (.type "object") = some true) (cm0 : PySem.W.makesIn K ca0 = true) (ck0 : PySem.W.keepIn K (.ref ca0) = true) (cp0 : PySem.W.findIn K (.ref ca0) "__ne__" = some (some (.builtin "object.__ne__"))) (cT0 : PySem.W.typeIn K (.ref ca0) = some (.type "type")) (cU0 : PySem.W.instIn K (.ref ca0) (.type "type") = some true) (cx0NoneType : PySem.W.subIn K (.ref ca0) (.type "NoneType") = some false) (cy0NoneType : PySem.W.subIn K (.type "NoneType") (.ref ca0) = some false) (cx0int : PySem.W.subIn K (.ref ca0) (.type "int") = some false) (cy0int : PySem.W.subIn K (.type "int") (.ref ca0) = some false) (cx0str : PySem.W.subIn K (.ref ca0) (.type "str") = some false) (cy0str : PySem.W.subIn K (.type "str") (.ref ca0) = some false) (cx0tuple : PySem.W.subIn K (.ref ca0) (.type "tuple") = some false) (cy0tuple : PySem.W.subIn K (.type "tuple") (.ref ca0) = some false) (cx0list : PySem.W.subIn K (.ref ca0) (.type "list") = some false) (cy0list : PySem.W.subIn K (.type "list") (.ref ca0) = some false)
    (a0 : PySem.W.nsIn K mainGlobals "_wall" = some (some (.ref f0)))
    (l0 : K.lookup f0 = some ⟨oc0, od0, .func (PySem.W.fnOf "_wall" "_wall" (defArgs (top 0)) (defBody (top 0)) (defScope (top 0)) .none kV0 dc0 pm0 an0 cd0 ct0), sl0⟩) (c0 : PySem.W.codeIn K cd0 "_wall" = true) (k0 : PySem.W.keepIn K (.ref f0) = true)
    (a1 : PySem.W.nsIn K mainGlobals "closed" = some (some (.ref f1)))
    (l1 : K.lookup f1 = some ⟨oc1, od1, .func (PySem.W.fnOf "closed" "closed" (defArgs (top 2)) (defBody (top 2)) (defScope (top 2)) .none kV1 dc1 pm1 an1 cd1 ct1), sl1⟩) (c1 : PySem.W.codeIn K cd1 "closed" = true) (k1 : PySem.W.keepIn K (.ref f1) = true)
    (a2 : PySem.W.nsIn K mainGlobals "_law_cell" = some (some (.ref f2)))
    (l2 : K.lookup f2 = some ⟨oc2, od2, .func (PySem.W.fnOf "_law_cell" "_law_cell" (defArgs (top 5)) (defBody (top 5)) (defScope (top 5)) .none kV2 dc2 pm2 an2 cd2 ct2), sl2⟩) (c2 : PySem.W.codeIn K cd2 "_law_cell" = true) (k2 : PySem.W.keepIn K (.ref f2) = true)
    (a3 : PySem.W.nsIn K mainGlobals "_law_flow" = some (some (.ref f3)))
    (l3 : K.lookup f3 = some ⟨oc3, od3, .func (PySem.W.fnOf "_law_flow" "_law_flow" (defArgs (top 6)) (defBody (top 6)) (defScope (top 6)) .none kV3 dc3 pm3 an3 cd3 ct3), sl3⟩) (c3 : PySem.W.codeIn K cd3 "_law_flow" = true) (k3 : PySem.W.keepIn K (.ref f3) = true)
    (a4 : PySem.W.nsIn K mainGlobals "_law_draw" = some (some (.ref f4)))
    (l4 : K.lookup f4 = some ⟨oc4, od4, .func (PySem.W.fnOf "_law_draw" "_law_draw" (defArgs (top 7)) (defBody (top 7)) (defScope (top 7)) .none kV4 dc4 pm4 an4 cd4 ct4), sl4⟩) (c4 : PySem.W.codeIn K cd4 "_law_draw" = true) (k4 : PySem.W.keepIn K (.ref f4) = true)
    (a5 : PySem.W.nsIn K mainGlobals "_law_rows" = some (some (.ref f5)))
    (l5 : K.lookup f5 = some ⟨oc5, od5, .func (PySem.W.fnOf "_law_rows" "_law_rows" (defArgs (top 8)) (defBody (top 8)) (defScope (top 8)) .none kV5 dc5 pm5 an5 cd5 ct5), sl5⟩) (c5 : PySem.W.codeIn K cd5 "_law_rows" = true) (k5 : PySem.W.keepIn K (.ref f5) = true)
    (a6 : PySem.W.nsIn K mainGlobals "_law_down" = some (some (.ref f6)))
    (l6 : K.lookup f6 = some ⟨oc6, od6, .func (PySem.W.fnOf "_law_down" "_law_down" (defArgs (top 9)) (defBody (top 9)) (defScope (top 9)) .none kV6 dc6 pm6 an6 cd6 ct6), sl6⟩) (c6 : PySem.W.codeIn K cd6 "_law_down" = true) (k6 : PySem.W.keepIn K (.ref f6) = true)
    (a7 : PySem.W.nsIn K mainGlobals "_law_is_empty" = some (some (.ref f7)))
    (l7 : K.lookup f7 = some ⟨oc7, od7, .func (PySem.W.fnOf "_law_is_empty" "_law_is_empty" (defArgs (top 10)) (defBody (top 10)) (defScope (top 10)) .none kV7 dc7 pm7 an7 cd7 ct7), sl7⟩) (c7 : PySem.W.codeIn K cd7 "_law_is_empty" = true) (k7 : PySem.W.keepIn K (.ref f7) = true)
    (a8 : PySem.W.nsIn K mainGlobals "_law_follow" = some (some (.ref f8)))
    (l8 : K.lookup f8 = some ⟨oc8, od8, .func (PySem.W.fnOf "_law_follow" "_law_follow" (defArgs (top 11)) (defBody (top 11)) (defScope (top 11)) .none kV8 dc8 pm8 an8 cd8 ct8), sl8⟩) (c8 : PySem.W.codeIn K cd8 "_law_follow" = true) (k8 : PySem.W.keepIn K (.ref f8) = true)
    (a9 : PySem.W.nsIn K mainGlobals "_law_due" = some (some (.ref f9)))
    (l9 : K.lookup f9 = some ⟨oc9, od9, .func (PySem.W.fnOf "_law_due" "_law_due" (defArgs (top 12)) (defBody (top 12)) (defScope (top 12)) .none kV9 dc9 pm9 an9 cd9 ct9), sl9⟩) (c9 : PySem.W.codeIn K cd9 "_law_due" = true) (k9 : PySem.W.keepIn K (.ref f9) = true)
    (a10 : PySem.W.nsIn K mainGlobals "_law_more" = some (some (.ref f10)))
    (l10 : K.lookup f10 = some ⟨oc10, od10, .func (PySem.W.fnOf "_law_more" "_law_more" (defArgs (top 13)) (defBody (top 13)) (defScope (top 13)) .none kV10 dc10 pm10 an10 cd10 ct10), sl10⟩) (c10 : PySem.W.codeIn K cd10 "_law_more" = true) (k10 : PySem.W.keepIn K (.ref f10) = true)
    (a11 : PySem.W.nsIn K mainGlobals "_law_otherwise" = some (some (.ref f11)))
    (l11 : K.lookup f11 = some ⟨oc11, od11, .func (PySem.W.fnOf "_law_otherwise" "_law_otherwise" (defArgs (top 14)) (defBody (top 14)) (defScope (top 14)) .none kV11 dc11 pm11 an11 cd11 ct11), sl11⟩) (c11 : PySem.W.codeIn K cd11 "_law_otherwise" = true) (k11 : PySem.W.keepIn K (.ref f11) = true)
    (a12 : PySem.W.nsIn K mainGlobals "law" = some (some (.ref f12)))
    (l12 : K.lookup f12 = some ⟨oc12, od12, .func (PySem.W.fnOf "law" "law" (defArgs (top 15)) (defBody (top 15)) (defScope (top 15)) .none kV12 dc12 pm12 an12 cd12 ct12), sl12⟩) (c12 : PySem.W.codeIn K cd12 "law" = true) (k12 : PySem.W.keepIn K (.ref f12) = true)
    (mi13 : PySem.W.findIn K (.ref ca0) "__eq__" = some (some (.ref f13))) (mq13 : PySem.W.isFn K (.ref f13) = true)
    (l13 : K.lookup f13 = some ⟨oc13, od13, .func (PySem.W.fnOf "__eq__" "Bounds.__eq__" (defArgs (mt 3 8)) (defBody (mt 3 8)) (defScope (mt 3 8)) .none kV13 dc13 pm13 an13 cd13 ct13), sl13⟩) (c13 : PySem.W.codeIn K cd13 "Bounds.__eq__" = true) (k13 : PySem.W.keepIn K (.ref f13) = true)
    (mi14 : PySem.W.findIn K (.ref ca0) "__init__" = some (some (.ref f14))) (mq14 : PySem.W.isFn K (.ref f14) = true)
    (l14 : K.lookup f14 = some ⟨oc14, od14, .func (PySem.W.fnOf "__init__" "Bounds.__init__" (defArgs (mt 3 0)) (defBody (mt 3 0)) (defScope (mt 3 0)) (.ref dT14) kV14 dc14 pm14 an14 cd14 ct14), sl14⟩) (c14 : PySem.W.codeIn K cd14 "Bounds.__init__" = true) (k14 : PySem.W.keepIn K (.ref f14) = true)
    (dl14 : K.lookup dT14 = some do14) (dd14 : do14.data = .seq #[.ref de14] dn14) (el14 : K.lookup de14 = some eo14) (ec14 : eo14.cls = .type "tuple") (ed14 : eo14.data = .seq #[] en14)
    (mi15 : PySem.W.findIn K (.ref ca0) "__repr__" = some (some (.ref f15))) (mq15 : PySem.W.isFn K (.ref f15) = true)
    (l15 : K.lookup f15 = some ⟨oc15, od15, .func (PySem.W.fnOf "__repr__" "Bounds.__repr__" (defArgs (mt 3 10)) (defBody (mt 3 10)) (defScope (mt 3 10)) .none kV15 dc15 pm15 an15 cd15 ct15), sl15⟩) (c15 : PySem.W.codeIn K cd15 "Bounds.__repr__" = true) (k15 : PySem.W.keepIn K (.ref f15) = true)
    (mi16 : PySem.W.findIn K (.ref ca0) "rows" = some (some (.ref f16))) (mq16 : PySem.W.isFn K (.ref f16) = true)
    (l16 : K.lookup f16 = some ⟨oc16, od16, .func (PySem.W.fnOf "rows" "Bounds.rows" (defArgs (mt 3 1)) (defBody (mt 3 1)) (defScope (mt 3 1)) .none kV16 dc16 pm16 an16 cd16 ct16), sl16⟩) (c16 : PySem.W.codeIn K cd16 "Bounds.rows" = true) (k16 : PySem.W.keepIn K (.ref f16) = true)
    (mi17 : PySem.W.findIn K (.ref ca0) "is_empty" = some (some (.ref f17))) (mq17 : PySem.W.isFn K (.ref f17) = true)
    (l17 : K.lookup f17 = some ⟨oc17, od17, .func (PySem.W.fnOf "is_empty" "Bounds.is_empty" (defArgs (mt 3 3)) (defBody (mt 3 3)) (defScope (mt 3 3)) .none kV17 dc17 pm17 an17 cd17 ct17), sl17⟩) (c17 : PySem.W.codeIn K cd17 "Bounds.is_empty" = true) (k17 : PySem.W.keepIn K (.ref f17) = true)
    (z0 : PySem.W.nsIn K mainGlobals "len" = some none)
    (z1 : PySem.W.nsIn K mainGlobals "isinstance" = some none)
    (z2 : PySem.W.nsIn K mainGlobals "max" = some none)
    (z3 : PySem.W.nsIn K mainGlobals "min" = some none)
    (z4 : PySem.W.nsIn K mainGlobals "abs" = some none)
    (z5 : PySem.W.nsIn K mainGlobals "all" = some none)
    (z6 : PySem.W.nsIn K mainGlobals "any" = some none)
    (z7 : PySem.W.nsIn K mainGlobals "sum" = some none)
    (z8 : PySem.W.nsIn K mainGlobals "tuple" = some none)
    (z9 : PySem.W.nsIn K mainGlobals "list" = some none)
    (z10 : PySem.W.nsIn K mainGlobals "int" = some none)
    (z11 : PySem.W.nsIn K mainGlobals "str" = some none)
    (z12 : PySem.W.nsIn K mainGlobals "bool" = some none)
    (z13 : PySem.W.nsIn K mainGlobals "dict" = some none)
    (z14 : PySem.W.nsIn K mainGlobals "range" = some none)
    (z15 : PySem.W.nsIn K mainGlobals "enumerate" = some none)
    (z16 : PySem.W.nsIn K mainGlobals "zip" = some none)
    (z17 : PySem.W.nsIn K mainGlobals "reversed" = some none)
    (z18 : PySem.W.nsIn K mainGlobals "set" = some none)
    (z19 : PySem.W.nsIn K mainGlobals "repr" = some none)
    (z20 : PySem.W.nsIn K mainGlobals "sorted" = some none) :
    ∃ fd : FuncData, (∀ (s : Shared) (u : Value), BindsTo s fd ⟨[u], []⟩ [("_law_script", u)]) ∧ ∀ base : Heap, K.In base → base.Ns mainGlobals mg → FnG P w K mg base (L2.CX P w) 20 fa fd ["_law_script"] (spD K w 1 (sem defs gl 9 "law")) := by
  have CF0 : ClsF K "Bounds" ca0 := ⟨cn0, cc0, cf0, ch0, ci0, cj0, co0, kit_self, cp0, btys_all ⟨cx0NoneType, cy0NoneType⟩ ⟨cx0int, cy0int⟩ ⟨cx0str, cy0str⟩ ⟨cx0tuple, cy0tuple⟩ ⟨cx0list, cy0list⟩, cT0, cU0⟩
  have F0 := fun_mk (st := top 0) l0 c0 k0
  have B0 : Binds K _ ["k"] [] := F0.binds (ps := ["k"]) (fun _ _ _ _ _ _ us hl => match us, hl with | [_], _ => rfl)
  have D0 : DFact K w mg dfs xsL xrL hotL msL mksL "_wall" dWall f0 _ dWallN ["k"] (top 0) := ⟨fun _ => PySem.W.mg_of X G a0, ⟨_, [], [], fun_to F0⟩, fun z => absurd z (by decide +kernel), fun _ => B0, kb_no (by decide +kernel), rfl, rfl, dWall_sc, dWall_ck, fun z => absurd z (by decide +kernel), ms_no (by decide +kernel), mk_no (by decide +kernel), mkk_no (by decide +kernel)⟩
  have F1 := fun_mk (st := top 2) l1 c1 k1
  have B1 : Binds K _ ["many", "rows"] [] := F1.binds (ps := ["many", "rows"]) (fun _ _ _ _ _ _ us hl => match us, hl with | [_, _], _ => rfl)
  have D1 : DFact K w mg dfs xsL xrL hotL msL mksL "closed" dClosed f1 _ dClosedN ["many", "rows"] (top 2) := ⟨fun _ => PySem.W.mg_of X G a1, ⟨_, [], [], fun_to F1⟩, fun z => absurd z (by decide +kernel), fun _ => B1, kb_no (by decide +kernel), rfl, rfl, dClosed_sc, dClosed_ck, fun z => absurd z (by decide +kernel), ms_no (by decide +kernel), mk_no (by decide +kernel), mkk_no (by decide +kernel)⟩
  have F2 := fun_mk (st := top 5) l2 c2 k2
  have B2 : Binds K _ ["_law_script", "_law_k"] [] := F2.binds (ps := ["_law_script", "_law_k"]) (fun _ _ _ _ _ _ us hl => match us, hl with | [_, _], _ => rfl)
  have D2 : DFact K w mg dfs xsL xrL hotL msL mksL "_law_cell" dLCell f2 _ dLCellN ["_law_script", "_law_k"] (top 5) := ⟨fun _ => PySem.W.mg_of X G a2, ⟨_, [], [], fun_to F2⟩, fun z => absurd z (by decide +kernel), fun _ => B2, kb_no (by decide +kernel), rfl, rfl, dLCell_sc, dLCell_ck, fun z => absurd z (by decide +kernel), ms_no (by decide +kernel), mk_no (by decide +kernel), mkk_no (by decide +kernel)⟩
  have F3 := fun_mk (st := top 6) l3 c3 k3
  have B3 : Binds K _ ["_law_script", "_law_k"] [] := F3.binds (ps := ["_law_script", "_law_k"]) (fun _ _ _ _ _ _ us hl => match us, hl with | [_, _], _ => rfl)
  have D3 : DFact K w mg dfs xsL xrL hotL msL mksL "_law_flow" dLFlowB f3 _ dLFlowBN ["_law_script", "_law_k"] (top 6) := ⟨fun _ => PySem.W.mg_of X G a3, ⟨_, [], [], fun_to F3⟩, fun z => absurd z (by decide +kernel), fun _ => B3, kb_no (by decide +kernel), rfl, rfl, dLFlowB_sc, dLFlowB_ck, fun z => absurd z (by decide +kernel), ms_no (by decide +kernel), mk_no (by decide +kernel), mkk_no (by decide +kernel)⟩
  have F4 := fun_mk (st := top 7) l4 c4 k4
  have B4 : Binds K _ ["_law_flow_here", "_law_many"] [] := F4.binds (ps := ["_law_flow_here", "_law_many"]) (fun _ _ _ _ _ _ us hl => match us, hl with | [_, _], _ => rfl)
  have D4 : DFact K w mg dfs xsL xrL hotL msL mksL "_law_draw" dLDrawB f4 _ dLDrawBN ["_law_flow_here", "_law_many"] (top 7) := ⟨fun _ => PySem.W.mg_of X G a4, ⟨_, [], [], fun_to F4⟩, fun z => absurd z (by decide +kernel), fun _ => B4, kb_no (by decide +kernel), rfl, rfl, dLDrawB_sc, dLDrawB_ck, fun z => absurd z (by decide +kernel), ms_no (by decide +kernel), mk_no (by decide +kernel), mkk_no (by decide +kernel)⟩
  have F5 := fun_mk (st := top 8) l5 c5 k5
  have B5 : Binds K _ ["_law_flow_here", "_law_many", "_law_most", "_law_far"] [] := F5.binds (ps := ["_law_flow_here", "_law_many", "_law_most", "_law_far"]) (fun _ _ _ _ _ _ us hl => match us, hl with | [_, _, _, _], _ => rfl)
  have D5 : DFact K w mg dfs xsL xrL hotL msL mksL "_law_rows" dLRows f5 _ dLRowsN ["_law_flow_here", "_law_many", "_law_most", "_law_far"] (top 8) := ⟨fun _ => PySem.W.mg_of X G a5, ⟨_, [], [], fun_to F5⟩, fun z => absurd z (by decide +kernel), fun _ => B5, kb_no (by decide +kernel), rfl, rfl, dLRows_sc, dLRows_ck, fun z => absurd z (by decide +kernel), ms_no (by decide +kernel), mk_no (by decide +kernel), mkk_no (by decide +kernel)⟩
  have F6 := fun_mk (st := top 9) l6 c6 k6
  have B6 : Binds K _ ["_law_many", "_law_rows_here", "_law_begin"] [] := F6.binds (ps := ["_law_many", "_law_rows_here", "_law_begin"]) (fun _ _ _ _ _ _ us hl => match us, hl with | [_, _, _], _ => rfl)
  have D6 : DFact K w mg dfs xsL xrL hotL msL mksL "_law_down" dLDown f6 _ dLDownN ["_law_many", "_law_rows_here", "_law_begin"] (top 9) := ⟨fun _ => PySem.W.mg_of X G a6, ⟨_, [], [], fun_to F6⟩, fun z => absurd z (by decide +kernel), fun _ => B6, kb_no (by decide +kernel), rfl, rfl, dLDown_sc, dLDown_ck, fun z => absurd z (by decide +kernel), ms_no (by decide +kernel), mk_no (by decide +kernel), mkk_no (by decide +kernel)⟩
  have F7 := fun_mk (st := top 10) l7 c7 k7
  have B7 : Binds K _ ["_law_many", "_law_rows_here"] [] := F7.binds (ps := ["_law_many", "_law_rows_here"]) (fun _ _ _ _ _ _ us hl => match us, hl with | [_, _], _ => rfl)
  have D7 : DFact K w mg dfs xsL xrL hotL msL mksL "_law_is_empty" dLIsEmpty f7 _ dLIsEmptyN ["_law_many", "_law_rows_here"] (top 10) := ⟨fun _ => PySem.W.mg_of X G a7, ⟨_, [], [], fun_to F7⟩, fun z => absurd z (by decide +kernel), fun _ => B7, kb_no (by decide +kernel), rfl, rfl, dLIsEmpty_sc, dLIsEmpty_ck, fun z => absurd z (by decide +kernel), ms_no (by decide +kernel), mk_no (by decide +kernel), mkk_no (by decide +kernel)⟩
  have F8 := fun_mk (st := top 11) l8 c8 k8
  have B8 : Binds K _ ["_law_many", "_law_rows_here", "_law_others"] [] := F8.binds (ps := ["_law_many", "_law_rows_here", "_law_others"]) (fun _ _ _ _ _ _ us hl => match us, hl with | [_, _, _], _ => rfl)
  have D8 : DFact K w mg dfs xsL xrL hotL msL mksL "_law_follow" dLFollow f8 _ dLFollowN ["_law_many", "_law_rows_here", "_law_others"] (top 11) := ⟨fun _ => PySem.W.mg_of X G a8, ⟨_, [], [], fun_to F8⟩, fun z => absurd z (by decide +kernel), fun _ => B8, kb_no (by decide +kernel), rfl, rfl, dLFollow_sc, dLFollow_ck, fun z => absurd z (by decide +kernel), ms_no (by decide +kernel), mk_no (by decide +kernel), mkk_no (by decide +kernel)⟩
  have F9 := fun_mk (st := top 12) l9 c9 k9
  have B9 : Binds K _ ["_law_many", "_law_rows_here", "_law_others"] [] := F9.binds (ps := ["_law_many", "_law_rows_here", "_law_others"]) (fun _ _ _ _ _ _ us hl => match us, hl with | [_, _, _], _ => rfl)
  have D9 : DFact K w mg dfs xsL xrL hotL msL mksL "_law_due" dLDue f9 _ dLDueN ["_law_many", "_law_rows_here", "_law_others"] (top 12) := ⟨fun _ => PySem.W.mg_of X G a9, ⟨_, [], [], fun_to F9⟩, fun z => absurd z (by decide +kernel), fun _ => B9, kb_no (by decide +kernel), rfl, rfl, dLDue_sc, dLDue_ck, fun z => absurd z (by decide +kernel), ms_no (by decide +kernel), mk_no (by decide +kernel), mkk_no (by decide +kernel)⟩
  have F10 := fun_mk (st := top 13) l10 c10 k10
  have B10 : Binds K _ ["_law_flow_here", "_law_many", "_law_rows_here"] [] := F10.binds (ps := ["_law_flow_here", "_law_many", "_law_rows_here"]) (fun _ _ _ _ _ _ us hl => match us, hl with | [_, _, _], _ => rfl)
  have D10 : DFact K w mg dfs xsL xrL hotL msL mksL "_law_more" dLMore f10 _ dLMoreN ["_law_flow_here", "_law_many", "_law_rows_here"] (top 13) := ⟨fun _ => PySem.W.mg_of X G a10, ⟨_, [], [], fun_to F10⟩, fun z => absurd z (by decide +kernel), fun _ => B10, kb_no (by decide +kernel), rfl, rfl, dLMore_sc, dLMore_ck, fun z => absurd z (by decide +kernel), ms_no (by decide +kernel), mk_no (by decide +kernel), mkk_no (by decide +kernel)⟩
  have F11 := fun_mk (st := top 14) l11 c11 k11
  have B11 : Binds K _ ["_law_flow_here", "_law_many", "_law_rows_here"] [] := F11.binds (ps := ["_law_flow_here", "_law_many", "_law_rows_here"]) (fun _ _ _ _ _ _ us hl => match us, hl with | [_, _, _], _ => rfl)
  have D11 : DFact K w mg dfs xsL xrL hotL msL mksL "_law_otherwise" dLOtherwise f11 _ dLOtherwiseN ["_law_flow_here", "_law_many", "_law_rows_here"] (top 14) := ⟨fun _ => PySem.W.mg_of X G a11, ⟨_, [], [], fun_to F11⟩, fun z => absurd z (by decide +kernel), fun _ => B11, kb_no (by decide +kernel), rfl, rfl, dLOtherwise_sc, dLOtherwise_ck, fun z => absurd z (by decide +kernel), ms_no (by decide +kernel), mk_no (by decide +kernel), mkk_no (by decide +kernel)⟩
  have F12 := fun_mk (st := top 15) l12 c12 k12
  have B12 : Binds K _ ["_law_script"] [] := F12.binds (ps := ["_law_script"]) (fun _ _ _ _ _ _ us hl => match us, hl with | [_], _ => rfl)
  have D12 : DFact K w mg dfs xsL xrL hotL msL mksL "law" dLaw f12 _ dLawN ["_law_script"] (top 15) := ⟨fun _ => PySem.W.mg_of X G a12, ⟨_, [], [], fun_to F12⟩, fun z => absurd z (by decide +kernel), fun _ => B12, kb_no (by decide +kernel), rfl, rfl, dLaw_sc, dLaw_ck, fun z => absurd z (by decide +kernel), ms_no (by decide +kernel), mk_no (by decide +kernel), mkk_no (by decide +kernel)⟩
  have F13 := fun_mk (st := mt 3 8) l13 c13 k13
  have B13 : Binds K _ ["self", "other"] [] := F13.binds (ps := ["self", "other"]) (fun _ _ _ _ _ _ us hl => match us, hl with | [_, _], _ => rfl)
  have D13 : DFact K w mg dfs xsL xrL hotL msL mksL "Bounds.__eq__" dBoundsEq f13 _ dBoundsEqN ["self", "other"] (mt 3 8) := ⟨fun z => absurd z (by decide +kernel), ⟨_, [], [], fun_to F13⟩, fun z => absurd z (by decide +kernel), fun _ => B13, kb_no (by decide +kernel), rfl, rfl, dBoundsEq_sc, dBoundsEq_ck, fun z => absurd z (by decide +kernel), ms_one (c0 := "Bounds") (m0 := "__eq__") (by decide +kernel) ⟨_, CF0, ⟨mi13, mq13, k13⟩⟩, mk_no (by decide +kernel), mkk_no (by decide +kernel)⟩
  have F14 := fun1_mk (st := mt 3 0) l14 c14 k14 dl14 dd14
  have B14 := binds_full (F14.binds1 (ps := ["self", "many", "rows"]) 3 1 (by simp) rfl (fun _ _ _ _ _ _ _ us its hl hi => match us, hl, its, hi with | [_, _, _], _, [_], _ => ⟨_, rfl, rfl⟩))
  obtain ⟨dz14, hv14, hb14⟩ := F14.binds1 (ps := ["self", "many", "rows"]) 2 0 (by simp) rfl (fun _ _ _ _ _ _ _ us its hl hi => match us, hl, its, hi with | [_, _], _, [_], _ => ⟨_, rfl, rfl⟩)
  obtain ⟨_, KB14⟩ := F14.kbindsD (ps := ["self", "many", "rows"]) 2 ["rows"] (fun us _ ws => us ++ ws) (by simp) (fun r1 _ r2 => r1.append r2) (fun _ _ _ _ _ _ _ us its ws hl hi hk => match us, hl, its, hi, ws, hk with | [_, _], _, [_], _, [_], _ => ⟨_, rfl, rfl⟩)
  have D14 : DFact K w mg dfs xsL xrL hotL msL mksL "Bounds.__init__" dBoundsInit f14 _ dBoundsInitN ["self", "many", "rows"] (mt 3 0) := ⟨fun z => absurd z (by decide +kernel), ⟨_, _, _, F14⟩, fun z => absurd z (by decide +kernel), fun _ => B14, kb_no (by decide +kernel), rfl, rfl, dBoundsInit_sc, dBoundsInit_ck, fun z => absurd z (by decide +kernel), ms_no (by decide +kernel), mk_one (c0 := "Bounds") (m0 := 2) (by decide +kernel) ⟨_, [], [], CF0, PySem.W.mg_of X G cn0, ⟨cm0, mi14, mq14, ck0⟩, B14, .nil, fun H => rfl⟩, mkk_yes (m := 1) (js := ["rows"]) (by decide +kernel) KB14⟩
  have F15 := fun_mk (st := mt 3 10) l15 c15 k15
  have B15 : Binds K _ ["self"] [] := F15.binds (ps := ["self"]) (fun _ _ _ _ _ _ us hl => match us, hl with | [_], _ => rfl)
  have D15 : DFact K w mg dfs xsL xrL hotL msL mksL "Bounds.__repr__" dBoundsRepr f15 _ dBoundsReprN ["self"] (mt 3 10) := ⟨fun z => absurd z (by decide +kernel), ⟨_, [], [], fun_to F15⟩, fun z => absurd z (by decide +kernel), fun _ => B15, kb_no (by decide +kernel), rfl, rfl, dBoundsRepr_sc, dBoundsRepr_ck, fun z => absurd z (by decide +kernel), ms_one (c0 := "Bounds") (m0 := "__repr__") (by decide +kernel) ⟨_, CF0, ⟨mi15, mq15, k15⟩⟩, mk_no (by decide +kernel), mkk_no (by decide +kernel)⟩
  have F16 := fun_mk (st := mt 3 1) l16 c16 k16
  have B16 : Binds K _ ["self"] [] := F16.binds (ps := ["self"]) (fun _ _ _ _ _ _ us hl => match us, hl with | [_], _ => rfl)
  have D16 : DFact K w mg dfs xsL xrL hotL msL mksL "Bounds.rows" dBoundsRows f16 _ dBoundsRowsN ["self"] (mt 3 1) := ⟨fun z => absurd z (by decide +kernel), ⟨_, [], [], fun_to F16⟩, fun z => absurd z (by decide +kernel), fun _ => B16, kb_no (by decide +kernel), rfl, rfl, dBoundsRows_sc, dBoundsRows_ck, fun z => absurd z (by decide +kernel), ms_one (c0 := "Bounds") (m0 := "rows") (by decide +kernel) ⟨_, CF0, ⟨mi16, mq16, k16⟩⟩, mk_no (by decide +kernel), mkk_no (by decide +kernel)⟩
  have F17 := fun_mk (st := mt 3 3) l17 c17 k17
  have B17 : Binds K _ ["self"] [] := F17.binds (ps := ["self"]) (fun _ _ _ _ _ _ us hl => match us, hl with | [_], _ => rfl)
  have D17 : DFact K w mg dfs xsL xrL hotL msL mksL "Bounds.is_empty" dBoundsIsEmpty f17 _ dBoundsIsEmptyN ["self"] (mt 3 3) := ⟨fun z => absurd z (by decide +kernel), ⟨_, [], [], fun_to F17⟩, fun z => absurd z (by decide +kernel), fun _ => B17, kb_no (by decide +kernel), rfl, rfl, dBoundsIsEmpty_sc, dBoundsIsEmpty_ck, fun z => absurd z (by decide +kernel), ms_one (c0 := "Bounds") (m0 := "is_empty") (by decide +kernel) ⟨_, CF0, ⟨mi17, mq17, k17⟩⟩, mk_no (by decide +kernel), mkk_no (by decide +kernel)⟩
  have GF : GFact K w mg dfs xsL xrL hotL msL mksL defs gl := {
    df := fun f d e => by
      have all : ∀ p ∈ table, ∃ fa fd N ps st, DFact K w mg dfs xsL xrL hotL msL mksL p.1 p.2 fa fd N ps st := by
        refine List.forall_mem_cons.mpr ⟨⟨_, _, _, _, _, D0⟩, ?_⟩
        refine List.forall_mem_cons.mpr ⟨⟨_, _, _, _, _, D1⟩, ?_⟩
        refine List.forall_mem_cons.mpr ⟨⟨_, _, _, _, _, D2⟩, ?_⟩
        refine List.forall_mem_cons.mpr ⟨⟨_, _, _, _, _, D3⟩, ?_⟩
        refine List.forall_mem_cons.mpr ⟨⟨_, _, _, _, _, D4⟩, ?_⟩
        refine List.forall_mem_cons.mpr ⟨⟨_, _, _, _, _, D5⟩, ?_⟩
        refine List.forall_mem_cons.mpr ⟨⟨_, _, _, _, _, D6⟩, ?_⟩
        refine List.forall_mem_cons.mpr ⟨⟨_, _, _, _, _, D7⟩, ?_⟩
        refine List.forall_mem_cons.mpr ⟨⟨_, _, _, _, _, D8⟩, ?_⟩
        refine List.forall_mem_cons.mpr ⟨⟨_, _, _, _, _, D9⟩, ?_⟩
        refine List.forall_mem_cons.mpr ⟨⟨_, _, _, _, _, D10⟩, ?_⟩
        refine List.forall_mem_cons.mpr ⟨⟨_, _, _, _, _, D11⟩, ?_⟩
        refine List.forall_mem_cons.mpr ⟨⟨_, _, _, _, _, D12⟩, ?_⟩
        refine List.forall_mem_cons.mpr ⟨⟨_, _, _, _, _, D13⟩, ?_⟩
        refine List.forall_mem_cons.mpr ⟨⟨_, _, _, _, _, D14⟩, ?_⟩
        refine List.forall_mem_cons.mpr ⟨⟨_, _, _, _, _, D15⟩, ?_⟩
        refine List.forall_mem_cons.mpr ⟨⟨_, _, _, _, _, D16⟩, ?_⟩
        refine List.forall_mem_cons.mpr ⟨⟨_, _, _, _, _, D17⟩, ?_⟩
        exact fun p hp => nomatch hp
      exact all _ (mem_of_lookup e)
    hdf := fun f hf => by
      have : dfs.all (fun f => (defs f).isSome) = true := by decide +kernel
      have h2 := List.all_eq_true.mp this f (by simpa using hf)
      cases e : defs f with
      | none => rw [e] at h2; cases h2
      | some d => exact ⟨d, rfl⟩
    hms := hms_of (by decide +kernel)
    hmk := hmk_of (by decide +kernel)
    hotd := hotd_of (by decide +kernel)
    nkw := nkw_of (by decide +kernel)
    gls := fun x d e => by
      have all : ∀ p ∈ glT, ∃ u v, mg p.1 = some u ∧ RelV v u ∧ ∀ H, RelD K w H p.2 v := by
        exact fun p hp => nomatch hp
      exact all _ (mem_of_lookup e)
    blt := fun n hn => by
      simp only [bnames, List.mem_cons, List.not_mem_nil, or_false] at hn
      rcases hn with rfl | rfl | rfl | rfl | rfl | rfl | rfl | rfl | rfl | rfl | rfl | rfl | rfl | rfl | rfl | rfl | rfl | rfl | rfl | rfl | rfl
      · exact PySem.W.mg_none_of X G z0
      · exact PySem.W.mg_none_of X G z1
      · exact PySem.W.mg_none_of X G z2
      · exact PySem.W.mg_none_of X G z3
      · exact PySem.W.mg_none_of X G z4
      · exact PySem.W.mg_none_of X G z5
      · exact PySem.W.mg_none_of X G z6
      · exact PySem.W.mg_none_of X G z7
      · exact PySem.W.mg_none_of X G z8
      · exact PySem.W.mg_none_of X G z9
      · exact PySem.W.mg_none_of X G z10
      · exact PySem.W.mg_none_of X G z11
      · exact PySem.W.mg_none_of X G z12
      · exact PySem.W.mg_none_of X G z13
      · exact PySem.W.mg_none_of X G z14
      · exact PySem.W.mg_none_of X G z15
      · exact PySem.W.mg_none_of X G z16
      · exact PySem.W.mg_none_of X G z17
      · exact PySem.W.mg_none_of X G z18
      · exact PySem.W.mg_none_of X G z19
      · exact PySem.W.mg_none_of X G z20
    xs := fun m hm => by simp [xsL] at hm
    xr := fun m hm => by simp [xrL] at hm
    }
  have e := hfa.symm.trans (PySem.W.mg_of X G a12)
  cases e
  exact ⟨_, fun s v => .of_eq rfl, fun base _ _ => all_ok GF 9 "law" dLaw _ _ _ _ _ rfl D12⟩
theorem walk {l : PySem.W.OpenLaw} {q : Program} {loose : List Str} {XP : (Str → Option Value) → Heap → Prop} {YP : World → Heap → Prop} {d : DefRec} {K : Params → PySem.W.Frag} (hn : l.most = some 63) (hdf : d.params.defaults = [])
    (hY : ∀ (w : World) (h : Heap), YP w h → (K w.params).In h)
    (F : ∀ (w : World) (mg : Str → Option Value) (fa : Addr) (h : Heap), (K w.params).In h → h.Ns mainGlobals mg → mg d.name = some (.ref fa) →
      ∃ fd : FuncData, (∀ (s : Shared) (u : Value), BindsTo s fd ⟨[u], []⟩ [("_law_script", u)]) ∧ ∀ base : Heap, (K w.params).In base → base.Ns mainGlobals mg → FnG l.prog w (K w.params) mg base (L2.CX l.prog w) 20 fa fd ["_law_script"] (spD (K w.params) w 1 (sem defs gl 9 "law"))) :
    PySem.W.WalkO q loose XP YP l.row.toRowW d [] (fun f vs => PySem.call f vs) :=
  walk_ofG (n := 63) (k := 20) (x := "_law_script") (CX := fun w => L2.CX l.prog w) (sp := fun w => spD (K w.params) w 1 (sem defs gl 9 "law")) hn (by decide) hdf ⟨⟨rfl, by decide, by decide⟩, rfl⟩ hY F (fun w H a ns hl hO hS => law_sp hO hS fun S hS0 => d_law ns hl S hS0) fun w H s e s' z => cx_false z
end Z
open PySem PySem.W PyProof.Rows
set_option maxRecDepth 100000 in
set_option maxHeartbeats 0 in
theorem PySem.Challenge.cw_leastmaker_k24_bounds_alike_holds : PySem.Challenge.rw_leastmaker_k24_bounds_alike.Holds := by
  w_on; o_law; k_head; (case hw => w_witness2)
  k_fill
  refine Z.walk (l := PySem.Challenge.rw_leastmaker_k24_bounds_alike) rfl rfl (fun w h Y => PySem.W.kIn_of Y) ?F
  case F =>
    intro w mg fa h KX G hmg
    refine' Z.all_mk KX G hmg ?cn0 ?cc0 ?cf0 ?ch0 ?ci0 ?cj0 ?co0 ?cm0 ?ck0 ?cp0 ?cT0 ?cU0 ?cx0NoneType ?cy0NoneType ?cx0int ?cy0int ?cx0str ?cy0str ?cx0tuple ?cy0tuple ?cx0list ?cy0list ?a0 ?l0 ?c0 ?k0 ?a1 ?l1 ?c1 ?k1 ?a2 ?l2 ?c2 ?k2 ?a3 ?l3 ?c3 ?k3 ?a4 ?l4 ?c4 ?k4 ?a5 ?l5 ?c5 ?k5 ?a6 ?l6 ?c6 ?k6 ?a7 ?l7 ?c7 ?k7 ?a8 ?l8 ?c8 ?k8 ?a9 ?l9 ?c9 ?k9 ?a10 ?l10 ?c10 ?k10 ?a11 ?l11 ?c11 ?k11 ?a12 ?l12 ?c12 ?k12 ?mi13 ?mq13 ?l13 ?c13 ?k13 ?mi14 ?mq14 ?l14 ?c14 ?k14 ?dl14 ?dd14 ?el14 ?ec14 ?ed14 ?mi15 ?mq15 ?l15 ?c15 ?k15 ?mi16 ?mq16 ?l16 ?c16 ?k16 ?mi17 ?mq17 ?l17 ?c17 ?k17 ?z0 ?z1 ?z2 ?z3 ?z4 ?z5 ?z6 ?z7 ?z8 ?z9 ?z10 ?z11 ?z12 ?z13 ?z14 ?z15 ?z16 ?z17 ?z18 ?z19 ?z20
    (case cn0 => k_is)
    (case cc0 => (refine' ⟨?y1, ?y2, ?y3, ?y4⟩); (case y1 => k_is); (case y2 => k_is); (case y3 => k_is); (case y4 => k_is))
    (case cf0 => (simp only [Z.cflds, List.forall_mem_cons]; (refine ⟨?_, ?_, ?_, ?_, ?_, ?_, ?_, ?_, ?_, ?_, fun _ z => nomatch z⟩) <;> k_is))
    (case ch0 => k_is)
    (case ci0 => k_is)
    (case cj0 => k_is)
    (case co0 => k_is)
    (case cm0 => k_is)
    (case ck0 => k_is)
    (case cp0 => k_is)
    (case cT0 => k_is)
    (case cU0 => k_is)
    (case cx0NoneType => k_is)
    (case cy0NoneType => k_is)
    (case cx0int => k_is)
    (case cy0int => k_is)
    (case cx0str => k_is)
    (case cy0str => k_is)
    (case cx0tuple => k_is)
    (case cy0tuple => k_is)
    (case cx0list => k_is)
    (case cy0list => k_is)
    (case a0 => k_is)
    (case l0 => k_is)
    (case c0 => k_is)
    (case k0 => k_is)
    (case a1 => k_is)
    (case l1 => k_is)
    (case c1 => k_is)
    (case k1 => k_is)
    (case a2 => k_is)
    (case l2 => k_is)
    (case c2 => k_is)
    (case k2 => k_is)
    (case a3 => k_is)
    (case l3 => k_is)
    (case c3 => k_is)
    (case k3 => k_is)
    (case a4 => k_is)
    (case l4 => k_is)
    (case c4 => k_is)
    (case k4 => k_is)
    (case a5 => k_is)
    (case l5 => k_is)
    (case c5 => k_is)
    (case k5 => k_is)
    (case a6 => k_is)
    (case l6 => k_is)
    (case c6 => k_is)
    (case k6 => k_is)
    (case a7 => k_is)
    (case l7 => k_is)
    (case c7 => k_is)
    (case k7 => k_is)
    (case a8 => k_is)
    (case l8 => k_is)
    (case c8 => k_is)
    (case k8 => k_is)
    (case a9 => k_is)
    (case l9 => k_is)
    (case c9 => k_is)
    (case k9 => k_is)
    (case a10 => k_is)
    (case l10 => k_is)
    (case c10 => k_is)
    (case k10 => k_is)
    (case a11 => k_is)
    (case l11 => k_is)
    (case c11 => k_is)
    (case k11 => k_is)
    (case a12 => k_is)
    (case l12 => k_is)
    (case c12 => k_is)
    (case k12 => k_is)
    (case mi13 => k_is)
    (case mq13 => k_is)
    (case l13 => k_is)
    (case c13 => k_is)
    (case k13 => k_is)
    (case mi14 => k_is)
    (case mq14 => k_is)
    (case l14 => k_is)
    (case c14 => k_is)
    (case k14 => k_is)
    (case dl14 => k_is)
    (case dd14 => rfl)
    (case el14 => k_is)
    (case ec14 => rfl)
    (case ed14 => rfl)
    (case mi15 => k_is)
    (case mq15 => k_is)
    (case l15 => k_is)
    (case c15 => k_is)
    (case k15 => k_is)
    (case mi16 => k_is)
    (case mq16 => k_is)
    (case l16 => k_is)
    (case c16 => k_is)
    (case k16 => k_is)
    (case mi17 => k_is)
    (case mq17 => k_is)
    (case l17 => k_is)
    (case c17 => k_is)
    (case k17 => k_is)
    (case z0 => k_is)
    (case z1 => k_is)
    (case z2 => k_is)
    (case z3 => k_is)
    (case z4 => k_is)
    (case z5 => k_is)
    (case z6 => k_is)
    (case z7 => k_is)
    (case z8 => k_is)
    (case z9 => k_is)
    (case z10 => k_is)
    (case z11 => k_is)
    (case z12 => k_is)
    (case z13 => k_is)
    (case z14 => k_is)
    (case z15 => k_is)
    (case z16 => k_is)
    (case z17 => k_is)
    (case z18 => k_is)
    (case z19 => k_is)
    (case z20 => k_is)
#print axioms PySem.Challenge.cw_leastmaker_k24_bounds_alike_holds


