import PyProof.Rows.All
import Wide.All
import OpenK.AllK
import Wide.FinOn
import HandS.ForMost
import HandS.Exc
import HandS.ExcOwn
import HandS.ExcInit
import HandS.ExcField
import HandS.ExcValue
import HandS.HotCalls
import HandS.Style
import KE.KExcIs
import KE.KIsAll
import HandS.CallSlots
import HandS.TryOnly
import HandS.WordsExc
import HandS.TupAny
import HandS.TupLe
import HandS.TupMul
import HandS.Flow
import HandS.IsInst
import HandS.Rev
import HandS.Zip
import HandS.Deep
import HandS.More
import HandS.Walk
import HandS.Wide
import HandS.Small
import PyProof.P3Eq
import PyProof.ReprRoads
import KE.KDictZip
import HandS.Defaults
import KE.GoesMore
import KE.GoesEnum
import KE.KUnpackStar
import HandS.SetFor
import HandS.Conv
import HandS.RaiseMore
import HandS.CallRecv
import HandS.FStr
import HandS.MakeKw
import HandS.ExcIs
import PySem.Challenge.RW_leastmaker_k21_rows_of_bounds
set_option Elab.async false
set_option linter.all false
set_option maxRecDepth 100000
set_option maxHeartbeats 4000000
namespace Z
open PySem PySem.Spec PyProof.Rows L2

inductive D where
  | non | bl (b : Bool) | int (i : Int) | str (x : Str) | tup (xs : List D) | ref (a : Addr) | ty (n : String) | cd (kvs : List (Str × Int)) | kl (xs : List D) | exn (n : Str) (ns : List Str) (ds : List D)
inductive Ob where
  | lst (xs : List D)
  | dct (kvs : List (Key × D))
  | ins (c : Str) (fs : List (Str × D))
abbrev Sto := Addr → Option Ob
def updS (S : Sto) (a : Addr) (o : Ob) : Sto := fun b => if b = a then some o else S b
theorem updS_same {S : Sto} {a : Addr} {o : Ob} : updS S a o a = some o := by unfold updS; rw [if_pos rfl]
theorem updS_ne {S : Sto} {a b : Addr} {o : Ob} (h : b ≠ a) : updS S a o b = S b := by unfold updS; rw [if_neg h]
def CdAt (K : PySem.W.Frag) (w : World) (a : Addr) (kvs : List (Str × Int)) : Prop :=
  (∃ es n, KDict K w a es n) ∧ ∀ z : Str, ∃ r, PySem.W.nsIn K a z = some r ∧ (match kvs.lookup z with | none => r = none | some i => ∃ t, r = some (Value.int i t))

def FL (K : PySem.W.Frag) (H : Hp) (a : Addr) (vs : List V) : Prop := (∃ o, H a = some (.frz o (.lst vs))) ∨
  ∃ (o : Obj) (its : Array Value) (n : Nat), K.lookup a = some o ∧ o.cls = .type "list" ∧ o.dict = none ∧ o.data = .seq its n ∧ its.size ≤ sizeLine ∧ Vals vs its.toList
theorem FL.sq {K : PySem.W.Frag} {H : Hp} {a : Addr} {vs : List V} (h : FL K H a vs) : SqL K H a vs := h.elim (fun ⟨o, e⟩ => .inl (.inr ⟨o, e⟩)) .inr
def xnames : List Str := ["NoHead", "NoProgram", "NoText", "NoStock", "NoAnswer", "NoInputs", "Clash", "NoRow", "NoQuestion", "NoDoer", "NotKept", "NoName"]
def xflds : List Str := ["word", "at", "answer", "number"]
structure XCls (K : PySem.W.Frag) (n : Str) (C : Addr) : Prop where
  ga : PySem.W.findIn K (.ref C) "__getattribute__" = some (some (.builtin "BaseException.__getattribute__"))
  gt : PySem.W.findIn K (.ref C) "__getattr__" = some none
  be : PySem.W.subIn K (.ref C) (.type "BaseException") = some true
  hd : PySem.W.hasDictIn K C = true
  cl : PySem.W.findIn K (.ref C) "__class__" = some (some (.builtin "object.__class__"))
  sg : PySem.W.specialIn K (.builtin "object.__class__") "__get__" = some (some (.builtin "getset_descriptor.__get__"))
  tk : PySem.W.takesIn K (.builtin "object.__class__") = some true
  mr : PySem.W.mroIn K C (.type "object") = some true
  fl : ∀ f ∈ xflds, PySem.W.findIn K (.ref C) f = some none
  is : ∀ m ∈ xnames, ∀ M, PySem.W.nsIn K mainGlobals m = some (some (.ref M)) → PySem.W.kitOne K (.ref C) (.ref M) = some (decide (n = m)) ∧ PySem.W.exmOne K (.ref C) (.ref M) = some (decide (n = m))
def cflds : List Str := ["many", "given", "sums", "words", "at", "points", "seeds", "makers", "table", "known"]
structure ClsF (K : PySem.W.Frag) (c : Str) (C : Addr) : Prop where
  ns : PySem.W.nsIn K mainGlobals c = some (some (.ref C))
  cl : Cls K C
  na : ∀ f ∈ cflds, NoAttr K C f
  ha : PySem.W.findIn K (.ref C) "__class__" = some (some (.builtin "object.__class__"))
  hn : PySem.W.specialIn K (.builtin "object.__class__") "__get__" = some (some (.builtin "getset_descriptor.__get__"))
  htk : PySem.W.takesIn K (.builtin "object.__class__") = some true
  hm : PySem.W.mroIn K C (.type "object") = some true
  me : PySem.W.kitOne K (.ref C) (.ref C) = some true
abbrev kept (oe : Obj) : HO := .frz oe (.ext fun _ => True)
section
variable (K : PySem.W.Frag) (w : World)
mutual
def RelD (H : Hp) : D → V → Prop
  | .non, v => v = .non
  | .bl b, v => v = .bl b
  | .int i, v => v = .int i
  | .str x, v => v = .str x
  | .ty n, v => v = .ty n
  | .ref a, v => v = .ref a
  | .cd kvs, v => ∃ a, v = .ref a ∧ CdAt K w a kvs
  | .tup ds, v => ∃ a vs, v = .ref a ∧ SqT K H a vs ∧ RelDs H ds vs
  | .kl ds, v => ∃ a vs, v = .ref a ∧ FL K H a vs ∧ RelDs H ds vs
  | .exn n ns ds, v => ∃ a oe C dx vs, v = .ref a ∧ XCls K n C ∧ H a = some (kept oe) ∧ oe.cls = .ref C ∧ oe.dict = some dx ∧ (∃ fv, oe.data = .fields fv) ∧ H dx = some (.xd (ns.zip vs)) ∧ RelDs H ds vs
def RelDs (H : Hp) : List D → List V → Prop
  | [], vs => vs = []
  | d :: ds, vs => ∃ v r, vs = v :: r ∧ RelD H d v ∧ RelDs H ds r
end
def RelKV (H : Hp) : List (Key × D) → List (Key × V) → Prop
  | [], vs => vs = []
  | (k, d) :: ds, vs => ∃ v r, vs = (k, v) :: r ∧ RelD K w H d v ∧ RelKV H ds r
def RelF (H : Hp) : List (Str × D) → List (Str × V) → Prop
  | [], vs => vs = []
  | (k, d) :: ds, vs => ∃ v r, vs = (k, v) :: r ∧ RelD K w H d v ∧ RelF H ds r
def ObR (H : Hp) (a : Addr) : Ob → Prop
  | .lst ds => ∃ vs, H a = some (.lst vs) ∧ RelDs K w H ds vs
  | .dct kvs => ∃ kv, H a = some (.dK kv) ∧ RelKV K w H kvs kv
  | .ins c fs => ∃ C dx fv, ClsF K c C ∧ H a = some (.ins C dx fv) ∧ RelF K w H fs fv
def HR (H : Hp) (S : Sto) : Prop := ∀ a ob, S a = some ob → ObR K w H a ob
end

structure Ext (H H' : Hp) : Prop where
  tp : ∀ a xs, Rd H a (.tup xs) → Rd H' a (.tup xs)
  fz : ∀ a o u, H a = some (.frz o u) → H' a = some (.frz o u)
  xd : ∀ a fs, H a = some (.xd fs) → H' a = some (.xd fs)
theorem Ext.refl (H : Hp) : Ext H H := ⟨fun _ _ h => h, fun _ _ _ h => h, fun _ _ h => h⟩
theorem Ext.trans {H H1 H2 : Hp} (a : Ext H H1) (b : Ext H1 H2) : Ext H H2 := ⟨fun x y h => b.tp x y (a.tp x y h), fun x o y h => b.fz x o y (a.fz x o y h), fun x y h => b.xd x y (a.xd x y h)⟩
def Fm (H : Hp) (S : Sto) (H' : Hp) (S' : Sto) : Prop := ∀ a o, H a = some o → S a = none → H' a = some o ∧ S' a = none
theorem Fm.refl (H : Hp) (S : Sto) : Fm H S H S := fun _ _ h1 h2 => ⟨h1, h2⟩
theorem Fm.trans {H H1 H2 : Hp} {S S1 S2 : Sto} (a : Fm H S H1 S1) (b : Fm H1 S1 H2 S2) : Fm H S H2 S2 := fun x o h1 h2 =>
  let ⟨q1, q2⟩ := a x o h1 h2
  b x o q1 q2

section
variable {K : PySem.W.Frag} {w : World} {H H' : Hp} {S S' : Sto}
theorem Ext.seqT {a : Addr} {xs : List V} (e : Ext H H') (h : SqT K H a xs) : SqT K H' a xs := by
  rcases h with h | h
  · exact .inl (e.tp _ _ h)
  · exact .inr h
theorem Ext.fl {a : Addr} {xs : List V} (e : Ext H H') (h : FL K H a xs) : FL K H' a xs := by
  rcases h with ⟨o, h⟩ | h
  · exact .inl ⟨o, e.fz _ _ _ h⟩
  · exact .inr h
mutual
theorem RelD.mono (e : Ext H H') : ∀ (d : D) (v : V), RelD K w H d v → RelD K w H' d v
  | .non, _, h => h
  | .bl _, _, h => h
  | .int _, _, h => h
  | .str _, _, h => h
  | .ty _, _, h => h
  | .ref _, _, h => h
  | .cd _, _, h => h
  | .tup ds, v, h => by
    simp only [RelD] at h ⊢
    obtain ⟨a, vs, h1, h2, h3⟩ := h
    exact ⟨a, vs, h1, e.seqT h2, RelDs.mono e ds vs h3⟩
  | .kl ds, v, h => by
    simp only [RelD] at h ⊢
    obtain ⟨a, vs, h1, h2, h3⟩ := h
    exact ⟨a, vs, h1, e.fl h2, RelDs.mono e ds vs h3⟩
  | .exn n ns ds, v, h => by
    simp only [RelD] at h ⊢
    obtain ⟨a, oe, C, dx, vs, h1, h2, h3, h4, h5, h6, h7, h8⟩ := h
    exact ⟨a, oe, C, dx, vs, h1, h2, e.fz _ _ _ h3, h4, h5, h6, e.xd _ _ h7, RelDs.mono e ds vs h8⟩
theorem RelDs.mono (e : Ext H H') : ∀ (ds : List D) (vs : List V), RelDs K w H ds vs → RelDs K w H' ds vs
  | [], _, h => h
  | d :: ds, vs, h => by
    simp only [RelDs] at h ⊢
    obtain ⟨v, r, h1, h2, h3⟩ := h
    exact ⟨v, r, h1, RelD.mono e d v h2, RelDs.mono e ds r h3⟩
end
theorem RelKV.mono (e : Ext H H') : ∀ (ds : List (Key × D)) (vs : List (Key × V)), RelKV K w H ds vs → RelKV K w H' ds vs
  | [], _, h => h
  | (k, d) :: ds, vs, h => by
    simp only [RelKV] at h ⊢
    obtain ⟨v, r, h1, h2, h3⟩ := h
    exact ⟨v, r, h1, RelD.mono e d v h2, RelKV.mono e ds r h3⟩
theorem RelF.mono (e : Ext H H') : ∀ (ds : List (Str × D)) (vs : List (Str × V)), RelF K w H ds vs → RelF K w H' ds vs
  | [], _, h => h
  | (k, d) :: ds, vs, h => by
    simp only [RelF] at h ⊢
    obtain ⟨v, r, h1, h2, h3⟩ := h
    exact ⟨v, r, h1, RelD.mono e d v h2, RelF.mono e ds r h3⟩
theorem HR.notup (h : HR K w H S) {a : Addr} {xs : List V} (t : Rd H a (.tup xs)) : S a = none := by
  cases q : S a with
  | none => rfl
  | some ob =>
    have r := h a ob q
    rcases t with t | ⟨o, t⟩
    · cases ob with
      | lst ds => obtain ⟨_, e, _⟩ := r; rw [t] at e; cases e
      | dct ds => obtain ⟨_, e, _⟩ := r; rw [t] at e; cases e
      | ins C ds => obtain ⟨_, _, _, _, e, _⟩ := r; rw [t] at e; cases e
    · cases ob with
      | lst ds => obtain ⟨_, e, _⟩ := r; rw [t] at e; cases e
      | dct ds => obtain ⟨_, e, _⟩ := r; rw [t] at e; cases e
      | ins C ds => obtain ⟨_, _, _, _, e, _⟩ := r; rw [t] at e; cases e
theorem HR.noxd (h : HR K w H S) {a : Addr} {fs : List (Str × V)} (t : H a = some (.xd fs)) : S a = none := by
  cases q : S a with
  | none => rfl
  | some ob =>
    have r := h a ob q
    cases ob with
    | lst ds => obtain ⟨_, e, _⟩ := r; rw [t] at e; cases e
    | dct ds => obtain ⟨_, e, _⟩ := r; rw [t] at e; cases e
    | ins C ds => obtain ⟨_, _, _, _, e, _⟩ := r; rw [t] at e; cases e
theorem HR.nofz (h : HR K w H S) {a : Addr} {o : Obj} {u : HO} (t : H a = some (.frz o u)) : S a = none := by
  cases q : S a with
  | none => rfl
  | some ob =>
    have r := h a ob q
    cases ob with
    | lst ds => obtain ⟨_, e, _⟩ := r; rw [t] at e; cases e
    | dct ds => obtain ⟨_, e, _⟩ := r; rw [t] at e; cases e
    | ins C ds => obtain ⟨_, _, _, _, e, _⟩ := r; rw [t] at e; cases e
theorem Fm.ext (f : Fm H S H' S') (h : HR K w H S) : Ext H H' := ⟨fun a xs t => by
  have n := h.notup t
  rcases t with t | ⟨o, t⟩
  · exact .inl (f a _ t n).1
  · exact .inr ⟨o, (f a _ t n).1⟩, fun a o xs t => (f a _ t (h.nofz t)).1, fun a fs t => (f a _ t (h.noxd t)).1⟩
theorem HR.fresh (h : HR K w H S) {p : Addr} (n : H p = none) : S p = none := by
  cases q : S p with
  | none => rfl
  | some ob =>
    have r := h p ob q
    cases ob with
    | lst ds => obtain ⟨_, e, _⟩ := r; rw [n] at e; cases e
    | dct ds => obtain ⟨_, e, _⟩ := r; rw [n] at e; cases e
    | ins C ds => obtain ⟨_, _, _, _, e, _⟩ := r; rw [n] at e; cases e
theorem ObR.mono {a : Addr} {ob : Ob} (e : Ext H H') (ha : H' a = H a) (h : ObR K w H a ob) : ObR K w H' a ob := by
  cases ob with
  | lst ds => obtain ⟨vs, e1, r⟩ := h; exact ⟨vs, ha.trans e1, RelDs.mono e _ _ r⟩
  | dct ds => obtain ⟨vs, e1, r⟩ := h; exact ⟨vs, ha.trans e1, RelKV.mono e _ _ r⟩
  | ins C ds => obtain ⟨C, dx, vs, cf, e1, r⟩ := h; exact ⟨C, dx, vs, cf, ha.trans e1, RelF.mono e _ _ r⟩
theorem ext_new {p : Addr} {o : HO} (n : H p = none) : Ext H (upd H p o) := ⟨fun a xs t => by
  rcases t with t | ⟨u, t⟩
  · exact .inl (by rw [upd_ne (ne_of_none t n)]; exact t)
  · exact .inr ⟨u, by rw [upd_ne (ne_of_none t n)]; exact t⟩, fun a u xs t => by rw [upd_ne (ne_of_none t n)]; exact t, fun a u t => by rw [upd_ne (ne_of_none t n)]; exact t⟩
theorem HR.tup (h : HR K w H S) {p : Addr} {vs : List V} (n : H p = none) : HR K w (upd H p (.tup vs)) S := fun a ob q => by
  have ne : a ≠ p := fun z => by subst z; rw [h.fresh n] at q; cases q
  exact (h a ob q).mono (ext_new n) (upd_ne ne)
theorem Fm.tup (h : HR K w H S) {p : Addr} {o : HO} (n : H p = none) : Fm H S (upd H p o) S := fun a u e q => ⟨by rw [upd_ne (ne_of_none e n)]; exact e, q⟩
theorem HR.new (h : HR K w H S) {p : Addr} {o : HO} {ob : Ob} (n : H p = none) (r : ObR K w (upd H p o) p ob) : HR K w (upd H p o) (updS S p ob) := fun a u q => by
  by_cases ne : a = p
  · subst ne; rw [updS_same] at q; cases q; exact r
  · rw [updS_ne ne] at q
    exact (h a u q).mono (ext_new n) (upd_ne ne)
theorem Fm.new {p : Addr} {o : HO} {ob : Ob} (n : H p = none) : Fm H S (upd H p o) (updS S p ob) := fun a u e q =>
  ⟨by rw [upd_ne (ne_of_none e n)]; exact e, by rw [updS_ne (ne_of_none e n)]; exact q⟩
theorem ext_mut {p : Addr} {o : HO} {ob : Ob} (h : HR K w H S) (m : S p = some ob) : Ext H (upd H p o) := by
  refine ⟨fun a xs t => ?_, fun a u xs t => ?_, fun a fs t => ?_⟩
  · have ne : a ≠ p := fun z => by
      subst z
      rw [h.notup t] at m
      cases m
    rcases t with t | ⟨u, t⟩
    · exact .inl (by rw [upd_ne ne]; exact t)
    · exact .inr ⟨u, by rw [upd_ne ne]; exact t⟩
  · have ne : a ≠ p := fun z => by
      subst z
      rw [h.nofz t] at m
      cases m
    rw [upd_ne ne]
    exact t
  · have ne : a ≠ p := fun z => by
      subst z
      rw [h.noxd t] at m
      cases m
    rw [upd_ne ne]
    exact t
theorem HR.mut (h : HR K w H S) {p : Addr} {o : HO} {ob ob' : Ob} (m : S p = some ob') (r : ObR K w (upd H p o) p ob) : HR K w (upd H p o) (updS S p ob) := fun a u q => by
  by_cases ne : a = p
  · subst ne; rw [updS_same] at q; cases q; exact r
  · rw [updS_ne ne] at q
    exact (h a u q).mono (ext_mut h m) (upd_ne ne)
theorem Fm.mut {p : Addr} {o : HO} {ob ob' : Ob} (m : S p = some ob') : Fm H S (upd H p o) (updS S p ob) := fun a u e q => by
  have ne : a ≠ p := fun z => by subst z; rw [q] at m; cases m
  exact ⟨by rw [upd_ne ne]; exact e, by rw [updS_ne ne]; exact q⟩
end

abbrev StD := List (Option D)
def RelSt (K : PySem.W.Frag) (w : World) (H : Hp) (σd : StD) (σ : L2.St) : Prop := σd.length = σ.length ∧ ∀ (i : Nat) (d : D), σd[i]? = some (some d) → ∃ v, σ[i]? = some (some v) ∧ RelD K w H d v
section
variable {K : PySem.W.Frag} {w : World} {H H' : Hp} {S S' : Sto} {σd : StD} {σ : L2.St}
theorem RelSt.mono (e : Ext H H') (h : RelSt K w H σd σ) : RelSt K w H' σd σ := ⟨h.1, fun i d q => let ⟨v, h1, h2⟩ := h.2 i d q; ⟨v, h1, RelD.mono e d v h2⟩⟩
theorem RelSt.set {i : Nat} {d : D} {v : V} (h : RelSt K w H σd σ) (r : RelD K w H d v) : RelSt K w H (σd.set i (some d)) (σ.set i (some v)) := by
  refine ⟨by rw [List.length_set, List.length_set]; exact h.1, fun j e q => ?_⟩
  by_cases hj : i = j
  · subst hj
    have hl : i < σd.length := by
      rw [List.getElem?_set] at q
      simp only [if_true] at q
      split at q
      · assumption
      · cases q
    rw [List.getElem?_set_self hl] at q
    cases q
    exact ⟨v, by rw [List.getElem?_set_self (h.1 ▸ hl)], r⟩
  · rw [List.getElem?_set_ne hj] at q
    rw [List.getElem?_set_ne hj]
    exact h.2 j e q
theorem RelSt.unset {i : Nat} (h : RelSt K w H σd σ) : RelSt K w H (σd.set i none) (σ.set i none) := by
  refine ⟨by rw [List.length_set, List.length_set]; exact h.1, fun j e q => ?_⟩
  by_cases hj : i = j
  · subst hj
    rw [List.getElem?_set] at q
    simp only [if_true] at q
    split at q <;> cases q
  · rw [List.getElem?_set_ne hj] at q
    rw [List.getElem?_set_ne hj]
    exact h.2 j e q
theorem RelDs.length : ∀ {ds : List D} {vs : List V}, RelDs K w H ds vs → ds.length = vs.length
  | [], _, h => by simp only [RelDs] at h; subst h; rfl
  | d :: ds, vs, h => by
    simp only [RelDs] at h
    obtain ⟨v, r, rfl, _, h3⟩ := h
    rw [List.length_cons, List.length_cons, RelDs.length h3]
theorem RelDs.get : ∀ {ds : List D} {vs : List V} {i : Nat} {d : D}, RelDs K w H ds vs → ds[i]? = some d → ∃ v, vs[i]? = some v ∧ RelD K w H d v
  | [], _, _, _, _, e => by simp at e
  | d :: ds, vs, 0, x, h, e => by
    simp only [RelDs] at h
    obtain ⟨v, r, rfl, h2, _⟩ := h
    simp at e; subst e
    exact ⟨v, rfl, h2⟩
  | d :: ds, vs, i + 1, x, h, e => by
    simp only [RelDs] at h
    obtain ⟨v, r, rfl, _, h3⟩ := h
    exact RelDs.get (i := i) h3 (by simpa using e)
theorem RelDs.append : ∀ {a b : List D} {x y : List V}, RelDs K w H a x → RelDs K w H b y → RelDs K w H (a ++ b) (x ++ y)
  | [], b, x, y, h, h' => by simp only [RelDs] at h; subst h; exact h'
  | d :: a, b, x, y, h, h' => by
    simp only [RelDs] at h
    obtain ⟨v, r, rfl, h2, h3⟩ := h
    show RelDs K w H (d :: (a ++ b)) (v :: (r ++ y))
    simp only [RelDs]
    exact ⟨v, r ++ y, rfl, h2, RelDs.append h3 h'⟩
theorem RelDs.take : ∀ {a : List D} {x : List V} (n : Nat), RelDs K w H a x → RelDs K w H (a.take n) (x.take n)
  | _, _, 0, _ => by simp [RelDs]
  | [], x, n + 1, h => by simp only [RelDs] at h; subst h; simp [RelDs]
  | d :: a, x, n + 1, h => by
    simp only [RelDs] at h
    obtain ⟨v, r, rfl, h2, h3⟩ := h
    simp only [List.take_succ_cons, RelDs]
    exact ⟨v, _, rfl, h2, RelDs.take n h3⟩
theorem RelDs.drop : ∀ {a : List D} {x : List V} (n : Nat), RelDs K w H a x → RelDs K w H (a.drop n) (x.drop n)
  | _, _, 0, h => by simpa using h
  | [], x, n + 1, h => by simp only [RelDs] at h; subst h; simp [RelDs]
  | d :: a, x, n + 1, h => by
    simp only [RelDs] at h
    obtain ⟨v, r, rfl, h2, h3⟩ := h
    simp only [List.drop_succ_cons]
    exact RelDs.drop n h3
theorem RelDs.set : ∀ {a : List D} {x : List V} (n : Nat) {d : D} {v : V}, RelDs K w H a x → RelD K w H d v → RelDs K w H (a.set n d) (x.set n v)
  | [], x, n, d, v, h, r => by simp only [RelDs] at h; subst h; simp [RelDs]
  | e :: a, x, 0, d, v, h, r => by
    simp only [RelDs] at h
    obtain ⟨v', t, rfl, h2, h3⟩ := h
    simp only [List.set_cons_zero, RelDs]
    exact ⟨v, t, rfl, r, h3⟩
  | e :: a, x, n + 1, d, v, h, r => by
    simp only [RelDs] at h
    obtain ⟨v', t, rfl, h2, h3⟩ := h
    simp only [List.set_cons_succ, RelDs]
    exact ⟨v', _, rfl, h2, RelDs.set n h3 r⟩
theorem RelDs.snoc {a : List D} {x : List V} {d : D} {v : V} (h : RelDs K w H a x) (r : RelD K w H d v) : RelDs K w H (a ++ [d]) (x ++ [v]) :=
  RelDs.append h (by simp only [RelDs]; exact ⟨v, [], rfl, r, rfl⟩)
theorem RelDs.dropLast {a : List D} {x : List V} (h : RelDs K w H a x) : RelDs K w H a.dropLast x.dropLast := by
  rw [List.dropLast_eq_take, List.dropLast_eq_take, ← h.length]
  exact h.take _
theorem RelDs.reverse : ∀ {a : List D} {x : List V}, RelDs K w H a x → RelDs K w H a.reverse x.reverse
  | [], x, h => by simp only [RelDs] at h; subst h; simp [RelDs]
  | d :: a, x, h => by
    simp only [RelDs] at h
    obtain ⟨v, t, rfl, h2, h3⟩ := h
    rw [List.reverse_cons, List.reverse_cons]
    exact (RelDs.reverse h3).snoc h2
theorem RelDs.of_ints : ∀ (ns : List Int), RelDs K w H (ns.map D.int) (ns.map V.int)
  | [] => by simp only [List.map_nil, RelDs]
  | n :: ns => by
    simp only [List.map_cons, RelDs, RelD]
    exact ⟨_, _, rfl, rfl, RelDs.of_ints ns⟩
theorem RelSt.get {i : Nat} {d : D} (h : RelSt K w H σd σ) (e : σd[i]? = some (some d)) : ∃ v, σ[i]? = some (some v) ∧ RelD K w H d v := h.2 i d e
end

def Kont (K : PySem.W.Frag) (w : World) (H : Hp) (S : Sto) (R : D → Sto → Prop) (Q : VK) : Prop := ∀ d S', R d S' → ∀ v H', Fm H S H' S' → RelD K w H' d v → HR K w H' S' → Q v H'
abbrev WE := StD → Sto → (D → Sto → Prop) → Prop
abbrev WT := StD → Sto → (Bool → Sto → Prop) → Prop
abbrev WA := StD → Sto → (List D → Sto → Prop) → Prop
abbrev W2 := D → D → Sto → (D → Sto → Prop) → Prop
abbrev W1 := D → Sto → (D → Sto → Prop) → Prop
abbrev WC := List D → Sto → (D → Sto → Prop) → Prop
def rD2 (K : PySem.W.Frag) (w : World) (f : W2) : R2 := fun x y H Q => ∃ dx dy S R, RelD K w H dx x ∧ RelD K w H dy y ∧ HR K w H S ∧ f dx dy S R ∧ Kont K w H S R Q
def rD1 (K : PySem.W.Frag) (w : World) (f : W1) : V → Hp → VK → Prop := fun x H Q => ∃ dx S R, RelD K w H dx x ∧ HR K w H S ∧ f dx S R ∧ Kont K w H S R Q
def rDC (K : PySem.W.Frag) (w : World) (f : WC) : List V → Hp → VK → Prop := fun xs H Q => ∃ ds S R, RelDs K w H ds xs ∧ HR K w H S ∧ f ds S R ∧ Kont K w H S R Q
def rDM (K : PySem.W.Frag) (w : World) (f : D → WC) : V → List V → Hp → VK → Prop := fun x xs H Q => ∃ dx ds S R, RelD K w H dx x ∧ RelDs K w H ds xs ∧ HR K w H S ∧ f dx ds S R ∧ Kont K w H S R Q
section
variable {K : PySem.W.Frag} {w : World} {H H' : Hp} {S S' : Sto} {R : D → Sto → Prop} {Q : VK}
theorem Kont.same (k : Kont K w H S R Q) {d : D} {v : V} (r : R d S) (rv : RelD K w H d v) (h : HR K w H S) : Q v H := k d S r v H (Fm.refl H S) rv h
theorem Kont.tup (k : Kont K w H S R Q) {ds : List D} {vs : List V} {p : Addr} (r : R (.tup ds) S) (h : HR K w H S) (rv : RelDs K w H ds vs) (n : H p = none) : Q (.ref p) (upd H p (.tup vs)) :=
  k _ S r _ _ (Fm.tup h n) (by simp only [RelD]; exact ⟨p, vs, rfl, SqT.of upd_same, RelDs.mono (ext_new n) _ _ rv⟩) (h.tup n)
theorem Kont.lst (k : Kont K w H S R Q) {ds : List D} {vs : List V} {p : Addr} (r : R (.ref p) (updS S p (.lst ds))) (h : HR K w H S) (rv : RelDs K w H ds vs) (n : H p = none) : Q (.ref p) (upd H p (.lst vs)) :=
  k _ _ r _ _ (Fm.new n) (by simp only [RelD]) (h.new n ⟨vs, upd_same, RelDs.mono (ext_new n) _ _ rv⟩)
theorem Kont.mutl (k : Kont K w H S R Q) {ds : List D} {vs : List V} {p : Addr} {ob : Ob} {d : D} {v : V} (m : S p = some ob) (r : R d (updS S p (.lst ds))) (h : HR K w H S) (rv : RelDs K w H ds vs) (rd : RelD K w H d v) : Q v (upd H p (.lst vs)) :=
  k _ _ r _ _ (Fm.mut m) (RelD.mono (ext_mut h m) _ _ rd) (h.mut m ⟨vs, upd_same, RelDs.mono (ext_mut h m) _ _ rv⟩)
theorem Kont.next {R' : D → Sto → Prop} (k : Kont K w H S R Q) (f : Fm H S H' S') (h : ∀ d S2, R' d S2 → R d S2) : Kont K w H' S' R' Q := fun d S2 r v H2 f2 => k d S2 (h d S2 r) v H2 (f.trans f2)
end
end Z

set_option Elab.async false
set_option linter.all false
set_option maxRecDepth 100000
set_option maxHeartbeats 4000000
namespace Z
open PySem PySem.Spec PyProof.Rows L2

inductive Bi where
  | len | isinst | tuple | list | int | max | min | abs | all | any | sum | str | repr | sorted
inductive Me where
  | append | pop | extend | count | clear | reverse | get | insert
inductive Tg where
  | nm (i : Nat)
  | tup (gs : List Tg)
mutual
inductive T where
  | var (i : Nat) | int (i : Int) | bl (b : Bool) | non | str (x : Str) | glob (x : Str) | bty (x : String)
  | bin (op : Operator) (a b : T) | neg (a : T)
  | cmp (op : CmpOp) (a b : T) | chain (op op2 : CmpOp) (a b c : T)
  | bop (op : BoolOp) (ts : List T) | nt (a : T) | ite (c a b : T)
  | tup (ts : List T) | lst (ts : List T)
  | sub (a i : T) | slice (a : T) (lo hi : Option T)
  | call (f : Str) (ts : List T) | callK (f : Str) (ts : List T) (ks : List Str) (us : List T)
  | blt (f : Bi) (ts : List T)
  | lrev (a : T) | lzip (a b : T) | lset (a : T) | lrng (a : T)
  | mth (m : Me) (a : T) (ts : List T)
  | lc (g : Tg) (it : Ti) (ifs : List T) (own : List (Str × Nat)) (e : T)
  | dct (ks : List Str) (vs : List T)
  | isx (a : T) (m : Str) | atr (a : T) (f : Str) | back (a : T)
  | new (q c : Str) (ts : List T) | fld (a : T) (f : Str) | meth (q c m : Str) (a : T) (ts : List T)
  | eqo (q c : Str) (a b : T) | isc (a : T) (m : Str)
  | lno (q c : Str) (a : T) | rpo (q c : Str) (a : T) | fs2 (x : Str) (a : T) (y : Str) (b : T) (z : Str) | newK (q c : Str) (ts : List T) (ks : List Str) (us : List T)
inductive Ti where
  | seq (e : T) | rng1 (a : T) | rng2 (a b : T) | enm (e : T) | zip (a b : T) | rev (e : T)
end
inductive TS where
  | ex (e : T) | asg (g : Tg) (e : T) | par (i j : Nat) (a b : T) | set (a i e : T) | aug (op : Operator) (i : Nat) (e : T)
  | ife (c : T) (a b : List TS) | whil (c : T) (b : List TS) | fr (g : Tg) (it : Ti) (b : List TS)
  | ret (e : T) | retN | pass | brk | cont | never
  | setf (a : T) (f : Str) (e : T)
  | star (is : List Nat) (i : Nat) (js : List Nat) (e : T) | par3 (i j l : Nat) (a b c : T)
  | rais (n : Str) (ts : List T) | tryx (b : List TS) (m : Str) (i : Nat) (h : List TS)

def tru (S : Sto) : D → Option Bool
  | .non => some false
  | .bl b => some b
  | .int i => some (i != 0)
  | .str y => if y.length ≤ sizeLine then some ((y.length : Int) != 0) else none
  | .tup xs => some (!xs.isEmpty)
  | .kl xs => some (!xs.isEmpty)
  | .ref a => match S a with
    | some (.lst xs) => some (!xs.isEmpty)
    | some (.dct kvs) => some (!kvs.isEmpty)
    | _ => none
  | _ => none
def itemsD (S : Sto) : D → Option (List D)
  | .tup xs => some xs
  | .kl xs => some xs
  | .ref a => match S a with
    | some (.lst xs) => some xs
    | _ => none
  | _ => none
def lenD (S : Sto) : D → Option Nat
  | .tup xs => some xs.length
  | .kl xs => some xs.length
  | .str y => if y.length ≤ sizeLine then some y.length else none
  | .ref a => match S a with
    | some (.lst xs) => some xs.length
    | some (.dct kvs) => some kvs.length
    | _ => none
  | _ => none
def tyD (S : Sto) : D → Option String
  | .non => some "NoneType"
  | .bl _ => some "bool"
  | .int _ => some "int"
  | .str _ => some "str"
  | .tup _ => some "tuple"
  | .ref a => match S a with
    | some (.lst _) => some "list"
    | some (.dct _) => some "dict"
    | _ => none
  | _ => none
def cutD (xs : List D) (lo hi : Option Int) : List D := (xs.drop (HT.sIx xs.length 0 lo)).take (HT.sIx xs.length xs.length hi - HT.sIx xs.length 0 lo)
def keyD : D → Option Key
  | .int i => some (.inl i)
  | .str x => some (.inr x)
  | _ => none
def lookD (kvs : List (Key × D)) (k : Key) : Option D := (kvs.find? fun kv => decide (kv.1 = k)).map (·.2)
def putD (kvs : List (Key × D)) (k : Key) (v : D) : List (Key × D) :=
  if kvs.any (fun kv => decide (kv.1 = k)) then kvs.map (fun kv => if kv.1 = k then (kv.1, v) else kv) else kvs ++ [(k, v)]
mutual
/-- as the library's data -/
def toP : D → Option PyData
  | .non => some .none
  | .bl b => some (.bool b)
  | .int i => some (.int i)
  | .str x => some (.str x)
  | .tup xs => (toPs xs).map PyData.tuple
  | _ => none
def toPs : List D → Option (List PyData)
  | [] => some []
  | d :: ds => match toP d, toPs ds with
    | some p, some ps => some (p :: ps)
    | _, _ => none
end
def toP1 (S : Sto) : D → Option PyData
  | .ref a => match S a with
    | some (.lst xs) => (toPs xs).map PyData.list
    | _ => none
  | d => toP d
def toP1s (S : Sto) : List D → Option (List PyData)
  | [] => some []
  | d :: ds => match toP1 S d, toP1s S ds with
    | some p, some ps => some (p :: ps)
    | _, _ => none
def toPS (S : Sto) : D → Option PyData
  | .ref a => match S a with
    | some (.lst xs) => (match toPs xs with
      | some ps => some (PyData.list ps)
      | none => (toP1s S xs).map PyData.list)
    | _ => none
  | d => toP d
def flatD : D → Bool
  | .non => true
  | .bl _ => true
  | .int _ => true
  | .str _ => true
  | _ => false
def eqF : D → D → Bool
  | .non, .non => true
  | .bl a, .bl b => a == b
  | .bl a, .int b => (if a then 1 else 0) == b
  | .int a, .bl b => a == (if b then 1 else 0)
  | .int a, .int b => a == b
  | .str a, .str b => a == b
  | _, _ => false
def inF (x : D) (xs : List D) : Bool := xs.any fun y => eqF y x
def blsOf : List D → Option (List Bool)
  | [] => some []
  | .bl b :: r => (blsOf r).map (b :: ·)
  | _ => none
def intsOf : List D → Option (List Int)
  | [] => some []
  | .int b :: r => (intsOf r).map (b :: ·)
  | _ => none

def wBin (op : Operator) (x y : D) (S : Sto) (Q : D → Sto → Prop) : Prop :=
  match op, x, y with
  | .Add, .int i, .int j => Q (.int (i + j)) S
  | .Add, .tup a, .tup b => a.length + b.length ≤ sizeLine ∧ Q (.tup (a ++ b)) S
  | .Add, .str a, .str b => a.length + b.length ≤ sizeLine ∧ Q (.str (a ++ b)) S
  | .Add, .ref a, .ref b => (match S a, S b with
    | some (.lst xs), some (.lst ys) => xs.length + ys.length ≤ sizeLine ∧ ∀ p, S p = none → Q (.ref p) (updS S p (.lst (xs ++ ys)))
    | _, _ => False)
  | .Sub, .int i, .int j => Q (.int (i - j)) S
  | .Mult, .int i, .int j => CMul i j ∧ Q (.int (i * j)) S
  | .Mult, .tup xs, .int n => xs ≠ [] ∧ xs.length ≤ 1000 ∧ 1 ≤ n ∧ n ≤ 1000 ∧ Q (.tup (List.replicate n.toNat xs).flatten) S
  | .Mult, .ref a, .int n => (match S a with
    | some (.lst xs) => 0 ≤ n ∧ n ≤ 1000 ∧ xs.length ≤ 1000 ∧ ∀ p, S p = none → Q (.ref p) (updS S p (.lst (List.replicate n.toNat xs).flatten))
    | _ => False)
  | .FloorDiv, .int i, .int j => CDiv i j ∧ Q (.int (i / j)) S
  | .Mod, .int i, .int j => 0 < j ∧ Q (.int (i % j)) S
  | .Pow, .int i, .int j => CPow i j ∧ Q (.int (i ^ j.toNat)) S
  | _, _, _ => False
def wEq (neg : Bool) (x y : D) (S : Sto) (Q : D → Sto → Prop) : Prop :=
  match toPS S x, toPS S y with
  | some p, some q => SeqAt.shaped p = true ∧ SeqAt.shaped q = true ∧ Q (.bl (if neg then !PyData.eqv p q else PyData.eqv p q)) S
  | _, _ => False
def wInP (neg : Bool) (x : D) (ys : List D) (S : Sto) (Q : D → Sto → Prop) : Prop :=
  match toP x, toPs ys with
  | some q, some ps => q.canLay0 = true ∧ q.depth ≤ 60 ∧ PyData.canLayAll0 ps = true ∧ Q (.bl (if neg then !(ps.any fun p => PyData.eqv p q) else ps.any fun p => PyData.eqv p q)) S
  | _, _ => False
def wCmp (op : CmpOp) (x y : D) (S : Sto) (Q : D → Sto → Prop) : Prop :=
  match op with
  | .Eq => wEq false x y S Q
  | .NotEq => wEq true x y S Q
  | .Lt => (match x, y with | .int i, .int j => Q (.bl (decide (i < j))) S | _, _ => False)
  | .LtE => (match x, y with | .int i, .int j => Q (.bl (decide (i ≤ j))) S | _, _ => False)
  | .Gt => (match x, y with | .int i, .int j => Q (.bl (decide (j < i))) S | _, _ => False)
  | .GtE => (match x, y with | .int i, .int j => Q (.bl (decide (j ≤ i))) S | _, _ => False)
  | .Is => (match y, x with
    | .non, .ref _ => Q (.bl false) S
    | .non, .non => Q (.bl true) S
    | .non, .bl _ => Q (.bl false) S
    | .non, .int _ => Q (.bl false) S
    | .non, .str _ => Q (.bl false) S
    | .non, .tup _ => Q (.bl false) S
    | .bl b, .bl a => Q (.bl (decide (a = b))) S
    | _, _ => False)
  | .IsNot => (match y, x with
    | .non, .ref _ => Q (.bl true) S
    | .non, .non => Q (.bl false) S
    | .non, .bl _ => Q (.bl true) S
    | .non, .int _ => Q (.bl true) S
    | .non, .str _ => Q (.bl true) S
    | .non, .tup _ => Q (.bl true) S
    | .bl b, .bl a => Q (.bl (!decide (a = b))) S
    | _, _ => False)
  | .In => (match y with
    | .cd kvs => (match x with | .str z => Q (.bl (kvs.lookup z).isSome) S | _ => False)
    | _ => match itemsD S y with
      | some ys => (flatD x = true ∧ ys.all flatD = true ∧ Q (.bl (inF x ys)) S) ∨ wInP false x ys S Q
      | none => False)
  | .NotIn => (match y with
    | .cd kvs => (match x with | .str z => Q (.bl (!(kvs.lookup z).isSome)) S | _ => False)
    | _ => match itemsD S y with
      | some ys => (flatD x = true ∧ ys.all flatD = true ∧ Q (.bl (!inF x ys)) S) ∨ wInP true x ys S Q
      | none => False)
def wSub (x y : D) (S : Sto) (Q : D → Sto → Prop) : Prop :=
  match x with
  | .cd kvs => (match y with
    | .str z => (match kvs.lookup z with | some i => Q (.int i) S | none => False)
    | _ => False)
  | .str z => (match y with
    | .int i => z.length ≤ sizeLine ∧ (match atI z.cps.toList i with | some c => Q (.str ⟨#[c]⟩) S | none => False)
    | _ => False)
  | .tup xs => (match y with
    | .int i => (match atI xs i with | some v => Q v S | none => False)
    | _ => False)
  | .kl xs => (match y with
    | .int i => (match atI xs i with | some v => Q v S | none => False)
    | _ => False)
  | .ref a => (match S a with
    | some (.lst xs) => (match y with
      | .int i => (match atI xs i with | some v => Q v S | none => False)
      | _ => False)
    | some (.dct kvs) => (match keyD y with
      | some k => (match lookD kvs k with | some v => Q v S | none => False)
      | none => False)
    | _ => False)
  | _ => False
def wSlice (x : D) (lo hi : Option Int) (S : Sto) (Q : D → Sto → Prop) : Prop :=
  match x with
  | .tup xs => Q (.tup (cutD xs lo hi)) S
  | .kl xs => ∀ p, S p = none → Q (.ref p) (updS S p (.lst (cutD xs lo hi)))
  | .ref a => (match S a with
    | some (.lst xs) => ∀ p, S p = none → Q (.ref p) (updS S p (.lst (cutD xs lo hi)))
    | _ => False)
  | _ => False
def wSet (o i v : D) (S : Sto) (Q : Sto → Prop) : Prop :=
  match o with
  | .ref a => (match S a with
    | some (.lst xs) => (match i with
      | .int k => (match ixN xs.length k with | some j => Q (updS S a (.lst (xs.set j v))) | none => False)
      | _ => False)
    | some (.dct kvs) => (match keyD i with
      | some k => kvs.length < sizeLine ∧ Q (updS S a (.dct (putD kvs k v)))
      | none => False)
    | _ => False)
  | _ => False
def flatP : PyData → Bool
  | .none => true
  | .bool _ => true
  | .int _ => true
  | _ => false
def wBlt (f : Bi) (ds : List D) (S : Sto) (Q : D → Sto → Prop) : Prop :=
  match f, ds with
  | .len, [d] => (match lenD S d with | some n => Q (.int n) S | none => False)
  | .isinst, [d, .ty n] => (match tyD S d with
    | some t => (match kitB t n with | some b => Q (.bl b) S | none => False)
    | none => False)
  | .tuple, [d] => (match itemsD S d with | some xs => Q (.tup xs) S | none => False)
  | .list, [d] => (match itemsD S d with | some xs => ∀ p, S p = none → Q (.ref p) (updS S p (.lst xs)) | none => False)
  | .int, [.int i] => Q (.int i) S
  | .int, [.bl b] => Q (.int (if b then 1 else 0)) S
  | .max, [.int i, .int j] => Q (.int (if j > i then j else i)) S
  | .min, [.int i, .int j] => Q (.int (if j < i then j else i)) S
  | .max, [.ref a] => (match S a with
    | some (.lst xs) => (match intsOf xs with | some ns => 0 < ns.length ∧ ∀ m, m ∈ ns → (∀ x, x ∈ ns → x ≤ m) → Q (.int m) S | none => False)
    | _ => False)
  | .min, [.ref a] => (match S a with
    | some (.lst xs) => (match intsOf xs with | some ns => 0 < ns.length ∧ ∀ m, m ∈ ns → (∀ x, x ∈ ns → m ≤ x) → Q (.int m) S | none => False)
    | _ => False)
  | .abs, [.int i] => Q (.int (if i < 0 then -i else i)) S
  | .all, [.ref a] => (match S a with
    | some (.lst xs) => (match blsOf xs with | some bs => Q (.bl (bs.all id)) S | none => False)
    | _ => False)
  | .any, [.ref a] => (match S a with
    | some (.lst xs) => (match blsOf xs with | some bs => Q (.bl (bs.any id)) S | none => False)
    | _ => False)
  | .sum, [.ref a] => (match S a with
    | some (.lst xs) => (match intsOf xs with | some bs => Q (.int bs.sum) S | none => False)
    | _ => False)
  | .str, [.int i] => i.natAbs.log2 < 1920 ∧ Q (.str (toString i)) S
  | .sorted, [.ref a] => (match S a with
    | some (.lst xs) => (match intsOf xs with | some ns => ns.length < 64 ∧ ∀ (ns' : List Int) p, ns'.Perm ns → ns'.Pairwise (· ≤ ·) → S p = none → Q (.ref p) (updS S p (.lst (ns'.map D.int))) | none => False)
    | _ => False)
  | .repr, [d] => (match toPS S d with | some p => p.canLay0 = true ∧ p.showable = true ∧ p.depth ≤ 60 ∧ (flatP p = true ∨ p.shown.length ≤ sizeLine) ∧ Q (.str p.shown) S | none => False)
  | _, _ => False
def okI : D → Prop
  | .int i => i.natAbs.log2 < 1920
  | _ => False
def fs2T (x : Str) (d : D) (y : Str) (e : D) (z : Str) : Str :=
  match d, e with
  | .int i, .int j => Str.empty ++ x ++ Str.ofString (toString i) ++ y ++ Str.ofString (toString j) ++ z
  | _, _ => x
def wLrev (d : D) (S : Sto) (Q : D → Sto → Prop) : Prop :=
  match itemsD S d with | some xs => ∀ p, S p = none → Q (.ref p) (updS S p (.lst xs.reverse)) | none => False
def wLzip (d e : D) (S : Sto) (Q : D → Sto → Prop) : Prop :=
  match d, e with
  | .tup xs, .tup ys => ∀ p, S p = none → Q (.ref p) (updS S p (.lst ((xs.zip ys).map fun z => .tup [z.1, z.2])))
  | _, _ => False
def wMth (m : Me) (o : D) (ds : List D) (S : Sto) (Q : D → Sto → Prop) : Prop :=
  match o with
  | .ref a => (match S a with
    | some (.lst xs) => (match m, ds with
      | .append, [d] => xs.length < sizeLine ∧ Q .non (updS S a (.lst (xs ++ [d])))
      | .pop, [] => (match xs[xs.length - 1]? with | some y => Q y (updS S a (.lst xs.dropLast)) | none => False)
      | .pop, [.int i] => 0 ≤ i ∧ i < 2 ^ 62 ∧ (match xs[i.toNat]? with | some y => Q y (updS S a (.lst (xs.eraseIdx i.toNat))) | none => False)
      | .insert, [.int i, d] => 0 ≤ i ∧ i < 2 ^ 62 ∧ xs.length < sizeLine ∧ Q .non (updS S a (.lst (xs.take i.toNat ++ [d] ++ xs.drop i.toNat)))
      | .extend, [.ref b] => (match S b with
        | some (.lst ys) => xs.length + ys.length ≤ sizeLine ∧ Q .non (updS S a (.lst (xs ++ ys)))
        | _ => False)
      | .clear, [] => Q .non (updS S a (.lst []))
      | .reverse, [] => Q .non (updS S a (.lst xs.reverse))
      | .count, [d] => flatD d = true ∧ xs.all flatD = true ∧ Q (.int (xs.countP fun y => eqF y d : Nat)) S
      | _, _ => False)
    | some (.dct kvs) => (match m, ds with
      | .get, [k] => (match keyD k with | some k => Q ((lookD kvs k).getD .non) S | none => False)
      | .get, [k, d] => (match keyD k with | some k => Q ((lookD kvs k).getD d) S | none => False)
      | _, _ => False)
    | _ => False)
  | _ => False

def Me.ofDict : Me → Bool
  | .get => true
  | _ => false
def okRecv (m : Me) (S : Sto) : D → Bool
  | .ref a => match S a with
    | some (.lst _) => !m.ofDict
    | some (.dct _) => m.ofDict
    | _ => false
  | _ => false

mutual
def wpG : Tg → D → StD → Sto → (StD → Prop) → Prop
  | .nm i, d, σ, _, Q => Q (σ.set i (some d))
  | .tup gs, d, σ, S, Q => match itemsD S d with
    | some ds => ds.length = gs.length ∧ wpGs gs ds σ S Q
    | none => False
def wpGs : List Tg → List D → StD → Sto → (StD → Prop) → Prop
  | [], _, σ, _, Q => Q σ
  | g :: gs, d :: ds, σ, S, Q => wpG g d σ S fun σ' => wpGs gs ds σ' S Q
  | _ :: _, [], _, _, _ => False
end
def wipeD (σ : StD) : List Nat → StD
  | [] => σ
  | v :: vs => (wipeD σ vs).set v none

structure Exc where
  cls : Str
  ns : List Str
  ds : List D
def xclT : List (Str × List Str) := [("NoHead", ["word", "at"]), ("NoProgram", ["word", "at"]), ("NoText", ["at"]), ("NoStock", ["word", "at"]), ("NoAnswer", ["answer"]), ("NoInputs", ["at"]), ("Clash", ["at", "number"])]
def xcl (n : Str) : Option (List Str) := xclT.lookup n
def wBack (d : D) (S : Sto) (Q : D → Sto → Prop) : Prop :=
  match d with | .ref a => (match S a with | some (.lst xs) => ∀ p, S p = none → Q (.ref p) (updS S p (.lst xs.reverse)) | _ => False) | .tup xs => Q (.tup xs.reverse) S | _ => False
def wLset (d : D) (S : Sto) (Q : D → Sto → Prop) : Prop :=
  match d with | .tup xs => (match intsOf xs with | some ns => ns.length ≤ 1000 ∧ ∀ out : List Int, out.Nodup → (∀ k, k ∈ out ↔ k ∈ ns) → Q (.int out.length) S | none => False) | _ => False
def wLrng (d : D) (S : Sto) (Q : D → Sto → Prop) : Prop :=
  match d with | .int n => 0 ≤ n ∧ n ≤ 1000 ∧ ∀ p, S p = none → Q (.ref p) (updS S p (.lst ((List.range n.toNat).map fun i => .int (i : Nat)))) | _ => False
def wIsx (m : Str) (d : D) (S : Sto) (Q : D → Sto → Prop) : Prop :=
  match d with | .exn n _ _ => Q (.bl (decide (n = m))) S | _ => False
def wAtr (f : Str) (d : D) (S : Sto) (Q : D → Sto → Prop) : Prop :=
  match d with | .exn _ ns ds => (match (ns.zip ds).lookup f with | some v => Q v S | none => False) | _ => False
def wFld (f : Str) (d : D) (S : Sto) (Q : D → Sto → Prop) : Prop :=
  match d with | .ref a => (match S a with | some (.ins _ fs) => (match fs.lookup f with | some v => Q v S | none => False) | _ => False) | _ => False
def putFD (f : Str) (v : D) : List (Str × D) → List (Str × D)
  | [] => [(f, v)]
  | (g, x) :: r => if g = f then (g, v) :: r else (g, x) :: putFD f v r
def wSetf (f : Str) (o v : D) (S : Sto) (Q : Sto → Prop) : Prop :=
  match o with | .ref a => (match S a with | some (.ins c fs) => fs.length < 100 ∧ Q (updS S a (.ins c (putFD f v fs))) | _ => False) | _ => False
def okSelf (c m : Str) (S : Sto) : D → Bool
  | .ref a => match S a with
    | some (.ins c' fs) => decide (c' = c) && (fs.lookup m).isNone
    | _ => false
  | _ => false
def isIns (c : Str) (S : Sto) : D → Bool
  | .ref a => match S a with
    | some (.ins c' _) => decide (c' = c)
    | _ => false
  | _ => false
def padT (q : Str) (n : Nat) : List D := if q = "Bounds.__init__" ∧ n = 1 then [.tup []] else []
def kwL : List (Str × (Nat × List Str)) := [("met_by", (2, ["many"]))]
def kwT (f : Str) : Option (Nat × List Str) := kwL.lookup f
def mkL : List (Str × (Nat × List Str)) := [("Bounds.__init__", (1, ["rows"]))]
def mkT (f : Str) : Option (Nat × List Str) := mkL.lookup f
abbrev EX := Exc → StD → Sto → Prop
abbrev Cal := Str → List D → Sto → (D → Sto → Prop) → (Exc → Sto → Prop) → Prop
structure Cw where
  cal : Cal
  gl : Str → Option D
structure EndD where
  nx : StD → Sto → Prop
  rt : D → Sto → Prop
  bk : StD → Sto → Prop
  ct : StD → Sto → Prop
def lcL (turn : D → Sto → (Option D → Sto → Prop) → Prop) (G : Sto → Prop) (Q : D → Sto → Prop) : List D → List D → Sto → Prop
  | [], acc, S => G S ∧ ∀ p, S p = none → Q (.ref p) (updS S p (.lst acc))
  | d :: ds, acc, S => G S ∧ acc.length < sizeLine ∧ turn d S fun o S' => match o with
    | some v => lcL turn G Q ds (acc ++ [v]) S'
    | none => lcL turn G Q ds acc S'
def forL (turn : D → (StD → Sto → Prop) → StD → Sto → Prop) (G : Sto → Prop) (E : StD → Sto → Prop) : List D → StD → Sto → Prop
  | [], σ, S => G S ∧ E σ S
  | d :: ds, σ, S => G S ∧ turn d (forL turn G E ds) σ S
def pairD (x y : D) : D := .tup [x, y]
section
variable (C : Cw)
mutual
def wpE (ex : EX) : T → WE
  | .var i => fun σ S Q => match σ[i]? with | some (some d) => Q d S | _ => False
  | .int i => fun _ S Q => Q (.int i) S
  | .bl b => fun _ S Q => Q (.bl b) S
  | .non => fun _ S Q => Q .non S
  | .str x => fun _ S Q => Q (.str x) S
  | .bty x => fun _ S Q => Q (.ty x) S
  | .glob x => fun _ S Q => match C.gl x with | some d => Q d S | none => False
  | .bin op a b => fun σ S Q => wpE ex a σ S fun x S1 => wpE ex b σ S1 fun y S2 => wBin op x y S2 Q
  | .neg a => fun σ S Q => wpE ex a σ S fun x S1 => match x with | .int i => Q (.int (-i)) S1 | _ => False
  | .cmp op a b => fun σ S Q => wpE ex a σ S fun x S1 => wpE ex b σ S1 fun y S2 => wCmp op x y S2 Q
  | .chain op op2 a b c => fun σ S Q => wpE ex a σ S fun x S1 => wpE ex b σ S1 fun y S2 => wCmp op x y S2 fun z S3 => match z with
    | .bl k => if k = true then wpE ex c σ S3 fun u S4 => wCmp op2 y u S4 Q else Q (.bl false) S3
    | _ => False
  | .bop op ts => fun σ S Q => wpB ex op ts σ S Q
  | .nt a => fun σ S Q => wpE ex a σ S fun d S1 => match tru S1 d with | some k => Q (.bl (!k)) S1 | none => False
  | .ite c a b => fun σ S Q => wpT ex c σ S fun k S1 => if k = true then wpE ex a σ S1 Q else wpE ex b σ S1 Q
  | .tup ts => fun σ S Q => wpEs ex ts σ S fun ds S1 => ds.length ≤ 100 ∧ Q (.tup ds) S1
  | .lst ts => fun σ S Q => wpEs ex ts σ S fun ds S1 => ds.length ≤ 100 ∧ ∀ p, S1 p = none → Q (.ref p) (updS S1 p (.lst ds))
  | .sub a i => fun σ S Q => wpE ex a σ S fun x S1 => wpE ex i σ S1 fun y S2 => wSub x y S2 Q
  | .slice a lo hi => fun σ S Q => wpE ex a σ S fun x S1 => wpO ex lo σ S1 fun l S2 => wpO ex hi σ S2 fun h S3 => wSlice x l h S3 Q
  | .call f ts => fun σ S Q => wpEs ex ts σ S fun ds S1 => C.cal f ds S1 Q fun x S2 => ex x σ S2
  | .callK f ts ks us => fun σ S Q => wpEs ex ts σ S fun ds S1 => ds.length = ts.length ∧ wpEs ex us σ S1 fun es S2 => es.length = us.length ∧ C.cal f (ds ++ es) S2 Q fun x S3 => ex x σ S3
  | .blt f ts => fun σ S Q => wpEs ex ts σ S fun ds S1 => wBlt f ds S1 Q
  | .lrev a => fun σ S Q => wpE ex a σ S fun x S1 => wLrev x S1 Q
  | .lzip a b => fun σ S Q => wpE ex a σ S fun x S1 => wpE ex b σ S1 fun y S2 => wLzip x y S2 Q
  | .lset a => fun σ S Q => wpE ex a σ S fun x S1 => wLset x S1 Q
  | .lrng a => fun σ S Q => wpE ex a σ S fun x S1 => wLrng x S1 Q
  | .mth m a ts => fun σ S Q => wpE ex a σ S fun x S1 => okRecv m S1 x = true ∧ wpEs ex ts σ S1 fun ds S2 => wMth m x ds S2 Q
  | .lc g it ifs own e => fun σ S Q => wpI ex it σ S fun ds G S1 =>
      lcL (fun d S2 k => wpG g d (wipeD σ (own.map (·.2))) S2 fun σ2 => wpTs ifs σ2 S2 fun b S3 => if b = true then wpE (fun _ _ _ => False) e σ2 S3 fun v S4 => k (some v) S4 else k none S3) G Q ds [] S1
  | .dct ks vs => fun σ S Q => wpEs ex vs σ S fun ds S1 => ds.length = ks.length ∧ 
      ∀ p, S1 p = none → Q (.ref p) (updS S1 p (.dct ((ks.zip ds).foldl (fun acc kv => putD acc (.inr kv.1) kv.2) [])))
  | .isx a m => fun σ S Q => wpE ex a σ S fun x S1 => wIsx m x S1 Q
  | .atr a f => fun σ S Q => wpE ex a σ S fun x S1 => wAtr f x S1 Q
  | .back a => fun σ S Q => wpE ex a σ S fun x S1 => wBack x S1 Q
  | .new q c ts => fun σ S Q => wpEs ex ts σ S fun ds S1 => ∀ x, S1 x = none → C.cal q (.ref x :: (ds ++ padT q ts.length)) (updS S1 x (.ins c [])) (fun v S2 => v = .non ∧ Q (.ref x) S2) fun xx S2 => ex xx σ S2
  | .fld a f => fun σ S Q => wpE ex a σ S fun x S1 => wFld f x S1 Q
  | .meth q c m a ts => fun σ S Q => wpE ex a σ S fun x S1 => okSelf c m S1 x = true ∧ wpEs ex ts σ S1 fun ds S2 => C.cal q (x :: ds) S2 Q fun xx S3 => ex xx σ S3
  | .eqo q c a b => fun σ S Q => wpE ex a σ S fun x S1 => wpE ex b σ S1 fun y S2 => isIns c S2 x = true ∧ isIns c S2 y = true ∧ C.cal q [x, y] S2 (fun d S3 => ∃ k, d = .bl k ∧ Q (.bl k) S3) fun xx S3 => ex xx σ S3
  | .isc a m => fun σ S Q => wpE ex a σ S fun x S1 => isIns m S1 x = true ∧ Q (.bl true) S1
  | .lno q c a => fun σ S Q => wpE ex a σ S fun x S1 => isIns c S1 x = true ∧ C.cal q [x] S1 (fun d S2 => ∃ n : Nat, d = .int n ∧ n < 1000000 ∧ Q (.int n) S2) fun _ _ => False
  | .rpo q c a => fun σ S Q => wpE ex a σ S fun x S1 => isIns c S1 x = true ∧ C.cal q [x] S1 (fun d S2 => ∃ z, d = .str z ∧ Q (.str z) S2) fun _ _ => False
  | .fs2 x a y b z => fun σ S Q => wpE ex a σ S fun d S1 => okI d ∧ wpE ex b σ S1 fun e S2 => okI e ∧ Q (.str (fs2T x d y e z)) S2
  | .newK q c ts ks us => fun σ S Q => wpEs ex ts σ S fun ds S1 => ds.length = ts.length ∧ wpEs ex us σ S1 fun es S2 => es.length = us.length ∧ ∀ x, S2 x = none → C.cal q (.ref x :: (ds ++ es)) (updS S2 x (.ins c [])) (fun v S3 => v = .non ∧ Q (.ref x) S3) fun xx S3 => ex xx σ S3
def wpEs (ex : EX) : List T → WA
  | [] => fun _ S Q => Q [] S
  | t :: ts => fun σ S Q => wpE ex t σ S fun d S1 => wpEs ex ts σ S1 fun ds S2 => Q (d :: ds) S2
def wpO (ex : EX) : Option T → StD → Sto → (Option Int → Sto → Prop) → Prop
  | none => fun _ S Q => Q none S
  | some t => fun σ S Q => wpE ex t σ S fun d S1 => match d with | .int i => Q (some i) S1 | _ => False
def wpB (ex : EX) (op : BoolOp) : List T → WE
  | [] => fun _ _ _ => False
  | [t] => fun σ S Q => wpE ex t σ S Q
  | t :: ts => fun σ S Q => wpE ex t σ S fun d S1 => match tru S1 d with
    | some k => (match op with
      | .And => if k = true then wpB ex op ts σ S1 Q else Q d S1
      | .Or => if k = true then Q d S1 else wpB ex op ts σ S1 Q)
    | none => False
def wpT (ex : EX) : T → WT
  | .bop op ts => fun σ S Q => wpTB ex op ts σ S Q
  | .nt a => fun σ S Q => wpT ex a σ S fun k S1 => Q (!k) S1
  | .var i => fun σ S Q => match σ[i]? with
    | some (some d) => (match tru S d with | some k => Q k S | none => False)
    | _ => False
  | .cmp op a b => fun σ S Q => wpE ex a σ S fun x S1 => wpE ex b σ S1 fun y S2 => wCmp op x y S2 fun z S3 => match z with
    | .bl k => Q k S3
    | _ => False
  | .chain op op2 a b c => fun σ S Q => wpE ex a σ S fun x S1 => wpE ex b σ S1 fun y S2 => wCmp op x y S2 fun z S3 => match z with
    | .bl k => if k = true then wpE ex c σ S3 fun u S4 => wCmp op2 y u S4 fun z S5 => (match z with | .bl k => Q k S5 | _ => False) else Q false S3
    | _ => False
  | .call f ts => fun σ S Q => wpEs ex ts σ S fun ds S1 => C.cal f ds S1 (fun d S2 => match tru S2 d with | some k => Q k S2 | none => False) fun x S2 => ex x σ S2
  | .meth q c m a ts => fun σ S Q => wpE ex a σ S fun x S1 => okSelf c m S1 x = true ∧ wpEs ex ts σ S1 fun ds S2 => C.cal q (x :: ds) S2 (fun d S3 => match tru S3 d with | some k => Q k S3 | none => False) fun xx S3 => ex xx σ S3
  | .isc a m => fun σ S Q => wpE ex a σ S fun x S1 => isIns m S1 x = true ∧ Q true S1
  | .sub a i => fun σ S Q => wpE ex a σ S fun x S1 => wpE ex i σ S1 fun y S2 => wSub x y S2 fun d S3 => match tru S3 d with | some k => Q k S3 | none => False
  | .blt f ts => fun σ S Q => wpEs ex ts σ S fun ds S1 => wBlt f ds S1 fun d S2 => match tru S2 d with | some k => Q k S2 | none => False
  | _ => fun _ _ _ => False
def wpTB (ex : EX) (op : BoolOp) : List T → WT
  | [] => fun _ _ _ => False
  | [t] => fun σ S Q => wpT ex t σ S Q
  | t :: ts => fun σ S Q => wpT ex t σ S fun k S1 => match op with
    | .And => if k = true then wpTB ex op ts σ S1 Q else Q false S1
    | .Or => if k = true then Q true S1 else wpTB ex op ts σ S1 Q
def wpTs : List T → WT
  | [] => fun _ S Q => Q true S
  | [t] => fun σ S Q => wpT (fun _ _ _ => False) t σ S Q
  | _ => fun _ _ _ => False
def wpI (ex : EX) : Ti → StD → Sto → (List D → (Sto → Prop) → Sto → Prop) → Prop
  | .seq e => fun σ S Q => wpE ex e σ S fun d S1 => match d with
    | .tup ds => Q ds (fun _ => True) S1
    | .kl ds => Q ds (fun _ => True) S1
    | .ref a => (match S1 a with
      | some (.lst ds) => Q ds (fun S => S a = some (.lst ds)) S1
      | _ => False)
    | _ => False
  | .rng1 a => fun σ S Q => wpE ex a σ S fun d S1 => match d with
    | .int n => -(2 ^ 62) ≤ n ∧ n < 2 ^ 62 ∧ Q ((List.range n.toNat).map fun i => .int (i : Nat)) (fun _ => True) S1
    | _ => False
  | .rng2 a b => fun σ S Q => wpE ex a σ S fun x S1 => wpE ex b σ S1 fun y S2 => match x, y with
    | .int i, .int j => (-(2 ^ 62) ≤ i ∧ i < 2 ^ 62 ∧ -(2 ^ 62) ≤ j ∧ j < 2 ^ 62) ∧ Q ((List.range (j - i).toNat).map fun k => .int (i + (k : Nat))) (fun _ => True) S2
    | _, _ => False
  | .enm e => fun σ S Q => wpE ex e σ S fun d S1 => match d with
    | .ref a => (match S1 a with
      | some (.lst ds) => Q ((List.range ds.length).zipWith (fun i d => pairD (.int (i : Nat)) d) ds) (fun S => S a = some (.lst ds)) S1
      | _ => False)
    | .tup ds => Q ((List.range ds.length).zipWith (fun i d => pairD (.int (i : Nat)) d) ds) (fun _ => True) S1
    | _ => False
  | .zip a b => fun σ S Q => wpE ex a σ S fun x S1 => wpE ex b σ S1 fun y S2 => match x, y with
    | .tup xs, .tup ys => Q ((xs.zip ys).map fun z => pairD z.1 z.2) (fun _ => True) S2
    | .ref a, .ref b => (match S2 a, S2 b with
      | some (.lst xs), some (.lst ys) => Q ((xs.zip ys).map fun z => pairD z.1 z.2) (fun S => S a = some (.lst xs) ∧ S b = some (.lst ys)) S2
      | _, _ => False)
    | _, _ => False
  | .rev e => fun σ S Q => wpE ex e σ S fun d S1 => match d with
    | .tup ds => Q ds.reverse (fun _ => True) S1
    | .ref a => (match S1 a with
      | some (.lst ds) => Q ds.reverse (fun S => S a = some (.lst ds)) S1
      | _ => False)
    | _ => False
end
mutual
def wpS (ex : EX) : TS → EndD → StD → Sto → Prop
  | .ex e => fun D σ S => wpE C ex e σ S fun _ S1 => D.nx σ S1
  | .asg g e => fun D σ S => wpE C ex e σ S fun d S1 => wpG g d σ S1 fun σ' => D.nx σ' S1
  | .par i j a b => fun D σ S => wpE C ex a σ S fun x S1 => wpE C ex b σ S1 fun y S2 => D.nx ((σ.set i (some x)).set j (some y)) S2
  | .par3 i j l a b c => fun D σ S => wpE C ex a σ S fun x S1 => wpE C ex b σ S1 fun y S2 => wpE C ex c σ S2 fun z S3 => D.nx (((σ.set i (some x)).set j (some y)).set l (some z)) S3
  | .star is i js e => fun D σ S => wpE C ex e σ S fun d S1 => match itemsD S1 d with
    | some ds => is.length + js.length ≤ ds.length ∧ ds.length ≤ 16384 ∧ ∀ p, S1 p = none → wpGs ((is ++ [i] ++ js).map Tg.nm) (ds.take is.length ++ [.ref p] ++ ds.drop (ds.length - js.length)) σ
        (updS S1 p (.lst ((ds.drop is.length).take (ds.length - is.length - js.length)))) fun σ' => D.nx σ' (updS S1 p (.lst ((ds.drop is.length).take (ds.length - is.length - js.length))))
    | none => False
  | .set a i e => fun D σ S => wpE C ex e σ S fun v S1 => wpE C ex a σ S1 fun o S2 => wpE C ex i σ S2 fun k S3 => wSet o k v S3 fun S4 => D.nx σ S4
  | .setf a f e => fun D σ S => wpE C ex e σ S fun v S1 => wpE C ex a σ S1 fun o S2 => wSetf f o v S2 fun S3 => D.nx σ S3
  | .aug op i e => fun D σ S => match σ[i]? with
    | some (some (.int x)) => wpE C ex e σ S fun d S1 => (match op, d with
      | .Add, .int y => D.nx (σ.set i (some (.int (x + y)))) S1
      | .Sub, .int y => D.nx (σ.set i (some (.int (x - y)))) S1
      | _, _ => False)
    | _ => False
  | .ife c a b => fun D σ S => wpT C ex c σ S fun k S1 => if k = true then wpSs ex a D σ S1 else wpSs ex b D σ S1
  | .whil c b => fun D σ S => ∃ W : Nat → StD → Sto → Prop, (∃ m, W m σ S) ∧ ∀ m σ S, W m σ S → wpT C ex c σ S fun k S1 =>
      if k = true then wpSs ex b { D with nx := fun σ' S' => ∃ m', m' < m ∧ W m' σ' S', ct := fun σ' S' => ∃ m', m' < m ∧ W m' σ' S', bk := D.nx } σ S1 else D.nx σ S1
  | .fr g it b => fun D σ S => wpI C ex it σ S fun ds G S1 => forL (fun d N σ S => wpG g d σ S fun σ' => wpSs ex b { D with nx := N, ct := N, bk := D.nx } σ' S) G D.nx ds σ S1
  | .ret e => fun D σ S => wpE C ex e σ S D.rt
  | .retN => fun D _ S => D.rt .non S
  | .pass => fun D σ S => D.nx σ S
  | .brk => fun D σ S => D.bk σ S
  | .cont => fun D σ S => D.ct σ S
  | .never => fun _ _ _ => False
  | .rais n ts => fun _ σ S => wpEs C ex ts σ S fun ds S1 => match xcl n with
    | some ns => ds.length = ns.length ∧ ex ⟨n, ns.reverse, ds.reverse⟩ σ S1
    | none => False
  | .tryx b m i h => fun D σ S => wpSs (fun x σ' S' => if x.cls = m then
      wpSs (fun _ _ _ => False) h ⟨fun σ2 S2 => D.nx (σ2.set i none) S2, D.rt, fun σ2 S2 => D.bk (σ2.set i none) S2, fun σ2 S2 => D.ct (σ2.set i none) S2⟩ (σ'.set i (some (.exn x.cls x.ns x.ds))) S'
      else ex x σ' S') b D σ S
def wpSs (ex : EX) : List TS → EndD → StD → Sto → Prop
  | [] => fun D σ S => D.nx σ S
  | s :: ss => fun D σ S => wpS ex s { D with nx := wpSs ex ss D } σ S
end
end
structure DefT where
  np : Nat
  ns : Nat
  body : List TS
def startD (ns : Nat) (ds : List D) : StD := ds.map some ++ List.replicate (ns - ds.length) none
def sem (defs : Str → Option DefT) (gl : Str → Option D) : Nat → Cal
  | 0 => fun _ _ _ _ _ => False
  | k + 1 => fun f ds S Q E => match defs f with
    | some d => ds.length = d.np ∧ wpSs ⟨sem defs gl k, gl⟩ (fun x _ S' => E x S') d.body ⟨fun _ S' => Q .non S', Q, fun _ _ => False, fun _ _ => False⟩ (startD d.ns ds) S
    | none => False
end Z

set_option Elab.async false
set_option linter.all false
set_option maxRecDepth 100000
set_option maxHeartbeats 4000000
namespace Z
open PySem PySem.Spec PyProof.Rows L2
section
variable {K : PySem.W.Frag} {w : World} {H H' : Hp} {S S' : Sto} {R : D → Sto → Prop} {Q : VK} {X : Cx}

theorem relds_nil : RelDs K w H [] [] := by simp only [RelDs]
theorem relds_cons {d : D} {ds : List D} {v : V} {vs : List V} (a : RelD K w H d v) (b : RelDs K w H ds vs) : RelDs K w H (d :: ds) (v :: vs) := by
  simp only [RelDs]; exact ⟨v, vs, rfl, a, b⟩
theorem relds_one {d : D} {vs : List V} (h : RelDs K w H [d] vs) : ∃ v, vs = [v] ∧ RelD K w H d v := by
  simp only [RelDs] at h
  obtain ⟨v, r, rfl, h1, rfl⟩ := h
  exact ⟨v, rfl, h1⟩
theorem relds_two {d e : D} {vs : List V} (h : RelDs K w H [d, e] vs) : ∃ v u, vs = [v, u] ∧ RelD K w H d v ∧ RelD K w H e u := by
  simp only [RelDs] at h
  obtain ⟨v, r, rfl, h1, u, r', rfl, h2, rfl⟩ := h
  exact ⟨v, u, rfl, h1, h2⟩
theorem HR.lst (h : HR K w H S) {a : Addr} {ds : List D} (e : S a = some (.lst ds)) : ∃ vs, H a = some (.lst vs) ∧ RelDs K w H ds vs := h a _ e
theorem HR.sql (h : HR K w H S) {a : Addr} {ds : List D} (e : S a = some (.lst ds)) : ∃ vs, SqL K H a vs ∧ RelDs K w H ds vs := by
  obtain ⟨vs, h1, h2⟩ := h a _ e
  exact ⟨vs, SqL.of h1, h2⟩
theorem items_of (h : HR K w H S) {d : D} {v : V} {ds : List D} (e : itemsD S d = some ds) (r : RelD K w H d v) : ∃ a vs, v = .ref a ∧ RelDs K w H ds vs ∧ (SqL K H a vs ∨ SqT K H a vs) ∧ (d = .tup ds → SqT K H a vs) := by
  unfold itemsD at e
  split at e
  · cases e
    simp only [RelD] at r
    obtain ⟨a, vs, r1, r2, r3⟩ := r
    exact ⟨a, vs, r1, r3, .inr r2, fun _ => r2⟩
  · cases e
    simp only [RelD] at r
    obtain ⟨a, vs, r1, r2, r3⟩ := r
    exact ⟨a, vs, r1, r3, .inl r2.sq, fun z => nomatch z⟩
  · rename_i a
    simp only [RelD] at r
    subst r
    split at e
    · cases e
      rename_i q
      obtain ⟨vs, h1, h2⟩ := h.sql q
      exact ⟨a, vs, rfl, h2, .inl h1, fun z => nomatch z⟩
    · cases e
  · cases e

theorem tup_once (l : Addr) (items : Array Value) (n : Nat) (dd : Option Addr) (sl : Array (Option Value)) (u : Tok) :
    Meets (Builtin.«tuple.__mul__» ⟨[.ref l, .int 1 u], []⟩) (fun _ R s => s.heap.get? l = some { cls := .type "tuple", dict := dd, data := .seq items n, slots := sl } ∧ R (.ok (.ret (Value.ref l))) s) :=
  .of_wp fun prog w A R s h => by
    obtain ⟨hp, g, d, tk, os⟩ := s
    obtain ⟨hl, h⟩ := h
    have f1 := AutoSeq1.idx_int
    wp_walk using wpAny_loadPart' hl
    repeat (first
      | (refine wpAny_ite_false (decide_eq_false (by decide)) ?_; wp_walk using wpAny_loadPart' hl)
      | (refine wpAny_ite_true (decide_eq_true (by simp)) ?_; wp_walk using wpAny_loadPart' hl))
    exact ⟨_, rfl, h⟩
def rOnce (K : PySem.W.Frag) : R2 := fun x y H Q => ∃ l xs, x = .ref l ∧ y = .int 1 ∧ SqT K H l xs ∧ Q (.ref l) H
theorem op_once : OpR X (binaryOp .Mult) (rOnce X.K) := by
  intro pins s σ H x y v u Q I rx ry h
  obtain ⟨l, xs, rfl, rfl, hT, q⟩ := h
  cases rx
  obtain ⟨t, rfl⟩ := ry
  obtain ⟨its, r, ⟨⟨cls, dd, data, sl⟩, ho, hc, n, hd⟩, hs⟩ := I.tuple hT
  simp only at hc hd
  subst hc hd
  refine wpAny_binaryOp_repeat_ref (T := "tuple") (U := "int") (by decide) ⟨_, ho, rfl⟩ (fun s' => typeIs_int s' 1 t) noFill_tuple_mul F.fills_int_mul F.slot_int_rmul repeat_tuple F.slot_int_index.lookup
    (call_meets F.slot_int_rmul (typeIs_int s 1 t) F.entry_int_rmul (F.args_int_rmul_2 _ _) (int_rmul_tuple 1 t l its.toArray n dd sl)
      ⟨ho, rfl, ⟨_, ho, rfl⟩, call_meets F.slot_tuple_mul ⟨_, ho, rfl⟩ F.entry_tuple_mul (F.args_tuple_mul_2 _ _) (tup_once l its.toArray n dd sl t) ⟨ho, ?_⟩⟩)
  exact ⟨.ref l, H, I, rfl, q⟩
theorem RelDs.rep {ds : List D} {vs : List V} (h : RelDs K w H ds vs) : ∀ n : Nat, RelDs K w H (List.replicate n ds).flatten (List.replicate n vs).flatten
  | 0 => by simp only [List.replicate_zero, List.flatten_nil, RelDs]
  | n + 1 => by
    simp only [List.replicate_succ, List.flatten_cons]
    exact RelDs.append h (RelDs.rep h n)
theorem bin_ok (op : Operator) : OpR X (binaryOp op) (rD2 X.K X.w (wBin op)) := by
  intro pins s σ H x y v u Q I rx ry hh
  obtain ⟨dx, dy, S, R, r1, r2, h, f, k⟩ := hh
  unfold wBin at f
  split at f
  · simp only [RelD] at r1 r2
    exact op_add pins s σ H x y v u Q I rx ry ⟨_, _, r1, r2, k.same f (by simp only [RelD]) h⟩
  · rename_i a b
    simp only [RelD] at r1 r2
    obtain ⟨p, vs, rfl, t1, q1⟩ := r1
    obtain ⟨p', vs', rfl, t2, q2⟩ := r2
    obtain ⟨f0, f⟩ := f
    refine op_catA pins s σ H _ _ v u Q I rx ry ⟨p, p', vs, vs', rfl, rfl, t1, t2, by rw [← q1.length, ← q2.length]; exact f0, fun e => ?_, fun e1 e2 => ?_, fun e1 e2 q nq => ?_⟩
    · subst e
      have e0 : a = [] := List.eq_nil_of_length_eq_zero (by rw [q1.length]; rfl)
      subst e0
      exact k.same f (by simp only [RelD, List.nil_append]; exact ⟨_, _, rfl, t2, q2⟩) h
    · subst e2
      have e0 : b = [] := List.eq_nil_of_length_eq_zero (by rw [q2.length]; rfl)
      subst e0
      exact k.same f (by simp only [RelD, List.append_nil]; exact ⟨_, _, rfl, t1, q1⟩) h
    · exact k.tup f h (RelDs.append q1 q2) nq
  · simp only [RelD] at r1 r2
    obtain ⟨f0, f⟩ := f
    exact op_add_str pins s σ H x y v u Q I rx ry ⟨_, _, r1, r2, f0, k.same f (by simp only [RelD]) h⟩
  · simp only [RelD] at r1 r2
    split at f
    · rename_i e1 e2
      obtain ⟨f0, f⟩ := f
      obtain ⟨vs, h1, q1⟩ := h.lst e1
      obtain ⟨vs', h2, q2⟩ := h.lst e2
      exact op_cat pins s σ H x y v u Q I rx ry ⟨_, _, _, _, r1, r2, h1, h2, by rw [← q1.length, ← q2.length]; exact f0, fun p np => k.lst (f p (h.fresh np)) h (RelDs.append q1 q2) np⟩
    · exact f.elim
  · simp only [RelD] at r1 r2
    exact op_sub pins s σ H x y v u Q I rx ry ⟨_, _, r1, r2, k.same f (by simp only [RelD]) h⟩
  · simp only [RelD] at r1 r2
    exact op_mul pins s σ H x y v u Q I rx ry ⟨_, _, r1, r2, f.1, k.same f.2 (by simp only [RelD]) h⟩
  · simp only [RelD] at r1 r2
    obtain ⟨a, vs, e1, e2, e3⟩ := r1
    obtain ⟨f1, f2, f3, f4, f⟩ := f
    rename_i xs n
    by_cases h1 : n = 1
    · subst h1
      refine op_once pins s σ H x y v u Q I rx ry ⟨a, vs, e1, r2, e2, k.same f ?_ h⟩
      simp only [RelD]
      exact ⟨a, vs, e1 ▸ rfl, e2, by simpa using e3⟩
    · refine op_repT pins s σ H x y v u Q I rx ry ⟨a, n, vs, e1, r2, e2, fun z => f1 ?_, by omega, f4, by rw [← e3.length]; exact f2, fun p np => k.tup f h (e3.rep _) np⟩
      subst z
      exact List.eq_nil_of_length_eq_zero (by rw [e3.length]; rfl)
  · simp only [RelD] at r1 r2
    split at f
    · rename_i n _ xs e1
      obtain ⟨f1, f2, f3, f⟩ := f
      obtain ⟨vs, h1, q1⟩ := h.lst e1
      refine op_rep pins s σ H x y v u Q I rx ry ⟨_, _, vs, r1, r2, h1, by omega, by omega, ?_, fun p np => k.lst (f p (h.fresh np)) h (q1.rep _) np⟩
      have hl := q1.length
      rw [sizeLine_eq, ← hl]
      have : ∀ a b : Nat, a ≤ 1000 → b ≤ 1000 → a * b ≤ 1000 * 1000 := fun a b => Nat.mul_le_mul
      have := this _ _ f3 (by omega : n.toNat ≤ 1000)
      omega
    · exact f.elim
  · simp only [RelD] at r1 r2
    exact op_fdiv pins s σ H x y v u Q I rx ry ⟨_, _, r1, r2, f.1, k.same f.2 (by simp only [RelD]) h⟩
  · simp only [RelD] at r1 r2
    exact op_mod pins s σ H x y v u Q I rx ry ⟨_, _, r1, r2, f.1, k.same f.2 (by simp only [RelD]) h⟩
  · simp only [RelD] at r1 r2
    exact op_pow pins s σ H x y v u Q I rx ry ⟨_, _, r1, r2, f.1, k.same f.2 (by simp only [RelD]) h⟩
  · exact f.elim

mutual
theorem dp_of : ∀ (d : D) (v : V) (p : PyData), RelD K w H d v → toP d = some p → Dp K H v p
  | .non, v, p, r, e => by simp only [RelD] at r; subst r; simp only [toP] at e; cases e; exact .non
  | .bl b, v, p, r, e => by simp only [RelD] at r; subst r; simp only [toP] at e; cases e; exact .bl b
  | .int b, v, p, r, e => by simp only [RelD] at r; subst r; simp only [toP] at e; cases e; exact .int b
  | .str b, v, p, r, e => by simp only [RelD] at r; subst r; simp only [toP] at e; cases e; exact .str b
  | .tup ds, v, p, r, e => by
    simp only [RelD] at r
    obtain ⟨a, vs, rfl, t, q⟩ := r
    simp only [toP] at e
    cases e2 : toPs ds with
    | none => rw [e2] at e; cases e
    | some ps =>
      rw [e2] at e
      cases e
      exact .tup t (dps_of ds vs ps q e2)
  | .ref _, v, p, r, e => by simp only [toP] at e; cases e
  | .ty _, v, p, r, e => by simp only [toP] at e; cases e
  | .cd _, v, p, r, e => by simp only [toP] at e; cases e
  | .kl _, v, p, r, e => by simp only [toP] at e; cases e
  | .exn _ _ _, v, p, r, e => by simp only [toP] at e; cases e
theorem dps_of : ∀ (ds : List D) (vs : List V) (ps : List PyData), RelDs K w H ds vs → toPs ds = some ps → DpAll K H vs ps
  | [], vs, ps, r, e => by simp only [RelDs] at r; subst r; simp only [toPs] at e; cases e; exact .nil
  | d :: ds, vs, ps, r, e => by
    simp only [RelDs] at r
    obtain ⟨v, t, rfl, r1, r2⟩ := r
    simp only [toPs] at e
    split at e
    · rename_i e1 e2
      cases e
      exact .cons (dp_of d v _ r1 e1) (dps_of ds t _ r2 e2)
    · cases e
end
theorem dp1_of (h : HR K w H S) {d : D} {v : V} {p : PyData} (r : RelD K w H d v) (e : toP1 S d = some p) : Dp K H v p := by
  unfold toP1 at e
  split at e
  · rename_i a
    simp only [RelD] at r
    subst r
    split at e
    · rename_i q
      obtain ⟨vs, h1, h2⟩ := h.sql q
      cases e2 : toPs _ with
      | none => rw [e2] at e; cases e
      | some ps => rw [e2] at e; cases e; exact .lst h1 (dps_of _ _ _ h2 e2)
    · cases e
  · exact dp_of _ _ _ r e
theorem dp1s_of (h : HR K w H S) : ∀ (ds : List D) (vs : List V) (ps : List PyData), RelDs K w H ds vs → toP1s S ds = some ps → DpAll K H vs ps
  | [], vs, ps, r, e => by simp only [RelDs] at r; subst r; simp only [toP1s] at e; cases e; exact .nil
  | d :: ds, vs, ps, r, e => by
    simp only [RelDs] at r
    obtain ⟨v, t, rfl, r1, r2⟩ := r
    simp only [toP1s] at e
    split at e
    · rename_i e1 e2
      cases e
      exact .cons (dp1_of h r1 e1) (dp1s_of h ds t _ r2 e2)
    · cases e
theorem dpS_of (h : HR K w H S) {d : D} {v : V} {p : PyData} (r : RelD K w H d v) (e : toPS S d = some p) : Dp K H v p := by
  unfold toPS at e
  split at e
  · rename_i a
    simp only [RelD] at r
    subst r
    split at e
    · rename_i q
      obtain ⟨vs, h1, h2⟩ := h.sql q
      split at e
      · rename_i e2
        cases e
        exact .lst h1 (dps_of _ _ _ h2 e2)
      · cases e2 : toP1s S _ with
        | none => rw [e2] at e; cases e
        | some ps => rw [e2] at e; cases e; exact .lst h1 (dp1s_of h _ _ _ h2 e2)
    · cases e
  · exact dp_of _ _ _ r e
theorem flat_of {d : D} {v : V} (r : RelD K w H d v) (f : flatD d = true) : flatV v = true := by
  cases d <;> simp only [RelD, flatD] at r f <;> first | (subst r; rfl) | cases f
theorem flats_of : ∀ {ds : List D} {vs : List V}, RelDs K w H ds vs → ds.all flatD = true → vs.all flatV = true
  | [], vs, r, f => by simp only [RelDs] at r; subst r; rfl
  | d :: ds, vs, r, f => by
    simp only [RelDs] at r
    obtain ⟨v, t, rfl, r1, r2⟩ := r
    rw [List.all_cons, Bool.and_eq_true] at f ⊢
    exact ⟨flat_of r1 f.1, flats_of r2 f.2⟩
theorem eqF_of {d e : D} {v u : V} (r1 : RelD K w H d v) (r2 : RelD K w H e u) (f1 : flatD d = true) (f2 : flatD e = true) : eqV v u = eqF d e := by
  cases d <;> first | exact absurd (show false = true from f1) Bool.false_ne_true | (simp only [RelD] at r1; subst r1; cases e <;> first | exact absurd (show false = true from f2) Bool.false_ne_true | (simp only [RelD] at r2; subst r2; rfl))
theorem inF_of {x : D} {v : V} (r1 : RelD K w H x v) (f1 : flatD x = true) : ∀ {ds : List D} {vs : List V}, RelDs K w H ds vs → ds.all flatD = true → inV v vs = inF x ds
  | [], vs, r, f => by simp only [RelDs] at r; subst r; rfl
  | d :: ds, vs, r, f => by
    simp only [RelDs] at r
    obtain ⟨u, t, rfl, q1, q2⟩ := r
    rw [List.all_cons, Bool.and_eq_true] at f
    have ih := inF_of r1 f1 q2 f.2
    unfold inV inF at ih ⊢
    rw [List.any_cons, List.any_cons, ih, eqF_of q1 r1 f.1 f1]
theorem readsAll_at {h : Heap} : ∀ {vs : List Value} {ps : List PyData} {as : List Addr}, ReadsAll h vs ps as → ∀ y ∈ vs, ∃ p bs, p ∈ ps ∧ Reads h y p bs
  | _, _, _, .nil, y, hy => nomatch hy
  | _, _, _, .cons r rs, y, hy => by
    rcases List.mem_cons.mp hy with rfl | hy
    · exact ⟨_, _, List.mem_cons_self, r⟩
    · obtain ⟨p, bs, hp, q⟩ := readsAll_at rs y hy
      exact ⟨p, bs, List.mem_cons_of_mem _ hp, q⟩
theorem canLay_mem : ∀ {ps : List PyData}, PyData.canLayAll0 ps = true → ∀ p ∈ ps, p.canLay0 = true
  | [], _, p, hp => nomatch hp
  | q :: ps, h, p, hp => by
    have h' : q.canLay0 = true ∧ PyData.canLayAll0 ps = true := by simpa [PyData.canLayAll0] using h
    rcases List.mem_cons.mp hp with rfl | hp
    · exact h'.1
    · exact canLay_mem h'.2 p hp
noncomputable def eqBy (h : Heap) (q : PyData) (y : Value) : Bool := by
  classical exact if z : ∃ p as, Reads h y p as ∧ p.canLay0 = true then PyData.eqv z.choose q else false
theorem eqBy_of {h : Heap} {q p : PyData} {y : Value} {as : List Addr} (r : Reads h y p as) (hp : p.canLay0 = true) : eqBy h q y = PyData.eqv p q := by
  classical
  have z : ∃ p as, Reads h y p as ∧ p.canLay0 = true := ⟨p, as, r, hp⟩
  unfold eqBy
  rw [dif_pos z]
  obtain ⟨bs, r2, hc⟩ := z.choose_spec
  rw [PySem.SeqAt.Reads.unique _ _ _ _ _ hc r2 r]
theorem any_eqBy {h : Heap} {q : PyData} : ∀ {vs : List Value} {ps : List PyData} {as : List Addr}, ReadsAll h vs ps as → PyData.canLayAll0 ps = true → vs.any (eqBy h q) = ps.any fun p => PyData.eqv p q
  | _, _, _, .nil, _ => rfl
  | _, _, _, .cons (d := p) (ds := ps) r rs, hc => by
    have h' : p.canLay0 = true ∧ PyData.canLayAll0 ps = true := by simpa [PyData.canLayAll0] using hc
    rw [List.any_cons, List.any_cons, eqBy_of r h'.1, any_eqBy rs h'.2]
def rInD (K : PySem.W.Frag) (neg : Bool) : R2 := fun x y H Q => ∃ a xs q ps, y = .ref a ∧ (SqL K H a xs ∨ SqT K H a xs) ∧ Dp K H x q ∧ DpAll K H xs ps ∧ q.canLay0 = true ∧ q.depth ≤ 60 ∧ PyData.canLayAll0 ps = true ∧ Q (.bl (if neg then !(ps.any fun p => PyData.eqv p q) else ps.any fun p => PyData.eqv p q)) H
theorem op_inD (hu : X.A.units + 64 < cLine) (neg : Bool) : OpR X (compareOp (if neg then .NotIn else .In)) (rInD X.K neg) := by
  intro pins s σ H x y v u Q I rx ry h
  obtain ⟨a, xs, q, ps, rfl, hq, hx, hp, c1, c2, c3, qq⟩ := h
  cases ry
  obtain ⟨as, r1⟩ := Dp.reads I q x v hx rx
  rcases hq with hq | hq
  · obtain ⟨its, r, pl, hz⟩ := I.list hq
    obtain ⟨bs, r2⟩ := Dp.readsAll I ps _ its hp r
    have he : ∀ y, y ∈ its.toArray → SeqAt.EqAt X.A.in1 s y v (eqBy s.heap q y) := fun y hy => by
      obtain ⟨p, cs, h1, h2⟩ := readsAll_at r2 y (by simpa using hy)
      rw [eqBy_of h2 (canLay_mem c3 p h1)]
      exact SeqAt.eqAt_reads p q X.A.in1 s y v cs as h2 r1 (canLay_mem c3 p h1) c1 (by have : min p.depth q.depth ≤ q.depth := Nat.min_le_right _ _; show X.A.units + 1 + _ < cLine; omega)
    have ea : its.toArray.any (eqBy s.heap q) = ps.any fun p => PyData.eqv p q := by rw [show its.toArray.any (eqBy s.heap q) = its.any (eqBy s.heap q) by simp, any_eqBy r2 c3]
    cases neg
    · exact SeqAt.in_listAt (eqBy s.heap q) pl.isList he ⟨.bl _, H, I, rfl, by rw [ea]; exact qq⟩
    · exact SeqAt.notIn_listAt (eqBy s.heap q) pl.isList he ⟨.bl _, H, I, rfl, by rw [ea]; exact qq⟩
  · obtain ⟨its, r, pl, hz⟩ := I.tuple hq
    obtain ⟨bs, r2⟩ := Dp.readsAll I ps _ its hp r
    have he : ∀ y, y ∈ its.toArray → SeqAt.EqAt X.A.in1 s y v (eqBy s.heap q y) := fun y hy => by
      obtain ⟨p, cs, h1, h2⟩ := readsAll_at r2 y (by simpa using hy)
      rw [eqBy_of h2 (canLay_mem c3 p h1)]
      exact SeqAt.eqAt_reads p q X.A.in1 s y v cs as h2 r1 (canLay_mem c3 p h1) c1 (by have : min p.depth q.depth ≤ q.depth := Nat.min_le_right _ _; show X.A.units + 1 + _ < cLine; omega)
    have ea : its.toArray.any (eqBy s.heap q) = ps.any fun p => PyData.eqv p q := by rw [show its.toArray.any (eqBy s.heap q) = its.any (eqBy s.heap q) by simp, any_eqBy r2 c3]
    cases neg
    · exact SeqAt.in_tupleAt (eqBy s.heap q) pl he ⟨.bl _, H, I, rfl, by rw [ea]; exact qq⟩
    · exact SeqAt.notIn_tupleAt (eqBy s.heap q) pl he ⟨.bl _, H, I, rfl, by rw [ea]; exact qq⟩
theorem rInD_of {K : PySem.W.Frag} {w : World} {H : Hp} {S : Sto} {neg : Bool} {dx : D} {ys : List D} {x : V} {a : Addr} {vs : List V} {R : D → Sto → Prop} {Q : VK} (h : HR K w H S) (r1 : RelD K w H dx x) (q1 : RelDs K w H ys vs) (q2 : SqL K H a vs ∨ SqT K H a vs) (f : wInP neg dx ys S R) (k : Kont K w H S R Q) : rInD K neg x (.ref a) H Q := by
  unfold wInP at f
  split at f
  · rename_i q ps e1 e2
    exact ⟨a, vs, q, ps, rfl, q2, dp_of _ _ _ r1 e1, dps_of _ _ _ q1 e2, f.1, f.2.1, f.2.2.1, k.same f.2.2.2 (by simp only [RelD]) h⟩
  · exact f.elim
theorem cmp_ok (hu : X.A.units + 64 < cLine) (op : CmpOp) : OpR X (compareOp op) (rD2 X.K X.w (wCmp op)) := by
  intro pins s σ H x y v u Q I rx ry hh
  obtain ⟨dx, dy, S, R, r1, r2, h, f, k⟩ := hh
  have eqs : ∀ neg, wEq neg dx dy S R → ∃ d e, Dp X.K H x d ∧ Dp X.K H y e ∧ SeqAt.shaped d = true ∧ SeqAt.shaped e = true ∧ Q (.bl (if neg then !PyData.eqv d e else PyData.eqv d e)) H := fun neg f => by
    unfold wEq at f
    split at f
    · rename_i e1 e2
      exact ⟨_, _, dpS_of h r1 e1, dpS_of h r2 e2, f.1, f.2.1, k.same f.2.2 (by simp only [RelD]) h⟩
    · exact f.elim
  cases op with
  | Eq => exact op_eqD hu pins s σ H x y v u Q I rx ry (eqs false f)
  | NotEq => exact op_neD hu pins s σ H x y v u Q I rx ry (eqs true f)
  | Lt =>
    simp only [wCmp] at f
    split at f
    · simp only [RelD] at r1 r2
      exact op_lt pins s σ H x y v u Q I rx ry ⟨_, _, r1, r2, k.same f (by simp only [RelD]) h⟩
    · exact f.elim
  | LtE =>
    simp only [wCmp] at f
    split at f
    · simp only [RelD] at r1 r2
      exact op_le pins s σ H x y v u Q I rx ry ⟨_, _, r1, r2, k.same f (by simp only [RelD]) h⟩
    · exact f.elim
  | Gt =>
    simp only [wCmp] at f
    split at f
    · simp only [RelD] at r1 r2
      exact op_gt pins s σ H x y v u Q I rx ry ⟨_, _, r1, r2, k.same f (by simp only [RelD]) h⟩
    · exact f.elim
  | GtE =>
    simp only [wCmp] at f
    split at f
    · simp only [RelD] at r1 r2
      exact op_ge pins s σ H x y v u Q I rx ry ⟨_, _, r1, r2, k.same f (by simp only [RelD]) h⟩
    · exact f.elim
  | Is =>
    simp only [wCmp] at f
    split at f
    case h_8 => exact f.elim
    case h_7 =>
      simp only [RelD] at r1 r2
      exact op_is_bl pins s σ H x y v u Q I rx ry ⟨_, _, r1, r2, k.same f (by simp only [RelD]) h⟩
    all_goals (refine op_isN pins s σ H x y v u Q I rx ry ⟨by simpa only [RelD] using r2, k.same f ?_ h⟩; simp only [RelD] at r1 ⊢; first | (obtain ⟨a, vs, rfl, _⟩ := r1; simp) | (subst r1; simp))
  | IsNot =>
    simp only [wCmp] at f
    split at f
    case h_8 => exact f.elim
    case h_7 =>
      simp only [RelD] at r1 r2
      exact op_isnot_bl pins s σ H x y v u Q I rx ry ⟨_, _, r1, r2, k.same f (by simp only [RelD]) h⟩
    all_goals (refine op_notN pins s σ H x y v u Q I rx ry ⟨by simpa only [RelD] using r2, k.same f ?_ h⟩; simp only [RelD] at r1 ⊢; first | (obtain ⟨a, vs, rfl, _⟩ := r1; simp) | (subst r1; simp))
  | In =>
    simp only [wCmp] at f
    split at f
    · split at f
      · simp only [RelD] at r1 r2
        obtain ⟨a, rfl, ⟨es, n, kd⟩, hz⟩ := r2
        rename_i kvs _ z
        obtain ⟨r, e1, e2⟩ := hz z
        refine op_in_kd kd pins s σ H x _ v u Q I rx ry ⟨z, r, r1, rfl, e1, k.same f ?_ h⟩
        simp only [RelD]
        cases e3 : kvs.lookup z with
        | none => rw [e3] at e2; subst e2; rfl
        | some i => rw [e3] at e2; obtain ⟨t, rfl⟩ := e2; rfl
      · exact f.elim
    · split at f
      · rename_i ys e
        obtain ⟨a, vs, rfl, q1, q2, _⟩ := items_of h e r2
        rcases f with f | f
        rotate_left
        · exact op_inD hu false pins s σ H x _ v u Q I rx ry (rInD_of h r1 q1 q2 f k)
        refine op_in_seq pins s σ H x _ v u Q I rx ry ⟨a, vs, rfl, q2, flat_of r1 f.1, flats_of q1 f.2.1, k.same f.2.2 ?_ h⟩
        simp only [RelD]
        rw [if_neg Bool.false_ne_true, inF_of r1 f.1 q1 f.2.1]
      · exact f.elim
  | NotIn =>
    simp only [wCmp] at f
    split at f
    · split at f
      · simp only [RelD] at r1 r2
        obtain ⟨a, rfl, ⟨es, n, kd⟩, hz⟩ := r2
        rename_i kvs _ z
        obtain ⟨r, e1, e2⟩ := hz z
        refine op_notIn_kd kd pins s σ H x _ v u Q I rx ry ⟨z, r, r1, rfl, e1, k.same f ?_ h⟩
        simp only [RelD]
        cases e3 : kvs.lookup z with
        | none => rw [e3] at e2; subst e2; rfl
        | some i => rw [e3] at e2; obtain ⟨t, rfl⟩ := e2; rfl
      · exact f.elim
    · split at f
      · rename_i ys e
        obtain ⟨a, vs, rfl, q1, q2, _⟩ := items_of h e r2
        rcases f with f | f
        rotate_left
        · exact op_inD hu true pins s σ H x _ v u Q I rx ry (rInD_of h r1 q1 q2 f k)
        refine op_notIn_seq pins s σ H x _ v u Q I rx ry ⟨a, vs, rfl, q2, flat_of r1 f.1, flats_of q1 f.2.1, k.same f.2.2 ?_ h⟩
        simp only [RelD, if_true, inF_of r1 f.1 q1 f.2.1]
      · exact f.elim
end
end Z

set_option Elab.async false
set_option linter.all false
set_option maxRecDepth 100000
set_option maxHeartbeats 4000000
namespace Z
open PySem PySem.Spec PyProof.Rows L2
section
variable {K : PySem.W.Frag} {w : World} {H H' : Hp} {S S' : Sto} {R : D → Sto → Prop} {Q : VK} {X : Cx}
theorem relkv_val : ∀ {kvs : List (Key × D)} {kv : List (Key × V)} (k : Key), RelKV K w H kvs kv → (match lookD kvs k with | none => valV kv k = none | some d => ∃ v, valV kv k = some v ∧ RelD K w H d v)
  | [], kv, k, r => by simp only [RelKV] at r; subst r; rfl
  | (k', d) :: kvs, kv, k, r => by
    simp only [RelKV] at r
    obtain ⟨v, t, rfl, r1, r2⟩ := r
    by_cases e : k' = k
    · have e1 : lookD ((k', d) :: kvs) k = some d := by simp [lookD, List.find?_cons, e]
      rw [e1]
      exact ⟨v, valV_pos e, r1⟩
    · have e1 : lookD ((k', d) :: kvs) k = lookD kvs k := by simp [lookD, List.find?_cons, e]
      rw [e1, valV_neg (p := (k', v)) e]
      exact relkv_val k r2
theorem relkv_any : ∀ {kvs : List (Key × D)} {kv : List (Key × V)} (k : Key), RelKV K w H kvs kv → (kvs.any fun p => decide (p.1 = k)) = kv.any fun p => decide (p.1 = k)
  | [], kv, k, r => by simp only [RelKV] at r; subst r; rfl
  | (k', d) :: kvs, kv, k, r => by
    simp only [RelKV] at r
    obtain ⟨v, t, rfl, r1, r2⟩ := r
    rw [List.any_cons, List.any_cons, relkv_any k r2]
theorem relkv_repl : ∀ {kvs : List (Key × D)} {kv : List (Key × V)} (k : Key) {d : D} {v : V}, RelD K w H d v → RelKV K w H kvs kv → RelKV K w H (kvs.map fun p => if p.1 = k then (p.1, d) else p) (kv.map fun p => if p.1 = k then (p.1, v) else p)
  | [], kv, k, d, v, rd, r => by simp only [RelKV] at r; subst r; simp [RelKV]
  | (k', e) :: kvs, kv, k, d, v, rd, r => by
    simp only [RelKV] at r
    obtain ⟨u, t, rfl, r1, r2⟩ := r
    have ih := relkv_repl k rd r2
    rw [List.map_cons, List.map_cons]
    by_cases e1 : k' = k
    · simp only [e1, if_true, RelKV]
      exact ⟨v, _, rfl, rd, ih⟩
    · simp only [e1, if_false, RelKV]
      exact ⟨u, _, rfl, r1, ih⟩
theorem relkv_snoc : ∀ {kvs : List (Key × D)} {kv : List (Key × V)} (k : Key) {d : D} {v : V}, RelD K w H d v → RelKV K w H kvs kv → RelKV K w H (kvs ++ [(k, d)]) (kv ++ [(k, v)])
  | [], kv, k, d, v, rd, r => by simp only [RelKV] at r; subst r; simp only [List.nil_append, RelKV]; exact ⟨v, [], rfl, rd, rfl⟩
  | (k', e) :: kvs, kv, k, d, v, rd, r => by
    simp only [RelKV] at r
    obtain ⟨u, t, rfl, r1, r2⟩ := r
    simp only [List.cons_append, RelKV]
    exact ⟨u, _, rfl, r1, relkv_snoc k rd r2⟩
theorem relkv_put {kvs : List (Key × D)} {kv : List (Key × V)} (k : Key) {d : D} {v : V} (rd : RelD K w H d v) (r : RelKV K w H kvs kv) : RelKV K w H (putD kvs k d) (putK kv k v) := by
  unfold putD putK
  rw [relkv_any k r]
  split
  · exact relkv_repl k rd r
  · exact relkv_snoc k rd r
theorem relkv_len : ∀ {kvs : List (Key × D)} {kv : List (Key × V)}, RelKV K w H kvs kv → kvs.length = kv.length
  | [], kv, r => by simp only [RelKV] at r; subst r; rfl
  | (k', e) :: kvs, kv, r => by
    simp only [RelKV] at r
    obtain ⟨u, t, rfl, r1, r2⟩ := r
    rw [List.length_cons, List.length_cons, relkv_len r2]
theorem key_rel {d : D} {v : V} {k : Key} (r : RelD K w H d v) (e : keyD d = some k) : v = kV k := by
  cases d <;> simp only [keyD] at e <;> cases e <;> simpa only [RelD, kV] using r
theorem HR.dct (h : HR K w H S) {a : Addr} {kvs : List (Key × D)} (e : S a = some (.dct kvs)) : ∃ kv, H a = some (.dK kv) ∧ RelKV K w H kvs kv := h a _ e
theorem atI_len {α β : Type} (xs : List α) (ys : List β) (i : Int) (h : xs.length = ys.length) {v : α} (e : atI xs i = some v) : ∃ j : Nat, xs[j]? = some v ∧ ∀ u, ys[j]? = some u → atI ys i = some u := by
  unfold atI at e ⊢
  rw [← h]
  cases q : ixN xs.length i with
  | none => rw [q] at e; cases e
  | some j => rw [q] at e; exact ⟨j, e, fun u hu => hu⟩
theorem relds_at {ds : List D} {vs : List V} {i : Int} {d : D} (r : RelDs K w H ds vs) (e : atI ds i = some d) : ∃ v, atI vs i = some v ∧ RelD K w H d v := by
  obtain ⟨j, h1, h2⟩ := atI_len ds vs i r.length e
  obtain ⟨v, q1, q2⟩ := r.get h1
  exact ⟨v, h2 v q1, q2⟩

theorem ix_dict (hu : X.A.units + 1 < cLine) : IxR X (fun x y H Q => ∃ a v, x = .ref a ∧ DGet H a y (some v) ∧ Q v H) := by
  intro value slice pins s σ H x y v u Q I rx ry hh hs
  obtain ⟨a, r, rfl, g, q⟩ := hh
  obtain rfl : v = Value.ref a := rx
  exact tail_any (dict_typeIs I g) slot_dict_getitem.lookup (d_getItem hu I g ry fun w' s' I' r' => ⟨r, H, I', r', q⟩) hs
theorem sub_ok (hu : X.A.units + 1 < cLine) : IxR X (rD2 X.K X.w wSub) := by
  intro value slice pins s σ H x y v u Q I rx ry hh hs
  obtain ⟨dx, dy, S, R, r1, r2, h, f, k⟩ := hh
  have seqs : ∀ {a : Addr} {xs : List D} {i : Int}, x = .ref a → y = .int i → S a = some (.lst xs) → (match atI xs i with | some v => R v S | none => False) → wpAny (model X.prog X.w) X.A (subscriptTail value slice v u) (EP X pins σ Q) X.xe s := fun {a xs i} ex ey e f => by
    subst ex ey
    split at f
    · rename_i d ea
      obtain ⟨vs, h1, h2⟩ := h.sql e
      obtain ⟨z, q1, q2⟩ := relds_at h2 ea
      exact ix_list value slice pins s σ H _ _ v u Q I rx ry ⟨a, vs, i, z, rfl, rfl, h1, q1, k.same f q2 h⟩ hs
    · exact f.elim
  unfold wSub at f
  split at f
  · split at f
    · simp only [RelD] at r1 r2
      obtain ⟨a, rfl, ⟨es, n, kd⟩, hz⟩ := r1
      rename_i kvs _ z
      obtain ⟨r, e1, e2⟩ := hz z
      split at f
      · rename_i i e3
        rw [e3] at e2
        obtain ⟨t, rfl⟩ := e2
        exact ix_kdict value slice pins s σ H _ y v u Q I rx ry ⟨a, z, .int i, rfl, r2, ⟨es, n, _, kd.at_, kd.lit, e1, ⟨t, rfl⟩⟩, k.same f (by simp only [RelD]) h⟩ hs
      · exact f.elim
    · exact f.elim
  · split at f
    · simp only [RelD] at r1 r2
      obtain ⟨f0, f⟩ := f
      split at f
      · rename_i c ea
        exact ix_str value slice pins s σ H x y v u Q I rx ry ⟨_, _, c, r1, r2, f0, ea, k.same f (by simp only [RelD]) h⟩ hs
      · exact f.elim
    · exact f.elim
  · split at f
    · simp only [RelD] at r1 r2
      obtain ⟨a, vs, rfl, t, q⟩ := r1
      split at f
      · rename_i d ea
        obtain ⟨z, q1, q2⟩ := relds_at q ea
        exact ix_tup value slice pins s σ H _ y v u Q I rx ry ⟨a, vs, _, z, rfl, r2, t, q1, k.same f q2 h⟩ hs
      · exact f.elim
    · exact f.elim
  · split at f
    · simp only [RelD] at r1 r2
      obtain ⟨a, vs, rfl, t, q⟩ := r1
      split at f
      · rename_i d ea
        obtain ⟨z, q1, q2⟩ := relds_at q ea
        exact ix_list value slice pins s σ H _ y v u Q I rx ry ⟨a, vs, _, z, rfl, r2, t.sq, q1, k.same f q2 h⟩ hs
      · exact f.elim
    · exact f.elim
  · simp only [RelD] at r1
    split at f
    · split at f
      · simp only [RelD] at r2
        rename_i e _ _
        exact seqs r1 r2 e f
      · exact f.elim
    · rename_i e
      split at f
      · rename_i key ek
        have ey := key_rel r2 ek
        subst r1 ey
        obtain ⟨kv, h1, h2⟩ := h.dct e
        split at f
        · rename_i d el
          have q := relkv_val key h2
          rw [el] at q
          obtain ⟨z, q1, q2⟩ := q
          exact ix_dict hu value slice pins s σ H _ _ v u Q I rx ry ⟨_, z, rfl, by rw [← q1]; exact DGet.k h1, k.same f q2 h⟩ hs
        · exact f.elim
      · exact f.elim
    · exact f.elim
  · exact f.elim

theorem cut_len {α β : Type} (xs : List α) (ys : List β) (h : xs.length = ys.length) (lo hi : Option Int) : HT.sIx xs.length 0 lo = HT.sIx ys.length 0 lo ∧ HT.sIx xs.length xs.length hi = HT.sIx ys.length ys.length hi := by rw [h]; exact ⟨rfl, rfl⟩
theorem relds_cut {ds : List D} {vs : List V} (r : RelDs K w H ds vs) (lo hi : Option Int) : RelDs K w H (cutD ds lo hi) (cutV vs lo hi) := by
  unfold cutD cutV
  obtain ⟨e1, e2⟩ := cut_len ds vs r.length lo hi
  rw [e1, e2]
  exact (r.drop _).take _
def rDSl (K : PySem.W.Frag) (w : World) : V → Option Int → Option Int → Hp → VK → Prop := fun x lo hi H Q => ∃ dx S R, RelD K w H dx x ∧ HR K w H S ∧ wSlice dx lo hi S R ∧ Kont K w H S R Q
theorem cutD_whole {xs : List D} {lo hi : Option Int} (e : HT.sIx xs.length 0 lo = 0 ∧ HT.sIx xs.length xs.length hi = xs.length) : cutD xs lo hi = xs := by
  unfold cutD
  rw [e.1, e.2]
  simp
theorem slice_ok : SlR X (rDSl X.K X.w) := by
  intro pins s σ H x v vl vu lo hi sl Q I rx hs pl pu hh
  obtain ⟨dx, S, R, r1, h, f, k⟩ := hh
  unfold wSlice at f
  split at f
  · rename_i xs
    simp only [RelD] at r1
    obtain ⟨a, vs, rfl, t, q⟩ := r1
    refine sl_tupA pins s σ H _ v vl vu lo hi sl Q I rx hs pl pu ⟨a, vs, rfl, t, fun e => ?_, fun _ p np => ?_⟩
    · obtain ⟨e1, e2⟩ := cut_len xs vs q.length lo hi
      rw [cutD_whole (by rw [e1, e2, q.length]; exact e)] at f
      exact k.same f (by simp only [RelD]; exact ⟨a, vs, rfl, t, q⟩) h
    · exact k.tup f h (relds_cut q lo hi) np
  · simp only [RelD] at r1
    obtain ⟨a, vs, rfl, t, q⟩ := r1
    exact sl_list pins s σ H _ v vl vu lo hi sl Q I rx hs pl pu ⟨_, vs, rfl, t.sq, fun p np => k.lst (f p (h.fresh np)) h (relds_cut q lo hi) np⟩
  · simp only [RelD] at r1
    split at f
    · rename_i e
      obtain ⟨vs, h1, h2⟩ := h.sql e
      exact sl_list pins s σ H x v vl vu lo hi sl Q I rx hs pl pu ⟨_, vs, r1, h1, fun p np => k.lst (f p (h.fresh np)) h (relds_cut h2 lo hi) np⟩
    · exact f.elim
  · exact f.elim

def rDSet (K : PySem.W.Frag) (w : World) : TSet := fun o i v H Q => ∃ d1 d2 d3 S R, RelD K w H d1 o ∧ RelD K w H d2 i ∧ RelD K w H d3 v ∧ HR K w H S ∧ wSet d1 d2 d3 S R ∧ ∀ S', R S' → ∀ H', Fm H S H' S' → HR K w H' S' → Q H'
theorem set_ok (hu : X.A.units + 1 < cLine) : PSet X (rDSet X.K X.w) := by
  intro pins s σ H o i v ov iv u Q I ro ri rv hh
  obtain ⟨d1, d2, d3, S, R, r1, r2, r3, h, f, k⟩ := hh
  unfold wSet at f
  split at f
  · simp only [RelD] at r1
    split at f
    · rename_i e
      split at f
      · simp only [RelD] at r2
        split at f
        · rename_i j ej
          obtain ⟨vs, h1, h2⟩ := h.lst e
          rw [h2.length] at ej
          exact set_list pins s σ H o i v ov iv u Q I ro ri rv ⟨_, vs, _, j, r1, r2, h1, ej, k _ f _ (Fm.mut e) (h.mut e ⟨_, upd_same, RelDs.mono (ext_mut h e) _ _ (h2.set j r3)⟩)⟩
        · exact f.elim
      · exact f.elim
    · rename_i e
      split at f
      · rename_i key ek
        obtain ⟨f0, f⟩ := f
        have ei := key_rel r2 ek
        subst r1 ei
        obtain ⟨kv, h1, h2⟩ := h.dct e
        refine set_dict hu pins s σ H _ _ v ov iv u Q I ro ri rv ⟨_, _, rfl, DPut.k h1 (by rw [← relkv_len h2]; exact f0), k _ f _ (Fm.mut e) (h.mut e ⟨_, upd_same, ?_⟩)⟩
        exact RelKV.mono (ext_mut h e) _ _ (relkv_put key r3 h2)
      · exact f.elim
    · exact f.elim
  · exact f.elim

theorem tru_of (h : HR K w H S) {d : D} {v : V} {b : Bool} (r : RelD K w H d v) (e : tru S d = some b) : TruV K v H b := by
  unfold tru at e
  split at e
  · simp only [RelD] at r; subst r; cases e; rfl
  · simp only [RelD] at r; subst r; cases e; rfl
  · simp only [RelD] at r; subst r; cases e; rfl
  · simp only [RelD] at r; subst r
    split at e
    · rename_i hl
      cases e
      exact ⟨hl, rfl⟩
    · cases e
  · rename_i xs
    simp only [RelD] at r
    obtain ⟨a, vs, rfl, t, q⟩ := r
    cases e
    refine .inr (.inl ⟨vs, t, ?_⟩)
    have hl := q.length
    cases xs <;> cases vs <;> simp_all
  · rename_i xs
    simp only [RelD] at r
    obtain ⟨a, vs, rfl, t, q⟩ := r
    cases e
    refine .inl ⟨vs, t.sq, ?_⟩
    have hl := q.length
    cases xs <;> cases vs <;> simp_all
  · simp only [RelD] at r; subst r
    split at e
    · rename_i xs q
      cases e
      obtain ⟨vs, h1, h2⟩ := h.sql q
      refine .inl ⟨vs, h1, ?_⟩
      have hl := h2.length
      cases xs <;> cases vs <;> simp_all
    · rename_i xs q
      cases e
      obtain ⟨vs, h1, h2⟩ := h.dct q
      refine .inr (.inr ⟨vs, h1, ?_⟩)
      have hl := relkv_len h2
      cases xs <;> cases vs <;> simp_all
    · cases e
  · cases e
end
end Z

set_option Elab.async false
set_option linter.all false
set_option maxRecDepth 100000
set_option maxHeartbeats 4000000
namespace Z
open PySem PySem.Spec PyProof.Rows L2
section
variable {K : PySem.W.Frag} {w : World} {H H' : Hp} {S S' : Sto} {R : D → Sto → Prop} {Q : VK} {X : Cx}
theorem HR.len (h : HR K w H S) {d : D} {v : V} {n : Nat} (r : RelD K w H d v) (e : lenD S d = some n) : LenV K v H n ∨ ∃ a kv, v = .ref a ∧ H a = some (.dK kv) ∧ n = kv.length := by
  unfold lenD at e
  split at e
  · simp only [RelD] at r
    obtain ⟨a, vs, rfl, t, q⟩ := r
    cases e
    exact .inl (.inr ⟨vs, t, q.length⟩)
  · simp only [RelD] at r
    obtain ⟨a, vs, rfl, t, q⟩ := r
    cases e
    exact .inl (.inl ⟨vs, t.sq, q.length⟩)
  · simp only [RelD] at r; subst r
    split at e
    · rename_i hl
      cases e
      exact .inl ⟨hl, rfl⟩
    · cases e
  · simp only [RelD] at r; subst r
    split at e
    · rename_i q
      cases e
      obtain ⟨vs, h1, h2⟩ := h.sql q
      exact .inl (.inl ⟨vs, h1, h2.length⟩)
    · rename_i q
      cases e
      obtain ⟨kv, h1, h2⟩ := h.dct q
      exact .inr ⟨_, kv, rfl, h1, relkv_len h2⟩
    · cases e
  · cases e
theorem HR.ty (h : HR K w H S) {d : D} {v : V} {t : String} (r : RelD K w H d v) (e : tyD S d = some t) : TyX K H v (.type t) := by
  unfold tyD at e
  split at e
  · simp only [RelD] at r; subst r; cases e; exact .base .non
  · simp only [RelD] at r; subst r; cases e; exact .base (.bl _)
  · simp only [RelD] at r; subst r; cases e; exact .base (.int _)
  · simp only [RelD] at r; subst r; cases e; exact .base (.str _)
  · simp only [RelD] at r
    obtain ⟨a, vs, rfl, t, q⟩ := r
    cases e
    rcases t with (t | ⟨o, t⟩) | ⟨o, its, n, hk, hc, _⟩
    · exact .base (.tup t)
    · exact .fTuple t
    · exact .kTuple hk hc
  · simp only [RelD] at r; subst r
    split at e
    · rename_i q
      cases e
      obtain ⟨vs, h1, h2⟩ := h.lst q
      exact .base (.lst h1)
    · rename_i q
      cases e
      obtain ⟨vs, h1, h2⟩ := h.dct q
      exact .base (.dK h1)
    · cases e
  · cases e
theorem bls_of : ∀ {ds : List D} {vs : List V} {bs : List Bool}, RelDs K w H ds vs → blsOf ds = some bs → vs = bs.map V.bl
  | [], vs, bs, r, e => by simp only [RelDs] at r; subst r; simp only [blsOf] at e; cases e; rfl
  | .bl b :: ds, vs, bs, r, e => by
    simp only [RelDs, RelD] at r
    obtain ⟨v, t, rfl, rfl, r2⟩ := r
    simp only [blsOf] at e
    cases e2 : blsOf ds with
    | none => rw [e2] at e; cases e
    | some cs =>
      rw [e2] at e
      cases e
      rw [List.map_cons, bls_of r2 e2]
  | .non :: _, _, _, _, e => by simp only [blsOf] at e; cases e
  | .int _ :: _, _, _, _, e => by simp only [blsOf] at e; cases e
  | .str _ :: _, _, _, _, e => by simp only [blsOf] at e; cases e
  | .tup _ :: _, _, _, _, e => by simp only [blsOf] at e; cases e
  | .ref _ :: _, _, _, _, e => by simp only [blsOf] at e; cases e
  | .ty _ :: _, _, _, _, e => by simp only [blsOf] at e; cases e
  | .cd _ :: _, _, _, _, e => by simp only [blsOf] at e; cases e
  | .kl _ :: _, _, _, _, e => by simp only [blsOf] at e; cases e
  | .exn _ _ _ :: _, _, _, _, e => by simp only [blsOf] at e; cases e
theorem ints_of : ∀ {ds : List D} {vs : List V} {bs : List Int}, RelDs K w H ds vs → intsOf ds = some bs → vs = bs.map V.int
  | [], vs, bs, r, e => by simp only [RelDs] at r; subst r; simp only [intsOf] at e; cases e; rfl
  | .int b :: ds, vs, bs, r, e => by
    simp only [RelDs, RelD] at r
    obtain ⟨v, t, rfl, rfl, r2⟩ := r
    simp only [intsOf] at e
    cases e2 : intsOf ds with
    | none => rw [e2] at e; cases e
    | some cs =>
      rw [e2] at e
      cases e
      rw [List.map_cons, ints_of r2 e2]
  | .non :: _, _, _, _, e => by simp only [intsOf] at e; cases e
  | .bl _ :: _, _, _, _, e => by simp only [intsOf] at e; cases e
  | .str _ :: _, _, _, _, e => by simp only [intsOf] at e; cases e
  | .tup _ :: _, _, _, _, e => by simp only [intsOf] at e; cases e
  | .ref _ :: _, _, _, _, e => by simp only [intsOf] at e; cases e
  | .ty _ :: _, _, _, _, e => by simp only [intsOf] at e; cases e
  | .cd _ :: _, _, _, _, e => by simp only [intsOf] at e; cases e
  | .kl _ :: _, _, _, _, e => by simp only [intsOf] at e; cases e
  | .exn _ _ _ :: _, _, _, _, e => by simp only [intsOf] at e; cases e

theorem call_lenD2 : CallR X (.builtin "len") (fun xs H Q => ∃ a kv, xs = [.ref a] ∧ H a = some (.dK kv) ∧ Q (.int kv.length) H) := by
  intro pins s σ H xs us Q I r hh
  obtain ⟨a, kv, rfl, e, q⟩ := hh
  obtain ⟨u, rfl, ru⟩ := vals1 r
  cases (show u = Value.ref a from ru)
  exact d_len I (.inl e) fun t s' I' => ⟨.int kv.length, H, I', ⟨t, rfl⟩, q⟩
def Bi.fn : Bi → Option String
  | .len => some "len"
  | .isinst => some "isinstance"
  | .max => some "max"
  | .min => some "min"
  | .abs => some "abs"
  | .all => some "all"
  | .any => some "any"
  | .sum => some "sum"
  | .repr => some "repr"
  | .sorted => some "sorted"
  | _ => none
def Bi.tyn : Bi → Option String
  | .tuple => some "tuple"
  | .list => some "list"
  | .int => some "int"
  | .str => some "str"
  | _ => none
theorem call_reprD (hgd : X.A.guards = some []) (hu : X.A.units + 64 < cLine) : CallR X (.builtin "repr") (fun xs H Q => ∃ x p, xs = [x] ∧ Dp X.K H x p ∧ p.canLay0 = true ∧ p.showable = true ∧ p.depth ≤ 60 ∧ (flatP p = true ∨ p.shown.length ≤ sizeLine) ∧ Q (.str p.shown) H) := by
  intro pins s σ H xs us Q I r h
  obtain ⟨x, p, rfl, hd, hc, hs, hdp, hz, q⟩ := h
  obtain ⟨u, rfl, ru⟩ := vals1 r
  obtain ⟨as, rd⟩ := Dp.reads I p x u hd ru
  have big : ∀ a, u = .ref a → p.shown.length ≤ sizeLine → wpAny (model X.prog X.w) X.A (call (.builtin "repr") [u]) (EP X pins σ Q) X.xe s := fun a e hz => by
    subst e
    exact repr_of_reads' rd hs (PyData.noDict_hsm (PyData.hasDict_of_canLay p hc)) hgd (by omega) (fun _ _ z => z) (fun h' u tk k => ⟨.str p.shown, H, I.kept (t' := tk) k, ⟨_, rfl⟩, q⟩) hz
  cases rd with
  | none => exact PySem.P.repr_of_none ⟨.str _, H, I.tok _, ⟨_, rfl⟩, q⟩
  | bool b => exact PySem.P.repr_of_bool ⟨.str _, H, I.tok _, ⟨_, rfl⟩, q⟩
  | int i t => exact PySem.P.repr_of_int (of_decide_eq_true hs) ⟨.str _, H, I.tok _, ⟨_, rfl⟩, q⟩
  | str x t => exact PySem.P.repr_of_str ⟨.str _, H, I.tok _, ⟨_, rfl⟩, q⟩ (hz.resolve_left (fun z => Bool.noConfusion z))
  | list _ _ _ _ => exact big _ rfl (hz.resolve_left (fun z => Bool.noConfusion z))
  | tuple _ _ _ _ => exact big _ rfl (hz.resolve_left (fun z => Bool.noConfusion z))
  | dict _ _ _ _ _ => exact big _ rfl (hz.resolve_left (fun z => Bool.noConfusion z))
theorem bfn_ok (hc : X.calm = true) (hgd : X.A.guards = some []) (hu : X.A.units + 64 < cLine) (b : Bi) {n : String} (hb : b.fn = some n) : CallR X (.builtin n) (rDC X.K X.w (wBlt b)) := by
  intro pins s σ H xs us Q I r hh
  obtain ⟨ds, S, R, r1, h, f, k⟩ := hh
  unfold wBlt at f
  cases b <;> simp only [Bi.fn] at hb <;> cases hb
  · -- len
    split at f <;> try exact f.elim
    all_goals first | (rename_i e; cases e; done) | skip
    rename_i d _
    obtain ⟨v, rfl, rv⟩ := relds_one r1
    split at f
    · rename_i n e
      rcases h.len rv e with hl | ⟨a, kv, rfl, hl, rfl⟩
      · exact call_len pins s σ H _ us Q I r ⟨v, n, rfl, hl, k.same f (by simp only [RelD]) h⟩
      · exact call_lenD2 pins s σ H _ us Q I r ⟨a, kv, rfl, hl, k.same f (by simp only [RelD]) h⟩
    · exact f.elim
  · -- isinstance
    split at f <;> try exact f.elim
    all_goals first | (rename_i e; cases e; done) | skip
    obtain ⟨v, u, rfl, rv, ru⟩ := relds_two r1
    simp only [RelD] at ru
    subst ru
    split at f
    · rename_i t e
      split at f
      · rename_i b eb
        exact call_isi pins s σ H _ us Q I r ⟨v, _, .type t, _, b, rfl, .ty _, h.ty rv e, kit_ty eb, k.same f (by simp only [RelD]) h⟩
      · exact f.elim
    · exact f.elim
  · -- max
    split at f <;> try exact f.elim
    all_goals first | (rename_i e; cases e; done) | skip
    · obtain ⟨v, u, rfl, rv, ru⟩ := relds_two r1
      simp only [RelD] at rv ru
      subst rv ru
      exact call_max2 hc pins s σ H _ us Q I r ⟨_, _, rfl, k.same f (by simp only [RelD]) h⟩
    · obtain ⟨v, rfl, rv⟩ := relds_one r1
      simp only [RelD] at rv
      subst rv
      split at f
      · rename_i e
        obtain ⟨vs, h1, h2⟩ := h.sql e
        split at f
        · rename_i bs eb
          have ev := ints_of h2 eb
          subst ev
          exact cr_max hc pins s σ H _ us Q I r ⟨_, bs, rfl, h1, f.1, fun m m1 m2 => k.same (f.2 m m1 m2) (by simp only [RelD]) h⟩
        · exact f.elim
      · exact f.elim
  · split at f <;> try exact f.elim
    all_goals first | (rename_i e; cases e; done) | skip
    · obtain ⟨v, u, rfl, rv, ru⟩ := relds_two r1
      simp only [RelD] at rv ru
      subst rv ru
      exact call_min2 hc pins s σ H _ us Q I r ⟨_, _, rfl, k.same f (by simp only [RelD]) h⟩
    · obtain ⟨v, rfl, rv⟩ := relds_one r1
      simp only [RelD] at rv
      subst rv
      split at f
      · rename_i e
        obtain ⟨vs, h1, h2⟩ := h.sql e
        split at f
        · rename_i bs eb
          have ev := ints_of h2 eb
          subst ev
          exact cr_min hc pins s σ H _ us Q I r ⟨_, bs, rfl, h1, f.1, fun m m1 m2 => k.same (f.2 m m1 m2) (by simp only [RelD]) h⟩
        · exact f.elim
      · exact f.elim
  · split at f <;> try exact f.elim
    all_goals first | (rename_i e; cases e; done) | skip
    obtain ⟨v, rfl, rv⟩ := relds_one r1
    simp only [RelD] at rv
    subst rv
    exact call_abs pins s σ H _ us Q I r ⟨_, rfl, k.same f (by simp only [RelD]) h⟩
  · split at f <;> try exact f.elim
    all_goals first | (rename_i e; cases e; done) | skip
    obtain ⟨v, rfl, rv⟩ := relds_one r1
    simp only [RelD] at rv
    subst rv
    split at f
    · rename_i e
      obtain ⟨vs, h1, h2⟩ := h.sql e
      split at f
      · rename_i bs eb
        have ev := bls_of h2 eb
        subst ev
        exact cr_all hc pins s σ H _ us Q I r ⟨_, bs, rfl, h1, k.same f (by simp only [RelD]) h⟩
      · exact f.elim
    · exact f.elim
  · split at f <;> try exact f.elim
    all_goals first | (rename_i e; cases e; done) | skip
    obtain ⟨v, rfl, rv⟩ := relds_one r1
    simp only [RelD] at rv
    subst rv
    split at f
    · rename_i e
      obtain ⟨vs, h1, h2⟩ := h.sql e
      split at f
      · rename_i bs eb
        have ev := bls_of h2 eb
        subst ev
        exact cr_any hc pins s σ H _ us Q I r ⟨_, bs, rfl, h1, k.same f (by simp only [RelD]) h⟩
      · exact f.elim
    · exact f.elim
  · split at f <;> try exact f.elim
    all_goals first | (rename_i e; cases e; done) | skip
    obtain ⟨v, rfl, rv⟩ := relds_one r1
    simp only [RelD] at rv
    subst rv
    split at f
    · rename_i e
      obtain ⟨vs, h1, h2⟩ := h.sql e
      split at f
      · rename_i bs eb
        have ev := ints_of h2 eb
        subst ev
        exact cr_sum hc pins s σ H _ us Q I r ⟨_, bs, rfl, h1, k.same f (by simp only [RelD]) h⟩
      · exact f.elim
    · exact f.elim
  · -- repr
    split at f <;> try exact f.elim
    all_goals first | (rename_i e; cases e; done) | skip
    obtain ⟨v, rfl, rv⟩ := relds_one r1
    split at f
    · rename_i p e
      exact call_reprD hgd hu pins s σ H _ us Q I r ⟨v, p, rfl, dpS_of h rv e, f.1, f.2.1, f.2.2.1, f.2.2.2.1, k.same f.2.2.2.2 (by simp only [RelD]) h⟩
    · exact f.elim
  · -- sorted
    split at f <;> try exact f.elim
    all_goals first | (rename_i e; cases e; done) | skip
    obtain ⟨v, rfl, rv⟩ := relds_one r1
    simp only [RelD] at rv
    subst rv
    split at f
    · rename_i e
      obtain ⟨vs, h1, h2⟩ := h.sql e
      split at f
      · rename_i ns eb
        have ev := ints_of h2 eb
        subst ev
        exact cr_sorted pins s σ H _ us Q I r ⟨_, ns, rfl, h1, f.1, fun ns' p hp hs np => k.lst (f.2 ns' p hp hs (h.fresh np)) h (RelDs.of_ints ns') np⟩
      · exact f.elim
    · exact f.elim
theorem bty_ok (b : Bi) {n : String} (hb : b.tyn = some n) : CallR X (.type n) (rDC X.K X.w (wBlt b)) := by
  intro pins s σ H xs us Q I r hh
  obtain ⟨ds, S, R, r1, h, f, k⟩ := hh
  unfold wBlt at f
  cases b <;> simp only [Bi.tyn] at hb <;> cases hb
  · split at f <;> try exact f.elim
    all_goals first | (rename_i e; cases e; done) | skip
    obtain ⟨v, rfl, rv⟩ := relds_one r1
    split at f
    · rename_i e
      obtain ⟨a, vs, rfl, q1, q2, _⟩ := items_of h e rv
      refine call_tuple_of pins s σ H _ us Q I r ⟨a, vs, rfl, ?_⟩
      rcases q2 with q2 | q2
      · exact .inl ⟨q2, fun p np => k.tup f h q1 np⟩
      · exact .inr ⟨q2, k.same f (by simp only [RelD]; exact ⟨a, vs, rfl, q2, q1⟩) h⟩
    · exact f.elim
  · split at f <;> try exact f.elim
    all_goals first | (rename_i e; cases e; done) | skip
    obtain ⟨v, rfl, rv⟩ := relds_one r1
    split at f
    · rename_i e
      obtain ⟨a, vs, rfl, q1, q2, _⟩ := items_of h e rv
      exact call_list_of pins s σ H _ us Q I r ⟨a, vs, rfl, q2, fun p np => k.lst (f p (h.fresh np)) h q1 np⟩
    · exact f.elim
  · split at f <;> try exact f.elim
    all_goals first | (rename_i e; cases e; done) | skip
    · obtain ⟨v, rfl, rv⟩ := relds_one r1
      simp only [RelD] at rv
      subst rv
      exact call_int1 pins s σ H _ us Q I r (.inl ⟨_, rfl, k.same f (by simp only [RelD]) h⟩)
    · obtain ⟨v, rfl, rv⟩ := relds_one r1
      simp only [RelD] at rv
      subst rv
      exact call_int1 pins s σ H _ us Q I r (.inr ⟨_, rfl, k.same f (by simp only [RelD]) h⟩)
  · split at f <;> try exact f.elim
    all_goals first | (rename_i e; cases e; done) | skip
    obtain ⟨v, rfl, rv⟩ := relds_one r1
    simp only [RelD] at rv
    subst rv
    exact call_str_int pins s σ H _ us Q I r ⟨_, rfl, f.1, k.same f.2 (by simp only [RelD]) h⟩
end
end Z

set_option Elab.async false
set_option linter.all false
set_option maxRecDepth 100000
set_option maxHeartbeats 4000000
namespace Z
open PySem PySem.Spec PyProof.Rows L2

theorem inv_many {X : Cx} {pins : List (Addr × Obj)} {σ : L2.St} {H H' : Hp} {s : Shared} {h' : Heap} {t' : Nat} (I : Inv X pins σ H s)
    (k : ∀ b u, s.heap.get? b = some u → h'.get? b = some u) (up : ∀ b o, H b = some o → H' b = some o)
    (new : ∀ b o, H' b = some o → H b = none → s.heap.get? b = none ∧ ObjOk X.prog X.w H' h' b o) : Inv X pins σ H' { s with heap := h', toks := t' } := by
  refine I.un ⟨fun b u q _ _ _ => k b u q, fun b u q _ _ _ => ⟨u.slots, k b u q⟩, fun b u q n _ => ?_, fun b u q _ => ⟨u, k b u q⟩, fun b xs q => up b _ q, fun b u xs q => up b _ q, fun b ps q => ⟨#[], by rw [up b _ q]; simp⟩⟩ fun b o e => ?_
  · cases e : H' b with
    | none => rfl
    | some o =>
      have := (new b o e n).1
      rw [this] at q
      cases q
  · cases e1 : H b with
    | none => exact (new b o e e1).2
    | some o1 =>
      have := up b o1 e1
      rw [e] at this
      cases this
      exact (I.hok b o e1).stay (fun c v _ q => k c v q) (fun c q => up c _ q) fun c xs q => up c _ q

section
variable {prog : Program} {w : World} {A : Around} {E : Value → Shared → Prop} {s : Shared}
def KeepZ (s s' : Shared) : Prop := ∃ h tk, s' = { s with heap := h, toks := tk } ∧ s.toks ≤ tk ∧ ∀ b o, s.heap.get? b = some o → h.get? b = some o
theorem KeepZ.refl (s : Shared) : KeepZ s s := ⟨s.heap, s.toks, rfl, Nat.le_refl _, fun _ _ e => e⟩
theorem KeepZ.heap {s s' : Shared} (k : KeepZ s s') {b : Addr} {o : Obj} (e : s.heap.get? b = some o) : s'.heap.get? b = some o := by
  obtain ⟨h, tk, rfl, _, hk⟩ := k
  exact hk b o e
theorem KeepZ.type {s s' : Shared} {a : Addr} {T : String} (k : KeepZ s s') (h : s.TypeIs (.ref a) T) : s'.TypeIs (.ref a) T := by
  obtain ⟨o, e, c⟩ := h
  exact ⟨o, k.heap e, c⟩
theorem KeepZ.trans {s s' s'' : Shared} (a : KeepZ s s') (b : KeepZ s' s'') : KeepZ s s'' := by
  obtain ⟨h, tk, rfl, t1, hk⟩ := a
  obtain ⟨h2, tk2, rfl, t2, hk2⟩ := b
  exact ⟨h2, tk2, rfl, Nat.le_trans t1 t2, fun b o e => hk2 b o (hk b o e)⟩

theorem list_any {I : Addr} {T : String} {Q : Value → Shared → Prop} (hT : s.TypeIs (.ref I) T) (hT1 : (Value.type T == Value.type "list") = false) (hT2 : (Value.type T == Value.type "tuple") = false)
    (hit : ∀ (A : Around) (E : Value → Shared → Prop) (s' : Shared) (Q : Value → Shared → Prop), KeepZ s s' → Q (.ref I) s' → wpAny (model prog w) A (pyIter (.ref I)) Q E s')
    (hint : ∀ (A : Around) (E : Value → Shared → Prop) (s' : Shared) (Q : Bool → Shared → Prop), KeepZ s s' → (∀ b tk, s'.toks ≤ tk → Q b { s' with toks := tk }) → wpAny (model prog w) A (Builtin.List.listLengthHint (.ref I)) Q E s')
    (loop : ∀ (R : Result → Shared → Prop) (s' : Shared) (c : Nat), KeepZ s s' → s'.heap.get? s.heap.objs.size = some { cls := .type "list", data := .seq #[] c } →
      (∀ s'', Q (.ref s.heap.objs.size) s'' → R (.ok (.ret .none)) s'') → codeAny (model prog w) A.in1 (.builtin "list.extend.loop" ⟨[.ref s.heap.objs.size, .ref I, .none], []⟩) R s') :
    wpAny (model prog w) A (call (.type "list") [.ref I]) Q E s := by
  refine callType_codes (Q₁ := fun obj s₁ => obj = .ref s.heap.objs.size ∧ s₁ = { s with heap := s.heap.push { cls := .type "list", data := .seq #[] } }) F.called_list (F.typeCall_list_1 _) F.entry_list_init
    (code_list_new _ ⟨rfl, rfl⟩) fun obj s₁ h₁ => ?_
  obtain ⟨rfl, rfl⟩ := h₁
  have hS : (s.heap.push { cls := .type "list", data := .seq #[] }).get? s.heap.objs.size = some { cls := .type "list", data := .seq #[] } := Heap.get?_push_size _ rfl
  have hI : s.heap.objs.size ≠ I := fun e => by
    obtain ⟨o, ho, _⟩ := hT
    exact absurd (Heap.lt_size ho) (by rw [e]; exact Nat.lt_irrefl _)
  have hSn : ∀ b o, s.heap.get? b = some o → b ≠ s.heap.objs.size := fun b o e => Nat.ne_of_lt (Heap.lt_size e)
  refine ⟨⟨_, hS, rfl⟩, F.args_list_init_2 _ _, ?_⟩
  show wpAny _ A.in1.in1 (do let old ← Builtin.List.listItems (.ref s.heap.objs.size); Builtin.List.listUpdate (.ref s.heap.objs.size) (fun _ => #[]); letGo old.toList.reverse; Builtin.List.listExtendWith (.ref s.heap.objs.size) (.ref I) .none) _ _ _
  refine wpAny_bind ?_
  unfold Builtin.List.listItems
  refine wpAny_bind (wpAny_seqItems hS rfl (wpAny_pure ?_))
  show wpAny _ A.in1.in1 (updateSeq s.heap.objs.size (fun _ => #[]) >>= fun _ => letGo (#[] : Array Value).toList.reverse >>= fun _ => Builtin.List.listExtendWith (.ref s.heap.objs.size) (.ref I) .none) _ _ _
  refine wpAny_bind (wpAny_updateSeq hS rfl ?_)
  have hS₂ := Heap.get?_update_self (Obj.mapSeq (fun _ => (#[] : Array Value))) hS rfl
  refine wpAny_bind (wpAny_letGo ?_)
  generalize es2 : ((s.heap.push { cls := .type "list", data := .seq #[] }).update s.heap.objs.size (Obj.mapSeq (fun _ => (#[] : Array Value)))) = h2 at hS₂
  have k2 : KeepZ s { s with heap := h2 } := ⟨h2, s.toks, rfl, Nat.le_refl _, fun b o e => by
    rw [← es2]
    exact (Heap.get?_update_other _ _ (Ne.symm (hSn b o e))).trans (Heap.get?_push_of_some _ e)⟩
  unfold Builtin.List.listExtendWith
  refine wpAny_bind (wpAny_typeOf (k2.type hT) ?_)
  have h1 : Builtin.List.listSameRef (.ref s.heap.objs.size) (.ref I) = false := by simp [Builtin.List.listSameRef, hI]
  simp only [h1, hT1, hT2, Bool.or_false, Bool.false_eq_true, if_false]
  refine wpAny_bind (hit _ _ _ _ k2 ?_)
  refine wpAny_bind (wpAny_holding ?_)
  refine hint _ _ _ _ k2 fun b tk htk => ?_
  have k3 : KeepZ s { s with heap := h2, toks := tk } := ⟨h2, tk, rfl, htk, fun c o e => k2.heap e⟩
  refine wpAny_ite_split (fun _ => ?_) fun _ => ?_
  · refine wpAny_bind (wpAny_rule ?_)
    refine wpAny_bind ?_
    show wpAny _ A.in1.in1 (updateSeq s.heap.objs.size (·.push .none) >>= fun _ => updateSeq s.heap.objs.size (·.pop)) _ _ _
    refine wpAny_bind (wpAny_updateSeq hS₂ rfl ?_)
    have hS₄ := Heap.get?_update_self (Obj.mapSeq (·.push Value.none)) hS₂ rfl
    refine wpAny_updateSeq (hz := by seq_fits) hS₄ rfl ?_
    have hS₅ := Heap.get?_update_self (Obj.mapSeq (·.pop)) hS₄ rfl
    refine wpAny_pure ⟨plainId_quiet F.plain_extend_loop _, loop _ _ _ ?_ hS₅ fun s'' q => ⟨rfl, q⟩⟩
    exact ⟨_, _, rfl, htk, fun c o e => (Heap.get?_update_other _ _ (Ne.symm (hSn c o e))).trans ((Heap.get?_update_other _ _ (Ne.symm (hSn c o e))).trans (k2.heap e))⟩
  · exact wpAny_pure ⟨plainId_quiet F.plain_extend_loop _, loop _ _ _ k3 hS₂ fun s'' q => ⟨rfl, q⟩⟩
end
end Z

set_option Elab.async false
set_option linter.all false
set_option maxRecDepth 100000
set_option maxHeartbeats 4000000
namespace Z
open PySem PySem.Spec PyProof.Rows L2 RT

theorem rt_nolen : typeLookup (.type "reversed") "__len__" = pure none := by rw [typeLookup_type, builtinLookup_eq_fast]; kernel_rfl
theorem slot_rt_hint : Slot "reversed" "__length_hint__" "reversed.__length_hint__" :=
  .of (owner := "reversed") (n := "__length_hint__") (by rw [typeLookup_type, builtinLookup_eq_fast]; kernel_rfl) (by decide +kernel) (by decide +kernel) (by decide +kernel)
    (by first | exact .inl (by decide +kernel) | exact .inr (by decide +kernel)) (by rw [isSubtype_type]; kernel_rfl)
theorem entry_rt_hint : entryFor table "reversed.__length_hint__" = some Builtin.«reversed.__length_hint__» := entryFor_of_tree (by kernel_rfl)
theorem args_rt_hint (a : Value) : argsOk "reversed.__length_hint__" ⟨[a], []⟩ := by
  unfold argsOk; rw [signature?_of (id := "reversed.__length_hint__") (n := ['_', '_', 't', 'n', 'i', 'h', '_', 'h', 't', 'g', 'n', 'e', 'l', '_', '_']) (o := ['d', 'e', 's', 'r', 'e', 'v', 'e', 'r']) (by kernel_rfl) owner_rt]; kernel_rfl
section
variable {prog : Program} {w : World} {A : Around} {E : Value → Shared → Prop} {s : Shared}
theorem hint_rt {it t : Addr} {items : Array Value} {Q : Bool → Shared → Prop} (hit : IsRt s.heap it t ((items.size : Int) - 1)) (ht : IsTup s.heap t items) (hsz : items.size ≤ sizeLine)
    (hQ : ∀ b tk, s.toks ≤ tk → Q b { s with toks := tk }) : wpAny (model prog w) A (Builtin.List.listLengthHint (.ref it)) Q E s := by
  obtain ⟨o, ho, hc, hd⟩ := id hit
  have hT := hit.typeIs
  have hz := hsz
  rw [sizeLine_eq] at hsz
  unfold Builtin.List.listLengthHint
  refine wpAny_bind (wpAny_specialOf hT rt_nolen ?_)
  show wpAny _ A (specialOf (Value.ref it) (Str.ofString "__length_hint__") >>= _) _ _ _
  refine wpAny_bind (wpAny_specialOf hT slot_rt_hint.lookup ?_)
  generalize hid : ("reversed.__length_hint__" : String) = id0
  wp_delta
  rw [show splitId id0 = some ("reversed", "__length_hint__") from by subst hid; decide +kernel]
  subst hid
  refine wpAny_bind (wpAny_isInstance (b := true) hT (by rw [isSubtype_type]; kernel_rfl) ?_)
  refine wpAny_ite_split (fun hab => absurd hab (by decide)) (fun _ => ?_)
  refine wpAny_ite_split (fun hab => absurd hab (by decide +kernel)) (fun _ => ?_)
  refine wpAny_bind (wpAny_rule ?_)
  rw [slot_rt_hint.bind]
  refine wpAny_bind (wpAny_pure ?_)
  dsimp only
  refine wpAny_bind (wpAny_attempt (wpAny_call_entry slot_rt_hint hT entry_rt_hint ?_ (args_rt_hint _)))
  unfold Builtin.«reversed.__length_hint__»
  refine wpAny_bind (wpAny_of_eq (a := Value.ref it) rfl ?_)
  refine wpAny_bind (wpAny_field ho hd (x := .ref t) rfl ?_)
  rw [if_neg (show ¬ ((Value.ref t == Value.none) = true) from Bool.false_ne_true)]
  refine wpAny_bind (len_tuple ht (by omega) ?_)
  refine wpAny_bind (wpAny_of_eq (a := some ((items.size : Nat) : Int)) rfl ?_)
  dsimp only
  refine wpAny_bind (wpAny_field (s := { s with toks := s.toks + 1 + 1 }) ho hd (x := rawInt ((items.size : Int) - 1)) rfl ?_)
  show wpAny _ _ (if ((items.size : Nat) : Int) < ((items.size : Int) - 1) + 1 then _ else _) _ _ _
  rw [if_neg (by omega)]
  unfold retInt
  refine wpAny_bind (wpAny_mkInt ?_)
  refine wpAny_pure ⟨_, rfl, ?_⟩
  dsimp only
  refine wpAny_bind (wpAny_of_eq (a := some (((items.size : Nat) : Int) - 1 + 1)) rfl ?_)
  dsimp only
  have e1 : ((items.size : Nat) : Int) - 1 + 1 = (items.size : Int) := by omega
  rw [e1]
  have f1 : Builtin.List.listFitsIndex ((items.size : Nat) : Int) = true := by
    unfold Builtin.List.listFitsIndex
    rw [Bool.and_eq_true, decide_eq_true_eq, decide_eq_true_eq]
    omega
  have f2 : Builtin.List.listTooLong ((items.size : Nat) : Int).toNat = false := by
    unfold Builtin.List.listTooLong
    rw [decide_eq_false_iff_not, Int.toNat_natCast]
    exact Nat.not_lt.mpr hz
  rw [f1, f2, if_neg (by decide), if_neg (by omega), if_neg (by decide)]
  exact wpAny_pure (hQ _ _ (by show s.toks ≤ s.toks + 1 + 1 + 1; omega))
theorem walks_tupRev (hh : A.handled = none) (I t : Addr) (hne : t ≠ I) (items : Array Value) (hsz : items.size ≤ sizeLine) :
    Walks prog w A I [I, t] [I] items.size (fun i v => items[items.size - 1 - i]? = some v) (fun i h => i ≤ items.size ∧ IsRt h I t ((items.size : Int) - 1 - (i : Int)) ∧ IsTup h t items) where
  sub := fun b hb => by simp at hb; simp [hb]
  frame := fun _ _ _ x hk => ⟨x.1, x.2.1.at fun o e => hk I (by simp) o e, let ⟨o, ho, r⟩ := x.2.2; ⟨o, hk t (by simp) o ho, r⟩⟩
  item := fun i s Q E hi x hQ => by
    have e : (items.size : Int) - 1 - (i : Int) = ((items.size - 1 - i : Nat) : Int) := by omega
    have hit := x.2.1
    rw [e] at hit
    have hx : items[items.size - 1 - i]? = some (items[items.size - 1 - i]'(by omega)) := Array.getElem?_eq_getElem (by omega)
    refine next_rt_item hit x.2.2 hx hsz fun h' hit' hs' => ?_
    have e2 : ((items.size - 1 - i : Nat) : Int) - 1 = (items.size : Int) - 1 - ((i + 1 : Nat) : Int) := by omega
    rw [e2] at hit'
    exact hQ _ h' _ hx ⟨hi, hit', let ⟨o, ho, r⟩ := x.2.2; ⟨o, (hs'.2 t hne).trans ho, r⟩⟩ fun b o hb eo => hs'.extBut b o (fun h => hb (by simp [h])) eo
  done := fun s Q E x hQ => by
    have e : (items.size : Int) - 1 - (items.size : Int) = -1 := by omega
    have hit := x.2.1
    rw [e] at hit
    exact next_rt_end hh hit fun h' he' => hQ h' s.toks fun b o hb eo => he' b o (fun h => hb (by simp [h])) eo
  self := fun _ _ _ _ x hQ => iter_rt x.2.1 hQ
theorem call_list_rt {it t : Addr} {items : Array Value} {Q : Value → Shared → Prop} (hh : A.handled = none) (hit : IsRt s.heap it t ((items.size : Int) - 1)) (ht : IsTup s.heap t items) (hne : t ≠ it) (hn : items.size ≤ sizeLine)
    (hQ : ∀ (h' : Heap) (tk : Nat) (acc : Array Value) (c : Nat), (∀ b o, b ≠ it → s.heap.get? b = some o → h'.get? b = some o) → h'.get? s.heap.objs.size = some { cls := .type "list", data := .seq acc c } →
      ItemsOf (fun i v => items[items.size - 1 - i]? = some v) acc items.size → Q (.ref s.heap.objs.size) { s with heap := h', toks := tk }) :
    wpAny (model prog w) A (call (.type "list") [.ref it]) Q E s := by
  have kt : ∀ s', KeepZ s s' → IsTup s'.heap t items := fun s' k => let ⟨o, ho, r⟩ := ht; ⟨o, k.heap ho, r⟩
  obtain ⟨oi, hoi, _⟩ := id hit
  obtain ⟨ot, hot, _⟩ := id ht
  have hSf : s.heap.objs.size ∉ [it, t] := by
    simp only [List.mem_cons, List.not_mem_nil, or_false, not_or]
    exact ⟨Nat.ne_of_gt (Heap.lt_size hoi), Nat.ne_of_gt (Heap.lt_size hot)⟩
  refine list_any hit.typeIs (by decide) (by decide) (fun A E s' Q k q => iter_rt (hit.at fun o e => k.heap e) q) (fun A E s' Q k q => hint_rt (hit.at fun o e => k.heap e) (kt s' k) hn q) fun R s' c k hS hR => ?_
  have W := (walks_tupRev (prog := prog) (w := w) (A := A.in1.in1) hh it t hne items hn).toS
  have e0 : ((items.size : Nat) : Int) - 1 - ((0 : Nat) : Int) = (items.size : Int) - 1 := by omega
  refine codeAny_extend_loopS W hn _ hSf _ items.size 0 _ _ _ rfl (Nat.zero_le _) ⟨Nat.zero_le _, by rw [e0]; exact hit.at fun o e => k.heap e, kt s' k⟩ hS (ItemsOf.nil _) fun s'' acc' c' hm hS' hacc => hR _ ?_
  obtain ⟨h1, t1, rfl, ht1, hk1⟩ := k
  rw [Moved.eq_with hm]
  refine hQ s''.heap s''.toks acc' c' (fun b o hb e => hm.heap b o (fun hmem => ?_) (hk1 b o e)) hS' hacc
  rcases List.mem_cons.mp hmem with e' | hmem
  · exact absurd (Heap.lt_size e) (by rw [e']; exact Nat.lt_irrefl _)
  · exact hb (List.mem_singleton.mp hmem)
theorem hint_rl {it l : Addr} {i : Int} {Q : Bool → Shared → Prop} (hit : s.heap.IsRevIter it l i)
    (hQ : ∀ b tk, s.toks ≤ tk → Q b { s with toks := tk }) : wpAny (model prog w) A (Builtin.List.listLengthHint (.ref it)) Q E s := by
  have hT := hit.typeIs
  unfold Builtin.List.listLengthHint
  refine wpAny_bind (wpAny_specialOf hT nolen_lri ?_)
  show wpAny _ A (specialOf (Value.ref it) (Str.ofString "__length_hint__") >>= _) _ _ _
  refine wpAny_bind (wpAny_specialOf hT hint_lri ?_)
  generalize hid : ("list_reverseiterator.__length_hint__" : String) = id0
  wp_delta
  rw [show splitId id0 = some ("list_reverseiterator", "__length_hint__") from by subst hid; decide +kernel]
  subst hid
  refine wpAny_bind (wpAny_isInstance (b := true) hT (by rw [isSubtype_type]; kernel_rfl) ?_)
  exact wpAny_pure (hQ _ _ (Nat.le_refl _))
theorem call_list_rl {it l : Addr} {items : Array Value} {Q : Value → Shared → Prop} (hh : A.handled = none) (hit : s.heap.IsRevIter it l ((items.size : Int) - 1)) (hl : s.heap.IsList l items) (hne : l ≠ it) (hn : items.size ≤ sizeLine)
    (hQ : ∀ (h' : Heap) (tk : Nat) (acc : Array Value) (c : Nat), (∀ b o, b ≠ it → s.heap.get? b = some o → h'.get? b = some o) → h'.get? s.heap.objs.size = some { cls := .type "list", data := .seq acc c } →
      ItemsOf (fun i v => items[items.size - 1 - i]? = some v) acc items.size → Q (.ref s.heap.objs.size) { s with heap := h', toks := tk }) :
    wpAny (model prog w) A (call (.type "list") [.ref it]) Q E s := by
  have kt : ∀ s', KeepZ s s' → s'.heap.IsList l items := fun s' k => hl.at fun o e => k.heap e
  obtain ⟨oi, hoi, _⟩ := id hit
  obtain ⟨ot, hot, _⟩ := id hl
  have hSf : s.heap.objs.size ∉ [it, l] := by
    simp only [List.mem_cons, List.not_mem_nil, or_false, not_or]
    exact ⟨Nat.ne_of_gt (Heap.lt_size hoi), Nat.ne_of_gt (Heap.lt_size hot)⟩
  refine list_any hit.typeIs (by decide) (by decide) (fun A E s' Q k q => wpAny_pyIter_revIter (hit.at fun o e => k.heap e) q) (fun A E s' Q k q => hint_rl (hit.at fun o e => k.heap e) q) fun R s' c k hS hR => ?_
  have W := (Walks.listRev (prog := prog) (w := w) (A := A.in1.in1) hh it l hne items).toS
  have e0 : ((items.size : Nat) : Int) - 1 - ((0 : Nat) : Int) = (items.size : Int) - 1 := by omega
  refine codeAny_extend_loopS W hn _ hSf _ items.size 0 _ _ _ rfl (Nat.zero_le _) ⟨Nat.zero_le _, by rw [e0]; exact hit.at fun o e => k.heap e, kt s' k⟩ hS (ItemsOf.nil _) fun s'' acc' c' hm hS' hacc => hR _ ?_
  obtain ⟨h1, t1, rfl, ht1, hk1⟩ := k
  rw [Moved.eq_with hm]
  refine hQ s''.heap s''.toks acc' c' (fun b o hb e => hm.heap b o (fun hmem => ?_) (hk1 b o e)) hS' hacc
  rcases List.mem_cons.mp hmem with e' | hmem
  · exact absurd (Heap.lt_size e) (by rw [e']; exact Nat.lt_irrefl _)
  · exact hb (List.mem_singleton.mp hmem)
end
end Z

set_option Elab.async false
set_option linter.all false
set_option maxRecDepth 100000
set_option maxHeartbeats 4000000
namespace Z
open PySem PySem.Spec PyProof.Rows L2 RZ

theorem zip_nolen : typeLookup (.type "zip") "__len__" = pure none := by rw [typeLookup_type, builtinLookup_eq_fast]; kernel_rfl
theorem zip_nohint : typeLookup (.type "zip") "__length_hint__" = pure none := by rw [typeLookup_type, builtinLookup_eq_fast]; kernel_rfl
section
variable {prog : Program} {w : World} {A : Around} {E : Value → Shared → Prop} {s : Shared}
theorem hint_zip {z : Addr} {Q : Bool → Shared → Prop} (hT : s.TypeIs (.ref z) "zip") (hQ : ∀ b tk, s.toks ≤ tk → Q b { s with toks := tk }) : wpAny (model prog w) A (Builtin.List.listLengthHint (.ref z)) Q E s := by
  unfold Builtin.List.listLengthHint
  refine wpAny_bind (wpAny_specialOf hT zip_nolen ?_)
  show wpAny _ A (specialOf (Value.ref z) (Str.ofString "__length_hint__") >>= _) _ _ _
  refine wpAny_bind (wpAny_specialOf hT zip_nohint ?_)
  exact wpAny_pure (hQ _ _ (Nat.le_refl _))
theorem zipT_next_item_held {z TI TO T i1 i2 l1 l2 : Addr} {f : Bool} {oT : Obj} {k1 k2 : Nat} {xs ys : Array Value} {x y : Value} {Q : Value → Shared → Prop} (D : ZipApart z TI TO i1 i2 l1 l2)
    (hz : IsZipHeld s.heap z TI TO T f) (hT : s.heap.get? T = some oT) (hTI : IsPair s.heap TI (.ref i1) (.ref i2))
    (h1 : s.heap.IsTupleIter i1 l1 k1) (h2 : s.heap.IsTupleIter i2 l2 k2) (hl1 : s.heap.IsTuple l1 xs) (hl2 : s.heap.IsTuple l2 ys) (hx : xs[k1]? = some x) (hy : ys[k2]? = some y)
    (hQ : ∀ h', IsZipHeld h' z TI TO T true → h'.IsTupleIter i1 l1 (k1 + 1) → h'.IsTupleIter i2 l2 (k2 + 1) → IsPair h' s.heap.objs.size x y → h'.objs.size = s.heap.objs.size + 1 →
      (∀ c o, c ≠ z → c ≠ i1 → c ≠ i2 → s.heap.get? c = some o → h'.get? c = some o) → Q (.ref s.heap.objs.size) { s with heap := h' }) :
    wpAny (model prog w) A (Builtin.«zip.__next__» ⟨[.ref z], []⟩) (fun fin s' => ∃ v, fin = .done (.ret v) ∧ Q v s') E s := by
  show wpAny _ _ (field (.ref z) 2 >>= _) _ _ _
  refine wpAny_bind (wpAny_field hz rfl (x := .bool false) rfl ?_)
  show wpAny _ _ (field (.ref z) 3 >>= _) _ _ _
  refine wpAny_bind (wpAny_field hz rfl (x := .ref TI) rfl ?_)
  refine wpAny_bind (wpAny_seqItems hTI rfl ?_)
  show wpAny _ _ (Builtin.SmallTypes.ownedTupleIsFree (.ref z) >>= _) _ _ _
  refine wpAny_bind (wpAny_tupleHeld_zip hz hT fun h₁ hz₁ hs₁ => ?_)
  simp only [Bool.false_eq_true, if_false]
  refine wpAny_bind ?_
  rw [← Array.forIn_toList]
  simp only [List.forIn_cons, List.forIn_nil]
  refine wpAny_bind (wpAny_bind (wpAny_holding ?_))
  show wpAny _ _ (Builtin.SmallTypes.nextOf (.ref i1) >>= _) _ _ _
  refine wpAny_bind (nextOf_tuple_item (s := { s with heap := h₁ }) (h1.extBut hs₁.extBut D.i1z) (hl1.extBut hs₁.extBut D.l1z) hx fun h₂ h1₂ hs₂ => wpAny_pure ?_)
  refine wpAny_pure ?_
  refine wpAny_bind (wpAny_bind (wpAny_holding ?_))
  show wpAny _ _ (Builtin.SmallTypes.nextOf (.ref i2) >>= _) _ _ _
  refine wpAny_bind (nextOf_tuple_item (s := { s with heap := h₂ }) ((h2.extBut hs₁.extBut D.i2z).extBut hs₂.extBut D.i12.symm) ((hl2.extBut hs₁.extBut D.l2z).extBut hs₂.extBut D.l2i1) hy fun h₃ h2₃ hs₃ => wpAny_pure ?_)
  refine wpAny_pure (wpAny_pure ?_)
  show wpAny _ _ (newTuple [x, y] >>= _) _ _ _
  refine wpAny_bind (wpAny_newTuple ?_)
  have hsz : h₃.objs.size = s.heap.objs.size := by rw [hs₃.1, hs₂.1, hs₁.1]
  have hz₃ : IsZipHeld h₃ z TI TO T true := hs₃.extBut _ _ D.i2z.symm (hs₂.extBut _ _ D.i1z.symm hz₁)
  have hk : ∀ c o, c ≠ z → c ≠ i1 → c ≠ i2 → s.heap.get? c = some o → h₃.get? c = some o := fun c o c1 c2 c3 e => hs₃.extBut _ _ c3 (hs₂.extBut _ _ c2 (hs₁.extBut _ _ c1 e))
  have h1₃ : h₃.IsTupleIter i1 l1 (k1 + 1) := h1₂.extBut hs₃.extBut D.i12
  refine wpAny_pure ⟨_, rfl, ?_⟩
  show Q (.ref h₃.objs.size) _
  have hp : IsPair (h₃.push { cls := .type "tuple", data := .seq #[x, y] }) h₃.objs.size x y := Heap.get?_push_size _ rfl
  have hz4 : (h₃.push { cls := .type "tuple", data := .seq #[x, y] }).objs.size = h₃.objs.size + 1 := Heap.size_push ..
  rw [hsz] at hp hz4 ⊢
  exact hQ _ (Heap.get?_push_of_some _ hz₃) (h1₃.at fun o e => Heap.get?_push_of_some _ e) (h2₃.at fun o e => Heap.get?_push_of_some _ e) hp hz4 fun c o c1 c2 c3 e => Heap.get?_push_of_some _ (hk c o c1 c2 c3 e)

theorem zipT_next_end_held {z TI TO T i1 i2 l1 l2 : Addr} {f : Bool} {oT : Obj} {k1 k2 : Nat} {xs ys : Array Value} {Q : Fin → Shared → Prop} (hh : A.handled = none) (D : ZipApart z TI TO i1 i2 l1 l2)
    (hz : IsZipHeld s.heap z TI TO T f) (hT : s.heap.get? T = some oT) (hTI : IsPair s.heap TI (.ref i1) (.ref i2))
    (h1 : s.heap.IsTupleIter i1 l1 k1) (h2 : s.heap.IsTupleIter i2 l2 k2) (hl1 : s.heap.IsTuple l1 xs) (hl2 : s.heap.IsTuple l2 ys) (hend : xs[k1]? = none ∨ ys[k2]? = none)
    (hE : ∀ h' e, (∀ c o, c ≠ z → c ≠ i1 → c ≠ i2 → s.heap.get? c = some o → h'.get? c = some o) → (∃ o, h'.get? e = some o ∧ o.cls = .type "StopIteration") → E (.ref e) { s with heap := h' }) :
    wpAny (model prog w) A (Builtin.«zip.__next__» ⟨[.ref z], []⟩) Q E s := by
  show wpAny _ _ (field (.ref z) 2 >>= _) _ _ _
  refine wpAny_bind (wpAny_field hz rfl (x := .bool false) rfl ?_)
  show wpAny _ _ (field (.ref z) 3 >>= _) _ _ _
  refine wpAny_bind (wpAny_field hz rfl (x := .ref TI) rfl ?_)
  refine wpAny_bind (wpAny_seqItems hTI rfl ?_)
  show wpAny _ _ (Builtin.SmallTypes.ownedTupleIsFree (.ref z) >>= _) _ _ _
  refine wpAny_bind (wpAny_tupleHeld_zip hz hT fun h₁ hz₁ hs₁ => ?_)
  simp only [Bool.false_eq_true, if_false]
  refine wpAny_bind ?_
  rw [← Array.forIn_toList]
  simp only [List.forIn_cons, List.forIn_nil]
  refine wpAny_bind (wpAny_bind (wpAny_holding ?_))
  show wpAny _ _ (Builtin.SmallTypes.nextOf (.ref i1) >>= _) _ _ _
  cases hx : xs[k1]? with
  | none =>
    refine wpAny_bind (nextOf_tuple_end (s := { s with heap := h₁ }) hh (h1.extBut hs₁.extBut D.i1z) (hl1.extBut hs₁.extBut D.l1z) hx fun h₂ e hs₂ he => ?_)
    exact hE h₂ e (fun c o c1 c2 _ x => hs₂ _ _ c2 (hs₁.extBut _ _ c1 x)) he
  | some x =>
    have hy : ys[k2]? = none := by rcases hend with h | h; rw [hx] at h; cases h; exact h
    refine wpAny_bind (nextOf_tuple_item (s := { s with heap := h₁ }) (h1.extBut hs₁.extBut D.i1z) (hl1.extBut hs₁.extBut D.l1z) hx fun h₂ h1₂ hs₂ => wpAny_pure ?_)
    refine wpAny_pure ?_
    refine wpAny_bind (wpAny_bind (wpAny_holding ?_))
    show wpAny _ _ (Builtin.SmallTypes.nextOf (.ref i2) >>= _) _ _ _
    refine wpAny_bind (nextOf_tuple_end (s := { s with heap := h₂ }) hh ((h2.extBut hs₁.extBut D.i2z).extBut hs₂.extBut D.i12.symm) ((hl2.extBut hs₁.extBut D.l2z).extBut hs₂.extBut D.l2i1) hy fun h₃ e hs₃ he => ?_)
    exact hE h₃ e (fun c o c1 c2 c3 x => hs₃ _ _ c3 (hs₂.extBut _ _ c2 (hs₁.extBut _ _ c1 x))) he

theorem pyNext_zipT_item_held {z TI TO T i1 i2 l1 l2 : Addr} {f : Bool} {oT : Obj} {k1 k2 : Nat} {xs ys : Array Value} {x y : Value} {Q : Option Value → Shared → Prop} (D : ZipApart z TI TO i1 i2 l1 l2)
    (hz : IsZipHeld s.heap z TI TO T f) (hT : s.heap.get? T = some oT) (hTI : IsPair s.heap TI (.ref i1) (.ref i2))
    (h1 : s.heap.IsTupleIter i1 l1 k1) (h2 : s.heap.IsTupleIter i2 l2 k2) (hl1 : s.heap.IsTuple l1 xs) (hl2 : s.heap.IsTuple l2 ys) (hx : xs[k1]? = some x) (hy : ys[k2]? = some y)
    (hQ : ∀ h', IsZipHeld h' z TI TO T true → h'.IsTupleIter i1 l1 (k1 + 1) → h'.IsTupleIter i2 l2 (k2 + 1) → IsPair h' s.heap.objs.size x y → h'.objs.size = s.heap.objs.size + 1 →
      (∀ c o, c ≠ z → c ≠ i1 → c ≠ i2 → s.heap.get? c = some o → h'.get? c = some o) → Q (some (.ref s.heap.objs.size)) { s with heap := h' }) :
    wpAny (model prog w) A (pyNext (.ref z)) Q E s := by
  have hTy : s.TypeIs (.ref z) "zip" := ⟨_, hz, rfl⟩
  unfold pyNext
  exact wpAny_bind (wpAny_attempt (wpAny_callSpecial?_slot (name := Str.ofString "__next__") hTy F.slot_zip_next
    (wpAny_call_entry F.slot_zip_next hTy F.entry_zip_next
      (zipT_next_item_held D hz hT hTI h1 h2 hl1 hl2 hx hy fun h' a1 a3 a4 a5 a6 a7 => wpAny_pure (hQ h' a1 a3 a4 a5 a6 a7)) (F.args_zip_next_1 _))))
theorem pyNext_zipT_end_held {z TI TO T i1 i2 l1 l2 : Addr} {f : Bool} {oT : Obj} {k1 k2 : Nat} {xs ys : Array Value} {Q : Option Value → Shared → Prop} (hh : A.handled = none) (D : ZipApart z TI TO i1 i2 l1 l2)
    (hz : IsZipHeld s.heap z TI TO T f) (hT : s.heap.get? T = some oT) (hTI : IsPair s.heap TI (.ref i1) (.ref i2))
    (h1 : s.heap.IsTupleIter i1 l1 k1) (h2 : s.heap.IsTupleIter i2 l2 k2) (hl1 : s.heap.IsTuple l1 xs) (hl2 : s.heap.IsTuple l2 ys) (hend : xs[k1]? = none ∨ ys[k2]? = none)
    (hQ : ∀ h', (∀ c o, c ≠ z → c ≠ i1 → c ≠ i2 → s.heap.get? c = some o → h'.get? c = some o) → Q none { s with heap := h' }) : wpAny (model prog w) A (pyNext (.ref z)) Q E s := by
  have hTy : s.TypeIs (.ref z) "zip" := ⟨_, hz, rfl⟩
  unfold pyNext
  refine wpAny_bind (wpAny_attempt (wpAny_callSpecial?_slot (name := Str.ofString "__next__") hTy F.slot_zip_next
    (wpAny_call_entry F.slot_zip_next hTy F.entry_zip_next (zipT_next_end_held hh D hz hT hTI h1 h2 hl1 hl2 hend fun h' e hk he => ?_) (F.args_zip_next_1 _))))
  obtain ⟨o, ho, hc⟩ := he
  refine wpAny_bind (wpAny_isInstance (T := "StopIteration") (b := true) ⟨o, ho, hc⟩ isSubtype_stop ?_)
  exact wpAny_pure (hQ _ hk)

structure ZJ (P : Program) (w : World) (H0 : Hp) (s0 : Shared) (z TI TO i1 i2 l1 l2 S : Addr) (xs ys : Array Value) (Xs Ys : List V) (i : Nat) (acc : Array Value) (s : Shared) : Prop where
  eq : s = { s0 with heap := s.heap, toks := s.toks }
  keep : ∀ b o, s0.heap.get? b = some o → s.heap.get? b = some o
  lst : ∃ c, s.heap.get? S = some { cls := .type "list", data := .seq acc c }
  ti : IsPair s.heap TI (.ref i1) (.ref i2)
  it1 : s.heap.IsTupleIter i1 l1 i
  it2 : s.heap.IsTupleIter i2 l2 i
  zs : (IsZip s.heap z TI TO .none ∧ ∃ a b, IsPair s.heap TO a b) ∨ ∃ T f oT, IsZipHeld s.heap z TI TO T f ∧ s.heap.get? T = some oT ∧ T ≠ z ∧ T ≠ i1 ∧ T ≠ i2 ∧ T ≠ S
  tolt : TO < s.heap.objs.size
  len : acc.size = i
  got : ∃ (H : Hp) (vs : List V), (∀ b o, H0 b = some o → H b = some o) ∧ Vals vs acc.toList ∧
    (∀ b o, H b = some o → H0 b = none → s0.heap.objs.size ≤ b ∧ b ≠ S ∧ b ≠ z ∧ b ≠ TO ∧ b ≠ i1 ∧ b ≠ i2 ∧ ∃ x y u v, o = .tup [x, y] ∧ RelV x u ∧ RelV y v ∧ IsPair s.heap b u v) ∧
    ∀ (j : Nat) v, vs[j]? = some v → ∃ t x y, v = .ref t ∧ H t = some (.tup [x, y]) ∧ Xs[j]? = some x ∧ Ys[j]? = some y
end
end Z

set_option Elab.async false
set_option linter.all false
set_option maxRecDepth 100000
set_option maxHeartbeats 4000000
namespace Z
open PySem PySem.Spec PyProof.Rows L2 RZ
section
variable {prog : Program} {w : World} {A : Around} {E : Value → Shared → Prop} {s0 : Shared} {R : Result → Shared → Prop}
variable {H0 : Hp} {z TI TO i1 i2 l1 l2 S : Addr} {xs ys : Array Value} {Xs Ys : List V}

theorem vals_back : ∀ {xs : List V} {us : List Value} {i : Nat} {u : Value}, Vals xs us → us[i]? = some u → ∃ x, xs[i]? = some x ∧ RelV x u := fun {xs us i u} r e => by
  have hi : i < us.length := by
    by_cases h : i < us.length
    · exact h
    · rw [List.getElem?_eq_none (by omega)] at e; cases e
  have e1 : xs[i]? = some (xs[i]'(by rw [r.length]; exact hi)) := List.getElem?_eq_getElem _
  obtain ⟨u', e2, r2⟩ := r.get e1
  rw [e] at e2
  cases e2
  exact ⟨_, e1, r2⟩
theorem zj_push {i : Nat} {acc : Array Value} {s s' : Shared} {x y : Value} {c : Nat} (D : ZipApart z TI TO i1 i2 l1 l2) (hSz : S ≠ z) (hSTI : S ≠ TI) (hSTO : S ≠ TO) (hS1 : S ≠ i1) (hS2 : S ≠ i2)
    (f0 : s0.heap.objs.size ≤ S) (f1 : s0.heap.objs.size ≤ z) (f2 : s0.heap.objs.size ≤ TO) (f3 : s0.heap.objs.size ≤ i1) (f4 : s0.heap.objs.size ≤ i2)
    (hb0 : ∀ b o, H0 b = some o → b < s0.heap.objs.size) (hTO : s.heap.objs.size ≠ TO) (hsz' : TO < (s'.heap.update S (Obj.mapSeq (·.push (.ref s.heap.objs.size)))).objs.size) (r1 : Vals Xs xs.toList) (r2 : Vals Ys ys.toList) (hx : xs[i]? = some x) (hy : ys[i]? = some y) (J : ZJ prog w H0 s0 z TI TO i1 i2 l1 l2 S xs ys Xs Ys i acc s)
    (hk : ∀ c o, c ≠ z → c ≠ TO → c ≠ i1 → c ≠ i2 → s.heap.get? c = some o → s'.heap.get? c = some o) (hS : s'.heap.get? S = some { cls := .type "list", data := .seq acc c })
    (heq : s' = { s with heap := s'.heap, toks := s'.toks }) (a3 : s'.heap.IsTupleIter i1 l1 (i + 1)) (a4 : s'.heap.IsTupleIter i2 l2 (i + 1)) (hp : IsPair s'.heap s.heap.objs.size x y)
    (hz : ∃ T f oT, IsZipHeld s'.heap z TI TO T f ∧ s'.heap.get? T = some oT ∧ T ≠ z ∧ T ≠ i1 ∧ T ≠ i2 ∧ T ≠ S) {t' : Nat} :
    ZJ prog w H0 s0 z TI TO i1 i2 l1 l2 S xs ys Xs Ys (i + 1) (acc.push (.ref s.heap.objs.size)) { s' with heap := s'.heap.update S (Obj.mapSeq (·.push (.ref s.heap.objs.size))), toks := t' } := by
  have up : ∀ b o, b ≠ S → s'.heap.get? b = some o → (s'.heap.update S (Obj.mapSeq (·.push (.ref s.heap.objs.size)))).get? b = some o := fun b o hb e => (Heap.get?_update_other _ _ (Ne.symm hb)).trans e
  have lt : ∀ {c o}, s.heap.get? c = some o → c < s.heap.objs.size := fun e => Heap.lt_size e
  obtain ⟨cS, hS0⟩ := J.lst
  have n0 : ∀ b o, s0.heap.get? b = some o → b < s0.heap.objs.size := fun b o e => Heap.lt_size e
  have hs0 : s0.heap.objs.size ≤ s.heap.objs.size := Nat.le_trans f0 (Nat.le_of_lt (lt hS0))
  have nz : z < s.heap.objs.size := by
    rcases J.zs with ⟨h, _⟩ | ⟨_, _, _, h, _⟩ <;> exact lt h
  have n1 : i1 < s.heap.objs.size := by obtain ⟨_, e, _⟩ := J.it1; exact lt e
  have n2 : i2 < s.heap.objs.size := by obtain ⟨_, e, _⟩ := J.it2; exact lt e
  have nS : S < s.heap.objs.size := lt hS0
  refine { eq := ?_, keep := ?_, lst := ⟨_, Heap.get?_update_self _ hS rfl⟩, ti := ?_, it1 := ?_, it2 := ?_, zs := ?_, tolt := ?_, len := ?_, got := ?_ }
  · have e1 := J.eq
    have e2 : s'.gens = s0.gens ∧ s'.drawn = s0.drawn ∧ s'.os = s0.os := by
      rw [heq]
      show s.gens = _ ∧ s.drawn = _ ∧ s.os = _
      rw [e1]
      exact ⟨rfl, rfl, rfl⟩
    show ({ heap := _, gens := s'.gens, drawn := s'.drawn, toks := _, os := s'.os } : Shared) = _
    rw [e2.1, e2.2.1, e2.2.2]
  · intro b o e
    have hb := n0 b o e
    have hb' : ∀ {c : Addr}, s0.heap.objs.size ≤ c → b ≠ c := fun q => Nat.ne_of_lt (Nat.lt_of_lt_of_le hb q)
    exact up b o (hb' f0) (hk b o (hb' f1) (hb' f2) (hb' f3) (hb' f4) (J.keep b o e))
  · exact up _ _ hSTI.symm (hk _ _ D.TIz D.TITO D.TIi1 D.TIi2 J.ti)
  · exact a3.at fun o e => up _ o hS1.symm e
  · exact a4.at fun o e => up _ o hS2.symm e
  · obtain ⟨T, f, oT, q1, q2, q3, q4, q5, q6⟩ := hz
    exact .inr ⟨T, f, oT, up _ _ hSz.symm q1, up _ _ q6 q2, q3, q4, q5, q6⟩
  · exact hsz'
  · rw [Array.size_push, J.len]
  · obtain ⟨H, vs, hup, hv, hnew, hat⟩ := J.got
    have hx' : xs.toList[i]? = some x := by rw [Array.getElem?_toList]; exact hx
    have hy' : ys.toList[i]? = some y := by rw [Array.getElem?_toList]; exact hy
    obtain ⟨X, hX, rX⟩ := vals_back r1 hx'
    obtain ⟨Y, hY, rY⟩ := vals_back r2 hy'
    have hTn : H0 s.heap.objs.size = none ∨ True := .inr trivial
    have hfr : H s.heap.objs.size = none := by
      cases e : H s.heap.objs.size with
      | none => rfl
      | some o =>
        cases e0 : H0 s.heap.objs.size with
        | some o0 => exact absurd (hb0 _ _ e0) (Nat.not_lt.mpr hs0)
        | none =>
          obtain ⟨_, _, _, _, _, _, _, _, _, _, _, _, _, hp⟩ := hnew _ _ e e0
          exact absurd (lt hp) (Nat.lt_irrefl _)
    refine ⟨upd H s.heap.objs.size (.tup [X, Y]), vs ++ [.ref s.heap.objs.size], fun b o e => ?_, ?_, fun b o e e0 => ?_, fun j v e => ?_⟩
    · rw [upd_ne (ne_of_none (hup b o e) hfr)]
      exact hup b o e
    · rw [Array.toList_push]
      exact hv.append (.cons rfl .nil)
    · by_cases hb : b = s.heap.objs.size
      · subst hb
        rw [upd_same] at e
        cases e
        refine ⟨hs0, Nat.ne_of_gt nS, Nat.ne_of_gt nz, ?_, Nat.ne_of_gt n1, Nat.ne_of_gt n2, X, Y, x, y, rfl, rX, rY, up _ _ (Nat.ne_of_gt nS) hp⟩
        exact hTO
      · rw [upd_ne hb] at e
        obtain ⟨q0, q1, q2, q3, q4, q5, X', Y', u, v, rfl, q6, q7, q8⟩ := hnew b o e e0
        exact ⟨q0, q1, q2, q3, q4, q5, X', Y', u, v, rfl, q6, q7, up _ _ q1 (hk _ _ q2 q3 q4 q5 q8)⟩
    · have hl : vs.length = i := by rw [hv.length, Array.length_toList]; exact J.len
      rcases Nat.lt_trichotomy j vs.length with h | h | h
      · rw [List.getElem?_append_left h] at e
        obtain ⟨t, x', y', rfl, q1, q2, q3⟩ := hat j v e
        exact ⟨t, x', y', rfl, by rw [upd_ne (ne_of_none q1 hfr)]; exact q1, q2, q3⟩
      · subst h
        rw [List.getElem?_append_right (Nat.le_refl _), Nat.sub_self] at e
        simp at e
        subst e
        exact ⟨_, X, Y, rfl, upd_same, by rw [hl]; exact hX, by rw [hl]; exact hY⟩
      · rw [List.getElem?_eq_none (by rw [List.length_append, List.length_singleton]; omega)] at e
        cases e

theorem zip_loop (hh : A.handled = none) (D : ZipApart z TI TO i1 i2 l1 l2) (hSz : S ≠ z) (hSTI : S ≠ TI) (hSTO : S ≠ TO) (hS1 : S ≠ i1) (hS2 : S ≠ i2)
    (f0 : s0.heap.objs.size ≤ S) (f1 : s0.heap.objs.size ≤ z) (f2 : s0.heap.objs.size ≤ TO) (f3 : s0.heap.objs.size ≤ i1) (f4 : s0.heap.objs.size ≤ i2)
    (hb0 : ∀ b o, H0 b = some o → b < s0.heap.objs.size) (hl1 : s0.heap.IsTuple l1 xs) (hl2 : s0.heap.IsTuple l2 ys) (hn : xs.size ≤ sizeLine)
    (r1 : Vals Xs xs.toList) (r2 : Vals Ys ys.toList)
    (hR : ∀ acc s, s = { s0 with heap := s.heap, toks := s.toks } → (∀ b o, s0.heap.get? b = some o → s.heap.get? b = some o) → (∃ c, s.heap.get? S = some { cls := .type "list", data := .seq acc c }) → acc.size = min xs.size ys.size →
      (∃ (H : Hp) (vs : List V), (∀ b o, H0 b = some o → H b = some o) ∧ Vals vs acc.toList ∧
        (∀ b o, H b = some o → H0 b = none → s0.heap.objs.size ≤ b ∧ b ≠ S ∧ ∃ x y u v, o = .tup [x, y] ∧ RelV x u ∧ RelV y v ∧ IsPair s.heap b u v) ∧
        ∀ (j : Nat) v, vs[j]? = some v → ∃ t x y, v = .ref t ∧ H t = some (.tup [x, y]) ∧ Xs[j]? = some x ∧ Ys[j]? = some y) → R (.ok (.ret .none)) s) :
    ∀ (k i : Nat) (acc : Array Value) (s : Shared), min xs.size ys.size - i = k → i ≤ min xs.size ys.size → ZJ prog w H0 s0 z TI TO i1 i2 l1 l2 S xs ys Xs Ys i acc s →
    codeAny (model prog w) A (.builtin "list.extend.loop" ⟨[.ref S, .ref z, .none], []⟩) R s := by
  have n0 : ∀ b o, s0.heap.get? b = some o → b < s0.heap.objs.size := fun b o e => Heap.lt_size e
  intro k
  induction k with
  | zero =>
    intro i acc s hk hi J
    have hin : i = min xs.size ys.size := by omega
    have hend : xs[i]? = none ∨ ys[i]? = none := by
      rw [hin]
      rcases Nat.le_total xs.size ys.size with h | h
      · exact .inl (Array.getElem?_eq_none (by rw [Nat.min_eq_left h]; exact Nat.le_refl _))
      · exact .inr (Array.getElem?_eq_none (by rw [Nat.min_eq_right h]; exact Nat.le_refl _))
    refine codeAny_builtin F.entry_extend_loop ?_
    rw [Around.under_plainId F.plain_extend_loop _]
    show wpAny _ A.in1 (pyNext (.ref z) >>= _) _ _ s
    have fin : ∀ h', (∀ c o, c ≠ z → c ≠ TO → c ≠ i1 → c ≠ i2 → s.heap.get? c = some o → h'.get? c = some o) → R (.ok (.ret .none)) { s with heap := h' } := fun h' hk => by
      obtain ⟨cS, hS0⟩ := J.lst
      refine hR acc _ ?_ (fun b o e => ?_) ⟨cS, hk _ _ hSz hSTO hS1 hS2 hS0⟩ (J.len.trans hin) ?_
      · rw [J.eq]
      · have hb := n0 b o e
        have hb' : ∀ {c : Addr}, s0.heap.objs.size ≤ c → b ≠ c := fun q => Nat.ne_of_lt (Nat.lt_of_lt_of_le hb q)
        exact hk b o (hb' f1) (hb' f2) (hb' f3) (hb' f4) (J.keep b o e)
      · obtain ⟨H, vs, hup, hv, hnew, hat⟩ := J.got
        refine ⟨H, vs, hup, hv, fun b o e e0 => ?_, hat⟩
        obtain ⟨q0, q1, q2, q3, q4, q5, X', Y', u, v, rfl, q6, q7, q8⟩ := hnew b o e e0
        exact ⟨q0, q1, X', Y', u, v, rfl, q6, q7, hk _ _ q2 q3 q4 q5 q8⟩
    rcases J.zs with ⟨hz, a, b, hTO⟩ | ⟨T, f, oT, hz, hT, q3, q4, q5, q6⟩
    · exact wpAny_bind (pyNext_zipT_end hh D hz J.ti hTO J.it1 J.it2 (hl1.at fun o e => J.keep _ o e) (hl2.at fun o e => J.keep _ o e) hend fun h' hk => wpAny_pure (fin h' hk))
    · exact wpAny_bind (pyNext_zipT_end_held hh D hz hT J.ti J.it1 J.it2 (hl1.at fun o e => J.keep _ o e) (hl2.at fun o e => J.keep _ o e) hend fun h' hk => wpAny_pure (fin h' fun c o c1 _ c3 c4 e => hk c o c1 c3 c4 e))
  | succ k ih =>
    intro i acc s hk hi J
    have hix : i < xs.size := by omega
    have hiy : i < ys.size := by omega
    have ex := Array.getElem?_eq_getElem hix
    have ey := Array.getElem?_eq_getElem hiy
    refine codeAny_builtin F.entry_extend_loop ?_
    rw [Around.under_plainId F.plain_extend_loop _]
    show wpAny _ A.in1 (pyNext (.ref z) >>= _) _ _ s
    obtain ⟨cS, hS0⟩ := J.lst
    have hTO0 : TO < s.heap.objs.size := J.tolt
    have n1 : s.heap.objs.size ≠ i1 := by obtain ⟨_, e, _⟩ := J.it1; exact Nat.ne_of_gt (Heap.lt_size e)
    have n2 : s.heap.objs.size ≠ i2 := by obtain ⟨_, e, _⟩ := J.it2; exact Nat.ne_of_gt (Heap.lt_size e)
    have nS : s.heap.objs.size ≠ S := Nat.ne_of_gt (Heap.lt_size hS0)
    have step : ∀ h', h'.objs.size = s.heap.objs.size + 1 → (∀ c o, c ≠ z → c ≠ TO → c ≠ i1 → c ≠ i2 → s.heap.get? c = some o → h'.get? c = some o) → h'.IsTupleIter i1 l1 (i + 1) → h'.IsTupleIter i2 l2 (i + 1) → IsPair h' s.heap.objs.size xs[i] ys[i] →
        (∃ T f oT, IsZipHeld h' z TI TO T f ∧ h'.get? T = some oT ∧ T ≠ z ∧ T ≠ i1 ∧ T ≠ i2 ∧ T ≠ S) →
        wpAny (model prog w) A.in1 (updateSeq S (·.push (.ref s.heap.objs.size)) >>= fun _ => again (.builtin "list.extend.loop" ⟨[.ref S, .ref z, .none], []⟩))
          (fun fin s' => match fin with | .done f => R (.ok f) s' | .again c' => c'.quiet = true ∧ codeAny (model prog w) A c' R s') (fun e s' => R (.error e) s') { s with heap := h' } := fun h' hsz hk a3 a4 hp hz => by
      have hS' : h'.get? S = some { cls := .type "list", data := .seq acc cS } := hk _ _ hSz hSTO hS1 hS2 hS0
      refine wpAny_bind ?_
      refine wpAny_updateSeq (s := { s with heap := h' }) hS' rfl (wpAny_pure ⟨plainId_quiet F.plain_extend_loop _, ih (i + 1) (acc.push (.ref s.heap.objs.size)) _ (by omega) (by omega) (zj_push (s' := { s with heap := h' }) D hSz hSTI hSTO hS1 hS2 f0 f1 f2 f3 f4 hb0 (Nat.ne_of_gt hTO0) (by rw [(Heap.SameBut.update (h := h') (a := S) (f := Obj.mapSeq (·.push (.ref s.heap.objs.size)))).1, hsz]; exact Nat.lt_succ_of_lt hTO0) r1 r2 ex ey J hk hS' rfl a3 a4 hp hz)⟩)
        (by rw [J.len]; omega) (by show (acc.push _).size ≤ sizeLine + 1; rw [Array.size_push, J.len]; omega)
    rcases J.zs with ⟨hz, a, b, hTO⟩ | ⟨T, f, oT, hz, hT, q3, q4, q5, q6⟩
    · refine wpAny_bind (pyNext_zipT_item D hz J.ti hTO J.it1 J.it2 (hl1.at fun o e => J.keep _ o e) (hl2.at fun o e => J.keep _ o e) ex ey fun h' a1 a2 a3 a4 a5 a6 hk => ?_)
      exact step h' a6 hk a3 a4 a5 ⟨_, false, _, a1, a5, Nat.ne_of_gt (Heap.lt_size hz), n1, n2, nS⟩
    · refine wpAny_bind (pyNext_zipT_item_held D hz hT J.ti J.it1 J.it2 (hl1.at fun o e => J.keep _ o e) (hl2.at fun o e => J.keep _ o e) ex ey fun h' a1 a3 a4 a5 a6 hk => ?_)
      exact step h' a6 (fun c o c1 _ c3 c4 e => hk c o c1 c3 c4 e) a3 a4 a5 ⟨T, true, oT, a1, hk _ _ q3 q4 q5 hT, q3, q4, q5, q6⟩
end
end Z

set_option Elab.async false
set_option linter.all false
set_option maxRecDepth 100000
set_option maxHeartbeats 4000000
namespace Z
open PySem PySem.Spec PyProof.Rows L2
section
variable {X : Cx}
def tLrev (K : PySem.W.Frag) (te : TE) : TE := fun σ H Q => te σ H fun v H1 => ∃ (a : Addr) (xs : List V), v = .ref a ∧ (SqL K H1 a xs ∨ SqT K H1 a xs) ∧ ∀ q, H1 q = none → Q (.ref q) (upd H1 q (.lst xs.reverse))
theorem boot_list0 : bootBuiltins "list" = some (.type "list") := by decide +kernel
theorem pe_listRev {e : Expr} {te : TE} {p p2 pos pos2 : Pos} (hc : X.calm = true) (hg : Gl X "list") (hm : X.mg "list" = none) (hg2 : Gl X "reversed") (hm2 : X.mg "reversed" = none) (he : PE X e te)
    (hs : starEach [e] X.env = (false, eval e X.env) :: starEach [] X.env)
    (hs2 : starEach [.Call (.Name "reversed" p2) [e] [] pos2] X.env = (false, eval (.Call (.Name "reversed" p2) [e] [] pos2) X.env) :: starEach [] X.env := by rfl) :
    PE X (.Call (.Name "list" p) [.Call (.Name "reversed" p2) [e] [] pos2] [] pos) (tLrev X.K te) := by
  refine ⟨fun pins s σ H Q I h => ?_⟩
  refine Call_ (ld_blt I hg hm boot_list0 (PyProof.Rows.callWith_type1 (args_cons (Call_ (ld_blt I hg2 hm2 PyProof.Rows.boot_reversed (PyProof.Rows.callWith_type1 (args_cons (thn (he.run pins s σ H _ I h) fun u s1 ⟨v, H1, I1, r1, q1⟩ => args_nil ?_) hs) hs rfl))) hs2) hs2 rfl))
  obtain ⟨a, xs, ev, hq, q⟩ := q1
  subst ev
  obtain rfl : u = Value.ref a := r1
  rcases hq with hq | hq
  · obtain ⟨its, rv, p', hz⟩ := I1.list hq
    refine call_reversed_list p'.isList (args_nil ?_)
    have hl := p'.isList
    obtain ⟨ol, hol, _⟩ := id hl
    have hne : a ≠ s1.heap.objs.size := Nat.ne_of_lt (Heap.lt_size hol)
    have hn : its.toArray.size ≤ sizeLine := by rw [List.size_toArray, ← rv.length]; exact hz
    have k0 : ∀ b o, s1.heap.get? b = some o → (s1.heap.push (revObj a ((its.toArray.size : Int) - 1))).get? b = some o := fun b o e => Heap.get?_push_of_some _ e
    refine call_list_rl (s := { s1 with heap := s1.heap.push (revObj a ((its.toArray.size : Int) - 1)) }) (I1.ok.hd hc) ⟨_, Heap.get?_push_size _ rfl, rfl, rfl⟩ (hl.push _) hne hn fun h' tk acc c hk hS hi => ?_
    have hsz : (s1.heap.push (revObj a ((its.toArray.size : Int) - 1))).objs.size = s1.heap.objs.size + 1 := Heap.size_push ..
    have hS2 := hS
    rw [show ({ s1 with heap := s1.heap.push (revObj a ((its.toArray.size : Int) - 1)) } : Shared).heap.objs.size = s1.heap.objs.size + 1 from hsz] at hS ⊢
    refine ⟨.ref (s1.heap.objs.size + 1), upd H1 (s1.heap.objs.size + 1) (.lst xs.reverse), I1.laid (t' := tk) (fun b o e => hk b o (Nat.ne_of_lt (Heap.lt_size e)) (k0 b o e)) (Nat.le_succ _) (show ObjOk X.prog X.w _ _ _ (.lst xs.reverse) from ⟨by rw [List.length_reverse]; exact hz, acc.toList, c, RT.vals_rev rv hi, ?_⟩), rfl, q _ (I1.hok.fresh (Nat.le_succ _))⟩
    rw [Array.toArray_toList]
    exact hS
  · obtain ⟨its, rv, p', hz⟩ := I1.tuple hq
    have hl := rv.length
    have hn : its.toArray.size ≤ sizeLine := by rw [List.size_toArray, ← rv.length]; exact hz
    have hn' := hn
    rw [sizeLine_eq] at hn'
    obtain ⟨ol, hol, _⟩ := id p'
    have hne : a ≠ s1.heap.objs.size := Nat.ne_of_lt (Heap.lt_size hol)
    refine RT.call_reversed_tup p' (fun A E Q k => len_tuple p' (by omega) k) (args_nil ?_)
    have k0 : ∀ b o, s1.heap.get? b = some o → (s1.heap.push (RT.rtObj a ((its.toArray.size : Int) - 1))).get? b = some o := fun b o e => Heap.get?_push_of_some _ e
    refine call_list_rt (s := { s1 with heap := s1.heap.push (RT.rtObj a ((its.toArray.size : Int) - 1)), toks := s1.toks + 1 + 1 }) (I1.ok.hd hc) ⟨_, Heap.get?_push_size _ rfl, rfl, rfl⟩ (let ⟨o, ho, r⟩ := p'; ⟨o, k0 _ _ ho, r⟩) hne hn fun h' tk acc c hk hS hi => ?_
    have hsz : (s1.heap.push (RT.rtObj a ((its.toArray.size : Int) - 1))).objs.size = s1.heap.objs.size + 1 := Heap.size_push ..
    rw [show ({ s1 with heap := s1.heap.push (RT.rtObj a ((its.toArray.size : Int) - 1)), toks := s1.toks + 1 + 1 } : Shared).heap.objs.size = s1.heap.objs.size + 1 from hsz] at hS ⊢
    refine ⟨.ref (s1.heap.objs.size + 1), upd H1 (s1.heap.objs.size + 1) (.lst xs.reverse), I1.laid (t' := tk) (fun b o e => hk b o (Nat.ne_of_lt (Heap.lt_size e)) (k0 b o e)) (Nat.le_succ _) (show ObjOk X.prog X.w _ _ _ (.lst xs.reverse) from ⟨by rw [List.length_reverse]; exact hz, acc.toList, c, RT.vals_rev rv hi, ?_⟩), rfl, q _ (I1.hok.fresh (Nat.le_succ _))⟩
    rw [Array.toArray_toList]
    exact hS
def tLzip (K : PySem.W.Frag) (ta : TA) : TE := fun σ H Q => ta σ H fun vs H1 => ∃ (a b : Addr) (xs ys : List V), vs = [.ref a, .ref b] ∧ SqT K H1 a xs ∧ SqT K H1 b ys ∧ ∀ (q : Addr) (H' : Hp) (us : List V),
  H1 q = none → (∀ c o, H1 c = some o → H' c = some o) → H' q = some (.lst us) → us.length = min xs.length ys.length →
  (∀ (j : Nat) v, us[j]? = some v → ∃ t x y, v = .ref t ∧ H' t = some (.tup [x, y]) ∧ xs[j]? = some x ∧ ys[j]? = some y) → Q (.ref q) H'
theorem pe_listZip {e e2 : Expr} {ta : TA} {p p2 pos pos2 : Pos} (hc : X.calm = true) (hg : Gl X "list") (hm : X.mg "list" = none) (hg2 : Gl X "zip") (hm2 : X.mg "zip" = none) (ha : PA X [e, e2] ta)
    (hs : starEach [e, e2] X.env = (false, eval e X.env) :: starEach [e2] X.env) (hpl : (backTo pos2 (starEach [e2] X.env)).any (·.1) = false)
    (hs2 : starEach [.Call (.Name "zip" p2) [e, e2] [] pos2] X.env = (false, eval (.Call (.Name "zip" p2) [e, e2] [] pos2) X.env) :: starEach [] X.env := by rfl) :
    PE X (.Call (.Name "list" p) [.Call (.Name "zip" p2) [e, e2] [] pos2] [] pos) (tLzip X.K ta) := by
  refine ⟨fun pins s σ H Q I h => ?_⟩
  refine Call_ (ld_blt I hg hm boot_list0 (PyProof.Rows.callWith_type1 (args_cons (Call_ (ld_blt I hg2 hm2 PyProof.Rows.boot_zip (PyProof.Rows.callWith_type1 (thn (ha.run pos2 pins s σ H _ I h) fun us s1 ⟨vs, H1, I1, r1, q1⟩ => ?_) hs hpl))) hs2) hs2 rfl))
  obtain ⟨a, b, xs, ys, ex, hqx, hqy, q⟩ := q1
  subst ex
  cases r1 with
  | cons r rr =>
  cases rr with
  | cons r' rr =>
  cases rr
  cases r
  cases r'
  obtain ⟨its, rv, p1, z1⟩ := I1.tuple hqx
  obtain ⟨its2, rv2, p2', z2⟩ := I1.tuple hqy
  obtain ⟨o1, ho1, _⟩ := id p1
  obtain ⟨o2, ho2, _⟩ := id p2'
  have D := PySem.W.ktu_apart s1.heap.objs.size a b (Heap.lt_size ho1) (Heap.lt_size ho2)
  have t1 : s1.heap.IsTuple a its.toArray := p1
  have t2 : s1.heap.IsTuple b its2.toArray := p2'
  have hb0 : ∀ b o, H1 b = some o → b < s1.heap.objs.size := fun b o e => (I1.hok b o e).lt
  refine RZ.call_zipT t1 t2 fun h' hz hTI hTO h1 h2 hsz hk => args_nil ?_
  have hTy : ({ s1 with heap := h' } : Shared).TypeIs (.ref (s1.heap.objs.size + 4)) "zip" := ⟨_, hz, rfl⟩
  refine list_any (s := { s1 with heap := h' }) hTy (by decide) (by decide) (fun A E s' Q k q => wpAny_pyIter_zip (k.heap hz) q) (fun A E s' Q k q => hint_zip (k.type hTy) q) fun R s' c k hS hR => ?_
  have eS : ({ s1 with heap := h' } : Shared).heap.objs.size = s1.heap.objs.size + 5 := hsz
  rw [eS] at hS hR ⊢
  have ne : ∀ {m n : Nat}, m ≠ n → s1.heap.objs.size + m ≠ s1.heap.objs.size + n := fun h e => h (by omega)
  have hn1 : its.toArray.size ≤ sizeLine := by rw [List.size_toArray, ← rv.length]; exact z1
  refine zip_loop (A := X.A.in1) (s0 := s1) (H0 := H1) (Xs := xs) (Ys := ys) (xs := its.toArray) (ys := its2.toArray) (I1.ok.hd hc) D (ne (by decide)) (ne (by decide)) (ne (by decide)) (Nat.ne_of_gt (by omega)) (ne (by decide)) (Nat.le_add_right _ _) (Nat.le_add_right _ _) (Nat.le_add_right _ _) (Nat.le_refl _) (Nat.le_add_right _ _) hb0 t1 t2 hn1
    (by simpa using rv) (by simpa using rv2) (fun acc s' he hkp hl hln hg => hR s' ?_) (min its.toArray.size its2.toArray.size) 0 #[] s' rfl (Nat.zero_le _) ?_
  · obtain ⟨Hn, us, hup, hv, hnew, hat⟩ := hg
    obtain ⟨cl, hl⟩ := hl
    have hSn : Hn (s1.heap.objs.size + 5) = none := by
      cases e : Hn (s1.heap.objs.size + 5) with
      | none => rfl
      | some o =>
        cases e0 : H1 (s1.heap.objs.size + 5) with
        | some o0 => exact absurd (hb0 _ _ e0) (Nat.not_lt.mpr (Nat.le_add_right _ _))
        | none => exact absurd rfl (hnew _ _ e e0).2.1
    have hfr : H1 (s1.heap.objs.size + 5) = none := I1.hok.fresh (Nat.le_add_right _ _)
    have hlen : us.length = min xs.length ys.length := by
      have l1 := rv.length
      have l2 := rv2.length
      rw [hv.length, Array.length_toList, hln, List.size_toArray, List.size_toArray, ← l1, ← l2]
    have hup' : ∀ c o, H1 c = some o → upd Hn (s1.heap.objs.size + 5) (.lst us) c = some o := fun c o e => by
      rw [upd_ne (ne_of_none (hup c o e) hSn)]
      exact hup c o e
    refine ⟨.ref (s1.heap.objs.size + 5), upd Hn (s1.heap.objs.size + 5) (.lst us), ?_, rfl, q _ _ us hfr hup' upd_same hlen fun j v e => ?_⟩
    · rw [he]
      refine inv_many I1 hkp hup' fun b' o e e0 => ?_
      by_cases hb : b' = s1.heap.objs.size + 5
      · subst hb
        rw [upd_same] at e
        cases e
        refine ⟨?_, show ObjOk X.prog X.w _ _ _ (.lst us) from ⟨by rw [hlen]; exact Nat.le_trans (Nat.min_le_left _ _) z1, acc.toList, cl, hv, ?_⟩⟩
        · cases e5 : s1.heap.get? (s1.heap.objs.size + 5) with
          | none => rfl
          | some o5 => exact absurd (Heap.lt_size e5) (Nat.not_lt.mpr (Nat.le_add_right _ _))
        · rw [Array.toArray_toList]; exact hl
      · rw [upd_ne hb] at e
        obtain ⟨q0, _, x, y, u, v, rfl, q1, q2, q3⟩ := hnew b' o e e0
        refine ⟨?_, show ObjOk X.prog X.w _ _ _ (.tup [x, y]) from ⟨by show 2 ≤ sizeLine; rw [sizeLine_eq]; decide, [u, v], .cons q1 (.cons q2 .nil), ⟨_, q3, rfl, _, rfl⟩⟩⟩
        cases e5 : s1.heap.get? b' with
        | none => rfl
        | some o5 => exact absurd (Heap.lt_size e5) (Nat.not_lt.mpr q0)
    · obtain ⟨t, x, y, rfl, a1, a2, a3⟩ := hat j v e
      exact ⟨t, x, y, rfl, by rw [upd_ne (ne_of_none a1 hSn)]; exact a1, a2, a3⟩
  · obtain ⟨h2', tk2, rfl, htk, hk2⟩ := k
    refine { eq := rfl, keep := fun b o e => hk2 b o (hk b o e), lst := ⟨c, hS⟩, ti := hk2 _ _ hTI, it1 := h1.at fun o e => hk2 _ o e, it2 := h2.at fun o e => hk2 _ o e, zs := .inl ⟨hk2 _ _ hz, _, _, hk2 _ _ hTO⟩, tolt := Heap.lt_size (hk2 _ _ hTO), len := rfl, got := ⟨H1, [], fun _ _ e => e, .nil, fun b o e e0 => ?_, fun j v e => ?_⟩ }
    · rw [e] at e0; cases e0
    · cases j <;> cases e
end
end Z

set_option Elab.async false
set_option linter.all false
set_option maxRecDepth 100000
set_option maxHeartbeats 4000000
namespace Z
open PySem PySem.Spec PyProof.Rows L2
section
variable {K : PySem.W.Frag} {w : World} {H H' : Hp} {S S' : Sto} {R : D → Sto → Prop} {Q : VK} {X : Cx}
def Me.nm : Me → String
  | .append => "append"
  | .pop => "pop"
  | .extend => "extend"
  | .count => "count"
  | .clear => "clear"
  | .reverse => "reverse"
  | .get => "get"
  | .insert => "insert"
def Me.id : Me → String
  | .append => "list.append"
  | .pop => "list.pop"
  | .extend => "list.extend"
  | .count => "list.count"
  | .clear => "list.clear"
  | .reverse => "list.reverse"
  | .get => "dict.get"
  | .insert => "list.insert"
def Me.T : Me → String
  | .get => "dict"
  | _ => "list"
theorem Me.slot (m : Me) : Slot m.T (Str.ofString m.nm) m.id := by
  cases m
  · exact PySem.F.slot_list_append
  · exact PySem.F.slot_list_pop
  · exact PySem.F.slot_list_extend
  · exact PySem.F.slot_list_count
  · exact PySem.F.slot_list_clear
  · exact PySem.F.slot_list_reverse
  · exact PySem.F.slot_dict_get
  · exact PySem.F.slot_list_insert
theorem Me.typ (m : Me) : typeOf (.builtin m.id) = pure (.type "method_descriptor") := by
  cases m
  · exact PySem.F.type_list_append
  · exact PySem.F.type_list_pop
  · exact PySem.F.type_list_extend
  · exact PySem.F.type_list_count
  · exact PySem.F.type_list_clear
  · exact PySem.F.type_list_reverse
  · exact PySem.F.type_dict_get
  · exact PySem.F.type_list_insert
theorem Me.plain (m : Me) : PlainAttrs m.T := by
  cases m <;> first | exact PySem.F.plainAttrs_list | exact PySem.F.plainAttrs_dict
theorem count_of : ∀ {x : V} {xs : List V} {us : List Value}, Vals xs us → xs.all flatV = true → us.countP (eqU x) = xs.countP fun y => eqV y x
  | _, _, _, .nil, _ => rfl
  | x, y :: xs, u :: us, .cons r t, f => by
    rw [List.all_cons, Bool.and_eq_true] at f
    rw [List.countP_cons, List.countP_cons, eqU_of r f.1, count_of t f.2]
theorem mt_countF : MtR X "list.count" (fun x xs H Q => ∃ (p : Addr) (ys : List V) (y : V), x = .ref p ∧ xs = [y] ∧ SqL X.K H p ys ∧ flatV y = true ∧ ys.all flatV = true ∧ Q (.int (ys.countP fun z => eqV z y : Nat)) H) := by
  intro pins s σ H x xs v us Q I rx rs hh
  obtain ⟨p, ys, y, rfl, rfl, hq, fy, fs, q⟩ := hh
  obtain ⟨u, rfl, ru⟩ := vals1 rs
  cases (show v = Value.ref p from rx)
  obtain ⟨its, r, ⟨o, n, ho, hc, hd, hs⟩, hz⟩ := I.list hq
  obtain ⟨cls, dd, data, sl⟩ := o
  simp only at hc hd hs
  subst hc hd hs
  refine call_meets PySem.F.slot_list_count ⟨_, ho, rfl⟩ PySem.F.entry_list_count (PySem.F.args_list_count_2 _ _)
    (SeqAt.list_countAt p its.toArray n _ sl u (eqU y)) ⟨ho, fun z hz => mem_eqAt ru fy r fs z (by simpa using hz), ?_⟩
  have ec : its.toArray.toList.countP (eqU y) = ys.countP fun z => eqV z y := count_of r fs
  refine ⟨.int (ys.countP fun z => eqV z y : Nat), H, I.tok _, ⟨s.toks, ?_⟩, q⟩
  show Value.int ((its.toArray.toList.countP (eqU y) : Nat) : Int) s.toks = Value.int _ s.toks
  rw [ec]
theorem countF_of {x : D} {v : V} (r1 : RelD K w H x v) (f1 : flatD x = true) : ∀ {ds : List D} {vs : List V}, RelDs K w H ds vs → ds.all flatD = true → (vs.countP fun z => eqV z v) = ds.countP fun y => eqF y x
  | [], vs, r, f => by simp only [RelDs] at r; subst r; rfl
  | d :: ds, vs, r, f => by
    simp only [RelDs] at r
    obtain ⟨u, t, rfl, q1, q2⟩ := r
    rw [List.all_cons, Bool.and_eq_true] at f
    rw [List.countP_cons, List.countP_cons, countF_of r1 f1 q2 f.2, eqF_of q1 r1 f.1 f1]
theorem relds_erase {ds : List D} {vs : List V} (r : RelDs K w H ds vs) (i : Nat) : RelDs K w H (ds.eraseIdx i) (vs.eraseIdx i) := by
  rw [List.eraseIdx_eq_take_drop_succ, List.eraseIdx_eq_take_drop_succ]
  exact (r.take i).append (r.drop _)
theorem relds_ins {ds : List D} {vs : List V} {d : D} {v : V} (r : RelDs K w H ds vs) (rd : RelD K w H d v) (i : Nat) : RelDs K w H (ds.take i ++ [d] ++ ds.drop i) (vs.take i ++ [v] ++ vs.drop i) :=
  ((r.take i).append (by simp only [RelDs]; exact ⟨v, [], rfl, rd, rfl⟩)).append (r.drop i)
theorem mth_ok (hu : X.A.units + 1 < cLine) (m : Me) : MtR X m.id (rDM X.K X.w (wMth m)) := by
  intro pins s σ H x xs v us Q I rx rs hh
  obtain ⟨dx, ds, S, R, r1, r2, h, f, k⟩ := hh
  unfold wMth at f
  split at f
  case h_2 => exact f.elim
  rename_i a
  simp only [RelD] at r1
  subst r1
  split at f
  · rename_i ys e
    obtain ⟨vs, h1, h2⟩ := h.lst e
    split at f
    · obtain ⟨z, rfl, rz⟩ := relds_one r2
      exact mt_append pins s σ H _ _ v us Q I rx rs ⟨a, vs, z, rfl, rfl, h1, by rw [← h2.length]; exact f.1, k.mutl e f.2 h (h2.snoc rz) (by simp only [RelD])⟩
    · simp only [RelDs] at r2
      subst r2
      split at f
      · rename_i y ey
        obtain ⟨z, q1, q2⟩ := h2.get ey
        rw [h2.length] at q1
        exact mt_pop pins s σ H _ _ v us Q I rx rs ⟨a, vs, z, rfl, rfl, h1, q1, k.mutl e f h h2.dropLast q2⟩
      · exact f.elim
    · obtain ⟨z, rfl, rz⟩ := relds_one r2
      simp only [RelD] at rz
      subst rz
      rename_i i
      obtain ⟨f0, f1, f⟩ := f
      split at f
      · rename_i y ey
        obtain ⟨z, q1, q2⟩ := h2.get ey
        have hlt : i.toNat < vs.length := (List.getElem?_eq_some_iff.mp q1).1
        refine mt_popAt pins s σ H _ _ v us Q I rx rs ⟨a, vs, i, i.toNat, z, rfl, rfl, h1, by omega, by omega, ?_, q1, k.mutl e f h (relds_erase h2 i.toNat) q2⟩
        unfold seqIndex?
        simp only []
        split <;> first | omega | (congr 1; done) | (simp; omega)
      · exact f.elim
    · obtain ⟨z, y, rfl, rz, ry⟩ := relds_two r2
      simp only [RelD] at rz
      subst rz
      exact mt_insert pins s σ H _ _ v us Q I rx rs ⟨a, vs, _, y, rfl, rfl, h1, by rw [← h2.length]; exact f.2.2.1, f.1, by omega, k.mutl e f.2.2.2 h (relds_ins h2 ry _) (by simp only [RelD])⟩
    · obtain ⟨z, rfl, rz⟩ := relds_one r2
      simp only [RelD] at rz
      subst rz
      split at f
      · rename_i e2
        obtain ⟨vs2, h3, h4⟩ := h.lst e2
        exact mt_extend pins s σ H _ _ v us Q I rx rs ⟨a, _, vs, vs2, rfl, rfl, h1, h3, by rw [← h2.length, ← h4.length]; exact f.1, k.mutl e f.2 h (h2.append h4) (by simp only [RelD])⟩
      · exact f.elim
    · simp only [RelDs] at r2
      subst r2
      exact mt_clear pins s σ H _ _ v us Q I rx rs ⟨a, vs, rfl, rfl, h1, k.mutl e f h relds_nil (by simp only [RelD])⟩
    · simp only [RelDs] at r2
      subst r2
      exact mt_reverse pins s σ H _ _ v us Q I rx rs ⟨a, vs, rfl, rfl, h1, k.mutl e f h h2.reverse (by simp only [RelD])⟩
    · obtain ⟨z, rfl, rz⟩ := relds_one r2
      exact mt_countF pins s σ H _ _ v us Q I rx rs ⟨a, vs, z, rfl, rfl, SqL.of h1, flat_of rz f.1, flats_of h2 f.2.1, k.same f.2.2 (by simp only [RelD]; rw [countF_of rz f.1 h2 f.2.1]) h⟩
    · exact f.elim
  · rename_i kvs e
    obtain ⟨kv, h1, h2⟩ := h.dct e
    split at f
    · obtain ⟨z, rfl, rz⟩ := relds_one r2
      split at f
      · rename_i key ek
        have ez := key_rel rz ek
        subst ez
        obtain ⟨u, rfl, ru⟩ := vals1 rs
        cases (show v = Value.ref a from rx)
        refine d_get1 hu I (DGet.k h1) ru fun w' s' I' r' => ⟨_, H, I', r', k.same f ?_ h⟩
        have q := relkv_val key h2
        cases el : lookD kvs key with
        | none => rw [el] at q; rw [q]; simp only [Option.getD_none, RelD]
        | some d => rw [el] at q; obtain ⟨z, q1, q2⟩ := q; rw [q1]; exact q2
      · exact f.elim
    · obtain ⟨z, y, rfl, rz, ry⟩ := relds_two r2
      split at f
      · rename_i key ek
        have ez := key_rel rz ek
        subst ez
        obtain ⟨u, u2, rfl, ru, ru2⟩ := vals2 rs
        cases (show v = Value.ref a from rx)
        refine d_get2 hu I (DGet.k h1) ru ru2 fun w' s' I' r' => ⟨_, H, I', r', k.same f ?_ h⟩
        have q := relkv_val key h2
        cases el : lookD kvs key with
        | none => rw [el] at q; rw [q]; simp only [Option.getD_none]; exact ry
        | some d => rw [el] at q; obtain ⟨z, q1, q2⟩ := q; rw [q1]; exact q2
      · exact f.elim
    · exact f.elim
  · exact f.elim
theorem recv_ok (h : HR K w H S) {m : Me} {d : D} {v : V} (r : RelD K w H d v) (e : okRecv m S d = true) : tyV K m.T v H := by
  unfold okRecv at e
  split at e
  · simp only [RelD] at r
    subst r
    split at e
    · rename_i q
      obtain ⟨vs, h1, h2⟩ := h.sql q
      refine .inl ⟨?_, vs, h1⟩
      cases m <;> first | rfl | (simp only [Me.ofDict] at e; cases e)
    · rename_i q
      obtain ⟨kv, h1, h2⟩ := h.dct q
      refine .inr (.inr (.inl ⟨?_, .inl ⟨kv, h1⟩⟩))
      cases m <;> first | rfl | (simp only [Me.ofDict] at e; cases e)
    · cases e
  · cases e
end
end Z

set_option Elab.async false
set_option linter.all false
set_option maxRecDepth 100000
set_option maxHeartbeats 4000000
namespace Z
open PySem PySem.Spec PyProof.Rows L2
structure RoomG (k : Nat) (A : Around) : Prop where
  rm : Room k A
  gd : A.guards = some []
theorem RoomG.mono {j k : Nat} {A : Around} (r : RoomG k A) (h : j ≤ k) : RoomG j A := ⟨r.rm.mono h, r.gd⟩
theorem RoomG.deeper {k : Nat} {A : Around} (r : RoomG (k + 1) A) (env : Env) : RoomG k (A.deeper env) := ⟨r.rm.deeper env, r.gd⟩
structure RoomHG (k : Nat) (A : Around) : Prop where
  rm : L2H.RoomH k A
  gd : A.guards = some []
theorem RoomHG.mono {j k : Nat} {A : Around} (r : RoomHG k A) (h : j ≤ k) : RoomHG j A := ⟨r.rm.mono h, r.gd⟩
theorem RoomHG.deeper {k : Nat} {A : Around} (r : RoomHG (k + 1) A) (env : Env) : RoomHG k (A.deeper env) := ⟨r.rm.deeper env, r.gd⟩
structure FnG (P : Program) (w : World) (K : PySem.W.Frag) (mg : Str → Option Value) (base : Heap) (CX : CXT) (k : Nat) (f : Addr) (fd : FuncData) (ps : List Str) (sp : Sp) : Prop where
  len : ∀ vs H Q E, sp vs H Q E → vs.length = ps.length
  run : ∀ (A : Around) (outer : List Env) (s : Shared) (H : Hp) (args : Args) (us : List Value) (vs : List V) (Q : VK) (E : XK), RoomG k A → Env0 P w K mg base A outer s H → BindsTo s fd args (ps.zip us) → Vals vs us → sp vs H Q E → codeAny (model P w) A (.call (.ref f) args) (CR CX outer P w H s Q E) s
theorem FnG.mono {P : Program} {w : World} {K : PySem.W.Frag} {mg : Str → Option Value} {base : Heap} {CX : CXT} {j k : Nat} {f : Addr} {fd : FuncData} {ps : List Str} {sp : Sp} (F : FnG P w K mg base CX j f fd ps sp) (h : j ≤ k) : FnG P w K mg base CX k f fd ps sp :=
  ⟨F.len, fun A outer s H args us vs Q E hr => F.run A outer s H args us vs Q E (hr.mono h)⟩
theorem fng_of {CX : CXT} {P : Program} {w : World} {K : PySem.W.Frag} {mg : Str → Option Value} {base : Heap} {k : Nat} {x qual : Str} {params : Arguments} {body : List Stmt} {scope : Scope} {dvs : List V} {kws : List (Str × V)} {f : Addr} {fd : FuncData} {N ps : List Str} {sp : Sp}
    (F : FunD K x qual params body scope dvs kws f fd) (Sc : FnScope N ps scope) (hln : ∀ vs H Q E, sp vs H Q E → vs.length = ps.length)
    (hbody : ∀ (cdv : Value) (A : Around) (outer : List Env) (s : Shared) (H : Hp) (vs : List V) (Q : VK) (E : XK), RoomG k (A.deeper (envOfC qual scope s.heap.objs.size f cdv)) → sp vs H Q E → ∃ t, PSs (cxOf CX P w K mg base N qual scope f cdv A outer s H E) body t ∧ t { nx := fun _ H' => Q .non H', rt := Q } (L2.start N vs) H) :
    FnG P w K mg base CX (k + 1) f fd ps sp := by
  obtain ⟨oc, od, dV, kV, doc, pm, an, cdv, ct, osl, rfl, lk, hcd, _, _⟩ := F.ex
  refine ⟨hln, fun A outer s H args us vs Q E hr e0 hb r hsp => ?_⟩
  have hlv := hln _ _ _ _ hsp
  have KX : K.In s.heap := e0.mod.kin.keeps fun b o z => (e0.bs b o z).1
  have limN : s.heap.NoLimit := e0.mod.nolimit.keeps fun b o z => (e0.bs b o z).1
  have hkd : ∀ y ∈ ps.zip us, scope.names.lookup y.1 = some .local ∨ (scope.names.lookup y.1 = some .cell ∧ ((cellsFrom (s.heap.objs.size + 1) scope.names []).lookup y.1).isSome = true) := fun ⟨n, v⟩ hy =>
    (Sc.par n (List.of_mem_zip hy).1).elim (fun q => .inl q) fun q => .inr ⟨q, PySem.W.cellsFrom_some _ _ _ (.inl q)⟩
  refine codeAny_call_function hr.rm.depth (KX _ _ lk) rfl Sc.co Sc.gen rfl (PySem.W.codeRec_of KX hcd) (hb _ _ _ _ ?_)
  refine wpAny_newFunctionEnv_cells Sc.kind hkd fun env he s1 x1 => ?_
  subst he
  refine ⟨limN.keeps x1.toInCall.keep, codeAny_func ?_⟩
  obtain ⟨t, ht, hq⟩ := hbody cdv A outer s H vs Q E (hr.deeper _) hsp
  have I : Inv (cxOf CX P w K mg base N qual scope f cdv A outer s H E) [] (L2.start N vs) H s1 := inv_start Sc hr.rm.hd e0 hlv r x1
  refine wpAny_mono (ht.run [] s1 (L2.start N vs) H _ I hq) (fun fl s' hs => ?_) fun e s' hs => hs
  cases fl with
  | ret u => obtain ⟨v, σ', H', J, rv, q⟩ := hs; exact ⟨v, H', J.os, J.bare, J.base, J.hok, rv, q⟩
  | next => obtain ⟨σ', H', J, q⟩ := hs; exact ⟨V.non, H', J.os, J.bare, J.base, J.hok, rfl, q⟩
  | brk => obtain ⟨_, _, _, q⟩ := hs; exact q.elim
  | cont => obtain ⟨_, _, _, q⟩ := hs; exact q.elim
structure FnQ (P : Program) (w : World) (K : PySem.W.Frag) (mg : Str → Option Value) (base : Heap) (CX : CXT) (k : Nat) (f : Addr) (fd : FuncData) (ps : List Str) (sp : Sp) : Prop where
  len : ∀ vs H Q E, sp vs H Q E → vs.length = ps.length
  run : ∀ (A : Around) (outer : List Env) (s : Shared) (H : Hp) (args : Args) (us : List Value) (vs : List V) (Q : VK) (E : XK), RoomHG k A → Env0 P w K mg base A outer s H → BindsTo s fd args (ps.zip us) → Vals vs us → sp vs H Q E → codeAny (model P w) A (.call (.ref f) args) (CR CX outer P w H s Q E) s
theorem fnq_of {CX : CXT} {P : Program} {w : World} {K : PySem.W.Frag} {mg : Str → Option Value} {base : Heap} {k : Nat} {x qual : Str} {st : Stmt} {f : Addr} {fd : FuncData} {N ps : List Str} {sp : Sp} (F : Fun K x qual st f fd) (Sc : FnScope N ps (defScope st)) (hln : ∀ vs H Q E, sp vs H Q E → vs.length = ps.length)
    (hbody : ∀ (cdv : Value) (A : Around) (outer : List Env) (s : Shared) (H : Hp) (vs : List V) (Q : VK) (E : XK) (p : Addr × Obj), RoomHG k (A.deeper (envOfC qual (defScope st) s.heap.objs.size f cdv)) → sp vs H Q E →
      ∃ t, PSs (L2H.cxH CX P w K mg base N qual (defScope st) f cdv A outer s H E p) (defBody st) t ∧ t { nx := fun _ H' => Q .non H', rt := Q } (L2.start N vs) H) : FnQ P w K mg base CX (k + 1) f fd ps sp := by
  obtain ⟨oc, od, kV, doc, pm, an, cdv, ct, osl, rfl, lk, hcd⟩ := F.ex
  refine ⟨hln, fun A outer s H args us vs Q E hr e0 hb r hsp => ?_⟩
  have hlv := hln _ _ _ _ hsp
  have KX : K.In s.heap := e0.mod.kin.keeps fun b o z => (e0.bs b o z).1
  have limN : s.heap.NoLimit := e0.mod.nolimit.keeps fun b o z => (e0.bs b o z).1
  have fb := e0.mod.kin _ _ lk
  have hpin : L2H.PinOk outer H s (f, ⟨oc, od, .func (PySem.W.fnOf x qual (defArgs st) (defBody st) (defScope st) .none kV doc pm an cdv ct), osl⟩) :=
    ⟨KX _ _ lk, (e0.bs _ _ fb).2, (fun z => by have q := (e0.funs.mem z).1; rw [fb] at q; cases q), fun v z => by cases z⟩
  have hkd : ∀ y ∈ ps.zip us, (defScope st).names.lookup y.1 = some .local ∨ ((defScope st).names.lookup y.1 = some .cell ∧ ((cellsFrom (s.heap.objs.size + 1) (defScope st).names []).lookup y.1).isSome = true) := fun ⟨n, v⟩ hy =>
    (Sc.par n (List.of_mem_zip hy).1).elim (fun q => .inl q) fun q => .inr ⟨q, PySem.W.cellsFrom_some _ _ _ (.inl q)⟩
  refine codeAny_call_function hr.rm.depth (KX _ _ lk) rfl Sc.co Sc.gen rfl (PySem.W.codeRec_of KX hcd) (hb _ _ _ _ ?_)
  refine wpAny_newFunctionEnv_cells Sc.kind hkd fun env he s1 x1 => ?_
  subst he
  refine ⟨limN.keeps x1.toInCall.keep, codeAny_func ?_⟩
  obtain ⟨t, ht, hq⟩ := hbody cdv A outer s H vs Q E _ (hr.deeper _) hsp
  have I := L2H.inv_startH (CX := CX) (E := E) Sc hpin e0 hlv r x1
  refine wpAny_mono (ht.run [] s1 (L2.start N vs) H _ I hq) (fun fl s' hs => ?_) fun e s' hs => hs
  cases fl with
  | ret u => obtain ⟨v, σ', H', J, rv, q⟩ := hs; exact ⟨v, H', J.os, J.bare, J.base, J.hok, rv, q⟩
  | next => obtain ⟨σ', H', J, q⟩ := hs; exact ⟨V.non, H', J.os, J.bare, J.base, J.hok, rfl, q⟩
  | brk => obtain ⟨_, _, _, q⟩ := hs; exact q.elim
  | cont => obtain ⟨_, _, _, q⟩ := hs; exact q.elim
section
variable {X : Cx} {CX : CXT} {k : Nat} {f : Addr} {fd : FuncData} {ps : List Str} {sp : Sp} {E : L2.St → XK} {x : Str} {p pos : Pos} {e : Expr} {es : List Expr} {t : TA}
theorem run_fnq {pins : List (Addr × Obj)} {σ : L2.St} {H : Hp} {s : Shared} {Q : VK} {us : List Value} {vs : List V} (F : FnQ X.prog X.w X.K X.mg X.base CX k f fd ps sp) (hr : RoomHG k X.A) (hb : Binds X.K fd ps []) (hx : PassesAt CX X σ (E σ))
    (I : Inv X pins σ H s) (r : Vals vs us) (h : sp vs H Q (E σ)) : wpAny (model X.prog X.w) X.A (call (.ref f) us) (EP X pins σ Q) X.xe s := by
  have hl : us.length = ps.length := by rw [← r.length]; exact F.len _ _ _ _ h
  have b0 := hb s us I.kIn (by rw [List.append_nil]; exact hl)
  rw [List.append_nil] at b0
  refine wpAny_call (codeAny_mono (F.run X.A X.stack s H ⟨us, []⟩ us vs Q (E σ) hr I.env0 b0 r h) fun q s' hq => ?_)
  cases q with
  | error e => exact hx pins H s e s' I hq
  | ok fl => cases fl <;> first | exact I.after hq | exact False.elim hq
theorem run_fng {dvs : List V} {ds : List Value} {pins : List (Addr × Obj)} {σ : L2.St} {H : Hp} {s : Shared} {Q : VK} {us : List Value} {vs : List V} (F : FnG X.prog X.w X.K X.mg X.base CX k f fd ps sp) (hr : RoomG k X.A) (hb : Binds X.K fd ps ds) (hd : Vals dvs ds) (hx : PassesAt CX X σ (E σ))
    (I : Inv X pins σ H s) (r : Vals vs us) (h : sp (vs ++ dvs) H Q (E σ)) : wpAny (model X.prog X.w) X.A (call (.ref f) us) (EP X pins σ Q) X.xe s := by
  have hl : (us ++ ds).length = ps.length := by rw [← (r.append hd).length]; exact F.len _ _ _ _ h
  refine wpAny_call (codeAny_mono (F.run X.A X.stack s H ⟨us, []⟩ (us ++ ds) (vs ++ dvs) Q (E σ) hr I.env0 (hb s us I.kIn hl) (r.append hd) h) fun q s' hq => ?_)
  cases q with
  | error e => exact hx pins H s e s' I hq
  | ok fl => cases fl <;> first | exact I.after hq | exact False.elim hq
theorem pe_callG (F : FnG X.prog X.w X.K X.mg X.base CX k f fd ps sp) (hr : RoomG k X.A) (hg : Gl X x) (hm : X.mg x = some (.ref f)) (hk : PySem.W.keepIn X.K (.ref f) = true) (hb : Binds X.K fd ps []) (hx : ∀ σ, PassesAt CX X σ (E σ))
    (ha : PA X (e :: es) t) (hdb : (x == ("__debug__" : Str)) = false) (he : starEach (e :: es) X.env = (false, eval e X.env) :: starEach es X.env) (hpl : (backTo pos (starEach es X.env)).any (·.1) = false) :
    PE X (.Call (.Name x p) (e :: es) [] pos) (fun σ H Q => t σ H fun vs H1 => sp vs H1 Q (E σ)) := by
  refine ⟨fun pins s σ H Q I h => wpAny_Call_Name_kw (ld_glob I hg hm ?_ hdb)⟩
  exact PySem.W.callWith_K (h₀ := X.base) I.ok.mod.kin hk (thn (ha.run pos pins s σ H _ I h) fun us s1 ⟨vs, H1, I1, r, q⟩ => ⟨I1.kIn, run_fng (dvs := []) (ds := []) (E := E) F hr hb .nil (hx σ) I1 r (by simpa using q)⟩) he hpl
theorem pe_callQ (F : FnQ X.prog X.w X.K X.mg X.base CX k f fd ps sp) (hr : RoomHG k X.A) (hg : Gl X x) (hm : X.mg x = some (.ref f)) (hk : PySem.W.keepIn X.K (.ref f) = true) (hb : Binds X.K fd ps []) (hx : ∀ σ, PassesAt CX X σ (E σ))
    (ha : PA X (e :: es) t) (hdb : (x == ("__debug__" : Str)) = false) (he : starEach (e :: es) X.env = (false, eval e X.env) :: starEach es X.env) (hpl : (backTo pos (starEach es X.env)).any (·.1) = false) :
    PE X (.Call (.Name x p) (e :: es) [] pos) (fun σ H Q => t σ H fun vs H1 => sp vs H1 Q (E σ)) := by
  refine ⟨fun pins s σ H Q I h => wpAny_Call_Name_kw (ld_glob I hg hm ?_ hdb)⟩
  exact PySem.W.callWith_K (h₀ := X.base) I.ok.mod.kin hk (thn (ha.run pos pins s σ H _ I h) fun us s1 ⟨vs, H1, I1, r, q⟩ => ⟨I1.kIn, run_fnq F hr hb (hx σ) I1 r q⟩) he hpl
end
theorem kept_at {P : Program} {w : World} {H : Hp} {h : Heap} {a : Addr} {oe : Obj} (x : HOk P w H h) (ha : H a = some (kept oe)) : h.get? a = some oe := by
  have z := x a _ ha
  unfold kept ObjOk at z
  exact z.1
section
variable {X : Cx}
theorem call_isx {M : Addr} {m : Str} (hm : m ∈ xnames) (hM : PySem.W.nsIn X.K mainGlobals m = some (some (.ref M))) : CallR X (.builtin "isinstance") (fun xs H Q => ∃ n C a oe dx, XCls X.K n C ∧ xs = [.ref a, .ref M] ∧ H a = some (kept oe) ∧ oe.cls = .ref C ∧ oe.dict = some dx ∧ (∃ fv, oe.data = .fields fv) ∧ (∃ fs, H dx = some (.xd fs)) ∧ Q (.bl (decide (n = m))) H) := by
  intro pins s σ H xs us Q I r h
  obtain ⟨n, C, a, oe, dx, xc, rfl, ha, hc, hd, ⟨fv, hf⟩, ⟨fs, hx⟩, q⟩ := h
  cases r with
  | cons rx rr =>
    cases rr with
    | cons rt rr =>
      cases rr
      cases rx
      cases rt
      have hget := kept_at I.hok ha
      obtain ⟨mA, hns, hr⟩ : ∃ mA, s.heap.Ns1 dx mA ∧ _ := I.hok dx _ hx
      obtain ⟨od, ho, hl⟩ := lookIn_ns hns
      have J : PySem.W.InstAt s.heap a oe C (some od) := ⟨hget, hc, by unfold PySem.W.notCls; rw [hf] <;> rfl, by rw [hd]; exact ho⟩
      have hcl : (PySem.W.clsIn X.K C).isSome = true := by obtain ⟨cd, z, _⟩ := PySem.W.any_some xc.hd; rw [z]; rfl
      exact PySem.W.kia_one (PySem.W.kitx_exc (od := some od) (ox := oe) (x := a) hcl xc.ga xc.gt xc.be xc.cl xc.sg xc.tk xc.mr) I.kIn J (xc.is m hm M hM).1 (fun z => nomatch z) fun tk => ⟨.bl _, H, I.kept (t' := tk) fun _ _ z => z, rfl, q⟩
theorem pe_atr {e : Expr} {te : TE} {pos : Pos} {f : Str} (he : PE X e te) (hf : f ∈ xflds) (hb : attributeBase e f X.env (eval e X.env) = eval e X.env) :
    PE X (.Attribute e f pos) (fun σ H Q => te σ H fun x H1 => ∃ a oe dx n C fs v, x = .ref a ∧ XCls X.K n C ∧ H1 a = some (kept oe) ∧ oe.cls = .ref C ∧ oe.dict = some dx ∧ (∃ fv, oe.data = .fields fv) ∧ H1 dx = some (.xd fs) ∧ fs.lookup f = some v ∧ Q v H1) := by
  refine ⟨fun pins s σ H Q I h => attr_of hb (thn (he.run pins s σ H _ I h) fun u s1 hh => ?_)⟩
  obtain ⟨x, H1, I1, rx, a, oe, dx, n, C, fs, v, rfl, xc, ha, hc, hd, ⟨fv, hdt⟩, hx, l, q⟩ := hh
  obtain rfl : u = Value.ref a := rx
  have hget := kept_at I1.hok ha
  obtain ⟨mA, hns, hr⟩ : ∃ mA, s1.heap.Ns1 dx mA ∧ ∀ g, RelO (fs.lookup g) (mA g) := I1.hok dx _ hx
  obtain ⟨od, ho, hl⟩ := lookIn_ns hns
  obtain ⟨u, hu, ru⟩ := RelO.some_of (v := v) (o := mA f) (by rw [← l]; exact hr f)
  have J : PySem.W.InstAt s1.heap a oe C (some od) := ⟨hget, hc, by unfold PySem.W.notCls; rw [hdt] <;> rfl, by rw [hd]; exact ho⟩
  exact PySem.HandSPX.exc_get I1.kIn J xc.ga xc.gt xc.be (PySem.W.findObj_own xc.hd (xc.fl f hf) rfl (by rw [hl, hu])) (handed_of ru) ⟨v, H1, I1.tok _, ru, q⟩
end
end Z

set_option Elab.async false
set_option linter.all false
set_option maxRecDepth 100000
set_option maxHeartbeats 4000000
namespace Z
open PySem PySem.Spec PyProof.Rows L2
section
variable {X : Cx} {pins : List (Addr × Obj)} {σ : L2.St} {H : Hp} {s : Shared} {a : Addr} {oe : Obj}
theorem inv_keep (J : Inv X pins σ H s) {fv : Array Value} (ha : s.heap.get? a = some oe) (hd : oe.data = .fields fv) (na : H a = none) (nL : a ≠ X.env.locals) (h0 : a ∉ X.ex → X.s_0.heap.get? a = none) (np : ∀ p ∈ X.pn ++ pins, p.1 ≠ a) : Inv X pins σ (upd H a (kept oe)) s := by
  have old : ∀ {b : Addr} {o : HO}, H b = some o → upd H a (kept oe) b = some o := fun {b o} e => by rw [upd_ne (ne_of_none e na)]; exact e
  refine ⟨J.ok, J.os, J.bare, ⟨J.base.keep, J.base.slot, fun b o e n hx => ?_, J.base.there, fun b xs e => old (J.base.tups b xs e), fun b o u e => old (J.base.frzs b o u e), fun b ps e => let ⟨more, q⟩ := J.base.tbls b ps e; ⟨more, old q⟩⟩, J.loc, J.cell, by rw [upd_ne (Ne.symm nL)]; exact J.free, fun x c e => ?_, fun p hp => ?_, HOk.laidN J.hok (fun _ _ z => z) na ?_, J.len⟩
  · by_cases hb : b = a
    · subst hb; rw [h0 hx] at e; cases e
    · rw [upd_ne hb]; exact J.base.free b o e n hx
  · have hc : c ≠ a := fun z => by
      subst z
      obtain ⟨v, o', e1, e2⟩ := J.cell x c e
      rw [ha] at e1
      cases e1
      first | (rw [hd] at e2; cases e2) | (rw [hd] at e2; simp at e2)
    rw [upd_ne hc]; exact J.freeC x c e
  · obtain ⟨q1, q2, q3⟩ := J.pin p hp
    exact ⟨q1, by rw [upd_ne (np p hp)]; exact q2, q3⟩
  · unfold kept ObjOk ObjOk
    exact ⟨ha, trivial, ⟨oe, ha⟩, fun _ _ _ _ => trivial⟩
theorem inv_suite (I : Inv X pins σ H s) (a : Addr) : Inv (X.suite a (X.pn ++ pins)) [] σ H s := ⟨I.ok.suite _ _, I.os, I.bare, I.base, I.loc, I.cell, I.free, I.freeC, fun p hp => I.pin p (by simpa using hp), I.hok, I.len⟩
theorem inv_unsuite {pn' : List (Addr × Obj)} (I : Inv (X.suite a (X.pn ++ pins)) pn' σ H s) (ok : X.Ok) : Inv X pins σ H s := ⟨ok, I.os, I.bare, I.base, I.loc, I.cell, I.free, I.freeC, fun p hp => I.pin p (List.mem_append_left _ hp), I.hok, I.len⟩
end
def wKeep (K : PySem.W.Frag) (c : Value) (i : Nat) (ts : Addr → Obj → L2.TS) (Wout : WX) (D : Ends) : WX := fun cls d σ H =>
  ∃ b, PySem.W.exmOne K cls c = some b ∧ (b = true → ∀ a oe, H a = none → Zc cls d oe → (∃ fv, oe.data = .fields fv) → ts a oe { nx := fun σ' H' => D.nx (σ'.set i none) H', rt := D.rt, bk := fun σ' H' => D.bk (σ'.set i none) H', ct := fun σ' H' => D.ct (σ'.set i none) H' } (σ.set i (some (.ref a))) (upd H a (kept oe))) ∧ (b = false → Wout cls d σ H)
section
variable {X : Cx} {x n : Str} {c : Value} {i : Nat} {body suite : List Stmt} {b₀ : Stmt} {np pos pos' : Pos} {tb : WX → L2.TS} {ts : Addr → Obj → L2.TS} {Wout : WX}
theorem ps_tryK (hs : X.stack = X.env :: X.outer) (hf : X.env.frame = some X.env.locals) (hN : X.N.Nodup) (hi : X.N[i]? = some n) (hln : X.env.kindOf n = some .local) (hc : Names X x c) (tk : Takes X Wout)
    (hb : ∀ (W : WX) (pn : List (Addr × Obj)) (xe : Value → Shared → Prop), Takes (X.tr pn xe) W → PassesOwn (model X.prog X.w) X.A X.env xe → PSs (X.tr pn xe) body (tb W)) (hsu : ∀ (a : Addr) (oe : Obj) (pn : List (Addr × Obj)), PSs (X.suite a pn) (b₀ :: suite) (ts a oe)) :
    PS X (.Try body [.ExceptHandler (some (.Name x np)) (some n) (b₀ :: suite) pos'] [] [] pos) (fun D σ H => tb (wKeep X.K c i ts Wout D) D σ H) := by
  refine ⟨fun pins s σ H D I h => ?_⟩
  have ok := I.ok
  have hfr : X.A.frames = some (X.env :: X.outer) := by rw [ok.frames, hs]
  refine wpAny_Try_except ?_
  refine wpAny_mono ((hb (wKeep X.K c i ts Wout D) (X.pn ++ pins) (fun e s₁ => wpAny (model X.prog X.w) X.A (noteFrame e X.env) (fun _ s₂ => wpAny (model X.prog X.w) X.A (setFlight e none) (fun _ s₃ => wpAny (model X.prog X.w) X.A (handleBy e X.env [.ExceptHandler (some (.Name x np)) (some n) (b₀ :: suite) pos']) (SP X pins D) X.xe s₃) X.xe s₂) X.xe s₁) (fun u s' xx => ?_) PassesOwn.looking).run [] s σ H D (I.toTry _) h) (fun f s1 hsp => ?_) (fun e s1 he => he)
  · obtain ⟨a, B, sI, pins', σ', H', cls, d, rfl, J', nb, up, sky, na, os, ag, b, hb1, hyes, hno⟩ := xx
    have J : Inv X pins σ' H' sI := Inv.ofTry J' ok
    have sky2 : Sky B (X.env :: X.outer) a (Zc cls d) X.env.locals s'.heap := hs ▸ sky
    show wpAny (model X.prog X.w) X.A (noteFrame (.ref a) X.env) _ _ _
    refine Sky.land Zc.steady hfr hf sky2 fun h3 fl3 up3 => ?_
    have J3 : Inv X pins σ' H' { s' with heap := h3 } := Inv.landed J nb fl3.1 (up.trans up3) os ag
    obtain ⟨oe3, vs3, he3, hz3, hd3⟩ := HandSPX.FlyingZ.there fl3
    have nfr : a ∉ frs (X.env :: X.outer) := fun hm => by
      obtain ⟨_, o', e', hnf⟩ := fl3.2.2.1.mem hm
      rw [he3] at e'; cases e'; exact hnf _ hd3
    have nL : a ≠ X.env.locals := fun z => nfr (List.mem_filterMap.mpr ⟨X.env, List.mem_cons_self, by rw [hf, z]⟩)
    have nF : a ∉ X.fs := fun hm => let ⟨e, he, q⟩ := List.mem_filterMap.mp hm; nfr (List.mem_filterMap.mpr ⟨e, List.mem_cons_of_mem _ he, q⟩)
    have nB : B.get? a = none := fl3.2.1
    have nO : ∀ o, sI.heap.get? a ≠ some o := fun o e => by
      have q := nb a o e (by rw [hs]; exact nfr)
      rw [nB] at q; cases q
    have h0 : a ∉ X.ex → X.s_0.heap.get? a = none := fun hx => by
      cases e : X.s_0.heap.get? a with
      | none => rfl
      | some o => obtain ⟨o', e'⟩ := J.base.there a o e hx; exact absurd e' (nO o')
    have hnp : ∀ p ∈ X.pn ++ pins, p.1 ≠ a := fun p hp z => nO p.2 (z ▸ (J.pin p hp).1)
    have S3 := inv_suite J3 a
    refine wpAny_handleBy_cons (codeAny_handlers_test ?_) (by intro q; cases q)
    have LT : PySem.W.Looks (model X.prog X.w) h3 (typeOf (.ref a)) cls := fun A Q E s k q => wpAny_typeOf_ref (k _ _ he3) (hz3.1.symm ▸ q)
    have LM := PySem.W.exm_one (M := model X.prog X.w) J3.kIn LT hb1
    have test : ∀ {Q : Value → Shared → Prop} {E : Value → Shared → Prop}, Q c { s' with heap := h3 } → wpAny (model X.prog X.w) (X.A.mark (some (.ref a))) (eval (.Name x np) X.env) Q E { s' with heap := h3 } := fun {Q E} q => by
      obtain ⟨hg, hdbg, hm | ⟨hm, hv, hnn⟩⟩ := hc
      · exact ld_glob (X := X.suite a (X.pn ++ pins)) S3 hg hm q hdbg
      · exact ld_blt (X := X.suite a (X.pn ++ pins)) S3 hg hm hv q hnn hdbg
    refine test (LM.here ?_)
    cases b with
    | true =>
      refine codeAny_handlers_suite_as ?_
      refine HandSPX.lands_againZ fl3 fun h4 fl4 up4 => ?_
      have J4 : Inv X pins σ' H' { s' with heap := h4 } := Inv.landed J nb fl4.1 ((up.trans up3).trans up4) os ag
      obtain ⟨oe4, vs4, he4, hz4, hd4⟩ := HandSPX.FlyingZ.there fl4
      have S4 := inv_suite (inv_keep J4 he4 hd4 na nL h0 hnp) a
      refine store_ok (X := X.suite a (X.pn ++ pins)) (v := .ref a) S4 hN hi (.inl hln) rfl (fun s5 S5 => ?_) (.inr hln)
      refine wpAny_mono ((hsu a oe4 (X.pn ++ pins)).run [] s5 _ _ _ S5 (hyes rfl a oe4 na hz4 ⟨_, hd4⟩)) (fun f s6 hsp => ?_) (fun _ _ z => z.elim)
      have fin : ∀ {σ6 : L2.St} {H6 : Hp} {Q : Shared → Prop}, Inv (X.suite a (X.pn ++ pins)) [] σ6 H6 s6 → (∀ s7, Inv X pins (σ6.set i none) H6 s7 → Q s7) → wpAny (model X.prog X.w) X.A (do bindName X.env n .none; unbindBehindTheSuite X.env n pos') (fun _ s7 => Q s7) X.xe s6 := fun {σ6 H6 Q} S6 hq => gone_ok (inv_unsuite S6 ok) hN hi hln hq
      cases f with
      | next => obtain ⟨σ6, H6, S6, q6⟩ := hsp; exact fin S6 fun s7 J7 => ⟨_, _, J7, q6⟩
      | brk => obtain ⟨σ6, H6, S6, q6⟩ := hsp; exact fin S6 fun s7 J7 => ⟨_, _, J7, q6⟩
      | cont => obtain ⟨σ6, H6, S6, q6⟩ := hsp; exact fin S6 fun s7 J7 => ⟨_, _, J7, q6⟩
      | ret u => obtain ⟨v6, σ6, H6, S6, r6, q6⟩ := hsp; exact fin S6 fun s7 J7 => ⟨_, _, _, J7, r6, q6⟩
    | false =>
      show wpAny _ X.A (handleBy (.ref a) X.env []) _ _ _
      refine wpAny_handleBy_nil ?_
      obtain ⟨k1, k2, k3, oe, vs, T, oT, ts', he, hz, hd, h1, hr⟩ := id fl3
      unfold PySem.passOn
      refine wpAny_bind (wpAny_field he hd h1 ?_)
      rw [if_neg (show ¬ ((Value.ref T == Value.none) = true) from by simp)]
      have last : wpAny (model X.prog X.w) X.A (setFlight (.ref a) X.env.frame) (fun _ s4 => wpAny (model X.prog X.w) X.A (throw (.ref a) : Sem Flow) (SP X pins D) X.xe s4) X.xe { s' with heap := h3 } := by
        rw [hf]
        exact HandSPX.setFlight_upZ fl3 fun h4 hh4 up4 => wpAny_throw (tk _ _ ⟨a, B, sI, pins, σ', H', cls, d, rfl, J, nb, (up.trans up3).trans up4, .inr (.inr (by rw [hs]; exact hh4)), na, os, ag, hno rfl⟩)
      first | exact wpAny_bind (wpAny_pure (wpAny_bind last)) | exact wpAny_bind last
  · cases f with
    | next => obtain ⟨σ', H', J', q⟩ := hsp; exact wpAny_execs_nil ⟨σ', H', J'.ofTry ok, q⟩
    | brk => obtain ⟨σ', H', J', q⟩ := hsp; exact ⟨σ', H', J'.ofTry ok, q⟩
    | cont => obtain ⟨σ', H', J', q⟩ := hsp; exact ⟨σ', H', J'.ofTry ok, q⟩
    | ret u => obtain ⟨v, σ', H', J', r, q⟩ := hsp; exact ⟨v, σ', H', J'.ofTry ok, r, q⟩
end
end Z

set_option Elab.async false
set_option linter.all false
set_option maxRecDepth 100000
set_option maxHeartbeats 4000000
namespace Z
open PySem PySem.Spec PyProof.Rows L2
theorem pe_binit {X : Cx} {M : Addr} {x : Str} {e : Expr} {es : List Expr} {ta : TA} {p1 p2 pos : Pos} (hg : Gl X x) (hdb : (x == ("__debug__" : Str)) = false) (hm : X.mg x = some (.ref M)) (sg : PySem.W.specialIn X.K (.ref M) "__getattribute__" = some (some (.builtin "type.__getattribute__"))) (rd : PySem.W.readsIn X.K M (.type "type") = true)
    (vV : PySem.W.findCls X.K (.ref M) (.type "type") "__init__" = some (.val (.builtin "ValueError.__init__"))) (ha : PA X (e :: es) ta)
    (hfew : ((backTo pos (starEach (e :: es) X.env)).all (fun x => !x.1) && (backToKw pos (keywordEach [] X.env)).all (fun x => x.1.isSome) && decide ((e :: es).length + ([] : List Keyword).length + (if ([] : List Keyword).isEmpty then 0 else 1) < 30)) = true) (hline : (p2.endLine == pos.line) = true)
    (he : starEach (e :: es) X.env = (false, eval e X.env) :: starEach es X.env := by rfl) (hpl : (backTo pos (starEach es X.env)).any (·.1) = false := by rfl) :
    PE X (.Call (.Attribute (.Name x p1) "__init__" p2) (e :: es) [] pos) (tVeI X.K ta) := by
  refine ⟨fun pins s σ H Q I h => ?_⟩
  have hbase : attributeBase (.Name x p1) ("__init__" : Str) X.env (eval (.Name x p1) X.env) = eval (.Name x p1) X.env := by rfl
  rw [arm_eval_Call, hbase]
  refine wpAny_bind (ld_glob I hg hm ?_ hdb)
  refine wpAny_bind (wpAny_standAt ?_)
  have hform : methodCallForm ((e :: es).length + ([] : List Keyword).length) (backTo pos (starEach (e :: es) X.env)) (backToKw pos (keywordEach [] X.env)) = true := hfew
  have hpos : methodCallPos true (.Name x p1) X.env p2 pos = pure pos := by unfold methodCallPos; simp [hline]
  unfold methodCall
  rw [hform]
  refine wpAny_bind (wpAny_holding (PySem.W.method_cls I.kIn sg (PySem.W.cls_value I.kIn rd vV (by decide +kernel) ?_)))
  refine wpAny_bind (wpAny_of_eq hpos ?_)
  show wpAny _ _ (callWith pos (Value.builtin "ValueError.__init__") [] (backTo pos (starEach (e :: es) X.env)) []) _ _ _
  refine PyProof.Rows.callWith_method1 (thn (ha.run pos pins _ σ H _ (I.tok _) h) fun us s1 ⟨vs, H1, I1, r1, a, C, ws, ev, hl, T, ea, q⟩ => ?_) he hpl
  subst ev
  cases r1 with
  | @cons _ u0 _ ur ra rw' =>
    obtain rfl : u0 = Value.ref a := ra
    exact oinit_ok T I1 ea (by rw [← Paired.length rw', sizeLine_eq]; omega) fun s' J => ⟨.non, H1, J, rfl, q⟩
def initS : List Str → List Stmt → Bool
  | [f], [.Expr (.Call (.Attribute (.Name m _) i ap) [.Name s _, .Name a _] [] cp) _, .Assign [.Attribute (.Name s1 _) g _] (.Name b _) _] =>
    (ap.endLine == cp.line) && decide (m = "MakeError") && decide (i = "__init__") && decide (s = "self") && decide (a = f) && decide (s1 = "self") && decide (g = f) && decide (b = f)
  | [f, f2], [.Expr (.Call (.Attribute (.Name m _) i ap) [.Name s _, .Name a _, .Name a2 _] [] cp) _, .Assign [.Attribute (.Name s1 _) g _] (.Name b _) _, .Assign [.Attribute (.Name s2 _) g2 _] (.Name b2 _) _] =>
    (ap.endLine == cp.line) && decide (m = "MakeError") && decide (i = "__init__") && decide (s = "self") && decide (a = f) && decide (s1 = "self") && decide (g = f) && decide (b = f) && decide (a2 = f2) && decide (s2 = "self") && decide (g2 = f2) && decide (b2 = f2)
  | _, _ => false
def spI (C : Addr) (ns : List Str) : Sp := fun vs H Q _ => ∃ a ws, vs = .ref a :: ws ∧ ws.length = ns.length ∧ H a = some (exo a C none) ∧ ∀ dx, H dx = none → dx ≠ a → Q .non (upd (upd H a (exo a C (some dx))) dx (exd dx (ns.zip ws).reverse))
structure RFact (K : PySem.W.Frag) (mg : Str → Option Value) (n : Str) (ns : List Str) (C fI : Addr) (fd : FuncData) : Prop where
  cls : XCls K n C
  mgn : mg n = some (.ref C)
  ok : OexC K C
  base : ∃ M, mg "MakeError" = some (.ref M) ∧ PySem.W.specialIn K (.ref M) "__getattribute__" = some (some (.builtin "type.__getattribute__")) ∧ PySem.W.readsIn K M (.type "type") = true ∧ PySem.W.findCls K (.ref M) (.type "type") "__init__" = some (.val (.builtin "ValueError.__init__"))
  ini : PySem.W.findIn K (.ref C) "__init__" = some (some (.ref fI))
  tin : PySem.W.typeIn K (.ref fI) = some (.type "function")
  bd : Binds K fd ("self" :: ns) []
  fl : ∀ f ∈ ns, f ∈ xflds
  fn : ∃ qual st, Fun K "__init__" qual st fI fd ∧ FnScope ("self" :: ns) ("self" :: ns) (defScope st) ∧ initS ns (defBody st) = true ∧ (defScope st).names.lookup ("MakeError" : Str) = some .globalImplicit
theorem upd_comm {H : Hp} {a b : Addr} {o u : HO} (h : a ≠ b) : upd (upd H a o) b u = upd (upd H b u) a o := by
  funext c
  unfold upd
  by_cases h1 : c = b
  · subst h1; rw [if_pos rfl, if_neg (Ne.symm h), if_pos rfl]
  · rw [if_neg h1, if_neg h1]
theorem init_ok {P : Program} {w : World} {K : PySem.W.Frag} {mg : Str → Option Value} {base : Heap} {n : Str} {ns : List Str} {C fI : Addr} {fd : FuncData} (R : RFact K mg n ns C fI fd) : FnOk P w K mg base (L2.CX P w) 1 fI fd ("self" :: ns) (spI C ns) := by
  obtain ⟨qual, st, F, Sc, sh, hgl⟩ := R.fn
  obtain ⟨M, m1, m2, m3, m4⟩ := R.base
  have vis : ∀ y : Str, y ∈ (("self" : Str) :: ns) → Vis (defScope st) y := fun y hy => by
    rcases Sc.par y hy with q | q
    · exact .inl q
    · exact .inr (.inl q)
  have fno : ∀ f ∈ ns, PySem.W.findIn K (.ref C) f = some none := fun f hf => R.cls.fl f (R.fl f hf)
  have ndb : ∀ f ∈ ns, (f == ("__debug__" : Str)) = false ∧ (f == ("__classdict__" : Str)) = false := fun f hf => by
    have := R.fl f hf
    simp only [xflds, List.mem_cons, List.not_mem_nil, or_false] at this
    rcases this with rfl | rfl | rfl | rfl <;> exact ⟨by decide, by decide⟩
  refine Fun.okX (k := 0) F Sc (fun vs H Q E h => ?_) fun cdv A outer s H vs Q E hr h => ?_
  · obtain ⟨a, ws, rfl, hl, _⟩ := h
    simp [hl]
  · obtain ⟨a, ws, rfl, hl, ha, hq⟩ := h
    unfold initS at sh
    split at sh
    · rename_i f m _ i _ _ _ a1 _ _ _ s1 _ g _ b _ _ eb
      simp only [Bool.and_eq_true, decide_eq_true_eq] at sh
      obtain ⟨⟨⟨⟨⟨⟨⟨hli, rfl⟩, rfl⟩, rfl⟩, rfl⟩, rfl⟩, rfl⟩, rfl⟩ := sh
      match ws, hl with
      | [y], _ =>
      rw [eb]
      refine ⟨_, pss_cons (ps_expr (pe_binit hgl (by decide) m1 m2 m3 m4 (pa_cons (pe_var (i := 0) rfl (vis _ (by simp))) (pa_cons (pe_var (i := 1) rfl (vis _ (by simp)) (ndb _ (by simp)).1 (ndb _ (by simp)).2) pa_nil)) (by rfl) hli)) (pss_cons (ps_ost (pe_var (i := 0) rfl (vis _ (by simp))) (pe_var (i := 1) rfl (vis _ (by simp)) (ndb _ (by simp)).1 (ndb _ (by simp)).2)) pss_nil), ?_⟩
      refine ⟨.ref a, rfl, y, rfl, a, C, [y], rfl, by simp, R.ok, ha, y, rfl, .ref a, rfl, a, C, rfl, R.ok, fno _ (by simp), .inl ⟨ha, fun dx nd ne => ?_⟩⟩
      show Q .non _
      rw [upd_comm ne]
      exact hq dx nd ne
    · rename_i f f2 m _ i _ _ _ a1 _ a2 _ _ _ s1 _ g _ b _ _ s2 _ g2 _ b2 _ _ eb
      simp only [Bool.and_eq_true, decide_eq_true_eq] at sh
      obtain ⟨⟨⟨⟨⟨⟨⟨⟨⟨⟨⟨hli, rfl⟩, rfl⟩, rfl⟩, rfl⟩, rfl⟩, rfl⟩, rfl⟩, rfl⟩, rfl⟩, rfl⟩, rfl⟩ := sh
      match ws, hl with
      | [y, z], _ =>
      rw [eb]
      refine ⟨_, pss_cons (ps_expr (pe_binit hgl (by decide) m1 m2 m3 m4 (pa_cons (pe_var (i := 0) rfl (vis _ (by simp))) (pa_cons (pe_var (i := 1) rfl (vis _ (by simp)) (ndb _ (by simp)).1 (ndb _ (by simp)).2) (pa_cons (pe_var (i := 2) rfl (vis _ (by simp)) (ndb _ (by simp)).1 (ndb _ (by simp)).2) pa_nil))) (by rfl) hli))
        (pss_cons (ps_ost (pe_var (i := 0) rfl (vis _ (by simp))) (pe_var (i := 1) rfl (vis _ (by simp)) (ndb _ (by simp)).1 (ndb _ (by simp)).2)) (pss_cons (ps_ost (pe_var (i := 0) rfl (vis _ (by simp))) (pe_var (i := 2) rfl (vis _ (by simp)) (ndb _ (by simp)).1 (ndb _ (by simp)).2)) pss_nil)), ?_⟩
      refine ⟨.ref a, rfl, y, rfl, z, rfl, a, C, [y, z], rfl, by simp, R.ok, ha, y, rfl, .ref a, rfl, a, C, rfl, R.ok, fno _ (by simp), .inl ⟨ha, fun dx nd ne => ?_⟩⟩
      refine ⟨z, rfl, .ref a, rfl, a, C, rfl, R.ok, fno _ (by simp), .inr ⟨dx, _, upd_same, by rw [upd_ne ne, upd_same], by simp, ?_⟩⟩
      show Q .non _
      rw [upd_comm ne, upd_upd]
      exact hq dx nd ne
    · cases sh
def rInner (C : Addr) (ns : List Str) (W : WX) (σ : L2.St) (vs : List V) (H1 : Hp) : Prop := vs.length ≤ 1000 ∧ ∀ a, H1 a = none → spI C ns (.ref a :: (vs ++ [])) (upd H1 a (exo a C none))
  (fun v H2 => v = .non ∧ ∃ (d : Addr) (fs : List (Str × V)), H2 a = some (exo a C (some d)) ∧ H2 d = some (exd d fs) ∧ H1 d = none ∧ W (.ref C) (some d) σ (upd (del H2 a) d (.xd fs))) (fun _ _ _ => False)
theorem rInner_of {C : Addr} {ns : List Str} {W : WX} {σ : L2.St} {vs : List V} {H1 : Hp} (h1 : vs.length = ns.length) (h2 : vs.length ≤ 1000) (h3 : ∀ dx, H1 dx = none → W (.ref C) (some dx) σ (upd H1 dx (.xd (ns.zip vs).reverse))) : rInner C ns W σ vs H1 := by
  refine ⟨h2, fun a na => ⟨a, vs, by simp, h1, upd_same, fun dx nd ne => ?_⟩⟩
  rw [upd_ne ne] at nd
  refine ⟨rfl, dx, _, by rw [upd_ne (Ne.symm ne), upd_same], upd_same, nd, ?_⟩
  have eq : upd (del (upd (upd (upd H1 a (exo a C none)) a (exo a C (some dx))) dx (exd dx (ns.zip vs).reverse)) a) dx (.xd (ns.zip vs).reverse) = upd H1 dx (.xd (ns.zip vs).reverse) := by
    funext b
    by_cases hb : b = dx
    · subst hb; rw [upd_same, upd_same]
    · rw [upd_ne hb, upd_ne hb]
      by_cases hb2 : b = a
      · subst hb2; rw [del_same, na]
      · rw [del_ne hb2, upd_ne hb, upd_ne hb2, upd_ne hb2]
  rw [eq]
  exact h3 dx nd
theorem ps_raisD {X : Cx} {W : WX} {n : Str} {ns : List Str} {C fI : Addr} {fd : FuncData} {e : Expr} {es : List Expr} {ta : TA} {p pos pos' : Pos} (R : RFact X.K X.mg n ns C fI fd) (hc : X.calm = true) (tk : Takes X W) (hr : Room 2 X.A) (hg : Gl X n) (hdb : (n == ("__debug__" : Str)) = false) (ha : PA X (e :: es) ta)
    (he : starEach (e :: es) X.env = (false, eval e X.env) :: starEach es X.env) (hpl : (backTo pos (starEach es X.env)).any (·.1) = false) :
    PS X (.Raise (some (.Call (.Name n p) (e :: es) [] pos)) none pos') (fun _ σ H => ta σ H fun vs H1 => rInner C ns W σ vs H1) := by
  have pm := pmk_oex (CX := L2.CX X.prog X.w) (x := n) (p := p) (pos := pos) (dvs := []) (ds := []) R.ok R.ini R.tin (init_ok R) hr R.bd .nil (fun _ _ _ _ _ _ _ z => by obtain ⟨_, _, _, _, _, _, _, _, _, _, _, _, q⟩ := z; exact q.elim) hg R.mgn ha hdb he hpl
  exact ⟨fun pins s σ H D I h => (ps_raise hc tk pm).run pins s σ H D I h⟩
end Z

set_option Elab.async false
set_option linter.all false
set_option maxRecDepth 100000
set_option maxHeartbeats 4000000
namespace Z
open PySem PySem.Spec PyProof.Rows L2
def IteT (K : PySem.W.Frag) (a : Addr) : It :=
  ⟨fun i H => ∃ (xs : List V) (x : V), SqT K H a xs ∧ xs[i]? = some x, fun i H v H' => ∃ T x, v = .ref T ∧ H T = none ∧ H' = upd H T (.tup [.int (i : Nat), x]) ∧ ∀ xs, SqT K H a xs → xs[i]? = some x, fun i H => ∃ xs : List V, SqT K H a xs ∧ xs.length ≤ i⟩
theorem meets_enumB {v0 : Value} {ob : Obj} {HH : Heap → Prop} (B : Begins v0 ob HH) :
    Meets (Builtin.«enumerate.__new__» ⟨[.type "enumerate", v0], []⟩) (fun _ R s => HH s.heap ∧
      R (.ok (.ret (.ref (s.heap.push ob).objs.size))) { s with heap := (s.heap.push ob).push { cls := .type "enumerate", data := .fields #[.none, .bool false, .ref s.heap.objs.size, rawInt 0, .none, .none] } }) :=
  .of_wp fun prog w A R s0 hyp => by
    obtain ⟨hp, gg, dd, tk, os⟩ := s0; obtain ⟨hyp1, hyp⟩ := hyp; have hsb := sub_enumerate
    have it1 : ∀ {A' : Around} {E : Value → Shared → Prop} {Q : Value → Shared → Prop}, Q (.ref hp.objs.size) ⟨hp.push ob, gg, dd, tk, os⟩ → wpAny (model prog w) A' (pyIter v0) Q E ⟨hp, gg, dd, tk, os⟩ := fun z => B.iter prog w _ _ ⟨hp, gg, dd, tk, os⟩ _ hyp1 z
    wp_walk using it1; refine wpAny_stack_any fun stk => wpAny_pure ?_; split
    · rename_i cc _ _ _ _ _; cases (cc == Value.type "enumerate") <;> (wp_walk using it1; exact ⟨_, rfl, hyp⟩)
    · wp_walk using it1; exact ⟨_, rfl, hyp⟩
theorem enumT_begins {prog : Program} {w : World} {A : Around} {E : Value → Shared → Prop} {s : Shared} {v0 : Value} {ob : Obj} {HH : Heap → Prop} {Q : Value → Shared → Prop} (B : Begins v0 ob HH) (h1 : HH s.heap)
    (hyp : ∀ h', IsEnum h' (s.heap.objs.size + 1) s.heap.objs.size 0 .none → h'.get? s.heap.objs.size = some ob → (∀ b o, s.heap.get? b = some o → h'.get? b = some o) → Q (.ref (s.heap.objs.size + 1)) { s with heap := h' }) :
    wpAny (model prog w) A (call (.type "enumerate") [v0]) Q E s := by
  refine callType_new F.called_enumerate (by decide) (F.typeCall_enumerate_1 _) (F.newCall_enumerate_1 _) (fun obj => F.args_object_init_2 obj _) F.entry_enumerate_new (meets_enumB B) ⟨h1, ?_⟩
  have hz : (s.heap.push ob).objs.size = s.heap.objs.size + 1 := Heap.size_push ..
  show _ ∧ _
  rw [hz]
  have he : IsEnum ((s.heap.push ob).push { cls := .type "enumerate", data := .fields #[.none, .bool false, .ref s.heap.objs.size, rawInt 0, .none, .none] }) (s.heap.objs.size + 1) s.heap.objs.size 0 .none := by have z := Heap.get?_push_size (s.heap.push ob) (o := { cls := .type "enumerate", data := .fields #[.none, .bool false, .ref s.heap.objs.size, rawInt 0, .none, .none] }) rfl; rw [hz] at z; exact z
  exact ⟨⟨_, he, rfl⟩, hyp _ he (Heap.get?_push_of_some _ (Heap.get?_push_size _ B.free)) fun b o x => Heap.get?_push_of_some _ (Heap.get?_push_of_some _ x)⟩
theorem turn_enumT {P : Program} {w : World} {K : PySem.W.Frag} {elts : List Expr} {kk : Nat} {tpos : Pos} (a e it : Addr) :
    Turn P w K (.Tuple elts kk tpos) (IteT K a) [e, it] e (fun i h => (∃ old, IsEnum h e it ((i : Nat) : Int) old) ∧ h.IsTupleIter it a i ∧ e ≠ it) where
  mem := by simp
  obj := fun i h st b hb => by
    obtain ⟨⟨old, he⟩, ⟨o, ho, hc, hd⟩, _⟩ := st
    rcases (show b = e ∨ b = it by simpa using hb) with z | z
    · rw [z]; exact ⟨_, he, fun v q => nomatch q⟩
    · rw [z]; exact ⟨o, ho, fun v q => by rw [hd] at q; cases q⟩
  keep := fun i h h' st k => let ⟨⟨old, he⟩, hi, hne⟩ := st; ⟨⟨old, k e (by simp) _ he⟩, hi.at fun o q => k it (by simp) o q, hne⟩
  item := by
    intro X hP hw hK hc i pins s σ H E I hf st hg; subst hP hw hK
    obtain ⟨⟨old, he⟩, hit, hne⟩ := st; obtain ⟨xs, x, hq, hx⟩ := hg; obtain ⟨its, rv, p, hz⟩ := I.tuple hq; obtain ⟨u, hu, ru⟩ := rv.get hx
    have hel : e < s.heap.objs.size := Heap.lt_size he
    have hil : it < s.heap.objs.size := by obtain ⟨_, q, _⟩ := hit; exact Heap.lt_size q
    have hia : a ≠ it := fun z => by
      obtain ⟨o, q, qc, _⟩ := hit; obtain ⟨o2, q2, qc2, _⟩ := p
      rw [z, q] at q2; cases q2; rw [qc] at qc2; simp at qc2
    have hea : e ∉ [it, a] := fun z => by
      rcases (show e = it ∨ e = a by simpa using z) with z | z
      · exact hne z
      · obtain ⟨o2, q2, qc2, _⟩ := p; rw [← z] at q2; have he' : s.heap.get? e = _ := he; rw [q2] at he'; cases he'; simp at qc2
    have hlt : i < its.toArray.size := by simpa using (List.getElem?_eq_some_iff.mp hu).1
    refine wpAny_pyNext_enum_itemD (Draws.tuple (show X.A.in1.handled = none from I.ok.hd hc) it a hia its.toArray) he ⟨hit, p⟩ hlt hne hea fun y h' tk hy ho st' hT hsz hk => ?_
    have hyu : y = u := by rw [show its.toArray[i]? = its[i]? by simp, hu] at hy; exact (Option.some.inj hy).symm
    subst hyu
    refine ⟨_, rfl, wpAny_letOwnedTupleGo_enum (s := { s with heap := h', toks := tk + 1 }) ho fun h'' he' sb => ?_⟩
    have hT2 : h''.get? s.heap.objs.size = some { cls := .type "tuple", data := .seq #[.int i tk, y] } := (sb.2 _ (Nat.ne_of_gt hel)).trans hT
    have new : ObjOk X.prog X.w (upd H s.heap.objs.size (.tup [.int (i : Nat), x])) h'' s.heap.objs.size (.tup [.int (i : Nat), x]) := ⟨by show 2 ≤ sizeLine; decide, [.int i tk, y], .cons ⟨_, rfl⟩ (.cons ru .nil), ⟨_, hT2, rfl, _, rfl⟩⟩
    have I1 : Inv X pins σ (upd H s.heap.objs.size (.tup [.int (i : Nat), x])) { s with heap := h'', toks := tk + 1 } := I.turnedNew (ch := [e, it]) (fun b ob hb q => (sb.2 b (fun z => hb (by simp [z]))).trans (hk b ob (fun z => hb (by simp [z])) (fun z => hb (by simp [z])) q)) hf (Nat.le_refl _) new
    refine ⟨.ref s.heap.objs.size, _, I1, rfl, ⟨_, x, rfl, I.hok.fresh (Nat.le_refl _), rfl, fun ys hy => by rw [I.tuple_inj hy hq]; exact hx⟩, ⟨⟨y, ?_⟩, st'.1.at fun o q => (sb.2 it (Ne.symm hne)).trans q, hne⟩, fun b hb => ?_⟩
    · rw [show ((i + 1 : Nat) : Int) = (i : Int) + 1 by omega]; exact he'
    · have hb' : b < s.heap.objs.size := by
        rcases (show b = e ∨ b = it by simpa using hb) with z | z
        · rw [z]; exact hel
        · rw [z]; exact hil
      rw [upd_ne (Nat.ne_of_lt hb')]; exact (hf b hb).1
  done := by
    intro X hP hw hK hc i pins s σ H E I hf st hg; subst hP hw hK
    obtain ⟨⟨old, he⟩, hit, hne⟩ := st; obtain ⟨xs, hq, hx⟩ := hg; obtain ⟨its, rv, p, hz⟩ := I.tuple hq; obtain ⟨f0, f1, f2, f3, f4, f5⟩ := hf it (by simp)
    have hl := rv.length
    have hia : a ≠ it := fun z => by
      obtain ⟨o, q, qc, _⟩ := hit; obtain ⟨o2, q2, qc2, _⟩ := p
      rw [z, q] at q2; cases q2; rw [qc] at qc2; simp at qc2
    have tE : s.TypeIs (.ref e) "enumerate" := ⟨_, he, rfl⟩
    unfold pyNext; refine wpAny_bind (wpAny_attempt (wpAny_callSpecial?_slot (name := Str.ofString "__next__") tE F.slot_enumerate_next (wpAny_call_entry F.slot_enumerate_next tE F.entry_enumerate_next ?_ (F.args_enumerate_next_1 _))))
    show wpAny _ _ (field (.ref e) 2 >>= _) _ _ _; refine wpAny_bind (wpAny_field he rfl (x := .ref it) rfl ?_)
    refine wpAny_bind (wpAny_nextOf_tuple_end (show X.A.in1.handled = none from I.ok.hd hc) hit p (Array.getElem?_eq_none (by simp; omega)) fun h' x hx he' => ?_)
    obtain ⟨o, ho, hoc⟩ := he'; refine wpAny_bind (wpAny_isInstance (T := "StopIteration") (b := true) ⟨o, ho, hoc⟩ isSubtype_stop ?_)
    exact wpAny_pure ⟨rfl, I.turned (t' := s.toks) (fun b o hb q => hx b o hb q) f0 f1 f3 f4 f5⟩
  self := fun A i s Q E st h => let ⟨⟨_, he⟩, _⟩ := st; wpAny_pyIter_enum he h
def iEnumT (K : PySem.W.Frag) (te : TE) : TI := fun σ H R => te σ H fun v H1 => ∃ a xs, v = .ref a ∧ ((SqL K H1 a xs ∧ R (Ite K a) H1) ∨ (SqT K H1 a xs ∧ R (IteT K a) H1))
theorem pi_enumT {X : Cx} {e : Expr} {te : TE} {p pos tpos : Pos} {elts : List Expr} {kk : Nat} (hg : Gl X "enumerate") (hm : X.mg "enumerate" = none) (he : PE X e te) (hs : starEach [e] X.env = (false, eval e X.env) :: starEach [] X.env) :
    PI X (.Tuple elts kk tpos) (.Call (.Name "enumerate" p) [e] [] pos) (iEnumT X.K te) := by
  refine ⟨fun pins s σ H R I h => ?_⟩
  refine Call_ (ld_blt I hg hm boot_enumerate (PyProof.Rows.callWith_type1 (args_cons (thn (he.run pins s σ H _ I h) fun u s1 ⟨v, H1, I1, r1, q1⟩ => args_nil ?_) hs) hs rfl))
  obtain ⟨a, xs, ev, q⟩ := q1; subst ev; obtain rfl : u = Value.ref a := r1
  rcases q with ⟨hq, q⟩ | ⟨hq, q⟩
  · obtain ⟨its, rv, p', hz⟩ := I1.list hq
    refine call_enumerate_list p'.isList fun h' he hit hsz hk => wpAny_pyIter_enum he ?_
    refine ⟨s1.heap.objs.size + 1, [s1.heap.objs.size + 1, s1.heap.objs.size], _, _, H1, rfl, I1.kept (t' := s1.toks) hk, turn_enum a (s1.heap.objs.size + 1) s1.heap.objs.size, ⟨⟨.none, he⟩, hit, Nat.succ_ne_self _⟩, fun b hb => ?_, q⟩
    have hle : s1.heap.objs.size ≤ b := by
      rcases (show b = s1.heap.objs.size + 1 ∨ b = s1.heap.objs.size by simpa using hb) with z | z
      · rw [z]; exact Nat.le_add_right _ _
      · rw [z]; exact Nat.le_refl _
    exact I1.fpOk hle (I1.hok.fresh hle)
  · obtain ⟨its, rv, p', hz⟩ := I1.tuple hq
    refine enumT_begins (begins_tuple a its.toArray) p' fun h' he hit hk => wpAny_pyIter_enum he ?_
    refine ⟨s1.heap.objs.size + 1, [s1.heap.objs.size + 1, s1.heap.objs.size], _, _, H1, rfl, I1.kept (t' := s1.toks) hk, turn_enumT a (s1.heap.objs.size + 1) s1.heap.objs.size, ⟨⟨.none, he⟩, ⟨_, hit, rfl, rfl⟩, Nat.succ_ne_self _⟩, fun b hb => ?_, q⟩
    have hle : s1.heap.objs.size ≤ b := by
      rcases (show b = s1.heap.objs.size + 1 ∨ b = s1.heap.objs.size by simpa using hb) with z | z
      · rw [z]; exact Nat.le_add_right _ _
      · rw [z]; exact Nat.le_refl _
    exact I1.fpOk hle (I1.hok.fresh hle)
end Z

set_option Elab.async false
set_option linter.all false
set_option maxRecDepth 100000
set_option maxHeartbeats 4000000
namespace Z
open PySem PySem.Spec PyProof.Rows L2
section
variable {prog : Program} {w : World} {A : Around} {E : Value → Shared → Prop} {s : Shared}
theorem star_rest {items : Array Value} {n i : Nat} {Q : List Value → Shared → Prop} {z0 : Sem (List Value)} (hi : i < n) (hn : n ≤ items.size + 1) (hz : items.size ≤ 16384) {h₂ : Heap} {tk : Nat}
    (h : Q (items.toList.take i ++ [.ref h₂.objs.size] ++ (items.toList.drop i).drop (items.size + 1 - n)) { s with heap := h₂.push { cls := .type "list", data := .seq ((items.toList.drop i).take (items.size + 1 - n)).toArray }, toks := tk }) :
    wpAny (model prog w) A (if (items.toList.drop i).length < n - 1 - i then z0 else
      newList ((items.toList.drop i).take ((items.toList.drop i).length - (n - 1 - i))) >>= fun d => pure (items.toList.take i ++ [d] ++ (items.toList.drop i).drop ((items.toList.drop i).length - (n - 1 - i)))) Q E { s with heap := h₂, toks := tk } := by
  have hrl : (items.toList.drop i).length = items.size - i := by rw [List.length_drop, Array.length_toList]
  have hmid : (items.toList.drop i).length - (n - 1 - i) = items.size + 1 - n := by rw [hrl]; omega
  rw [if_neg (by rw [hrl]; omega), hmid]
  exact wpAny_bind (wpAny_newList (wpAny_pure h) (by rw [List.length_take, hrl, sizeLine_eq]; omega))
theorem unpack_starL {l : Addr} {items : Array Value} {n i : Nat} {Q : List Value → Shared → Prop} (hl : s.heap.IsList l items) (hh : A.handled = none) (hi : i < n) (hn : n ≤ items.size + 1) (hz : items.size ≤ 16384)
    (h : ∀ (h₂ : Heap) (tk : Nat), (∀ b o, b ≠ s.heap.objs.size → s.heap.get? b = some o → h₂.get? b = some o) → Q (items.toList.take i ++ [.ref h₂.objs.size] ++ (items.toList.drop i).drop (items.size + 1 - n)) { s with heap := h₂.push { cls := .type "list", data := .seq ((items.toList.drop i).take (items.size + 1 - n)).toArray }, toks := tk }) :
    wpAny (model prog w) A (unpackItems (.ref l) n (some i)) Q E s := by
  have hlt : l ≠ s.heap.objs.size := by obtain ⟨o, ho, _⟩ := hl; exact Nat.ne_of_lt (Heap.lt_size ho)
  unfold unpackItems
  refine wpAny_bind ?_
  unfold notIterableAtAll
  refine wpAny_bind (wpAny_specialOf hl.typeIs slot_list_iter.lookup ?_)
  refine wpAny_pure ?_
  simp only [Bool.false_eq_true, if_false]
  refine wpAny_bind (wpAny_holding (wpAny_pyIter_list hl ?_))
  refine wpAny_bind (wpAny_holding (PySem.W.kun_draw hlt i 0 _ _ ⟨_, Heap.get?_push_size _ rfl, rfl, rfl⟩ (hl.push _) (by omega) fun h₁ hit₁ hs₁ => ?_))
  have hl₁ : h₁.IsList l items := (hl.push _).extBut hs₁.extBut hlt
  rw [Nat.zero_add] at hit₁
  obtain ⟨oi, hoi, _⟩ := id hit₁
  obtain ⟨ol, hol, _⟩ := id hl₁
  rw [List.drop_zero]
  have hfl : (items.toList.take i).length = i := by rw [List.length_take, Array.length_toList]; omega
  rw [if_neg (show ¬ ((items.toList.take i).length < i) by rw [hfl]; omega)]
  refine wpAny_bind (wpAny_holding (PySem.W.kun_collect (s := { s with heap := h₁ }) (T := "list_iterator") (.inr (.inr (.inl rfl))) (Walks.list (A := A.in1) hh s.heap.objs.size l hlt items) (fun j u st => st.1.typeIs) (k := i) (by omega) ⟨hit₁, hl₁⟩ (Heap.lt_size hoi) (Heap.lt_size hol) (fun h₂ tk hk => ?_) (by rw [sizeLine_eq]; omega)))
  refine star_rest (s := { s with heap := h₁ }) hi hn hz (h h₂ tk fun b o hb e => hk b o hb (hs₁.extBut b o hb (Heap.get?_push_of_some _ e)))
theorem unpack_starT {l : Addr} {items : Array Value} {n i : Nat} {Q : List Value → Shared → Prop} (hl : IsTup s.heap l items) (hh : A.handled = none) (hi : i < n) (hn : n ≤ items.size + 1) (hz : items.size ≤ 16384)
    (h : ∀ (h₂ : Heap) (tk : Nat), (∀ b o, b ≠ s.heap.objs.size → s.heap.get? b = some o → h₂.get? b = some o) → Q (items.toList.take i ++ [.ref h₂.objs.size] ++ (items.toList.drop i).drop (items.size + 1 - n)) { s with heap := h₂.push { cls := .type "list", data := .seq ((items.toList.drop i).take (items.size + 1 - n)).toArray }, toks := tk }) :
    wpAny (model prog w) A (unpackItems (.ref l) n (some i)) Q E s := by
  have hlt : l ≠ s.heap.objs.size := by obtain ⟨o, ho, _⟩ := hl; exact Nat.ne_of_lt (Heap.lt_size ho)
  unfold unpackItems
  refine wpAny_bind ?_
  unfold notIterableAtAll
  refine wpAny_bind (wpAny_specialOf hl.typeIs slot_tuple_iter.lookup ?_)
  refine wpAny_pure ?_
  simp only [Bool.false_eq_true, if_false]
  refine wpAny_bind (wpAny_holding (iter_tuple hl ?_))
  refine wpAny_bind (wpAny_holding (draw_tuple hlt i 0 _ _ ⟨_, Heap.get?_push_size _ rfl, rfl, rfl⟩ (hl.push _) (by omega) fun h₁ hit₁ hs₁ => ?_))
  have hl₁ : IsTup h₁ l items := (hl.push _).extBut hs₁.extBut hlt
  rw [Nat.zero_add] at hit₁
  obtain ⟨oi, hoi, _⟩ := id hit₁
  obtain ⟨ol, hol, _⟩ := id hl₁
  rw [List.drop_zero]
  have hfl : (items.toList.take i).length = i := by rw [List.length_take, Array.length_toList]; omega
  rw [if_neg (show ¬ ((items.toList.take i).length < i) by rw [hfl]; omega)]
  refine wpAny_bind (wpAny_holding (PySem.W.kun_collect (s := { s with heap := h₁ }) (T := "tuple_iterator") (.inr (.inr (.inr rfl))) (Walks.tuple (A := A.in1) hh s.heap.objs.size l hlt items) (fun j u st => st.1.typeIs) (k := i) (by omega) ⟨hit₁, hl₁⟩ (Heap.lt_size hoi) (Heap.lt_size hol) (fun h₂ tk hk => ?_) (by rw [sizeLine_eq]; omega)))
  refine star_rest (s := { s with heap := h₁ }) hi hn hz (h h₂ tk fun b o hb e => hk b o hb (hs₁.extBut b o hb (Heap.get?_push_of_some _ e)))
end
section
variable {X : Cx} {pos : Pos}
def gStar (K : PySem.W.Frag) (n i : Nat) (t : TGs) : TG := fun v σ H Q => ∃ a xs, v = .ref a ∧ (SqT K H a xs ∨ SqL K H a xs) ∧ i < n ∧ n ≤ xs.length + 1 ∧ xs.length ≤ 16384 ∧
  ∀ p, H p = none → t (xs.take i ++ [.ref p] ++ (xs.drop i).drop (xs.length + 1 - n)) σ (upd H p (.lst ((xs.drop i).take (xs.length + 1 - n)))) Q
theorem pg_star {es : List Expr} {k : Nat} {t : TGs} {n i : Nat} (hc : X.calm = true) (h : PGs X es t) (hn : (assignEach es X.env).length = n) (hst : (assignEach es X.env).findIdx? (·.1) = some i) : PG X (.Tuple es k pos) (gStar X.K n i t) := by
  refine ⟨fun pins s σ H v u Q I r hw => ?_⟩
  obtain ⟨a, xs, e1, hq, hi, hnx, hz, hw⟩ := hw
  subst e1
  cases r
  rw [PyProof.Rows.assign_Tuple]
  refine wpAny_bind (wpAny_standAt ?_)
  unfold unpack
  rw [hn, hst]
  have fin : ∀ (its : List Value), Vals xs its → ∀ (h₂ : Heap) (tk : Nat), (∀ b o, b ≠ s.heap.objs.size → s.heap.get? b = some o → h₂.get? b = some o) →
      wpAny (model X.prog X.w) X.A (assignInOrder ((assignEach es X.env).map (·.2)) (its.take i ++ [.ref h₂.objs.size] ++ (its.drop i).drop (its.length + 1 - n))) (fun _ s' => ∃ σ' H', Inv X pins σ' H' s' ∧ Q σ' H') X.xe
        { s with heap := h₂.push { cls := .type "list", data := .seq ((its.drop i).take (its.length + 1 - n)).toArray }, toks := tk } := fun its rv h₂ tk hk => by
    have I1 : Inv X pins σ H { s with heap := h₂, toks := tk } := I.kept (t' := tk) fun b o e => hk b o (Nat.ne_of_lt (Heap.lt_size e)) e
    have hfr : H h₂.objs.size = none := I1.hok.fresh (Nat.le_refl _)
    have I2 : Inv X pins σ (upd H h₂.objs.size (.lst ((xs.drop i).take (xs.length + 1 - n)))) { s with heap := h₂.push { cls := .type "list", data := .seq ((its.drop i).take (its.length + 1 - n)).toArray }, toks := tk } :=
      I1.laid (t' := tk) (fun b o e => Heap.get?_push_of_some _ e) (Nat.le_refl _) (show ObjOk X.prog X.w _ _ _ (.lst ((xs.drop i).take (xs.length + 1 - n))) from
        ⟨by rw [List.length_take, List.length_drop, sizeLine_eq]; omega, (its.drop i).take (its.length + 1 - n), 0, by rw [← rv.length]; exact (rv.drop i).take _, Heap.get?_push_size _ rfl⟩)
    refine h.run pins _ σ _ _ _ Q I2 ?_ (hw _ hfr)
    rw [← rv.length]
    exact ((rv.take i).append (Paired.cons (show RelV (.ref h₂.objs.size) (.ref h₂.objs.size) from rfl) .nil)).append ((rv.drop i).drop _)
  rcases hq with hq | hq
  · obtain ⟨its, rv, ht, hzz⟩ := I.tuple hq
    have hsz : its.toArray.size = xs.length := by rw [List.size_toArray, rv.length]
    refine wpAny_bind (wpAny_holding (unpack_starT ht (I.ok.hd hc) hi (by omega) (by omega) fun h₂ tk hk => ?_))
    have := fin its rv h₂ tk hk
    simpa using this
  · obtain ⟨its, rv, pl, hzz⟩ := I.list hq
    have hsz : its.toArray.size = xs.length := by rw [List.size_toArray, rv.length]
    refine wpAny_bind (wpAny_holding (unpack_starL pl.isList (I.ok.hd hc) hi (by omega) (by omega) fun h₂ tk hk => ?_))
    have := fin its rv h₂ tk hk
    simpa using this
def tPar3 (i j l : Nat) (ta : TA) : L2.TS := fun D σ H => ta σ H fun vs H1 => ∃ u v w, vs = [u, v, w] ∧ D.nx (((σ.set i (some u)).set j (some v)).set l (some w)) H1
theorem ps_par3 {i j l : Nat} {x y z : Str} {a b c : Expr} {ta : TA} {px py pz pt : Pos} {kt k2 pt2} (hc : X.calm = true) (hN : X.N.Nodup) (hi : X.N[i]? = some x) (hj : X.N[j]? = some y) (hl : X.N[l]? = some z) (hij : i ≠ j) (hil : i ≠ l) (hjl : j ≠ l)
    (hx : X.env.scope.names.lookup x = some .local) (hy : X.env.scope.names.lookup y = some .local) (hz : X.env.scope.names.lookup z = some .local) (ha : PA X [a, b, c] ta)
    (hw : swappedStores [.Tuple [.Name x px, .Name y py, .Name z pz] kt pt] (.Tuple [a, b, c] k2 pt2) X.env = pure (some [x, y, z]))
    (hs : swapsWithSole [.Tuple [.Name x px, .Name y py, .Name z pz] kt pt] (.Tuple [a, b, c] k2 pt2) pos.line X.env = pure false := by rfl) :
    PS X (.Assign [.Tuple [.Name x px, .Name y py, .Name z pz] kt pt] (.Tuple [a, b, c] k2 pt2) pos) (tPar3 i j l ta) := by
  refine ⟨fun pins s σ H D I h => ?_⟩
  rw [exec_Assign_arm]
  refine wpAny_bind (wpAny_standAt ?_)
  rw [hs]
  refine wpAny_bind (wpAny_pure ?_)
  rw [if_neg (by decide)]
  refine wpAny_bind (Tuple_ (thn (ha.run _ pins s σ H _ I h) fun us s1 ⟨vs, H1, I1, r1, q1⟩ => ?_))
  obtain ⟨u, v, w, e1, q1⟩ := q1
  subst e1
  obtain ⟨u1, u2, u3, rfl, ru, rv, rw'⟩ : ∃ u1 u2 u3, us = [u1, u2, u3] ∧ RelV u u1 ∧ RelV v u2 ∧ RelV w u3 := by
    cases r1 with
    | cons p q =>
      cases q with
      | cons p' q' =>
        cases q' with
        | cons p2 q2 =>
          cases q2
          exact ⟨_, _, _, rfl, p, p', p2⟩
  refine wpAny_newObj_type ?_ (by show 3 ≤ sizeLine; decide)
  have I2 : Inv X pins σ H1 { s1 with heap := s1.heap.push { cls := .type "tuple", data := .seq [u1, u2, u3].toArray } } := I1.kept (t' := s1.toks) fun b o e => Heap.get?_push_of_some _ e
  rw [hw]
  refine wpAny_bind (wpAny_pure ?_)
  show wpAny (model X.prog X.w) X.A (do rule "assign.swapped-stores"; let items ← unpackItems (.ref s1.heap.objs.size) 3 none; assignInOrder [fun v => bindName X.env z v, fun v => bindName X.env y v, fun v => bindName X.env x v] items.reverse; pure Flow.next) _ _ _
  refine wpAny_bind (wpAny_rule (wpAny_bind (unpackItems_tuple (items := #[u1, u2, u3]) (I.ok.hd hc) (IsTup.new s1.heap _) fun h' hx' => ?_)))
  have I3 := I2.kept (h' := h') (t' := s1.toks) fun b o e => hx' b o (Nat.ne_of_lt (Heap.lt_size e)) e
  show wpAny _ _ (assignInOrder [fun v => bindName X.env z v, fun v => bindName X.env y v, fun v => bindName X.env x v] [u3, u2, u1] >>= fun _ => pure Flow.next) _ _ _
  refine wpAny_bind (assignInOrder_cons (wpAny_bindName (store_ok I3 hN hl (.inl hz) rw' (fun s2 I4 => ?_) (.inr hz))))
  refine assignInOrder_cons (wpAny_bindName (store_ok I4 hN hj (.inl hy) rv (fun s3 I5 => ?_) (.inr hy)))
  refine assignInOrder_cons (wpAny_bindName (store_ok I5 hN hi (.inl hx) ru (fun s4 I6 => assignInOrder_nil (wpAny_pure ?_)) (.inr hx)))
  have e : ((σ.set l (some w)).set j (some v)).set i (some u) = ((σ.set i (some u)).set j (some v)).set l (some w) := by
    rw [List.set_comm _ _ (Ne.symm hjl), List.set_comm _ _ (Ne.symm hil), List.set_comm _ _ (Ne.symm hij)]
  rw [e] at I6
  exact ⟨_, H1, I6, q1⟩
end
end Z

set_option Elab.async false
set_option linter.all false
set_option maxRecDepth 100000
set_option maxHeartbeats 4000000
namespace Z
open PySem PySem.Spec PyProof.Rows L2
section
variable {prog : Program} {w : World} {A : Around} {E : Value → Shared → Prop} {s : Shared}
theorem applied_rev {sl : Addr} {vl vu vs : Value} {n : Nat} {Q : Int × Int × Nat → Shared → Prop} (hs : s.heap.IsSliceOf sl vl vu vs) (pl : IsPart vl none) (pu : IsPart vu none) (ps : IsPart vs (some (-1)))
    (h : Q ((n : Int) - 1, -1, n) s) : wpAny (model prog w) A (Builtin.Slice.sliceApplied (.ref sl) (pure (n : Int))) Q E s := by
  obtain ⟨os, hos, hcs, hds⟩ := id hs
  unfold Builtin.Slice.sliceApplied Builtin.Slice.sliceFields
  refine wpAny_bind (wpAny_bind (wpAny_field hos hds (x := vl) rfl (wpAny_bind (wpAny_field hos hds (x := vu) rfl (wpAny_bind (wpAny_field hos hds (x := vs) rfl (wpAny_pure ?_)))))))
  refine wpAny_bind (HT.slicePart_ ps ?_)
  show wpAny _ _ (if ((-1 : Int) == 0) = true then _ else _) _ _ s
  rw [if_neg (by decide)]
  refine wpAny_bind (HT.slicePart_ pl (wpAny_bind (HT.slicePart_ pu (wpAny_bind (wpAny_pure ?_)))))
  show wpAny _ _ (pure ((n : Int) - 1, (-1 : Int), Builtin.Slice.slicePlaces ((n : Int) - 1) (-1) (-1))) _ _ s
  have e : Builtin.Slice.slicePlaces ((n : Int) - 1) (-1) (-1) = n := by
    unfold Builtin.Slice.slicePlaces
    rw [if_neg (by decide)]
    by_cases hn : n = 0
    · subst hn; rw [if_neg (by decide)]; rfl
    · rw [if_pos (by omega)]
      have : ((n : Int) - 1 - -1 - 1) / (- -1) = (n : Int) - 1 := by rw [show (- -1 : Int) = 1 by decide, Int.ediv_one]; omega
      rw [this]
      omega
  rw [e]
  exact wpAny_pure h
theorem fm_congr {α β : Type} {f g : α → Option β} : ∀ l : List α, (∀ x ∈ l, f x = g x) → l.filterMap f = l.filterMap g
  | [], _ => rfl
  | a :: l, h => by rw [List.filterMap_cons, List.filterMap_cons, h a (by simp), fm_congr l fun x hx => h x (by simp [hx])]
theorem pick_rev (xs : Array Value) : ((List.range xs.size).filterMap fun (m : Nat) => xs[((xs.size : Int) - 1 + (m : Int) * -1).toNat]?).toArray = xs.toList.reverse.toArray := by
  have e : (List.range xs.size).filterMap (fun (m : Nat) => xs[((xs.size : Int) - 1 + (m : Int) * -1).toNat]?) = ((List.range xs.size).map fun k => xs.size - 1 - k).filterMap (xs[·]?) := by
    rw [List.filterMap_map]
    refine fm_congr _ fun m hm => ?_
    have hm := List.mem_range.mp hm
    have : ((xs.size : Int) - 1 + (m : Int) * -1).toNat = xs.size - 1 - m := by omega
    rw [this]
    rfl
  rw [e, PySem.W.krv_range, List.filterMap_reverse, PySem.W.krv_all]
theorem getItem_tuple_rev {t sl : Addr} {items : Array Value} {vl vu vs : Value} {Q : Value → Shared → Prop} (ht : IsTup s.heap t items) (hs : s.heap.IsSliceOf sl vl vu vs) (pl : IsPart vl none) (pu : IsPart vu none) (ps : IsPart vs (some (-1)))
    (h : Q (.ref s.heap.objs.size) { s with heap := s.heap.push { cls := .type "tuple", data := .seq items.toList.reverse.toArray } })
    (hsz : items.size ≤ sizeLine) : wpAny (model prog w) A (getItem (.ref t) (.ref sl)) Q E s := by
  have htake : sizeOk (.seq items.toList.reverse.toArray) := by
    show items.toList.reverse.toArray.size ≤ sizeLine
    rw [List.size_toArray, List.length_reverse, Array.length_toList]
    exact hsz
  obtain ⟨os, hos, hcs, hds⟩ := id hs
  have hTs : s.TypeIs (.ref sl) "slice" := ⟨os, hos, hcs⟩
  unfold getItem
  try with_reducible refine wpAny_holding ?_
  first | refine wpAny_bind (wpAny_pure ?_) | skip
  refine wpAny_bind (wpAny_sequenceKey ht.typeIs (by decide) ?_)
  refine wpAny_bind (wpAny_callSpecial?_slot (name := Str.ofString "__getitem__") ht.typeIs PyProof.Rows.slot_tuple_getitem (wpAny_call_entry PyProof.Rows.slot_tuple_getitem ht.typeIs entry_tuple_getitem ?_ (args_tuple_getitem _ _)))
  show wpAny _ _ (Builtin.Tuple.tupleItemsOf (.ref t) >>= _) _ _ s
  refine wpAny_bind (tupleItemsOf_ ht ?_)
  refine wpAny_bind (wpAny_typeOf hTs ?_)
  rw [if_pos (by decide)]
  refine wpAny_bind (applied_rev hs pl pu ps ?_)
  have hno : ¬ ((((items.size : Int) - 1 : Int) == 0 && (-1 : Int) == 1 && items.size == items.size) = true) := by
    intro q
    rw [Bool.and_eq_true, Bool.and_eq_true] at q
    exact absurd q.1.2 (by decide)
  show wpAny _ _ (if (((items.size : Int) - 1 : Int) == 0 && (-1 : Int) == 1 && items.size == items.size) = true then _ else _) _ _ s
  rw [if_neg hno, pick_rev]
  first
    | exact wpAny_bind (m := Builtin.Tuple.tupleExact _) (wpAny_newObj_type (wpAny_pure ⟨_, rfl, wpAny_pure h⟩) htake)
    | exact wpAny_bind (m := Builtin.Tuple.tupleExact _) (wpAny_newObj_type (wpAny_bind (wpAny_pure (wpAny_pure ⟨_, rfl, wpAny_pure h⟩))) htake)
    | exact wpAny_bind (wpAny_bind (m := Builtin.Tuple.tupleExact _) (wpAny_newObj_type (wpAny_pure (wpAny_pure ⟨_, rfl, wpAny_pure h⟩)) htake))
    | exact wpAny_bind (wpAny_bind (m := Builtin.Tuple.tupleExact _) (wpAny_newObj_type (wpAny_pure ⟨_, rfl, wpAny_pure h⟩) htake))
end
section
variable {X : Cx}
def tRevA (K : PySem.W.Frag) (te : TE) : TE := fun σ H Q => te σ H fun x H1 => ∃ a xs, x = .ref a ∧ ((SqL K H1 a xs ∧ ∀ p, H1 p = none → Q (.ref p) (upd H1 p (.lst xs.reverse))) ∨ (SqT K H1 a xs ∧ ∀ p, H1 p = none → Q (.ref p) (upd H1 p (.tup xs.reverse))))
theorem pe_revA {e : Expr} {te : TE} {k : Nat} {p1 p2 p3 pos : Pos} (he : PE X e te) : PE X (.Subscript e (.Slice none none (some (.UnaryOp .USub (.Constant (.int 1) k p1) p2)) p3) pos) (tRevA X.K te) := by
  refine ⟨fun pins s σ H Q I h => ?_⟩
  refine Subscript_ (thn (he.run pins s σ H _ I h) fun v s1 ⟨x, H1, I1, r1, q1⟩ => ?_)
  obtain ⟨a, xs, ex, q⟩ := q1
  subst ex
  cases r1
  have hst : PO X (some (.UnaryOp .USub (.Constant (.int 1) k p1) p2)) (tPart (tUn (rU fun i => .int (-i)) (tC (.int 1)))) := po_some (pe_un un_neg pe_int)
  refine wpAny_Slice (thn (po_none.run pins s1 σ H1 (fun o H2 => o = none ∧ H2 = H1) I1 ⟨rfl, rfl⟩) fun vl s2 ⟨l, H2, I2, pl, el, e2⟩ => ?_)
  subst el e2
  refine thn (po_none.run pins s2 σ H2 (fun o H3 => o = none ∧ H3 = H2) I2 ⟨rfl, rfl⟩) fun vu s3 ⟨u, H3, I3, pu, eu, e3⟩ => ?_
  subst eu e3
  refine thn (hst.run pins s3 σ H3 (fun o H4 => o = some (-1) ∧ H4 = H3) I3 ⟨1, rfl, -1, rfl, rfl, rfl⟩) fun vs s4 ⟨o, H4, I4, ps, eo, e4⟩ => ?_
  subst eo e4
  have I5 : Inv X pins σ H4 { s4 with heap := s4.heap.push { cls := .type "slice", data := .fields #[vl, vu, vs] } } := I4.kept (t' := s4.toks) fun b ob q => Heap.get?_push_of_some _ q
  show wpAny (model X.prog X.w) X.A (subscriptTail e (.Slice none none (some (.UnaryOp .USub (.Constant (.int 1) k p1) p2)) p3) (.ref a) (.ref s4.heap.objs.size)) (EP X pins σ Q) X.xe { s4 with heap := s4.heap.push { cls := .type "slice", data := .fields #[vl, vu, vs] } }
  rcases q with ⟨hx, q⟩ | ⟨hx, q⟩
  · obtain ⟨its, r, ht, hz⟩ := I5.list hx
    have hlen := r.length
    refine tail_any (ops := [.ref a, .ref s4.heap.objs.size]) ht.isList.typeIs (PySem.slot_list_getitem.lookup) ?_ (by with_unfolding_all rfl)
    refine wpAny_getItem_list_slice ht.isList (Heap.IsSliceOf.new _ vl vu vs) pl pu ps (by decide) ?_ (by rw [List.size_toArray]; omega)
    rw [PySem.W.krv_pick]
    exact ⟨.ref _, _, I5.laid (t' := s4.toks) (o := .lst xs.reverse) (fun b ob q => Heap.get?_push_of_some _ q) (Nat.le_refl _) ⟨by rw [List.length_reverse]; exact hz, _, 0, r.reverse, Heap.get?_push_size _ rfl⟩, rfl, q _ (I5.hok.fresh (Nat.le_refl _))⟩
  · obtain ⟨its, r, ht, hz⟩ := I5.tuple hx
    have hlen := r.length
    refine tail_any (ops := [.ref a, .ref s4.heap.objs.size]) ht.typeIs (PyProof.Rows.slot_tuple_getitem.lookup) ?_ (by with_unfolding_all rfl)
    refine getItem_tuple_rev ht (Heap.IsSliceOf.new _ vl vu vs) pl pu ps ?_ (by rw [List.size_toArray]; omega)
    exact ⟨.ref _, _, I5.laid (t' := s4.toks) (o := .tup xs.reverse) (fun b ob q => Heap.get?_push_of_some _ q) (Nat.le_refl _) ⟨by rw [List.length_reverse]; exact hz, _, r.reverse, IsTup.new _ _⟩, rfl, q _ (I5.hok.fresh (Nat.le_refl _))⟩
def tLenSetT (K : PySem.W.Frag) (ta : TE) : TE := fun σ H Q => ta σ H fun x H1 => ∃ (l : Addr) (ns : List Int), x = V.ref l ∧ SqT K H1 l (ns.map V.int) ∧ ns.length ≤ 1000 ∧ ∀ out : List Int, out.Nodup → (∀ k, k ∈ out ↔ k ∈ ns) → Q (.int out.length) H1
theorem pe_lenSetT {a : Expr} {ta : TE} {p p2 q pos : Pos} (hg : Gl X "len") (hm : X.mg "len" = none) (hg2 : Gl X "set") (hm2 : X.mg "set" = none) (ha : PE X a ta) (hc : X.calm = true)
    (na : starEach [a] X.env = (false, eval a X.env) :: starEach [] X.env) : PE X (.Call (.Name "len" p) [.Call (.Name "set" p2) [a] [] q] [] pos) (tLenSetT X.K ta) := by
  refine ⟨fun pins s σ H Q I h => Call_ (ld_blt I hg hm boot_len (PyProof.Rows.callWith_builtin1 (PyProof.Rows.args_cons (Call_ (ld_blt I hg2 hm2 boot_set (PyProof.Rows.callWith_type1 (PyProof.Rows.args_cons (thn (ha.run pins s σ H _ I h) fun v s1 ⟨x, H1, I1, r1, q1⟩ => PyProof.Rows.args_nil ?_) na) na rfl))) rfl) rfl rfl))⟩
  obtain ⟨l, ns, rfl, hq, hl, q1⟩ := q1
  cases r1
  obtain ⟨its, rv, pt, hz⟩ := I1.tuple hq
  have hi : IntsAre its.toArray.toList ns := ints_of_vals rv
  refine call_set_tupI ns (I1.ok.hd hc) (show s1.heap.IsTuple l its.toArray from pt) hi (by unfold scanBound; omega) fun h' tk c R1 hcn k => ?_
  refine PyProof.Rows.args_nil ?_
  obtain ⟨o, es, ep, t, ho, hex, hdt, g, nd, hm2, hb, hf, hn, hr, hl2⟩ := R1
  have I2 : Inv X pins σ H1 { s1 with heap := h', toks := tk } := I1.kept fun b o e => k b o e
  have hsz : es.size < 2 ^ 63 := by rw [hn]; omega
  refine call_len_set ho hex hdt hf (by omega) ⟨.int es.size, H1, I2.tok _, ⟨_, rfl⟩, ?_⟩
  have hlen : (es.size : Int) = ((es.toList.map keyOf).length : Nat) := by rw [List.length_map, Array.length_toList]
  rw [hlen]
  exact q1 (es.toList.map keyOf) nd fun j => by rw [← hm2 j, decide_eq_true_eq]
end
end Z

set_option Elab.async false
set_option linter.all false
set_option maxRecDepth 100000
set_option maxHeartbeats 4000000
namespace Z
open PySem PySem.Spec PyProof.Rows L2

structure Cc where
  N : List Str
  sc : Scope
  fn : Str → Bool
  dfs : List Str
  xs : List Str
  xr : List Str
  hot : List Str
  ms : List (Str × Str × Str)
  mks : List (Str × Str × Nat)
  calm : Bool
def plainE : Expr → Bool
  | .Starred _ _ => false
  | .Slice _ _ _ _ => false
  | .Set _ _ _ => false
  | _ => true
def lcE : Expr → Bool
  | .ListComp _ _ _ _ => true
  | .SetComp _ _ _ _ => true
  | .DictComp _ _ _ _ _ => true
  | _ => false
def callE : Expr → Bool
  | .Call _ [] _ _ => true
  | _ => false
def isGl (c : Cc) (x : Str) : Bool := decide (c.sc.names.lookup x = some .globalImplicit) && decide (x ≠ "__debug__") && decide (x ≠ "__name__")
def visB (c : Cc) (x : Str) : Bool := (decide (c.sc.names.lookup x = some .local) || decide (c.sc.names.lookup x = some .cell) || decide (c.sc.names.lookup x = some .free)) && decide (x ≠ "__debug__") && decide (x ≠ "__classdict__")
def locB (c : Cc) (x : Str) : Bool := decide (c.sc.names.lookup x = some .local) || (decide (c.sc.names.lookup x = some .cell) && c.fn x)
def blkCc (c : Cc) (scope : Scope) : Cc := { c with sc := relS scope c.sc, fn := fun x => scope.names.lookup x == some .cell }
mutual
def chkG (c : Cc) : Tg → Expr → Bool
  | .nm i, e => match e with
    | .Name x _ => decide (c.N[i]? = some x) && locB c x
    | _ => false
  | .tup gs, e => match e with
    | .Tuple es _ _ => chkGs c gs es && c.calm
    | _ => false
def chkGs (c : Cc) : List Tg → List Expr → Bool
  | [], es => match es with
    | [] => true
    | _ => false
  | g :: gs, es => match es with
    | [] => false
    | e :: es => chkG c g e && chkGs c gs es
end
def ownG (vs : List Nat) : Tg → Bool
  | .nm i => vs.contains i
  | .tup gs => ownGs vs gs
where ownGs (vs : List Nat) : List Tg → Bool
  | [] => true
  | g :: gs => ownG vs g && ownGs vs gs
def tyNames : List String := ["tuple", "str", "int", "bool", "list", "dict"]
mutual
def chkE (c : Cc) : T → Expr → Bool
  | .var i, e => match e with
    | .Name x _ => decide (c.N[i]? = some x) && visB c x
    | _ => false
  | .int i, e => match e with
    | .Constant (.int j) _ _ => decide (i = j)
    | _ => false
  | .bl i, e => match e with
    | .Constant (.bool j) _ _ => decide (i = j)
    | _ => false
  | .non, e => match e with
    | .Constant .none _ _ => true
    | _ => false
  | .str i, e => match e with
    | .Constant (.str j) _ _ => decide (i = j)
    | _ => false
  | .glob x, e => match e with
    | .Name y _ => decide (x = y) && isGl c y
    | _ => false
  | .bty x, e => match e with
    | .Name y _ => decide (y = Str.ofString x) && isGl c y && tyNames.contains x
    | _ => false
  | .bin op a b, e => match e with
    | .BinOp x op2 y _ => decide (op = op2) && chkE c a x && chkE c b y
    | _ => false
  | .neg a, e => match e with
    | .UnaryOp .USub x _ => chkE c a x
    | _ => false
  | .cmp op a b, e => match e with
    | .Compare x [op2] [y] _ => decide (op = op2) && chkE c a x && chkE c b y && plainE y
    | _ => false
  | .chain op op2 a b d, e => match e with
    | .Compare x [o1, o2] [y, z] _ => decide (op = o1) && decide (op2 = o2) && chkE c a x && chkE c b y && chkE c d z && plainE y && plainE z
    | _ => false
  | .bop op ts, e => match e with
    | .BoolOp op2 es _ => decide (op = op2) && chkEs c ts es
    | _ => false
  | .nt a, e => match e with
    | .UnaryOp .Not x _ => chkE c a x
    | _ => false
  | .ite d a b, e => match e with
    | .IfExp x y z _ => chkE c d x && chkE c a y && chkE c b z
    | _ => false
  | .tup ts, e => match e with
    | .Tuple es _ _ => chkEs c ts es
    | _ => false
  | .lst ts, e => match e with
    | .List es _ => chkEs c ts es
    | _ => false
  | .sub a i, e => match e with
    | .Subscript x y _ => chkE c a x && chkE c i y && plainE y
    | _ => false
  | .slice a lo hi, e => match e with
    | .Subscript x (.Slice l h none _) _ => chkE c a x && chkO c lo l && chkO c hi h
    | _ => false
  | .call f ts, e => match e with
    | .Call (.Name g _) es [] _ => decide (f = g) && isGl c g && chkEs c ts es && c.dfs.contains f && (kwT f).isNone && (c.calm || (c.hot.contains f && !es.isEmpty))
    | _ => false
  | .callK f ts ks us, e => match e with
    | .Call (.Name g _) es kws _ => decide (f = g) && isGl c g && chkEs c ts es && !es.isEmpty && chkKw c us ks kws && c.dfs.contains f && decide (kwT f = some (ts.length, ks)) && c.calm
    | _ => false
  | .blt b ts, e => match e with
    | .Call (.Name g _) es [] _ => (decide (b.fn.map Str.ofString = some g) || decide (b.tyn.map Str.ofString = some g)) && isGl c g && chkEs c ts es && !es.isEmpty && c.calm
    | _ => false
  | .lrev a, e => match e with
    | .Call (.Name g _) [.Call (.Name f _) [x] [] _] [] _ => decide (g = "list") && decide (f = "reversed") && isGl c g && isGl c f && chkE c a x && plainE x && c.calm
    | _ => false
  | .lzip a b, e => match e with
    | .Call (.Name g _) [.Call (.Name f _) [x, y] [] _] [] _ => decide (g = "list") && decide (f = "zip") && isGl c g && isGl c f && chkE c a x && plainE x && chkE c b y && plainE y && c.calm
    | _ => false
  | .lset a, e => match e with
    | .Call (.Name g _) [.Call (.Name f _) [x] [] _] [] _ => decide (g = "len") && decide (f = "set") && isGl c g && isGl c f && chkE c a x && plainE x && c.calm
    | _ => false
  | .lrng a, e => match e with
    | .Call (.Name g _) [.Call (.Name f _) [x] [] _] [] _ => decide (g = "list") && decide (f = "range") && isGl c g && isGl c f && chkE c a x && plainE x && c.calm
    | _ => false
  | .mth m a ts, e => match e with
    | .Call (.Attribute o x apos) es [] cpos => decide (x = Str.ofString m.nm) && chkE c a o && chkEs c ts es && !callE o && (apos.endLine == cpos.line) && decide (es.length < 30)
    | _ => false
  | .lc g it ifs own d, e => match e with
    | .ListComp elt [⟨tg, iter, ifz, 0⟩] scope _ => chkI c it iter tg && blkC c.N c.sc scope own && chkG (blkCc c scope) g tg && ownG (own.map (·.2)) g && chkEs (blkCc c scope) ifs ifz && chkE (blkCc c scope) d elt && plainE iter && c.calm
    | _ => false
  | .dct ks vs, e => match e with
    | .Dict kz vz _ => chkKs ks kz && chkEs c vs vz && decide (kz.length = vz.length) && !kz.isEmpty && decide (kz.length ≤ 15)
    | _ => false
  | .isx a m, e => match e with
    | .Call (.Name g _) [x, .Name y _] [] _ => decide (g = "isinstance") && decide (y = m) && isGl c g && isGl c y && chkE c a x && plainE x && xnames.contains m && c.xs.contains m
    | _ => false
  | .atr a f, e => match e with
    | .Attribute x y _ => decide (y = f) && chkE c a x && !callE x && xflds.contains f
    | _ => false
  | .back a, e => match e with
    | .Subscript x (.Slice none none (some (.UnaryOp .USub (.Constant (.int 1) _ _) _)) _) _ => chkE c a x
    | _ => false
  | .new q cn ts, e => match e with
    | .Call (.Name g _) es [] _ => decide (g = cn) && isGl c g && chkEs c ts es && c.mks.contains (q, cn, ts.length) && c.calm
    | _ => false
  | .fld a f, e => match e with
    | .Attribute x y _ => decide (y = f) && chkE c a x && !callE x && cflds.contains f
    | _ => false
  | .eqo q cn a b, e => match e with
    | .Compare x [.Eq] [y] _ => chkE c a x && chkE c b y && plainE y && c.ms.contains (q, cn, "__eq__") && c.calm
    | _ => false
  | .lno q cn a, e => match e with
    | .Call (.Name g _) [x] [] _ => decide (g = "len") && isGl c g && chkE c a x && plainE x && c.ms.contains (q, cn, "__len__") && c.calm
    | _ => false
  | .rpo q cn a, e => match e with
    | .Call (.Name g _) [x] [] _ => decide (g = "repr") && isGl c g && chkE c a x && plainE x && c.ms.contains (q, cn, "__repr__") && c.calm
    | _ => false
  | .fs2 x0 a y0 b z0, e => match e with
    | .JoinedStr [.Constant (.str t0) _ _, .FormattedValue x (-1) none _, .Constant (.str t1) _ _, .FormattedValue y (-1) none _, .Constant (.str t2) _ _] _ => decide (t0 = x0) && decide (t1 = y0) && decide (t2 = z0) && decide (x0.length + y0.length + z0.length ≤ 1000) && chkE c a x && chkE c b y
    | _ => false
  | .newK q cn ts ks us, e => match e with
    | .Call (.Name g _) es kws _ => decide (g = cn) && isGl c g && chkEs c ts es && !es.isEmpty && chkKw c us ks kws && c.mks.contains (q, cn, ts.length + ks.length) && decide (mkT q = some (ts.length, ks)) && c.calm
    | _ => false
  | .isc a m, e => match e with
    | .Call (.Name g _) [x, .Name y _] [] _ => decide (g = "isinstance") && decide (y = m) && isGl c g && isGl c y && chkE c a x && plainE x && c.mks.any (fun p => decide (p.2.1 = m))
    | _ => false
  | .meth q cn m a ts, e => match e with
    | .Call (.Attribute o x apos) es [] cpos => decide (x = m) && chkE c a o && chkEs c ts es && !callE o && (apos.endLine == cpos.line) && decide (es.length < 30) && c.ms.contains (q, cn, m) && c.calm
    | _ => false
def chkEs (c : Cc) : List T → List Expr → Bool
  | [], es => match es with
    | [] => true
    | _ => false
  | t :: ts, es => match es with
    | [] => false
    | e :: es => chkE c t e && plainE e && chkEs c ts es
def chkKw (c : Cc) : List T → List Str → List Keyword → Bool
  | [], ks, kws => ks.isEmpty && kws.isEmpty
  | u :: us, ks, kws => match ks, kws with
    | k :: ks, ⟨some n, e, _⟩ :: kws => decide (k = n) && chkE c u e && chkKw c us ks kws
    | _, _ => false
def chkO (c : Cc) : Option T → Option Expr → Bool
  | none, e => e.isNone
  | some t, e => match e with
    | some e => chkE c t e
    | none => false
def chkI (c : Cc) : Ti → Expr → Expr → Bool
  | .seq t, e, _ => chkE c t e
  | .rng1 t, e, _ => match e with
    | .Call (.Name g _) [x] [] _ => decide (g = "range") && isGl c g && chkE c t x && plainE x
    | _ => false
  | .rng2 t u, e, _ => match e with
    | .Call (.Name g _) [x, y] [] _ => decide (g = "range") && isGl c g && chkE c t x && plainE x && chkE c u y && plainE y
    | _ => false
  | .enm t, e, tg => match tg with
    | .Tuple _ _ _ => (match e with
      | .Call (.Name g _) [x] [] _ => decide (g = "enumerate") && isGl c g && chkE c t x && plainE x
      | _ => false)
    | _ => false
  | .zip t u, e, tg => match tg with
    | .Tuple _ _ _ => (match e with
      | .Call (.Name g _) [x, y] [] _ => decide (g = "zip") && isGl c g && chkE c t x && plainE x && chkE c u y && plainE y
      | _ => false)
    | _ => false
  | .rev t, e, _ => match e with
    | .Call (.Name g _) [x] [] _ => decide (g = "reversed") && isGl c g && chkE c t x && plainE x
    | _ => false
def chkKs : List Str → List (Option Expr) → Bool
  | [], es => match es with
    | [] => true
    | _ => false
  | k :: ks, es => match es with
    | some (.Constant (.str j) _ _) :: es => decide (k = j) && chkKs ks es
    | _ => false
end
def chkNames (c : Cc) : List Nat → List Expr → Bool
  | [], es => match es with
    | [] => true
    | _ => false
  | a :: is, es => match es with
    | .Name x _ :: r => decide (c.N[a]? = some x) && locB c x && chkNames c is r
    | _ => false
def chkStar (c : Cc) (i : Nat) (js : List Nat) : List Nat → List Expr → Bool
  | [], es => match es with
    | .Starred (.Name x _) _ :: r => decide (c.N[i]? = some x) && locB c x && chkNames c js r
    | _ => false
  | a :: is, es => match es with
    | .Name x _ :: r => decide (c.N[a]? = some x) && locB c x && chkStar c i js is r
    | _ => false
mutual
def chkS (c : Cc) : TS → Stmt → Bool
  | .ex t, s => match s with
    | .Expr e _ => chkE c t e && !lcE e
    | _ => false
  | .asg g t, s => match s with
    | .Assign [tg] e p => chkG c g tg && chkE c t e && (match tg with
      | .Name x q => !lcE e || decide (c.sc.names.lookup x = some .cell) || (decide (c.sc.names.lookup x = some .local) && (match e with | .ListComp _ _ scope q2 => (q.line == q2.line) && !(scope.names.any fun (n, k) => n == x && (k == .local || k == .cell)) | _ => false))
      | .Tuple _ _ _ => !lcE e && (match e with | .Tuple _ _ _ => false | _ => true)
      | _ => false)
    | _ => false
  | .par i j t u, s => match s with
    | .Assign [.Tuple [.Name x q, .Name y q2] _ _] (.Tuple [a, b] _ _) _ => decide (c.N[i]? = some x) && decide (c.N[j]? = some y) && decide (i ≠ j) && decide (x ≠ y) && decide (c.sc.names.lookup x = some .local) && decide (c.sc.names.lookup y = some .local) && chkEs c [t, u] [a, b]
        && (q.line == q2.line) && !(foldedForSure 8 a && foldedForSure 8 b) && !(constantsAlone 8 a && constantsAlone 8 b) && c.calm
    | _ => false
  | .par3 i j l t u v, s => match s with
    | .Assign [.Tuple [.Name x q, .Name y q2, .Name z q3] _ _] (.Tuple [a, b, d] _ _) _ => decide (c.N[i]? = some x) && decide (c.N[j]? = some y) && decide (c.N[l]? = some z) && decide (i ≠ j) && decide (i ≠ l) && decide (j ≠ l) && decide (x ≠ y) && decide (x ≠ z) && decide (y ≠ z)
        && decide (c.sc.names.lookup x = some .local) && decide (c.sc.names.lookup y = some .local) && decide (c.sc.names.lookup z = some .local) && chkEs c [t, u, v] [a, b, d]
        && (q.line == q2.line) && (q.line == q3.line) && !(foldedForSure 8 a && foldedForSure 8 b && foldedForSure 8 d) && !(constantsAlone 8 a && constantsAlone 8 b && constantsAlone 8 d) && c.calm
    | _ => false
  | .star is i js t, s => match s with
    | .Assign [.Tuple es _ _] e _ => chkStar c i js is es && chkE c t e && !lcE e && (match e with | .Tuple _ _ _ => false | _ => true) && c.calm
    | _ => false
  | .set a i t, s => match s with
    | .Assign [.Subscript o k _] e _ => chkE c a o && chkE c i k && plainE k && chkE c t e && !lcE e
    | _ => false
  | .setf a f t, s => match s with
    | .Assign [.Attribute o x _] e _ => decide (x = f) && chkE c a o && chkE c t e && !lcE e && cflds.contains f
    | _ => false
  | .aug op i t, s => match s with
    | .AugAssign (.Name x _) op2 e _ => decide (op = op2) && decide (c.N[i]? = some x) && locB c x && chkE c t e
    | _ => false
  | .ife t a b, s => match s with
    | .If e x y _ => chkE c t e && chkSs c a x && chkSs c b y
    | _ => false
  | .whil t b, s => match s with
    | .While e x [] _ => chkE c t e && chkSs c b x
    | _ => false
  | .fr g it b, s => match s with
    | .For tg iter x [] _ => chkI c it iter tg && chkG c g tg && chkSs c b x && plainE iter && c.calm
    | _ => false
  | .ret t, s => match s with
    | .Return (some e) _ => chkE c t e
    | _ => false
  | .retN, s => match s with
    | .Return none _ => true
    | _ => false
  | .pass, s => match s with
    | .Pass _ => true
    | _ => false
  | .brk, s => match s with
    | .Break _ => true
    | _ => false
  | .cont, s => match s with
    | .Continue _ => true
    | _ => false
  | .never, _ => true
  | .rais n ts, s => match s with
    | .Raise (some (.Call (.Name g _) es [] _)) none _ => decide (g = n) && isGl c g && chkEs c ts es && !es.isEmpty && c.xr.contains n && c.calm
    | _ => false
  | .tryx b m i h, s => match s with
    | .Try body [.ExceptHandler (some (.Name x _)) (some n) (b0 :: suite) _] [] [] _ => decide (x = m) && isGl c x && decide (c.N[i]? = some n) && decide (c.sc.names.lookup n = some .local) && chkSs c b body && chkSs { c with calm := false } h (b0 :: suite) && xnames.contains m && c.xs.contains m && c.calm
    | _ => false
def chkSs (c : Cc) : List TS → List Stmt → Bool
  | [], es => match es with
    | [] => true
    | _ => false
  | t :: ts, es => match es with
    | [] => false
    | e :: es => chkS c t e && chkSs c ts es
end
end Z

set_option Elab.async false
set_option linter.all false
set_option maxRecDepth 100000
set_option maxHeartbeats 4000000
namespace Z
open PySem PySem.Spec PyProof.Rows L2

def RelX (K : PySem.W.Frag) (w : World) (H : Hp) (x : Exc) (cls : Value) (d : Option Addr) : Prop := ∃ C da vs, cls = .ref C ∧ XCls K x.cls C ∧ d = some da ∧ H da = some (.xd (x.ns.zip vs)) ∧ RelDs K w H x.ds vs
def ExK (K : PySem.W.Frag) (w : World) (H : Hp) (S : Sto) (ex : EX) (W : WX) : Prop := ∀ x σd S', ex x σd S' → ∀ σ H' cls d, Fm H S H' S' → RelSt K w H' σd σ → RelX K w H' x cls d → HR K w H' S' → W cls d σ H'
theorem ExK.next {K : PySem.W.Frag} {w : World} {H H' : Hp} {S S' : Sto} {ex : EX} {W : WX} (k : ExK K w H S ex W) (f : Fm H S H' S') : ExK K w H' S' ex W := fun x σd S2 h σ H2 cls d f2 => k x σd S2 h σ H2 cls d (f.trans f2)
abbrev W0 : WX := fun _ _ _ _ => False
def tD (K : PySem.W.Frag) (w : World) (W : WX) (ex : EX) (f : WE) : TE := fun σ H Q => ∃ σd S R, RelSt K w H σd σ ∧ HR K w H S ∧ ExK K w H S ex W ∧ f σd S R ∧ Kont K w H S R Q
def tDT (K : PySem.W.Frag) (w : World) (W : WX) (ex : EX) (f : WT) : TT := fun σ H Q => ∃ σd S R, RelSt K w H σd σ ∧ HR K w H S ∧ ExK K w H S ex W ∧ f σd S R ∧ ∀ b S', R b S' → ∀ H', Fm H S H' S' → HR K w H' S' → Q b H'
def tDA (K : PySem.W.Frag) (w : World) (W : WX) (ex : EX) (f : WA) : TA := fun σ H Q => ∃ σd S R, RelSt K w H σd σ ∧ HR K w H S ∧ ExK K w H S ex W ∧ f σd S R ∧ ∀ ds S', R ds S' → ∀ vs H', Fm H S H' S' → RelDs K w H' ds vs → HR K w H' S' → Q vs H'
def spD (K : PySem.W.Frag) (w : World) (np : Nat) (f : List D → Sto → (D → Sto → Prop) → (Exc → Sto → Prop) → Prop) : Sp := fun vs H Q E => ∃ ds S R RX, ds.length = np ∧ RelDs K w H ds vs ∧ HR K w H S ∧ f ds S R RX ∧ Kont K w H S R Q ∧
  ∀ x S', RX x S' → ∀ cls d H', Fm H S H' S' → RelX K w H' x cls d → HR K w H' S' → E cls d H'
def bnames : List String := ["len", "isinstance", "max", "min", "abs", "all", "any", "sum", "tuple", "list", "int", "str", "bool", "dict", "range", "enumerate", "zip", "reversed", "set", "repr", "sorted"]
structure XOk (defs : Str → Option DefT) (gl : Str → Option D) (k : Nat) (c : Cc) (W : WX) (X : Cx) : Prop where
  cal : ∀ f d, c.dfs.contains f = true → kwT f = none → defs f = some d → ∃ fa fd ps, X.mg f = some (.ref fa) ∧ PySem.W.keepIn X.K (.ref fa) = true ∧ Binds X.K fd ps [] ∧ ps.length = d.np ∧ FnG X.prog X.w X.K X.mg X.base (L2.CX X.prog X.w) (2 * k + 2) fa fd ps (spD X.K X.w d.np (sem defs gl k f))
  calK : ∀ f d n ks, c.dfs.contains f = true → kwT f = some (n, ks) → defs f = some d → ∃ fa fd ps, X.mg f = some (.ref fa) ∧ PySem.W.keepIn X.K (.ref fa) = true ∧ KBn X.K fd ps n ks (fun us ws => us ++ ws) (fun vs zs => vs ++ zs) ∧ ps.length = d.np ∧ FnG X.prog X.w X.K X.mg X.base (L2.CX X.prog X.w) (2 * k + 2) fa fd ps (spD X.K X.w d.np (sem defs gl k f))
  calH : ∀ f d, c.hot.contains f = true → defs f = some d → ∃ fa fd ps, X.mg f = some (.ref fa) ∧ PySem.W.keepIn X.K (.ref fa) = true ∧ Binds X.K fd ps [] ∧ ps.length = d.np ∧ FnQ X.prog X.w X.K X.mg X.base (L2.CX X.prog X.w) (2 * k + 2) fa fd ps (spD X.K X.w d.np (sem defs gl k f))
  xs : ∀ m, c.xs.contains m = true → ∃ M, X.mg m = some (.ref M) ∧ PySem.W.nsIn X.K mainGlobals m = some (some (.ref M))
  xr : ∀ n, c.xr.contains n = true → ∃ ns C fI fd, xcl n = some ns ∧ RFact X.K X.mg n ns C fI fd
  ms : ∀ q cn m, c.ms.contains (q, cn, m) = true → ∃ d C f fd ps, defs q = some d ∧ ClsF X.K cn C ∧ Meth X.K C m f ∧ Binds X.K fd ps [] ∧ ps.length = d.np ∧ FnG X.prog X.w X.K X.mg X.base (L2.CX X.prog X.w) (2 * k + 2) f fd ps (spD X.K X.w d.np (sem defs gl k q))
  mks : ∀ q cn n, c.mks.contains (q, cn, n) = true → ∃ d C f fd ps dz dvs, defs q = some d ∧ ClsF X.K cn C ∧ X.mg cn = some (.ref C) ∧ Mk X.K C f ∧ Binds X.K fd ps dz ∧ Vals dvs dz ∧ (∀ H, RelDs X.K X.w H (padT q n) dvs) ∧ ps.length = d.np ∧ FnG X.prog X.w X.K X.mg X.base (L2.CX X.prog X.w) (2 * k + 2) f fd ps (spD X.K X.w d.np (sem defs gl k q))
  mkk : ∀ q cn n ks, mkT q = some (n, ks) → c.mks.contains (q, cn, n + ks.length) = true → ∃ d C f fd ps, defs q = some d ∧ ClsF X.K cn C ∧ X.mg cn = some (.ref C) ∧ Mk X.K C f ∧ KBn X.K fd ps (n + 1) ks (fun us ws => us ++ ws) (fun vs zs => vs ++ zs) ∧ ps.length = d.np ∧ FnG X.prog X.w X.K X.mg X.base (L2.CX X.prog X.w) (2 * k + 2) f fd ps (spD X.K X.w d.np (sem defs gl k q))
  gls : ∀ x d, gl x = some d → ∃ u v, X.mg x = some u ∧ RelV v u ∧ ∀ H, RelD X.K X.w H d v
  blt : ∀ n ∈ bnames, X.mg (Str.ofString n) = none
  hN : X.N = c.N
  hsc : X.env.scope = c.sc
  hfn : X.fn = c.fn
  room : RoomHG (2 * k + 3) X.A
  hand : c.calm = true → X.A.handled = none
  calm : c.calm = true → X.calm = true
  tk : Takes X W
  po : PassesOwn (model X.prog X.w) X.A X.env X.xe
  nd : c.N.Nodup
  hdf : ∀ f, c.dfs.contains f = true → ∃ d, defs f = some d

section
variable {X : Cx} {c : Cc} {W : WX} {defs : Str → Option DefT} {gl : Str → Option D} {k : Nat}
theorem XOk.hu (o : XOk defs gl k c W X) : X.A.units + 64 < cLine := by have := o.room.rm.un; omega
theorem XOk.rm1 (o : XOk defs gl k c W X) (h : c.calm = true) : RoomG (2 * k + 2 + 1) X.A := ⟨⟨o.hand h, o.room.rm.dp, o.room.rm.un⟩, o.room.gd⟩
theorem XOk.rm (o : XOk defs gl k c W X) (h : c.calm = true) : RoomG (2 * k + 2) X.A := (o.rm1 h).mono (Nat.le_succ _)
theorem XOk.rmH (o : XOk defs gl k c W X) : RoomHG (2 * k + 2) X.A := o.room.mono (Nat.le_succ _)
theorem XOk.hu1 (o : XOk defs gl k c W X) : X.A.units + 1 < cLine := Nat.lt_of_le_of_lt (Nat.add_le_add_left (by decide : 1 ≤ 64) _) o.hu
theorem XOk.gl_of (o : XOk defs gl k c W X) {x : Str} (h : isGl c x = true) : Gl X x ∧ (x == ("__debug__" : Str)) = false ∧ x ≠ "__name__" := by
  unfold isGl at h
  simp only [Bool.and_eq_true, decide_eq_true_eq] at h
  obtain ⟨⟨h1, h2⟩, h3⟩ := h
  refine ⟨?_, by simpa using h2, h3⟩
  show X.env.scope.names.lookup x = _
  rw [o.hsc]
  exact h1
theorem XOk.vis_of (o : XOk defs gl k c W X) {x : Str} (h : visB c x = true) : Vis X.env.scope x ∧ (x == ("__debug__" : Str)) = false ∧ (x == ("__classdict__" : Str)) = false := by
  unfold visB at h
  simp only [Bool.and_eq_true, Bool.or_eq_true, decide_eq_true_eq] at h
  obtain ⟨⟨h1, h2⟩, h3⟩ := h
  refine ⟨?_, by simpa using h2, by simpa using h3⟩
  unfold Vis
  rw [o.hsc]
  rcases h1 with (h1 | h1) | h1
  · exact .inl h1
  · exact .inr (.inl h1)
  · exact .inr (.inr h1)
theorem XOk.loc_of (o : XOk defs gl k c W X) {x : Str} (h : locB c x = true) : L2.Loc X.env.scope x ∧ (X.fn x = true ∨ X.env.scope.names.lookup x = some .local) := by
  unfold locB at h
  simp only [Bool.and_eq_true, Bool.or_eq_true, decide_eq_true_eq] at h
  unfold L2.Loc
  rw [o.hsc, o.hfn]
  rcases h with h | ⟨h1, h2⟩
  · exact ⟨.inl h, .inr h⟩
  · exact ⟨.inr h1, .inl h2⟩
theorem plain_star {e : Expr} {es : List Expr} {env : Env} (h : plainE e = true) : starEach (e :: es) env = (false, eval e env) :: starEach es env := by
  cases e <;> first | rfl | (exact absurd (show false = true from h) Bool.false_ne_true)
theorem plain_ix {e : Expr} (h : plainE e = true) : PlainIx e := fun o i => by
  cases e <;> first | rfl | (exact absurd (show false = true from h) Bool.false_ne_true)
theorem plain_mark {e : Expr} {op : CmpOp} (h : plainE e = true) : behindInMarks op e = false := by
  cases e <;> first | rfl | (exact absurd (show false = true from h) Bool.false_ne_true)
theorem plain_fold {e : Expr} {env : Env} (h : plainE e = true) : ∀ x, foldedSetIterable e env x = pure x := fun x => by
  cases e <;> first | rfl | (exact absurd (show false = true from h) Bool.false_ne_true)
theorem nolc_swap {e : Expr} {t : Option Expr} {n : Nat} {env : Env} (h : lcE e = false) : swapsWith e t n env = pure false := by
  cases e <;> first | rfl | (exact absurd (show true = false from h) (by decide))
theorem nocall_base {o : Expr} {x : Str} {env : Env} {wh : Sem Value} (h : callE o = false) : attributeBase o x env wh = wh := by
  unfold attributeBase
  split
  · exact absurd (show true = false from h) (by decide)
  · rfl
theorem chkEs_plain : ∀ {ts : List T} {es : List Expr}, chkEs c ts es = true → es.all plainE = true
  | [], es, h => by
    simp only [chkEs] at h
    split at h
    · rfl
    · cases h
  | t :: ts, es, h => by
    simp only [chkEs] at h
    split at h
    · cases h
    · simp only [Bool.and_eq_true] at h
      rw [List.all_cons, h.1.2, chkEs_plain h.2]
      rfl
theorem chkEs_len : ∀ {ts : List T} {es : List Expr}, chkEs c ts es = true → es.length = ts.length
  | [], es, h => by
    simp only [chkEs] at h
    split at h
    · rfl
    · cases h
  | t :: ts, es, h => by
    simp only [chkEs] at h
    split at h
    · cases h
    · simp only [Bool.and_eq_true] at h
      rw [List.length_cons, List.length_cons, chkEs_len h.2]
theorem star_all : ∀ {es : List Expr} {env : Env} {pos : Pos}, es.all plainE = true → (backTo pos (starEach es env)).any (·.1) = false
  | [], _, _, _ => rfl
  | e :: es, env, pos, h => by
    rw [List.all_cons, Bool.and_eq_true] at h
    rw [plain_star h.1]
    show (false || (backTo pos (starEach es env)).any (·.1)) = false
    rw [star_all h.2]
    rfl
theorem star_not : ∀ {es : List Expr} {env : Env} {pos : Pos}, es.all plainE = true → (backTo pos (starEach es env)).all (fun x => !x.1) = true
  | [], _, _, _ => rfl
  | e :: es, env, pos, h => by
    rw [List.all_cons, Bool.and_eq_true] at h
    rw [plain_star h.1]
    show (!false && (backTo pos (starEach es env)).all (fun x => !x.1)) = true
    rw [star_not h.2]
    rfl

theorem _root_.L2.PE.weak {e : Expr} {t t' : TE} (h : PE X e t) (f : ∀ σ H Q, t' σ H Q → t σ H Q) : PE X e t' := ⟨fun pins s σ H Q I q => h.run pins s σ H Q I (f σ H Q q)⟩
theorem _root_.L2.PT.weak {e : Expr} {t t' : TT} (h : PT X e t) (f : ∀ σ H Q, t' σ H Q → t σ H Q) : PT X e t' := ⟨fun pins s σ H Q I q => h.run pins s σ H Q I (f σ H Q q)⟩
theorem _root_.L2.PW.weak {e : Expr} {t t' : TT} (h : PW X e t) (f : ∀ σ H Q, t' σ H Q → t σ H Q) : PW X e t' := ⟨fun wh pins s σ H Q I q => h.run wh pins s σ H Q I (f σ H Q q)⟩
theorem _root_.L2.PA.weak {es : List Expr} {t t' : TA} (h : PA X es t) (f : ∀ σ H Q, t' σ H Q → t σ H Q) : PA X es t' := ⟨fun p pins s σ H Q I q => h.run p pins s σ H Q I (f σ H Q q)⟩
theorem _root_.L2.PS.weak {e : Stmt} {t t' : L2.TS} (h : PS X e t) (f : ∀ D σ H, t' D σ H → t D σ H) : PS X e t' := ⟨fun pins s σ H D I q => h.run pins s σ H D I (f D σ H q)⟩
theorem _root_.L2.PSs.weak {e : List Stmt} {t t' : L2.TS} (h : PSs X e t) (f : ∀ D σ H, t' D σ H → t D σ H) : PSs X e t' := ⟨fun pins s σ H D I q => h.run pins s σ H D I (f D σ H q)⟩
end
section
variable {K : PySem.W.Frag} {w : World} {σ : L2.St} {H : Hp} {Q : VK} {W : WX} {ex : EX}
theorem tD_c {d : D} {v : V} (hv : ∀ H, RelD K w H d v) (h : tD K w W ex (fun _ S R => R d S) σ H Q) : tC v σ H Q := by
  obtain ⟨σd, S, R, rs, hr, xk, f, k⟩ := h
  exact k.same f (hv H) hr
theorem tD_op {fa fb : WE} {g : W2} (h : tD K w W ex (fun σ S R => fa σ S fun x S1 => fb σ S1 fun y S2 => g x y S2 R) σ H Q) : tOp (rD2 K w g) (tD K w W ex fa) (tD K w W ex fb) σ H Q := by
  obtain ⟨σd, S, R, rs, hr, xk, f, k⟩ := h
  exact ⟨σd, S, _, rs, hr, xk, f, fun x S1 hx v1 H1 f1 rv1 h1 => ⟨σd, S1, _, rs.mono (f1.ext hr), h1, xk.next f1, hx, fun y S2 hy v2 H2 f2 rv2 h2 =>
    ⟨x, y, S2, R, RelD.mono (f2.ext h1) _ _ rv1, rv2, h2, hy, k.next (f1.trans f2) fun _ _ z => z⟩⟩⟩
theorem tD_un {fa : WE} {g : W1} (h : tD K w W ex (fun σ S R => fa σ S fun x S1 => g x S1 R) σ H Q) : tUn (rD1 K w g) (tD K w W ex fa) σ H Q := by
  obtain ⟨σd, S, R, rs, hr, xk, f, k⟩ := h
  exact ⟨σd, S, _, rs, hr, xk, f, fun x S1 hx v1 H1 f1 rv1 h1 => ⟨x, S1, R, rv1, h1, hx, k.next f1 fun _ _ z => z⟩⟩
theorem tD_cons {fa : WE} {fs : WA} {Q : List V → Hp → Prop} (h : tDA K w W ex (fun σ S R => fa σ S fun d S1 => fs σ S1 fun ds S2 => R (d :: ds) S2) σ H Q) : tCons (tD K w W ex fa) (tDA K w W ex fs) σ H Q := by
  obtain ⟨σd, S, R, rs, hr, xk, f, k⟩ := h
  exact ⟨σd, S, _, rs, hr, xk, f, fun x S1 hx v1 H1 f1 rv1 h1 => ⟨σd, S1, _, rs.mono (f1.ext hr), h1, xk.next f1, hx, fun ds S2 hy vs H2 f2 rv2 h2 =>
    k _ S2 hy _ H2 (f1.trans f2) (by simp only [RelDs]; exact ⟨v1, vs, rfl, RelD.mono (f2.ext h1) _ _ rv1, rv2⟩) h2⟩⟩
theorem tD_cb {fs : WA} {g : WC} (h : tD K w W ex (fun σ S R => fs σ S fun ds S1 => g ds S1 R) σ H Q) : tCB (rDC K w g) (tDA K w W ex fs) σ H Q := by
  obtain ⟨σd, S, R, rs, hr, xk, f, k⟩ := h
  exact ⟨σd, S, _, rs, hr, xk, f, fun ds S1 hx vs H1 f1 rv1 h1 => ⟨ds, S1, R, rv1, h1, hx, k.next f1 fun _ _ z => z⟩⟩
theorem tD_tru {fa : WE} {Q : Bool → Hp → Prop} (h : tDT K w W ex (fun σ S R => fa σ S fun d S1 => match tru S1 d with | some b => R b S1 | none => False) σ H Q) : tD K w W ex fa σ H (fun x H1 => ∃ b, TruV K x H1 b ∧ Q b H1) := by
  obtain ⟨σd, S, R, rs, hr, xk, f, k⟩ := h
  refine ⟨σd, S, _, rs, hr, xk, f, fun x S1 hx v1 H1 f1 rv1 h1 => ?_⟩
  split at hx
  · rename_i b e
    exact ⟨b, tru_of h1 rv1 e, k b S1 hx H1 f1 h1⟩
  · exact hx.elim
end
end Z

set_option Elab.async false
set_option linter.all false
set_option maxRecDepth 100000
set_option maxHeartbeats 4000000
namespace Z
open PySem PySem.Spec PyProof.Rows L2

section
variable {X : Cx} {c : Cc} {W : WX} {defs : Str → Option DefT} {gl : Str → Option D} {k : Nat}
mutual
def gV (K : PySem.W.Frag) : Tg → TG
  | .nm i => gName i
  | .tup gs => fun v σ H Q => gTup K gs.length (gVs K gs) v σ H Q ∨ gLst K gs.length (gVs K gs) v σ H Q
def gVs (K : PySem.W.Frag) : List Tg → TGs
  | [] => gNil
  | g :: gs => gCons (gV K g) (gVs K gs)
end
theorem _root_.L2.PG.or {tg : Expr} {g g' : TG} (a : PG X tg g) (b : PG X tg g') : PG X tg (fun v σ H Q => g v σ H Q ∨ g' v σ H Q) :=
  ⟨fun pins s σ H v u Q I r h => h.elim (a.run pins s σ H v u Q I r) (b.run pins s σ H v u Q I r)⟩
theorem chkG_star {g : Tg} {e : Expr} {es : List Expr} {env : Env} (h : chkG c g e = true) : assignEach (e :: es) env = (false, assign e env) :: assignEach es env := by
  cases g <;> simp only [chkG] at h <;> split at h <;> first | rfl | cases h
theorem chkGs_star : ∀ {gs : List Tg} {es : List Expr} {env : Env}, chkGs c gs es = true → (assignEach es env).length = gs.length ∧ (assignEach es env).findIdx? (·.1) = none
  | [], es, env, h => by
    simp only [chkGs] at h
    split at h
    · exact ⟨rfl, rfl⟩
    · cases h
  | g :: gs, es, env, h => by
    simp only [chkGs] at h
    split at h
    · cases h
    · simp only [Bool.and_eq_true] at h
      rw [chkG_star h.1]
      obtain ⟨h1, h2⟩ := chkGs_star (env := env) h.2
      refine ⟨by rw [List.length_cons, List.length_cons, h1], ?_⟩
      rw [List.findIdx?_cons]
      simp [h2]
mutual
theorem sG (o : XOk defs gl k c W X) : ∀ (g : Tg) (e : Expr), chkG c g e = true → PG X e (gV X.K g)
  | .nm i, e, h => by
    simp only [chkG] at h
    split at h
    · simp only [Bool.and_eq_true, decide_eq_true_eq] at h
      obtain ⟨l1, l2⟩ := o.loc_of h.2
      simp only [gV]
      exact pg_name (by rw [o.hN]; exact o.nd) (by rw [o.hN]; exact h.1) l1 l2
    · cases h
  | .tup gs, e, h => by
    simp only [chkG] at h
    split at h
    · rename_i es _ _
      simp only [Bool.and_eq_true] at h
      obtain ⟨h, hca⟩ := h
      obtain ⟨h1, h2⟩ := chkGs_star (env := X.env) h
      have p := sGs o gs es h
      simp only [gV]
      exact L2.PG.or (pg_tup (o.calm hca) p h1 h2) (pg_lst (o.calm hca) p h1 h2)
    · cases h
theorem sGs (o : XOk defs gl k c W X) : ∀ (gs : List Tg) (es : List Expr), chkGs c gs es = true → PGs X es (gVs X.K gs)
  | [], es, h => by
    simp only [chkGs] at h
    split at h
    · simp only [gVs]; exact pgs_nil
    · cases h
  | g :: gs, es, h => by
    simp only [chkGs] at h
    split at h
    · cases h
    · simp only [Bool.and_eq_true] at h
      simp only [gVs]
      exact pgs_cons (sG o g _ h.1) (sGs o gs _ h.2) (by rw [chkG_star h.1]; rfl)
end
theorem wipe_set {vs : List Nat} {i : Nat} {v : Option V} : ∀ {σ : L2.St}, i ∈ vs → wipe (σ.set i v) vs = wipe σ vs := by
  induction vs with
  | nil => intro σ h; cases h
  | cons a vs ih =>
    intro σ h
    unfold wipe
    by_cases hi : i ∈ vs
    · rw [ih hi]
    · have e : i = a := by
        rcases List.mem_cons.mp h with e | e
        · exact e
        · exact absurd e hi
      subst e
      apply List.ext_getElem?
      intro j
      by_cases hj : i = j
      · subst hj
        by_cases hl : i < (wipe σ vs).length
        · rw [List.getElem?_set_self hl, List.getElem?_set_self (by rw [wipe_length] at hl ⊢; simpa using hl)]
        · rw [wipe_length] at hl
          rw [List.getElem?_eq_none (by rw [List.length_set, wipe_length, List.length_set]; omega), List.getElem?_eq_none (by rw [List.length_set, wipe_length]; omega)]
      · rw [List.getElem?_set_ne hj, List.getElem?_set_ne hj]
        by_cases hv : j ∈ vs
        · have q : ∀ τ : L2.St, j < τ.length → (wipe τ vs)[j]? = some none := fun τ hl => by
            cases e : (wipe τ vs)[j]? with
            | none =>
              rw [List.getElem?_eq_none_iff, wipe_length] at e
              omega
            | some y =>
              cases y with
              | none => rfl
              | some y => exact absurd hv (wipe_some e).2
          by_cases hl : j < σ.length
          · rw [q _ hl, q _ (by simpa using hl)]
          · rw [List.getElem?_eq_none (by rw [wipe_length]; simpa using hl), List.getElem?_eq_none (by rw [wipe_length]; omega)]
        · have q : ∀ τ : L2.St, (wipe τ vs)[j]? = τ[j]? := fun τ => by
            clear ih h hi
            induction vs with
            | nil => rfl
            | cons b vs ih =>
              have n1 : j ≠ b := fun z => hv (by rw [z]; exact List.mem_cons_self)
              have n2 : j ∉ vs := fun z => hv (List.mem_cons_of_mem _ z)
              unfold wipe
              rw [List.getElem?_set_ne (Ne.symm n1), ih n2]
          rw [q, q, List.getElem?_set_ne hj]
section
variable {K : PySem.W.Frag} {w : World} {H : Hp} {S : Sto} {vs : List Nat}
mutual
theorem gD_of (hr : HR K w H S) : ∀ (g : Tg) (d : D) (v : V) (σd : StD) (σ : L2.St) (R : StD → Prop) (Q : L2.St → Hp → Prop), RelD K w H d v → RelSt K w H σd σ → wpG g d σd S R →
    (∀ σd' σ', R σd' → RelSt K w H σd' σ' → (ownG vs g = true → wipe σ' vs = wipe σ vs) → Q σ' H) → gV K g v σ H Q
  | .nm i, d, v, σd, σ, R, Q, rd, rs, f, q => by
    simp only [wpG] at f
    simp only [gV]
    exact q _ _ f (rs.set rd) fun o => by
      simp only [ownG] at o
      exact wipe_set (by simpa using o)
  | .tup gs, d, v, σd, σ, R, Q, rd, rs, f, q => by
    simp only [wpG] at f
    split at f
    · rename_i ds e
      obtain ⟨a, xs, rfl, q1, q2, _⟩ := items_of hr e rd
      have z := gDs_of hr gs ds xs σd σ R Q q1 rs f.1 f.2 fun σd' σ' h1 h2 h3 => q σd' σ' h1 h2 fun o => h3 (by simpa only [ownG] using o)
      simp only [gV]
      rcases q2 with q2 | q2
      · exact .inr ⟨a, xs, rfl, q2, by rw [← q1.length]; exact f.1, z⟩
      · exact .inl ⟨a, xs, rfl, q2, by rw [← q1.length]; exact f.1, z⟩
    · exact f.elim
theorem gDs_of (hr : HR K w H S) : ∀ (gs : List Tg) (ds : List D) (xs : List V) (σd : StD) (σ : L2.St) (R : StD → Prop) (Q : L2.St → Hp → Prop), RelDs K w H ds xs → RelSt K w H σd σ → ds.length = gs.length → wpGs gs ds σd S R →
    (∀ σd' σ', R σd' → RelSt K w H σd' σ' → (ownG.ownGs vs gs = true → wipe σ' vs = wipe σ vs) → Q σ' H) → gVs K gs xs σ H Q
  | [], ds, xs, σd, σ, R, Q, rd, rs, hl, f, q => by
    simp only [wpGs] at f
    have e : ds = [] := List.eq_nil_of_length_eq_zero hl
    subst e
    simp only [RelDs] at rd
    subst rd
    simp only [gVs]
    exact ⟨rfl, q _ _ f rs fun _ => rfl⟩
  | g :: gs, [], xs, σd, σ, R, Q, rd, rs, hl, f, q => by simp only [wpGs] at f
  | g :: gs, d :: ds, xs, σd, σ, R, Q, rd, rs, hl, f, q => by
    simp only [wpGs] at f
    simp only [RelDs] at rd
    obtain ⟨v, r, rfl, r1, r2⟩ := rd
    simp only [gVs]
    refine ⟨v, r, rfl, gD_of hr g d v σd σ _ _ r1 rs f fun σd1 σ1 h1 h2 h3 => ?_⟩
    refine gDs_of hr gs ds r σd1 σ1 R Q r2 h2 (by simpa using hl) h1 fun σd2 σ2 h4 h5 h6 => q σd2 σ2 h4 h5 fun o => ?_
    simp only [ownG.ownGs, Bool.and_eq_true] at o
    rw [h6 o.2, h3 o.1]
end
end
end

structure WalkD (K : PySem.W.Frag) (w : World) (J : It) (ds : List D) (G : Sto → Prop) (H0 : Hp) : Prop where
  goes : ∀ i H S, i < ds.length → Ext H0 H → HR K w H S → G S → J.go i H
  stops : ∀ H S, Ext H0 H → HR K w H S → G S → J.stop ds.length H
  yields : ∀ i H S x H', i < ds.length → Ext H0 H → HR K w H S → G S → J.yld i H x H' → ∃ d, ds[i]? = some d ∧ RelD K w H' d x ∧ (H' = H ∨ ∃ T xs, H T = none ∧ H' = upd H T (.tup xs))
def tDI (K : PySem.W.Frag) (w : World) (W : WX) (ex : EX) (f : StD → Sto → (List D → (Sto → Prop) → Sto → Prop) → Prop) : TI := fun σ H R => ∃ σd S RI, RelSt K w H σd σ ∧ HR K w H S ∧ ExK K w H S ex W ∧ f σd S RI ∧
  ∀ ds G S', RI ds G S' → ∀ J H', Fm H S H' S' → HR K w H' S' → WalkD K w J ds G H' → R J H'
theorem _root_.L2.PI.weak {X : Cx} {tg iter : Expr} {t t' : TI} (h : PI X tg iter t) (f : ∀ σ H R, t' σ H R → t σ H R) : PI X tg iter t' := ⟨fun pins s σ H R I q => h.run pins s σ H R I (f σ H R q)⟩
theorem pi_seq {X : Cx} {tg l : Expr} {tl : TE} (hl : PE X l tl) : PI X tg l (fun σ H R => tl σ H fun x H1 => ∃ a, x = .ref a ∧ (((∃ xs, SqL X.K H1 a xs) ∧ R (Itl X.K a) H1) ∨ ((∃ xs, SqT X.K H1 a xs) ∧ R (Itt X.K a) H1))) := by
  refine ⟨fun pins s σ H R I h => ?_⟩
  refine thn (hl.run pins s σ H _ I h) fun v s1 ⟨x, H1, I1, r1, q1⟩ => ?_
  obtain ⟨a, e, q⟩ := q1
  subst e
  cases r1
  rcases q with ⟨⟨xs, hq⟩, q⟩ | ⟨⟨xs, hq⟩, q⟩
  · obtain ⟨its, rv, p, hz⟩ := I1.list hq
    refine wpAny_pyIter_list p.isList ?_
    refine ⟨s1.heap.objs.size, [s1.heap.objs.size], _, _, H1, rfl, I1.kept (t' := s1.toks) fun b o e => Heap.get?_push_of_some _ e, turn_list a _, ⟨_, Heap.get?_push_size _ rfl, rfl, rfl⟩, fun b hb => ?_, q⟩
    have e : b = s1.heap.objs.size := by simpa using hb
    subst e
    exact I1.fpOk (Nat.le_refl _) (I1.hok.fresh (Nat.le_refl _))
  · obtain ⟨its, rv, p, hz⟩ := I1.tuple hq
    refine wpAny_pyIter_tuple (show s1.heap.IsTuple a its.toArray from p) ?_
    refine ⟨s1.heap.objs.size, [s1.heap.objs.size], _, _, H1, rfl, I1.kept (t' := s1.toks) fun b o e => Heap.get?_push_of_some _ e, turn_tuple a _, ⟨_, Heap.get?_push_size _ rfl, rfl, rfl⟩, fun b hb => ?_, q⟩
    have e : b = s1.heap.objs.size := by simpa using hb
    subst e
    exact I1.fpOk (Nat.le_refl _) (I1.hok.fresh (Nat.le_refl _))
section
variable {K : PySem.W.Frag} {w : World} {H H0 : Hp} {S : Sto}
theorem walkd_list {a : Addr} {ds : List D} : WalkD K w (Itl K a) ds (fun S => S a = some (.lst ds)) H0 := by
  refine ⟨fun i H S hi _ hr g => ?_, fun H S _ hr g => ?_, fun i H S x H' hi _ hr g y => ?_⟩
  · obtain ⟨vs, h1, h2⟩ := hr.sql g
    exact ⟨vs, vs[i]'(by rw [← h2.length]; exact hi), h1, by simp⟩
  · obtain ⟨vs, h1, h2⟩ := hr.sql g
    exact ⟨vs, h1, by rw [h2.length]; exact Nat.le_refl _⟩
  · obtain ⟨vs, h1, h2⟩ := hr.sql g
    obtain ⟨rfl, y⟩ := y
    obtain ⟨v, q1, q2⟩ := h2.get (List.getElem?_eq_getElem hi)
    have e := y vs h1
    rw [q1] at e
    cases e
    exact ⟨_, List.getElem?_eq_getElem hi, q2, .inl rfl⟩
theorem walkd_kl {a : Addr} {vs : List V} {ds : List D} (t : FL K H0 a vs) (r : RelDs K w H0 ds vs) : WalkD K w (Itl K a) ds (fun _ => True) H0 := by
  refine ⟨fun i H S hi e hr g => ?_, fun H S e hr g => ?_, fun i H S x H' hi e hr g y => ?_⟩
  · exact ⟨vs, vs[i]'(by rw [← r.length]; exact hi), (e.fl t).sq, by simp⟩
  · exact ⟨vs, (e.fl t).sq, by rw [r.length]; exact Nat.le_refl _⟩
  · obtain ⟨rfl, y⟩ := y
    obtain ⟨v, q1, q2⟩ := (RelDs.mono e _ _ r).get (List.getElem?_eq_getElem hi)
    have e := y vs (e.fl t).sq
    rw [q1] at e
    cases e
    exact ⟨_, List.getElem?_eq_getElem hi, q2, .inl rfl⟩
theorem walkd_tup {a : Addr} {vs : List V} {ds : List D} (t : SqT K H0 a vs) (r : RelDs K w H0 ds vs) : WalkD K w (Itt K a) ds (fun _ => True) H0 := by
  refine ⟨fun i H S hi e hr g => ?_, fun H S e hr g => ?_, fun i H S x H' hi e hr g y => ?_⟩
  · exact ⟨vs, vs[i]'(by rw [← r.length]; exact hi), e.seqT t, by simp⟩
  · exact ⟨vs, e.seqT t, by rw [r.length]; exact Nat.le_refl _⟩
  · obtain ⟨rfl, y⟩ := y
    obtain ⟨v, q1, q2⟩ := (RelDs.mono e _ _ r).get (List.getElem?_eq_getElem hi)
    have e := y vs (e.seqT t)
    rw [q1] at e
    cases e
    exact ⟨_, List.getElem?_eq_getElem hi, q2, .inl rfl⟩
theorem walkd_range {lo : Int} {n : Nat} : WalkD K w (Itr lo n) ((List.range n).map fun i => D.int (lo + (i : Nat))) (fun _ => True) H0 := by
  refine ⟨fun i H S hi e hr g => ?_, fun H S e hr g => ?_, fun i H S x H' hi e hr g y => ?_⟩
  · show i < n
    simpa using hi
  · show n ≤ _
    simp
  · obtain ⟨rfl, rfl⟩ := y
    simp only [List.length_map, List.length_range] at hi
    refine ⟨.int (lo + i), by simp [hi], by simp only [RelD], .inl rfl⟩
end
end Z

set_option Elab.async false
set_option linter.all false
set_option maxRecDepth 100000
set_option maxHeartbeats 4000000
namespace Z
open PySem PySem.Spec PyProof.Rows L2
section
variable {K : PySem.W.Frag} {w : World} {H H0 : Hp} {S : Sto}
theorem reld_pair {H : Hp} {T : Addr} {x y : V} {d e : D} (n : H T = none) (r1 : RelD K w H d x) (r2 : RelD K w H e y) : RelD K w (upd H T (.tup [x, y])) (pairD d e) (.ref T) := by
  unfold pairD
  simp only [RelD, RelDs]
  exact ⟨T, _, rfl, SqT.of upd_same, x, [y], rfl, RelD.mono (ext_new n) _ _ r1, y, [], rfl, RelD.mono (ext_new n) _ _ r2, rfl⟩
theorem walkd_enum {a : Addr} {ds : List D} : WalkD K w (Ite K a) ((List.range ds.length).zipWith (fun i d => pairD (.int (i : Nat)) d) ds) (fun S => S a = some (.lst ds)) H0 := by
  refine ⟨fun i H S hi _ hr g => ?_, fun H S _ hr g => ?_, fun i H S x H' hi _ hr g y => ?_⟩
  · obtain ⟨vs, h1, h2⟩ := hr.sql g
    have hi' : i < ds.length := by simpa using hi
    exact ⟨vs, vs[i]'(by rw [← h2.length]; exact hi'), h1, by simp⟩
  · obtain ⟨vs, h1, h2⟩ := hr.sql g
    refine ⟨vs, h1, ?_⟩
    rw [← h2.length]
    simp
  · obtain ⟨vs, h1, h2⟩ := hr.sql g
    have hi' : i < ds.length := by simpa using hi
    obtain ⟨T, z, rfl, nT, rfl, y⟩ := y
    obtain ⟨v, q1, q2⟩ := h2.get (List.getElem?_eq_getElem hi')
    have e := y vs h1
    rw [q1] at e
    cases e
    refine ⟨pairD (.int (i : Nat)) ds[i], ?_, reld_pair nT (by simp only [RelD]) q2, .inr ⟨T, _, nT, rfl⟩⟩
    rw [List.getElem?_zipWith]
    simp [hi']
theorem walkd_enumT {a : Addr} {vs : List V} {ds : List D} (t : SqT K H0 a vs) (r : RelDs K w H0 ds vs) : WalkD K w (IteT K a) ((List.range ds.length).zipWith (fun i d => pairD (.int (i : Nat)) d) ds) (fun _ => True) H0 := by
  refine ⟨fun i H S hi e hr g => ?_, fun H S e hr g => ?_, fun i H S x H' hi e hr g y => ?_⟩
  · have hi' : i < ds.length := by simpa using hi
    exact ⟨vs, vs[i]'(by rw [← r.length]; exact hi'), e.seqT t, by simp⟩
  · refine ⟨vs, e.seqT t, ?_⟩
    rw [← r.length]
    simp
  · have hi' : i < ds.length := by simpa using hi
    obtain ⟨T, z, rfl, nT, rfl, y⟩ := y
    obtain ⟨v, q1, q2⟩ := (RelDs.mono e _ _ r).get (List.getElem?_eq_getElem hi')
    have e1 := y vs (e.seqT t)
    rw [q1] at e1
    cases e1
    refine ⟨pairD (.int (i : Nat)) ds[i], ?_, reld_pair nT (by simp only [RelD]) q2, .inr ⟨T, _, nT, rfl⟩⟩
    rw [List.getElem?_zipWith]
    simp [hi']
theorem walkd_zip {a b : Addr} {xs ys : List D} : WalkD K w (Itz K a b) ((xs.zip ys).map fun z => pairD z.1 z.2) (fun S => S a = some (.lst xs) ∧ S b = some (.lst ys)) H0 := by
  refine ⟨fun i H S hi _ hr g => ?_, fun H S _ hr g => ?_, fun i H S x H' hi _ hr g y => ?_⟩
  · obtain ⟨vs, h1, h2⟩ := hr.sql g.1
    obtain ⟨us, h3, h4⟩ := hr.sql g.2
    simp only [List.length_map, List.length_zip] at hi
    exact ⟨vs, us, vs[i]'(by rw [← h2.length]; omega), us[i]'(by rw [← h4.length]; omega), h1, h3, by simp, by simp⟩
  · obtain ⟨vs, h1, h2⟩ := hr.sql g.1
    obtain ⟨us, h3, h4⟩ := hr.sql g.2
    refine ⟨vs, us, h1, h3, ?_⟩
    rw [← h2.length, ← h4.length]
    simp only [List.length_map, List.length_zip]
    omega
  · obtain ⟨vs, h1, h2⟩ := hr.sql g.1
    obtain ⟨us, h3, h4⟩ := hr.sql g.2
    simp only [List.length_map, List.length_zip] at hi
    have hi1 : i < xs.length := by omega
    have hi2 : i < ys.length := by omega
    obtain ⟨T, z1, z2, rfl, nT, rfl, y1, y2⟩ := y
    obtain ⟨v, q1, q2⟩ := h2.get (List.getElem?_eq_getElem hi1)
    obtain ⟨u, q3, q4⟩ := h4.get (List.getElem?_eq_getElem hi2)
    have e1 := y1 vs h1
    rw [q1] at e1
    cases e1
    have e2 := y2 us h3
    rw [q3] at e2
    cases e2
    refine ⟨pairD xs[i] ys[i], ?_, reld_pair nT q2 q4, .inr ⟨T, _, nT, rfl⟩⟩
    rw [List.getElem?_map, List.getElem?_zip_eq_some (z := (xs[i], ys[i])).mpr ⟨List.getElem?_eq_getElem hi1, List.getElem?_eq_getElem hi2⟩]
    rfl
theorem walkd_zipT {a b : Addr} {vs us : List V} {xs ys : List D} (t1 : SqT K H0 a vs) (t2 : SqT K H0 b us) (r1 : RelDs K w H0 xs vs) (r2 : RelDs K w H0 ys us) : WalkD K w (RZ.ItzT K a b) ((xs.zip ys).map fun z => pairD z.1 z.2) (fun _ => True) H0 := by
  refine ⟨fun i H S hi e hr g => ?_, fun H S e hr g => ?_, fun i H S x H' hi e hr g y => ?_⟩
  · simp only [List.length_map, List.length_zip] at hi
    exact ⟨vs, us, vs[i]'(by rw [← r1.length]; omega), us[i]'(by rw [← r2.length]; omega), e.seqT t1, e.seqT t2, by simp, by simp⟩
  · refine ⟨vs, us, e.seqT t1, e.seqT t2, ?_⟩
    rw [← r1.length, ← r2.length]
    simp only [List.length_map, List.length_zip]
    omega
  · simp only [List.length_map, List.length_zip] at hi
    have hi1 : i < xs.length := by omega
    have hi2 : i < ys.length := by omega
    obtain ⟨T, z1, z2, rfl, nT, rfl, y1, y2⟩ := y
    obtain ⟨v, q1, q2⟩ := (RelDs.mono e _ _ r1).get (List.getElem?_eq_getElem hi1)
    obtain ⟨u, q3, q4⟩ := (RelDs.mono e _ _ r2).get (List.getElem?_eq_getElem hi2)
    have e1 := y1 vs (e.seqT t1)
    rw [q1] at e1
    cases e1
    have e2 := y2 us (e.seqT t2)
    rw [q3] at e2
    cases e2
    refine ⟨pairD xs[i] ys[i], ?_, reld_pair nT q2 q4, .inr ⟨T, _, nT, rfl⟩⟩
    rw [List.getElem?_map, List.getElem?_zip_eq_some (z := (xs[i], ys[i])).mpr ⟨List.getElem?_eq_getElem hi1, List.getElem?_eq_getElem hi2⟩]
    rfl
theorem walkd_rev {a : Addr} {ds : List D} {n : Nat} (hn : n = ds.length) : WalkD K w (Itv K a n) ds.reverse (fun S => S a = some (.lst ds)) H0 := by
  subst hn
  refine ⟨fun i H S hi _ hr g => ?_, fun H S _ hr g => ?_, fun i H S x H' hi _ hr g y => ?_⟩
  · obtain ⟨vs, h1, h2⟩ := hr.sql g
    rw [List.length_reverse] at hi
    exact ⟨hi, vs, vs[ds.length - 1 - i]'(by rw [← h2.length]; omega), h1, by simp⟩
  · show ds.length ≤ ds.reverse.length
    rw [List.length_reverse]
    exact Nat.le_refl _
  · obtain ⟨vs, h1, h2⟩ := hr.sql g
    rw [List.length_reverse] at hi
    obtain ⟨rfl, y⟩ := y
    have hi' : ds.length - 1 - i < ds.length := by omega
    obtain ⟨v, q1, q2⟩ := h2.get (List.getElem?_eq_getElem hi')
    have e := y vs h1
    rw [q1] at e
    cases e
    exact ⟨_, by rw [List.getElem?_reverse hi]; exact List.getElem?_eq_getElem hi', q2, .inl rfl⟩
theorem walkd_revT {a : Addr} {vs : List V} {ds : List D} {n : Nat} (hn : n = ds.length) (t : SqT K H0 a vs) (r : RelDs K w H0 ds vs) : WalkD K w (RT.ItvT K a n) ds.reverse (fun _ => True) H0 := by
  subst hn
  refine ⟨fun i H S hi e hr g => ?_, fun H S _ hr g => ?_, fun i H S x H' hi e hr g y => ?_⟩
  · rw [List.length_reverse] at hi
    exact ⟨hi, vs, vs[ds.length - 1 - i]'(by rw [← r.length]; omega), e.seqT t, by simp⟩
  · show ds.length ≤ ds.reverse.length
    rw [List.length_reverse]
    exact Nat.le_refl _
  · rw [List.length_reverse] at hi
    obtain ⟨rfl, y⟩ := y
    have hi' : ds.length - 1 - i < ds.length := by omega
    obtain ⟨v, q1, q2⟩ := (RelDs.mono e _ _ r).get (List.getElem?_eq_getElem hi')
    have e := y vs (e.seqT t)
    rw [q1] at e
    cases e
    exact ⟨_, by rw [List.getElem?_reverse hi]; exact List.getElem?_eq_getElem hi', q2, .inl rfl⟩
end

section
variable {X : Cx} {CX : CXT} {k : Nat} {f : Addr} {fd : FuncData} {ps : List Str} {sp : Sp} {E : L2.St → XK} {x : Str} {p pos : Pos} {e : Expr} {es : List Expr} {t : TA}
theorem pe_callD (F : FnG X.prog X.w X.K X.mg X.base CX k f fd ps sp) (hr : RoomG k X.A) (hg : Gl X x) (hm : X.mg x = some (.ref f)) (hk : PySem.W.keepIn X.K (.ref f) = true) (hb : Binds X.K fd ps []) (hx : ∀ σ, PassesAt CX X σ (E σ))
    (hpl : (e :: es).all plainE = true) (ha : PA X (e :: es) t) (hdb : (x == ("__debug__" : Str)) = false) : PE X (.Call (.Name x p) (e :: es) [] pos) (fun σ H Q => t σ H fun vs H1 => sp vs H1 Q (E σ)) := by
  rw [List.all_cons, Bool.and_eq_true] at hpl
  exact pe_callG (E := E) F hr hg hm hk hb hx ha hdb (plain_star hpl.1) (star_all hpl.2)
theorem pe_callD0 (F : FnG X.prog X.w X.K X.mg X.base CX k f fd ps sp) (hr : RoomG k X.A) (hg : Gl X x) (hm : X.mg x = some (.ref f)) (hk : PySem.W.keepIn X.K (.ref f) = true) (hb : Binds X.K fd ps []) (hx : ∀ σ, PassesAt CX X σ (E σ))
    (hdb : (x == ("__debug__" : Str)) = false) : PE X (.Call (.Name x p) [] [] pos) (fun σ H Q => sp [] H Q (E σ)) := by
  refine ⟨fun pins s σ H Q I h => ?_⟩
  refine wpAny_Call_Name_kw (ld_glob I hg hm ?_ hdb)
  exact PySem.W.callWith_K0 I.kIn hk (run_fng (us := []) (dvs := []) (E := E) F hr hb .nil (hx σ) I .nil h)
theorem kw_names : ∀ {kws : List Keyword} {ks : List Str} {env : Env} {pos : Pos}, kws.map (·.arg) = ks.map some → (backToKw pos (keywordEach kws env)).all (·.1.isSome) = true ∧ (backToKw pos (keywordEach kws env)).filterMap (·.1) = ks ∧ (backToKw pos (keywordEach kws env)).any (·.1.isNone) = false
  | [], ks, env, pos, h => by
    cases ks with
    | nil => exact ⟨rfl, rfl, rfl⟩
    | cons _ _ => cases h
  | ⟨nm, e, p⟩ :: kws, ks, env, pos, h => by
    cases ks with
    | nil => cases h
    | cons q ks =>
      rw [List.map_cons, List.map_cons] at h
      injection h with h1 h2
      obtain ⟨g1, g2, g3⟩ := kw_names (env := env) (pos := pos) h2
      have h1 : nm = some q := h1
      subst h1
      have e1 : backToKw pos (keywordEach (⟨some q, e, p⟩ :: kws) env) = (some q, do let v ← eval e env; standAt pos; pure v) :: backToKw pos (keywordEach kws env) := rfl
      rw [e1]
      refine ⟨?_, ?_, ?_⟩
      · rw [List.all_cons, g1]; rfl
      · simp only [List.filterMap_cons, g2]
      · rw [List.any_cons, g3]; rfl
theorem pe_callKG {n : Nat} {ks : List Str} {kws : List Keyword} {tk : TA} {g : List Value → List Value → List Value} {gV : List V → List V → List V} (F : FnG X.prog X.w X.K X.mg X.base CX k f fd ps sp) (hr : RoomG k X.A) (hg : Gl X x) (hm : X.mg x = some (.ref f)) (hk : PySem.W.keepIn X.K (.ref f) = true) (hb : KBn X.K fd ps n ks g gV) (hx : ∀ σ, PassesAt CX X σ (E σ))
    (ha : PA X (e :: es) t) (hkw : PK X kws tk) (hn : kws.map (·.arg) = ks.map some) (hdb : (x == ("__debug__" : Str)) = false) (hpl : (e :: es).all plainE = true) :
    PE X (.Call (.Name x p) (e :: es) kws pos) (fun σ H Q => t σ H fun vs H1 => tk σ H1 fun zs H2 => vs.length = n ∧ zs.length = ks.length ∧ sp (gV vs zs) H2 Q (E σ)) := by
  rw [List.all_cons, Bool.and_eq_true] at hpl
  have he := plain_star (env := X.env) (es := es) hpl.1
  obtain ⟨n1, n2, n3⟩ := kw_names (env := X.env) (pos := pos) hn
  refine ⟨fun pins s σ H Q I h => wpAny_Call_Name_kw (ld_glob I hg hm ?_ hdb)⟩
  have hp0 : (backTo pos (starEach (e :: es) X.env)).any (·.1) = false := by
    rw [he]
    show (false || (backTo pos (starEach es X.env)).any (·.1)) = false
    rw [Bool.false_or]
    exact star_all hpl.2
  refine PySem.W.callWith_KW (h₀ := X.base) I.ok.mod.kin hk n1 (thn (ha.run pos pins s σ H _ I h) fun us s1 ⟨vs, H1, I1, r, q⟩ => ?_) (by rw [hp0, n3]; rfl) he
  refine thn (hkw.run pos pins s1 σ H1 _ I1 q) fun ws s2 ⟨zs, H2, I2, rz, l1, l2, q2⟩ => ⟨I2.kIn, ?_⟩
  rw [n2]
  have r2 := hb.rel r rz
  refine wpAny_call (codeAny_mono (F.run X.A X.stack s2 H2 ⟨us, ks.zip ws⟩ (g us ws) (gV vs zs) Q (E σ) hr I2.env0 (hb.to s2 us ws I2.kIn (by rw [← r.length]; exact l1) (by rw [← rz.length]; exact l2)) r2 q2) fun q s' hq => ?_)
  cases q with
  | error e => exact hx σ pins H2 s2 e s' I2 hq
  | ok fl => cases fl <;> first | exact I2.after hq | exact False.elim hq
end
end Z

set_option Elab.async false
set_option linter.all false
set_option maxRecDepth 100000
set_option maxHeartbeats 4000000
namespace Z
open PySem PySem.Spec PyProof.Rows L2
theorem mcall_few {o : Expr} {m : Str} {apos pos : Pos} {args : List Expr} {env : Env} (hb : attributeBase o m env (eval o env) = eval o env) (hp : args.all plainE = true) (hn : args.length < 30) (hl : (apos.endLine == pos.line) = true) :
    eval (.Call (.Attribute o m apos) args [] pos) env = (do
      let ov ← eval o env
      standAt apos.atName
      let (f, first) ← holding [ov] (getMethod ov m (do return (← importBound o env).getD true))
      callWith pos f first (backTo pos (starEach args env)) (backToKw pos (keywordEach [] env))) := by
  refine mcall_of hb fun ov => ?_
  have few : methodCallForm (args.length + ([] : List Keyword).length) (backTo pos (starEach args env)) (backToKw pos (keywordEach [] env)) = true := by
    unfold methodCallForm
    rw [star_not hp]
    show (true && true && decide (_ + 0 + 0 < 30)) = true
    rw [Bool.true_and, Bool.true_and]
    exact decide_eq_true hn
  unfold methodCall calleeOf methodCallPos
  rw [few, hl]
  simp
section
variable {X : Cx} {CX : CXT} {k : Nat} {f C : Addr} {fd : FuncData} {ps : List Str} {sp : Sp} {dvs : List V} {dz : List Value} {E : L2.St → XK} {x m : Str} {p pos apos : Pos} {o : Expr} {es : List Expr} {ta : TE} {t : TA}
theorem pe_methD (he : PE X o ta) (c : Cls X.K C) (hm : Meth X.K C m f) (F : FnG X.prog X.w X.K X.mg X.base CX k f fd ps sp) (hr : RoomG k X.A) (hb : Binds X.K fd ps []) (hx : ∀ σ, PassesAt CX X σ (E σ)) (ha : PA X es t) (hpl : es.all plainE = true)
    (hba : attributeBase o m X.env (eval o X.env) = eval o X.env) (hn : es.length < 30) (hl : (apos.endLine == pos.line) = true) (h0 : es = [] → ∀ σ H Q, t σ H Q → Q [] H) :
    PE X (.Call (.Attribute o m apos) es [] pos) (fun σ H Q => ta σ H fun x H1 => ∃ a dx fs, x = .ref a ∧ H1 a = some (.ins C dx fs) ∧ fs.lookup m = none ∧ t σ H1 fun vs H2 => sp (.ref a :: vs) H2 Q (E σ)) := by
  refine ⟨fun pins s σ H Q I h => ?_⟩
  refine PySem.W.methodCall_KW (thn (he.run pins s σ H _ I h) fun u s1 ⟨x, H1, I1, rx, a, dx, fs, ex, ea, l, q⟩ => ?_) (mcall_few hba hpl hn hl)
  subst ex; obtain rfl : u = Value.ref a := rx
  refine getmeth_ok I1 ea c hm l ?_
  cases es with
  | nil =>
    have q0 := h0 rfl _ _ _ q
    refine PySem.W.callWith_K0 (first := [.ref a]) I1.kIn hm.kp ?_
    exact run_fng (us := [.ref a]) (vs := [.ref a]) (dvs := []) (ds := []) (E := E) F hr hb .nil (hx σ) I1 (.cons rfl .nil) q0
  | cons e0 es =>
    rw [List.all_cons, Bool.and_eq_true] at hpl
    refine PySem.W.callWith_K (first := [.ref a]) (h₀ := X.base) I.ok.mod.kin hm.kp (thn (ha.run pos pins s1 σ H1 _ I1 q) fun us s2 ⟨vs, H2, I2, r, q2⟩ => ⟨I2.kIn, ?_⟩) (plain_star hpl.1) (star_all hpl.2)
    exact run_fng (us := .ref a :: us) (vs := .ref a :: vs) (dvs := []) (ds := []) (E := E) F hr hb .nil (hx σ) I2 (.cons rfl r) (by simpa using q2)
theorem under_gd {A : Around} {C : Addr} {us : List Value} {kw : List (Str × Value)} (h : A.guards = some []) : (A.under (.builtin "type.__call__" ⟨.ref C :: us, kw⟩)).guards = some [] := by
  simpa [Around.under, Code.guards, Code.isGuard, pushGuards, show ¬ "type.__call__" ∈ guardIds by decide] using h
theorem run_makeD {pins : List (Addr × Obj)} {σ : L2.St} {H : Hp} {s : Shared} {Q : VK} {us : List Value} {vs : List V} (M : Mk X.K C f) (F : FnG X.prog X.w X.K X.mg X.base CX k f fd ps sp) (hr : RoomG (k + 1) X.A) (hb : Binds X.K fd ps dz) (hd : Vals dvs dz)
    (hx : PassesAt CX X σ (E σ)) (I : Inv X pins σ H s) (r : Vals vs us)
    (h : ∀ x dx, H x = none → H dx = none → dx ≠ x → sp (.ref x :: (vs ++ dvs)) (upd (upd H dx (.own x)) x (.ins C dx [])) (fun v H2 => v = .non ∧ Q (.ref x) H2) (E σ)) :
    wpAny (model X.prog X.w) X.A (call (.ref C) us) (EP X pins σ Q) X.xe s := by
  have hq := h (s.heap.objs.size + 1) s.heap.objs.size (I.hok.fresh (Nat.le_succ _)) (I.hok.fresh (Nat.le_refl _)) (Nat.ne_of_lt (Nat.lt_succ_self _))
  have I2 := Inv.made (C := C) I
  have r2 : Vals (V.ref (s.heap.objs.size + 1) :: (vs ++ dvs)) (Value.ref (s.heap.objs.size + 1) :: (us ++ dz)) := .cons rfl (r.append hd)
  have hl : (Value.ref (s.heap.objs.size + 1) :: us ++ dz).length = ps.length := by have e := r2.length; rw [F.len _ _ _ _ hq] at e; exact e.symm
  refine wpAny_call (make_map (f := f) I.kIn M.makes M.init (beq_iff_eq.mp M.fn) (codeAny_mono (F.run _ X.stack _ _ ⟨Value.ref (s.heap.objs.size + 1) :: us, []⟩ (Value.ref (s.heap.objs.size + 1) :: (us ++ dz)) _ _ (E σ) ⟨hr.rm.make C us [], under_gd hr.gd⟩ (I2.env0.make C us []) (hb _ (Value.ref (s.heap.objs.size + 1) :: us) I2.kIn hl) r2 hq) fun rr s' hq' => ?_))
  cases rr with
  | error ee => exact hx pins _ _ ee s' I2 hq'
  | ok fl =>
    cases fl with
    | ret u => obtain ⟨v, H', I3, rv, ev, q3⟩ := I2.after hq'; subst ev; exact ⟨rv, ⟨V.ref (s.heap.objs.size + 1), H', I3, rfl, q3⟩⟩
    | next => exact False.elim hq'
    | brk => exact False.elim hq'
    | cont => exact False.elim hq'
theorem pe_makeD (M : Mk X.K C f) (F : FnG X.prog X.w X.K X.mg X.base CX k f fd ps sp) (hr : RoomG (k + 1) X.A) (hg : Gl X x) (hm : X.mg x = some (.ref C)) (hb : Binds X.K fd ps dz) (hd : Vals dvs dz) (hx : ∀ σ, PassesAt CX X σ (E σ))
    (ha : PA X es t) (hpl : es.all plainE = true) (hdb : (x == ("__debug__" : Str)) = false) (h0 : es = [] → ∀ σ H Q, t σ H Q → Q [] H) :
    PE X (.Call (.Name x p) es [] pos) (fun σ H Q => t σ H fun vs H1 => ∀ x dx, H1 x = none → H1 dx = none → dx ≠ x → sp (.ref x :: (vs ++ dvs)) (upd (upd H1 dx (.own x)) x (.ins C dx [])) (fun v H2 => v = .non ∧ Q (.ref x) H2) (E σ)) := by
  refine ⟨fun pins s σ H Q I h => ?_⟩
  refine wpAny_Call_Name_kw (ld_glob I hg hm ?_ hdb)
  cases es with
  | nil =>
    have h1 := h0 rfl _ _ _ h
    exact PySem.W.callWith_K0 I.kIn M.kp (run_makeD (us := []) (E := E) M F hr hb hd (hx σ) I .nil h1)
  | cons e0 es =>
    rw [List.all_cons, Bool.and_eq_true] at hpl
    refine PySem.W.callWith_K (h₀ := X.base) I.ok.mod.kin M.kp (thn (ha.run pos pins s σ H _ I h) fun us s1 ⟨vs, H1, I1, r, q⟩ => ⟨I1.kIn, ?_⟩) (plain_star hpl.1) (star_all hpl.2)
    exact run_makeD (E := E) M F hr hb hd (hx σ) I1 r q
theorem pe_eqO {a b : Expr} {tb : TE} (ha : PE X a ta) (hb : PE X b tb) (hs : PySem.W.findIn X.K (.ref C) "__eq__" = some (some (.ref f))) (hf : PySem.W.isFn X.K (.ref f) = true) (F : FnG X.prog X.w X.K X.mg X.base CX k f fd ps sp) (hr : RoomG k X.A) (hbd : Binds X.K fd ps []) (hx : ∀ σ, PassesAt CX X σ (E σ))
    (hm : behindInMarks .Eq b = false) :
    PE X (.Compare a [.Eq] [b] pos) (fun σ H Q => ta σ H fun x H1 => tb σ H1 fun y H2 => ∃ p p' dx dy fs gs, x = .ref p ∧ y = .ref p' ∧ H2 p = some (.ins C dx fs) ∧ H2 p' = some (.ins C dy gs) ∧ sp [.ref p, .ref p'] H2 (fun v H3 => ∃ b, v = .bl b ∧ Q v H3) (E σ)) := by
  refine ⟨fun pins s σ H Q I h => ?_⟩
  refine wpAny_Compare1 (thn (ha.run pins s σ H _ I h) fun v s1 ⟨x, H1, I1, r1, q1⟩ => thn (hb.run pins s1 σ H1 _ I1 q1) fun u s2 ⟨y, H2, I2, r2, q2⟩ => ?_) hm
  obtain ⟨p, p', dx, dy, fs, gs, rfl, rfl, e1, e2, hsp⟩ := q2
  cases r1
  cases r2
  show wpAny (model X.prog X.w) X.A (richCompare .Eq (.ref p) (.ref p')) (EP X pins σ Q) X.xe s2
  obtain ⟨mA, J, _⟩ := ins_get I2.hok e1
  obtain ⟨mB, J', _⟩ := ins_get I2.hok e2
  obtain ⟨od, J, _⟩ := J.look
  obtain ⟨od', J', _⟩ := J'.look
  obtain ⟨m, hF⟩ := I2.fr
  refine PySem.W.cmp_K (op := .Eq) (tb := .ref C) hr.rm.units0 hF I2.ok.mod.kin J J'.type (by simp [PySem.W.notFirst]) hs hf ?_
  have hl := F.len _ _ _ _ hsp
  have rr : Vals [V.ref p, V.ref p'] [Value.ref p, Value.ref p'] := .cons rfl (.cons rfl .nil)
  refine wpAny_call (codeAny_mono (F.run X.A X.stack s2 H2 ⟨[.ref p, .ref p'], []⟩ [.ref p, .ref p'] [.ref p, .ref p'] _ (E σ) hr I2.env0 (by
    have := hbd s2 [.ref p, .ref p'] I2.kIn (by simpa using hl)
    simpa using this) rr hsp) fun r s' hq => ?_)
  cases r with
  | error e => exact hx σ pins H2 s2 e s' I2 hq
  | ok fl =>
    cases fl with
    | ret w =>
      obtain ⟨z, H', I', rz, bb, ez, ex⟩ := I2.after hq
      subst ez
      cases rz
      exact ⟨.bl bb, H', I', rfl, ex⟩
    | next => exact False.elim hq
    | brk => exact False.elim hq
    | cont => exact False.elim hq
theorem cx_no {outer : List Env} {P : Program} {w : World} {H : Hp} {s : Shared} {e : Value} {s' : Shared} (h : L2.CX P w outer H s (fun _ _ _ => False) e s') : False := by
  obtain ⟨_, _, _, _, _, _, _, _, _, _, _, _, z⟩ := h
  exact z
theorem call_lenO (hs : PySem.W.findIn X.K (.ref C) "__len__" = some (some (.ref f))) (hf : PySem.W.isFn X.K (.ref f) = true) (F : FnG X.prog X.w X.K X.mg X.base (L2.CX X.prog X.w) k f fd ps sp) (hr : RoomG (k + 1) X.A) (hbd : Binds X.K fd ps []) :
    CallR X (.builtin "len") (fun xs H Q => ∃ p dx fs, xs = [.ref p] ∧ H p = some (.ins C dx fs) ∧ sp [.ref p] H (fun v H2 => ∃ n : Nat, v = .int n ∧ n < 1000000 ∧ Q (.int n) H2) fun _ _ _ => False) := by
  intro pins s σ H xs us Q I r h
  obtain ⟨p, dx, fs, rfl, e1, hsp⟩ := h
  cases r with
  | cons r1 r2 =>
    cases r2
    cases r1
    obtain ⟨mA, J, _⟩ := ins_get I.hok e1
    obtain ⟨od, J, _⟩ := J.look
    obtain ⟨m, hF⟩ := I.fr
    refine PySem.W.len_K hF I.ok.mod.kin J hs hf ?_
    have hl := F.len _ _ _ _ hsp
    have rr : Vals [V.ref p] [Value.ref p] := .cons rfl .nil
    refine wpAny_call (codeAny_mono (F.run X.A.in1 X.stack s H ⟨[.ref p], []⟩ [.ref p] [.ref p] _ _ ⟨hr.rm.in1, hr.gd⟩ I.env0.in1 (by
      have := hbd s [.ref p] I.kIn (by simpa using hl)
      simpa using this) rr hsp) fun r s' hq => ?_)
    cases r with
    | error e => exact (cx_no hq).elim
    | ok fl =>
      cases fl with
      | ret w =>
        obtain ⟨z, H', I', rz, n, ez, hn, q⟩ := I.after hq
        subst ez
        obtain ⟨t, rfl⟩ := rz
        exact ⟨⟨by omega, by omega⟩, .int n, H', I'.tok _, ⟨_, rfl⟩, q⟩
      | next => exact False.elim hq
      | brk => exact False.elim hq
      | cont => exact False.elim hq
theorem call_reprO (hs : PySem.W.findIn X.K (.ref C) "__repr__" = some (some (.ref f))) (hf : PySem.W.isFn X.K (.ref f) = true) (F : FnG X.prog X.w X.K X.mg X.base (L2.CX X.prog X.w) k f fd ps sp) (hr : RoomG (k + 1) X.A) (hbd : Binds X.K fd ps []) :
    CallR X (.builtin "repr") (fun xs H Q => ∃ p dx fs, xs = [.ref p] ∧ H p = some (.ins C dx fs) ∧ sp [.ref p] H (fun v H2 => ∃ z : Str, v = .str z ∧ Q (.str z) H2) fun _ _ _ => False) := by
  intro pins s σ H xs us Q I r h
  obtain ⟨p, dx, fs, rfl, e1, hsp⟩ := h
  cases r with
  | cons r1 r2 =>
    cases r2
    cases r1
    obtain ⟨mA, J, _⟩ := ins_get I.hok e1
    obtain ⟨od, J, _⟩ := J.look
    obtain ⟨m, hF⟩ := I.fr
    refine PySem.W.repr_K hr.rm.in1.units0 hF I.ok.mod.kin J hs hf ?_
    have hl := F.len _ _ _ _ hsp
    have rr : Vals [V.ref p] [Value.ref p] := .cons rfl .nil
    refine wpAny_call (codeAny_mono (F.run X.A.in1 X.stack s H ⟨[.ref p], []⟩ [.ref p] [.ref p] _ _ ⟨hr.rm.in1, hr.gd⟩ I.env0.in1 (by
      have := hbd s [.ref p] I.kIn (by simpa using hl)
      simpa using this) rr hsp) fun r s' hq => ?_)
    cases r with
    | error e => exact (cx_no hq).elim
    | ok fl =>
      cases fl with
      | ret w =>
        obtain ⟨z, H', I', rz, y, ez, q⟩ := I.after hq
        subst ez
        obtain ⟨t, rfl⟩ := rz
        exact ⟨.str y, H', I', ⟨_, rfl⟩, q⟩
      | next => exact False.elim hq
      | brk => exact False.elim hq
      | cont => exact False.elim hq
theorem pe_makeKG {n : Nat} {ks : List Str} {kws : List Keyword} {tk : TA} {e : Expr} {g : List Value → List Value → List Value} {gV : List V → List V → List V} (M : Mk X.K C f) (F : FnG X.prog X.w X.K X.mg X.base CX k f fd ps sp) (hr : RoomG (k + 1) X.A) (hg : Gl X x) (hm : X.mg x = some (.ref C)) (hb : KBn X.K fd ps (n + 1) ks g gV) (hx : ∀ σ, PassesAt CX X σ (E σ))
    (ha : PA X (e :: es) t) (hkw : PK X kws tk) (hn : kws.map (·.arg) = ks.map some) (hdb : (x == ("__debug__" : Str)) = false) (hpl : (e :: es).all plainE = true) :
    PE X (.Call (.Name x p) (e :: es) kws pos) (fun σ H Q => t σ H fun vs H1 => tk σ H1 fun zs H2 => vs.length = n ∧ zs.length = ks.length ∧
      ∀ x dx, H2 x = none → H2 dx = none → dx ≠ x → sp (gV (.ref x :: vs) zs) (upd (upd H2 dx (.own x)) x (.ins C dx [])) (fun v H3 => v = .non ∧ Q (.ref x) H3) (E σ)) := by
  rw [List.all_cons, Bool.and_eq_true] at hpl
  have he := plain_star (env := X.env) (es := es) hpl.1
  obtain ⟨n1, n2, n3⟩ := kw_names (env := X.env) (pos := pos) hn
  refine ⟨fun pins s σ H Q I h => wpAny_Call_Name_kw (ld_glob I hg hm ?_ hdb)⟩
  have hp0 : (backTo pos (starEach (e :: es) X.env)).any (·.1) = false := by
    rw [he]
    show (false || (backTo pos (starEach es X.env)).any (·.1)) = false
    rw [Bool.false_or]
    exact star_all hpl.2
  refine PySem.W.callWith_KW (h₀ := X.base) I.ok.mod.kin M.kp n1 (thn (ha.run pos pins s σ H _ I h) fun us s1 ⟨vs, H1, I1, r, q⟩ => ?_) (by rw [hp0, n3]; rfl) he
  refine thn (hkw.run pos pins s1 σ H1 _ I1 q) fun ws s2 ⟨zs, H2, I2, rz, l1, l2, q2⟩ => ⟨I2.kIn, ?_⟩
  rw [n2]
  have hq := q2 (s2.heap.objs.size + 1) s2.heap.objs.size (I2.hok.fresh (Nat.le_succ _)) (I2.hok.fresh (Nat.le_refl _)) (Nat.ne_of_lt (Nat.lt_succ_self _))
  have I3 := Inv.made (C := C) I2
  have r1 : Vals (V.ref (s2.heap.objs.size + 1) :: vs) (Value.ref (s2.heap.objs.size + 1) :: us) := .cons rfl r
  have r2 := hb.rel r1 rz
  have e1 : (Value.ref (s2.heap.objs.size + 1) :: us).length = n + 1 := r1.length.symm.trans (congrArg Nat.succ l1)
  have e2 : ws.length = ks.length := rz.length.symm.trans l2
  refine wpAny_call (make_map (f := f) I2.kIn M.makes M.init (beq_iff_eq.mp M.fn) (codeAny_mono (F.run _ X.stack _ _ ⟨Value.ref (s2.heap.objs.size + 1) :: us, ks.zip ws⟩ (g (Value.ref (s2.heap.objs.size + 1) :: us) ws) _ _ (E σ) ⟨hr.rm.make C us (ks.zip ws), under_gd hr.gd⟩
    (I3.env0.make C us (ks.zip ws)) (hb.to _ (Value.ref (s2.heap.objs.size + 1) :: us) ws I3.kIn e1 e2) r2 hq) fun r s' hq' => ?_))
  cases r with
  | error ee => exact hx σ pins _ _ ee s' I3 hq'
  | ok fl =>
    cases fl with
    | ret u => obtain ⟨v, H', I4, rv, ev, q3⟩ := I3.after hq'; subst ev; exact ⟨rv, ⟨V.ref (s2.heap.objs.size + 1), H', I4, rfl, q3⟩⟩
    | next => exact False.elim hq'
    | brk => exact False.elim hq'
    | cont => exact False.elim hq'
theorem call_isF {cn : Str} (c : ClsF X.K cn C) : CallR X (.builtin "isinstance") (fun xs H Q => ∃ a dx fs, xs = [.ref a, .ref C] ∧ H a = some (.ins C dx fs) ∧ Q (.bl true) H) := by
  intro pins s σ H xs us Q I r h
  obtain ⟨a, dx, fs, rfl, ha, q⟩ := h
  cases r with
  | cons r1 r2 =>
    cases r2 with
    | cons r2 r3 =>
      cases r3
      cases r2
      exact isinst_ok I r1 (TyOf.ins ha c.cl c.ha c.hn c.htk c.hm) c.me fun tk => ⟨.bl true, H, I.tok _, rfl, q⟩
end
end Z

set_option Elab.async false
set_option linter.all false
set_option maxRecDepth 100000
set_option maxHeartbeats 4000000
namespace Z
open PySem PySem.Spec PyProof.Rows L2
abbrev cw (defs : Str → Option DefT) (gl : Str → Option D) (k : Nat) : Cw := ⟨sem defs gl k, gl⟩
abbrev ex0 : EX := fun _ _ _ => False
theorem exk0 {K : PySem.W.Frag} {w : World} {H : Hp} {S : Sto} {W : WX} : ExK K w H S ex0 W := fun _ _ _ h => h.elim
theorem bfn_boot {b : Bi} {n : String} (h : b.fn = some n) : bootBuiltins (Str.ofString n) = some (.builtin n) ∧ n ∈ bnames := by
  cases b <;> simp only [Bi.fn] at h <;> cases h <;> exact ⟨by decide +kernel, by decide⟩
theorem bty_boot {b : Bi} {n : String} (h : b.tyn = some n) : bootBuiltins (Str.ofString n) = some (.type n) ∧ n ∈ bnames := by
  cases b <;> simp only [Bi.tyn] at h <;> cases h <;> exact ⟨by decide +kernel, by decide⟩
theorem tyNames_boot {n : String} (h : tyNames.contains n = true) : bootBuiltins (Str.ofString n) = some (.type n) ∧ n ∈ bnames := by
  have h' : n ∈ tyNames := by simpa using h
  simp only [tyNames, List.mem_cons, List.not_mem_nil, or_false] at h'
  rcases h' with rfl | rfl | rfl | rfl | rfl | rfl <;> exact ⟨by decide +kernel, by decide⟩
section
variable {K : PySem.W.Frag} {w : World} {H H1 H' : Hp} {S S1 S' : Sto} {p : Addr}
theorem HR.free (h : HR K w H S) {o : HO} (n : H p = none) : HR K w (upd H p o) S := fun a ob q => by
  have ne : a ≠ p := fun z => by subst z; rw [h.fresh n] at q; cases q
  exact (h a ob q).mono (ext_new n) (upd_ne ne)
theorem Fm.addS {ob : Ob} (f : Fm H1 S1 H S) (n : H1 p = none) : Fm H1 S1 H (updS S p ob) := fun a o e q =>
  ⟨(f a o e q).1, by rw [updS_ne (ne_of_none e n)]; exact (f a o e q).2⟩
theorem HR.addS {ob : Ob} (h : HR K w H S) (r : ObR K w H p ob) : HR K w H (updS S p ob) := fun a u q => by
  by_cases ne : a = p
  · subst ne; rw [updS_same] at q; cases q; exact r
  · rw [updS_ne ne] at q
    exact h a u q
theorem ext_put {o u : HO} (e : H p = some o) (h1 : ∀ xs, o ≠ .tup xs) (h2 : ∀ q v, o ≠ .frz q v) (h3 : ∀ fs, o ≠ .xd fs) : Ext H (upd H p u) := by
  refine ⟨fun a xs t => ?_, fun a q xs t => ?_, fun a fs t => ?_⟩
  · have ne : a ≠ p := fun z => by
      subst z
      rcases t with t | ⟨o, t⟩ <;> (rw [e] at t; cases t)
      · exact h1 _ rfl
      · exact h2 _ _ rfl
    rcases t with t | ⟨u, t⟩
    · exact .inl (by rw [upd_ne ne]; exact t)
    · exact .inr ⟨u, by rw [upd_ne ne]; exact t⟩
  · have ne : a ≠ p := fun z => by
      subst z
      rw [e] at t
      cases t
      exact h2 _ _ rfl
    rw [upd_ne ne]
    exact t
  · have ne : a ≠ p := fun z => by
      subst z
      rw [e] at t
      cases t
      exact h3 _ rfl
    rw [upd_ne ne]
    exact t
theorem ext_out {vs us : List V} (e : H p = some (.lst vs)) : Ext H (upd H p (.lst us)) := ext_put e (fun _ z => nomatch z) (fun _ _ z => nomatch z) fun _ z => nomatch z
theorem HR.out {vs us : List V} (h : HR K w H S) (e : H p = some (.lst vs)) (n : S p = none) : HR K w (upd H p (.lst us)) S := fun a ob q => by
  have ne : a ≠ p := fun z => by subst z; rw [n] at q; cases q
  exact (h a ob q).mono (ext_out e) (upd_ne ne)
theorem Fm.out {o : HO} (f : Fm H1 S1 H S) (n : H1 p = none) : Fm H1 S1 (upd H p o) S := fun a u e q =>
  ⟨by rw [upd_ne (ne_of_none e n)]; exact (f a u e q).1, (f a u e q).2⟩
theorem relst_wipe {σd : StD} {σ : L2.St} (h : RelSt K w H σd σ) : ∀ vs : List Nat, RelSt K w H (wipeD σd vs) (wipe σ vs)
  | [] => h
  | v :: vs => by
    have ih := relst_wipe h vs
    unfold wipeD wipe
    refine ⟨by rw [List.length_set, List.length_set]; exact ih.1, fun j d q => ?_⟩
    by_cases hj : v = j
    · subst hj
      by_cases hl : v < (wipeD σd vs).length
      · rw [List.getElem?_set_self hl] at q; cases q
      · rw [List.getElem?_eq_none (by simpa using hl)] at q; cases q
    · rw [List.getElem?_set_ne hj] at q ⊢
      exact ih.2 j d q
theorem wipe_wipe (σ : L2.St) (vs : List Nat) : wipe (wipe σ vs) vs = wipe σ vs := by
  have one : ∀ (us : List Nat) (τ : L2.St), (∀ u ∈ us, u ∈ vs) → wipe (wipe τ us) vs = wipe τ vs := by
    intro us
    induction us with
    | nil => intro τ _; rfl
    | cons u us ih =>
      intro τ hu
      show wipe ((wipe τ us).set u none) vs = _
      rw [wipe_set (hu u List.mem_cons_self), ih τ fun x hx => hu x (List.mem_cons_of_mem _ hx)]
  exact one vs σ fun _ h => h

theorem lc_of {J : It} {ds : List D} {G : Sto → Prop} {g : Tg} {fT : WT} {fE : WE} {vs : List Nat} {σd : StD} {σ : L2.St} {R : D → Sto → Prop} {Q : VK} {Da : Addr} (rs : RelSt K w H1 σd σ) (hr : HR K w H1 S1) (wk : WalkD K w J ds G H1) (og : ownG vs g = true) (nD : H1 Da = none)
    (f : lcL (fun d S2 k => wpG g d (wipeD σd vs) S2 fun σ2 => fT σ2 S2 fun b S3 => if b = true then fE σ2 S3 fun v S4 => k (some v) S4 else k none S3) G R ds [] S1)
    (q : Kont K w H1 S1 R Q) :
    ∃ W : Nat → Nat → Hp → Prop, (∃ m, W 0 m (upd H1 Da (.lst []))) ∧ ∀ i m H, W i m H →
      (J.stop i H ∧ Q (.ref Da) H) ∨ (J.go i H ∧ ∃ Nx : Hp → Prop, (∀ H', Nx H' → ∃ m', m' < m ∧ W (i + 1) m' H') ∧ ∀ x H', J.yld i H x H' → gV K g x (wipe σ vs) H' fun σ2 H2 => wipe σ2 vs = wipe σ vs ∧ tDT K w W0 ex0 fT σ2 H2 fun b H3 =>
        if b = true then tD K w W0 ex0 fE σ2 H3 fun y H4 => ∃ acc, H4 Da = some (.lst acc) ∧ acc.length < sizeLine ∧ Nx (upd H4 Da (.lst (acc ++ [y]))) else Nx H3) := by
  refine ⟨fun i m Hh => m = ds.length - i ∧ i ≤ ds.length ∧ ∃ S acc us, HR K w Hh S ∧ Fm H1 S1 Hh S ∧ Hh Da = some (.lst us) ∧ S Da = none ∧ RelDs K w Hh acc us ∧
      lcL (fun d S2 k => wpG g d (wipeD σd vs) S2 fun σ2 => fT σ2 S2 fun b S3 => if b = true then fE σ2 S3 fun v S4 => k (some v) S4 else k none S3) G R (ds.drop i) acc S,
    ⟨ds.length, by simp, Nat.zero_le _, S1, [], [], hr.free nD, Fm.tup hr nD, upd_same, hr.fresh nD, relds_nil, by simpa using f⟩, ?_⟩
  rintro i m Hh ⟨rfl, hi, S, acc, us, hh, fm, eD, sD, ra, fl⟩
  by_cases hlt : i < ds.length
  · rw [List.drop_eq_getElem_cons hlt] at fl
    unfold lcL at fl
    obtain ⟨gS, hz, ft⟩ := fl
    have ex : Ext H1 Hh := fm.ext hr
    refine .inr ⟨wk.goes i Hh S hlt ex hh gS, fun H' => ∃ S acc us, HR K w H' S ∧ Fm H1 S1 H' S ∧ H' Da = some (.lst us) ∧ S Da = none ∧ RelDs K w H' acc us ∧
      lcL (fun d S2 k => wpG g d (wipeD σd vs) S2 fun σ2 => fT σ2 S2 fun b S3 => if b = true then fE σ2 S3 fun v S4 => k (some v) S4 else k none S3) G R (ds.drop (i + 1)) acc S,
      fun H' z => ⟨ds.length - (i + 1), by omega, rfl, hlt, z⟩, fun x H' y => ?_⟩
    obtain ⟨d, ed, rd, hH⟩ := wk.yields i Hh S x H' hlt ex hh gS y
    rw [List.getElem?_eq_getElem hlt] at ed
    cases ed
    have hh' : HR K w H' S := by
      rcases hH with rfl | ⟨T, xs, nT, rfl⟩
      · exact hh
      · exact hh.tup nT
    have fm2 : Fm Hh S H' S := by
      rcases hH with rfl | ⟨T, xs, nT, rfl⟩
      · exact Fm.refl _ _
      · exact Fm.tup hh nT
    have fm' : Fm H1 S1 H' S := fm.trans fm2
    have eD' : H' Da = some (.lst us) := (fm2 Da _ eD sD).1
    refine gD_of (vs := vs) hh' g _ x (wipeD σd vs) (wipe σ vs) _ _ rd (relst_wipe (rs.mono (fm'.ext hr)) vs) ft fun σd2 σ2 h1 h2 h3 => ⟨by rw [h3 og, wipe_wipe], ?_⟩
    refine ⟨σd2, S, _, h2, hh', exk0, h1, fun b S3 hb H3 f3 h3' => ?_⟩
    obtain ⟨e3, s3⟩ := f3 Da _ eD' sD
    have ex3 : Ext H' H3 := f3.ext hh'
    have ra3 : RelDs K w H3 acc us := RelDs.mono ex3 _ _ (RelDs.mono (fm2.ext hh) _ _ ra)
    cases b with
    | false =>
      rw [if_neg Bool.false_ne_true] at hb ⊢
      exact ⟨S3, acc, us, h3', fm'.trans f3, e3, s3, ra3, hb⟩
    | true =>
      rw [if_pos rfl] at hb ⊢
      refine ⟨σd2, S3, _, h2.mono ex3, h3', exk0, hb, fun v S4 hv y H4 f4 rv h4 => ?_⟩
      obtain ⟨e4, s4⟩ := f4 Da _ e3 s3
      have ex4 : Ext H3 H4 := f4.ext h3'
      refine ⟨us, e4, by rw [← ra.length]; exact hz, S4, acc ++ [v], us ++ [y], h4.out e4 s4, ((fm'.trans f3).trans f4).out nD, upd_same, s4, ?_, hv⟩
      exact RelDs.mono (ext_out e4) _ _ ((RelDs.mono ex4 _ _ ra3).snoc rv)
  · have e : i = ds.length := by omega
    subst e
    rw [List.drop_length] at fl
    unfold lcL at fl
    obtain ⟨gS, ft⟩ := fl
    refine .inl ⟨wk.stops Hh S (fm.ext hr) hh gS, ?_⟩
    exact q _ _ (ft Da sD) _ Hh (fm.addS nD) (by simp only [RelD]) (hh.addS ⟨us, eD, ra⟩)
end
section
variable {defs : Str → Option DefT} {gl : Str → Option D} {k : Nat}
theorem XOk.blk {c : Cc} {W : WX} {X : Cx} (o : XOk defs gl k c W X) (s : Shared) (H : Hp) (scope : Scope) (C : Addr) (cl : List (Str × Addr)) (fp : List Addr) : XOk defs gl k (blkCc c scope) W0 (X.blk s H scope (compEnvC scope cl C X.env) fp) where
  cal := o.cal
  calK := o.calK
  gls := o.gls
  blt := o.blt
  hN := o.hN
  hsc := by
    show relS scope X.env.scope = relS scope c.sc
    rw [o.hsc]
  hfn := rfl
  calH := o.calH
  xs := o.xs
  xr := o.xr
  ms := o.ms
  mks := o.mks
  mkk := o.mkk
  room := o.room
  hand := o.hand
  calm := o.calm
  tk := takes0
  po := PassesOwn.never
  nd := o.nd
  hdf := o.hdf
end
end Z

set_option Elab.async false
set_option linter.all false
set_option maxRecDepth 100000
set_option maxHeartbeats 4000000
namespace Z
open PySem PySem.Spec PyProof.Rows L2

section
variable {K : PySem.W.Frag} {w : World} {H H' : Hp} {S : Sto}
theorem relds_of : ∀ (ds : List D) (vs : List V), ds.length = vs.length → (∀ (j : Nat) d v, ds[j]? = some d → vs[j]? = some v → RelD K w H d v) → RelDs K w H ds vs
  | [], [], _, _ => relds_nil
  | [], _ :: _, e, _ => by cases e
  | _ :: _, [], e, _ => by cases e
  | d :: ds, v :: vs, e, h => relds_cons (h 0 d v rfl rfl) (relds_of ds vs (by simpa using e) fun j d' v' h1 h2 => h (j + 1) d' v' (by simpa using h1) (by simpa using h2))
theorem ext_up (up : ∀ c o, H c = some o → H' c = some o) : Ext H H' := ⟨fun a xs t => by
  rcases t with t | ⟨o, t⟩
  · exact .inl (up _ _ t)
  · exact .inr ⟨o, up _ _ t⟩, fun a o xs t => up _ _ t, fun a fs t => up _ _ t⟩
theorem HR.up (h : HR K w H S) (up : ∀ c o, H c = some o → H' c = some o) : HR K w H' S := fun a ob q => by
  have r := h a ob q
  refine r.mono (ext_up up) ?_
  cases ob with
  | lst ds => obtain ⟨vs, e1, _⟩ := r; rw [e1, up _ _ e1]
  | dct ds => obtain ⟨vs, e1, _⟩ := r; rw [e1, up _ _ e1]
  | ins C ds => obtain ⟨_, dx, vs, _, e1, _⟩ := r; rw [e1, up _ _ e1]
theorem relds_rev2 {ds : List D} {vs : List V} (r : RelDs K w H ds vs) : RelDs K w H ds.reverse vs.reverse := by
  have hl := r.length
  refine relds_of _ _ (by rw [List.length_reverse, List.length_reverse, hl]) fun j d v h1 h2 => ?_
  have hj : j < ds.length := by
    by_cases h : j < ds.length
    · exact h
    · rw [List.getElem?_eq_none (by rw [List.length_reverse]; omega)] at h1; cases h1
  rw [List.getElem?_reverse hj] at h1
  rw [List.getElem?_reverse (by omega)] at h2
  obtain ⟨v', e1, e2⟩ := r.get h1
  rw [hl] at e1
  rw [e1] at h2
  cases h2
  exact e2
theorem zip_kont {R : D → Sto → Prop} {Q : VK} {xs ys : List D} {vs ws us : List V} {q : Addr} (k : Kont K w H S R Q) (h : HR K w H S) (r1 : RelDs K w H xs vs) (r2 : RelDs K w H ys ws) (n : H q = none) (up : ∀ c o, H c = some o → H' c = some o)
    (e : H' q = some (.lst us)) (hl : us.length = min vs.length ws.length) (hat : ∀ (j : Nat) v, us[j]? = some v → ∃ t x y, v = .ref t ∧ H' t = some (.tup [x, y]) ∧ vs[j]? = some x ∧ ws[j]? = some y)
    (hr : R (.ref q) (updS S q (.lst ((xs.zip ys).map fun z => .tup [z.1, z.2])))) : Q (.ref q) H' := by
  have rl : RelDs K w H' ((xs.zip ys).map fun z => D.tup [z.1, z.2]) us := by
    refine relds_of _ _ (by rw [List.length_map, List.length_zip, hl, r1.length, r2.length]) fun j d v h1 h2 => ?_
    obtain ⟨t, x, y, rfl, a1, a2, a3⟩ := hat j v h2
    rw [List.getElem?_map] at h1
    cases ez : (xs.zip ys)[j]? with
    | none => rw [ez] at h1; cases h1
    | some z =>
      rw [ez] at h1
      cases h1
      obtain ⟨b1, b2⟩ := List.getElem?_zip_eq_some.mp ez
      obtain ⟨v1, c1, c2⟩ := r1.get b1
      obtain ⟨v2, c3, c4⟩ := r2.get b2
      rw [a2] at c1; cases c1
      rw [a3] at c3; cases c3
      simp only [RelD]
      exact ⟨t, [x, y], rfl, SqT.of a1, relds_cons (RelD.mono (ext_up up) _ _ c2) (relds_cons (RelD.mono (ext_up up) _ _ c4) relds_nil)⟩
  refine k _ _ hr _ _ (fun a o e1 e2 => ⟨up a o e1, by rw [updS_ne (ne_of_none e1 n)]; exact e2⟩) (by simp only [RelD]) fun a ob qa => ?_
  by_cases ha : a = q
  · subst ha
    rw [updS_same] at qa
    cases qa
    exact ⟨us, e, rl⟩
  · rw [updS_ne ha] at qa
    exact (h.up up) a ob qa
end
section
variable {defs : Str → Option DefT} {gl : Str → Option D} {k : Nat}
theorem un_neg_ok {X : Cx} : UnR X (unaryOp .USub) (rD1 X.K X.w fun x S R => match x with | .int i => R (.int (-i)) S | _ => False) := by
  intro pins s σ H x v Q I rx hh
  obtain ⟨dx, S, R, r1, h, f, kk⟩ := hh
  split at f
  · simp only [RelD] at r1
    exact un_neg pins s σ H x v Q I rx ⟨_, r1, kk.same f (by simp only [RelD]) h⟩
  · exact f.elim
def trsOf (K : PySem.W.Frag) (w : World) (W : WX) (C : Cw) (ex : EX) : List Str → List T → List (TE × TE)
  | k :: ks, t :: ts => (tC (.str k), tD K w W ex (wpE C ex t)) :: trsOf K w W C ex ks ts
  | _, _ => []
theorem sem_len {f : Str} {d : DefT} {ds : List D} {S : Sto} {R : D → Sto → Prop} {E : Exc → Sto → Prop} (h : sem defs gl k f ds S R E) (e : defs f = some d) : ds.length = d.np := by
  cases k with
  | zero => exact h.elim
  | succ k =>
    simp only [sem, e] at h
    exact h.1
theorem chkKs_all : ∀ {ks : List Str} {kz : List (Option Expr)}, chkKs ks kz = true → kz.all (·.isSome) = true ∧ ks.length = kz.length
  | [], kz, h => by
    simp only [chkKs] at h
    split at h
    · exact ⟨rfl, rfl⟩
    · cases h
  | x :: ks, kz, h => by
    simp only [chkKs] at h
    split at h
    · simp only [Bool.and_eq_true] at h
      obtain ⟨h1, h2⟩ := chkKs_all h.2
      exact ⟨by rw [List.all_cons, h1]; rfl, by rw [List.length_cons, List.length_cons, h2]⟩
    · cases h
theorem relkv_fold {K : PySem.W.Frag} {w : World} {H : Hp} : ∀ {ks : List Str} {ds : List D} {us : List V} {acc : List (Key × D)} {acc2 : List (Key × V)}, RelDs K w H ds us → RelKV K w H acc acc2 →
    RelKV K w H ((ks.zip ds).foldl (fun acc kv => putD acc (.inr kv.1) kv.2) acc) (mergeK acc2 ((ks.zip us).map fun z => (Sum.inr z.1, z.2)))
  | [], ds, us, acc, acc2, r, ra => by simpa [mergeK] using ra
  | x :: ks, [], us, acc, acc2, r, ra => by
    simp only [RelDs] at r
    subst r
    simpa [mergeK] using ra
  | x :: ks, d :: ds, us, acc, acc2, r, ra => by
    simp only [RelDs] at r
    obtain ⟨v, t, rfl, r1, r2⟩ := r
    simp only [List.zip_cons_cons, List.foldl_cons, List.map_cons, mergeK]
    exact relkv_fold r2 (relkv_put _ r1 ra)
theorem pairs_of {K : PySem.W.Frag} {w : World} {W : WX} {C : Cw} {ex : EX} {σd : StD} {σ : L2.St} : ∀ (ks : List Str) (ts : List T) {H : Hp} {S : Sto} {R : List D → Sto → Prop} {Q : List (V × V) → Hp → Prop}, ks.length = ts.length → RelSt K w H σd σ → HR K w H S → ExK K w H S ex W → wpEs C ex ts σd S R →
    (∀ ds S', R ds S' → ∀ us H', Fm H S H' S' → RelDs K w H' ds us → HR K w H' S' → Q ((ks.zip us).map fun z => (V.str z.1, z.2)) H') → tPairs (trsOf K w W C ex ks ts) σ H Q
  | [], [], H, S, R, Q, hl, rs, hr, xk, f, q => by
    simp only [wpEs] at f
    exact q [] S f [] H (Fm.refl _ _) relds_nil hr
  | [], _ :: _, H, S, R, Q, hl, rs, hr, xk, f, q => by simp at hl
  | _ :: _, [], H, S, R, Q, hl, rs, hr, xk, f, q => by simp at hl
  | x :: ks, t :: ts, H, S, R, Q, hl, rs, hr, xk, f, q => by
    simp only [wpEs] at f
    refine ⟨σd, S, _, rs, hr, xk, f, fun d S1 hd v H1 f1 rv h1 => ?_⟩
    refine pairs_of ks ts (by simpa using hl) (rs.mono (f1.ext hr)) h1 (xk.next f1) hd fun ds S2 hds us H2 f2 rus h2 => ?_
    exact q _ S2 hds (v :: us) H2 (f1.trans f2) (relds_cons (RelD.mono (f2.ext h1) _ _ rv) rus) h2
def ifV (e : Expr) : Bool := match e with
  | .UnaryOp _ _ _ => false
  | .BoolOp _ _ _ => false
  | .IfExp _ _ _ _ => false
  | .Compare _ _ _ _ => false
  | _ => true
theorem plain_true {e : Expr} {env : Env} (h : ifV e = true) : ∀ whole, isTrue e env whole = (do let v ← whole; standAt e.pos; holding [v] (truthy v)) := fun wh => by
  cases e <;> first | rfl | (exact absurd (show false = true from h) Bool.false_ne_true)
theorem sE_var {i : Nat} {c : Cc} {W : WX} {ex : EX} {X : Cx} {e : Expr} (o : XOk defs gl k c W X) (h : chkE c (.var i) e = true) : PE X e (tD X.K X.w W ex (wpE (cw defs gl k) ex (.var i))) := by
  simp only [chkE] at h
  split at h
  · simp only [Bool.and_eq_true, decide_eq_true_eq] at h
    obtain ⟨v1, v2, v3⟩ := o.vis_of h.2
    refine (pe_var (by rw [o.hN]; exact h.1) v1 v2 v3).weak fun σ H Q q => ?_
    obtain ⟨σd, S, R, rs, hr, xk, f, kk⟩ := q
    simp only [wpE] at f
    split at f
    · rename_i d ed
      obtain ⟨v, e1, e2⟩ := rs.get ed
      exact ⟨v, e1, kk.same f e2 hr⟩
    · exact f.elim
  · cases h
theorem lookup_rel {K : PySem.W.Frag} {w : World} {H : Hp} {f : Str} {v : D} : ∀ {ns : List Str} {ds : List D} {vs : List V}, RelDs K w H ds vs → (ns.zip ds).lookup f = some v → ∃ u, (ns.zip vs).lookup f = some u ∧ RelD K w H v u
  | [], ds, vs, r, e => by simp at e
  | n :: ns, [], vs, r, e => by simp at e
  | n :: ns, d :: ds, vs, r, e => by
    simp only [RelDs] at r
    obtain ⟨u, us, rfl, r1, r2⟩ := r
    simp only [List.zip_cons_cons, List.lookup_cons] at e ⊢
    split at e
    · cases e; exact ⟨u, rfl, r1⟩
    · exact lookup_rel r2 e
theorem sE_call {f : Str} {ts : List T} {c : Cc} {W : WX} {ex : EX} {X : Cx} {e : Expr} (o : XOk defs gl k c W X) (h : chkE c (.call f ts) e = true) (ih : ∀ {es : List Expr}, chkEs c ts es = true → PA X es (tDA X.K X.w W ex (wpEs (cw defs gl k) ex ts))) : PE X e (tD X.K X.w W ex (wpE (cw defs gl k) ex (.call f ts))) := by
  simp only [chkE] at h
  split at h
  · simp only [Bool.and_eq_true, decide_eq_true_eq] at h
    obtain ⟨⟨⟨⟨⟨rfl, h2⟩, h3⟩, h4⟩, hkw0⟩, h5⟩ := h
    have hkw : kwT f = none := by simpa using hkw0
    obtain ⟨g1, g2, g3⟩ := o.gl_of h2
    obtain ⟨d, ed⟩ := o.hdf f h4
    have PAs := ih h3
    have hp := chkEs_plain h3
    have fin : ∀ {σd : StD} {S S1 : Sto} {R : D → Sto → Prop} {σ : L2.St} {H H1 : Hp} {Q : VK} {ds : List D} {vs : List V}, RelSt X.K X.w H σd σ → HR X.K X.w H S → ExK X.K X.w H S ex W → Kont X.K X.w H S R Q → Fm H S H1 S1 → RelDs X.K X.w H1 ds vs → HR X.K X.w H1 S1 →
        sem defs gl k f ds S1 R (fun x S2 => ex x σd S2) → spD X.K X.w d.np (sem defs gl k f) vs H1 Q (L2.WE W σ) := fun {σd S S1 R σ H H1 Q ds vs} rs hr xk kk f1 rv h1 hs =>
      ⟨ds, S1, R, _, sem_len hs ed, rv, h1, hs, kk.next f1 fun _ _ z => z, fun x S2 hx cls dd H2 f2 rx h2 => xk x σd S2 hx σ H2 cls dd (f1.trans f2) (rs.mono ((f1.trans f2).ext hr)) rx h2⟩
    rename_i es _
    cases hcm : c.calm with
    | false =>
      rw [hcm] at h5
      simp only [Bool.false_or, Bool.and_eq_true] at h5
      obtain ⟨fa, fd, ps, m1, m2, m3, m4, F⟩ := o.calH f d h5.1 ed
      cases es with
      | nil => simp at h5
      | cons e0 es =>
        rw [List.all_cons, Bool.and_eq_true] at hp
        refine (pe_callQ (E := L2.WE W) F o.rmH g1 m1 m2 m3 (fun σ => passAt o.tk σ) PAs g2 (plain_star hp.1) (star_all hp.2)).weak fun σ H Q q => ?_
        obtain ⟨σd, S, R, rs, hr, xk, f', kk⟩ := q
        simp only [wpE] at f'
        exact ⟨σd, S, _, rs, hr, xk, f', fun ds S1 hd vs H1 f1 rv h1 => fin rs hr xk kk f1 rv h1 hd⟩
    | true =>
    obtain ⟨fa, fd, ps, m1, m2, m3, m4, F⟩ := o.cal f d h4 hkw ed
    cases es with
    | nil =>
      have e0 : ts = [] := List.eq_nil_of_length_eq_zero (chkEs_len h3).symm
      subst e0
      refine (pe_callD0 (E := L2.WE W) F (o.rm hcm) g1 m1 m2 m3 (fun σ => passAt o.tk σ) g2).weak fun σ H Q q => ?_
      obtain ⟨σd, S, R, rs, hr, xk, f', kk⟩ := q
      simp only [wpE, wpEs] at f'
      exact fin rs hr xk kk (Fm.refl _ _) relds_nil hr f'
    | cons e0 es =>
      refine (pe_callD (E := L2.WE W) F (o.rm hcm) g1 m1 m2 m3 (fun σ => passAt o.tk σ) hp PAs g2).weak fun σ H Q q => ?_
      obtain ⟨σd, S, R, rs, hr, xk, f', kk⟩ := q
      simp only [wpE] at f'
      exact ⟨σd, S, _, rs, hr, xk, f', fun ds S1 hd vs H1 f1 rv h1 => fin rs hr xk kk f1 rv h1 hd⟩
  · cases h
theorem _root_.L2.PK.weak {X : Cx} {kws : List Keyword} {t t' : TA} (h : PK X kws t) (f : ∀ σ H Q, t' σ H Q → t σ H Q) : PK X kws t' := ⟨fun p pins s σ H Q I q => h.run p pins s σ H Q I (f σ H Q q)⟩
theorem chkKw_names : ∀ {us : List T} {ks : List Str} {kws : List Keyword} {c : Cc}, chkKw c us ks kws = true → kws.map (·.arg) = ks.map some ∧ us.length = ks.length
  | [], ks, kws, c, h => by
    simp only [chkKw, Bool.and_eq_true, List.isEmpty_iff] at h
    rw [h.1, h.2]
    exact ⟨rfl, rfl⟩
  | u :: us, ks, kws, c, h => by
    simp only [chkKw] at h
    split at h
    · simp only [Bool.and_eq_true, decide_eq_true_eq] at h
      obtain ⟨⟨rfl, _⟩, h2⟩ := h
      obtain ⟨g1, g2⟩ := chkKw_names h2
      exact ⟨by rw [List.map_cons, List.map_cons, g1], by rw [List.length_cons, List.length_cons, g2]⟩
    · cases h
theorem sE_callK {f : Str} {ts us : List T} {ks : List Str} {c : Cc} {W : WX} {ex : EX} {X : Cx} {e : Expr} (o : XOk defs gl k c W X) (h : chkE c (.callK f ts ks us) e = true) (ih : ∀ {es : List Expr}, chkEs c ts es = true → PA X es (tDA X.K X.w W ex (wpEs (cw defs gl k) ex ts)))
    (ik : ∀ {kws : List Keyword}, chkKw c us ks kws = true → PK X kws (tDA X.K X.w W ex (wpEs (cw defs gl k) ex us))) : PE X e (tD X.K X.w W ex (wpE (cw defs gl k) ex (.callK f ts ks us))) := by
  simp only [chkE] at h
  split at h
  · simp only [Bool.and_eq_true, decide_eq_true_eq] at h
    obtain ⟨⟨⟨⟨⟨⟨⟨rfl, h2⟩, h3⟩, h4⟩, h5⟩, h6⟩, h7⟩, hca⟩ := h
    obtain ⟨g1, g2, g3⟩ := o.gl_of h2
    obtain ⟨d, ed⟩ := o.hdf f h6
    have PAs := ih h3
    have PKs := ik h5
    have hp := chkEs_plain h3
    obtain ⟨hnm, hul⟩ := chkKw_names h5
    obtain ⟨fa, fd, ps, m1, m2, m3, m4, F⟩ := o.calK f d ts.length ks h6 h7 ed
    rename_i es kws _
    cases es with
    | nil => simp at h4
    | cons e0 es =>
      refine (pe_callKG (E := L2.WE W) F (o.rm hca) g1 m1 m2 m3 (fun σ => passAt o.tk σ) PAs PKs hnm g2 hp).weak fun σ H Q q => ?_
      obtain ⟨σd, S, R, rs, hr, xk, f', kk⟩ := q
      simp only [wpE] at f'
      refine ⟨σd, S, _, rs, hr, xk, f', fun ds S1 hd vs H1 f1 rv h1 => ?_⟩
      refine ⟨σd, S1, _, rs.mono (f1.ext hr), h1, xk.next f1, hd.2, fun es2 S2 hd2 zs H2 f2 rz h2 => ⟨by rw [← rv.length]; exact hd.1, by rw [← rz.length, hd2.1, hul], ?_⟩⟩
      have rv2 := RelDs.mono (f2.ext h1) _ _ rv
      exact ⟨ds ++ es2, S2, R, _, sem_len hd2.2 ed, rv2.append rz, h2, hd2.2, kk.next (f1.trans f2) fun _ _ z => z, fun x S3 hx cls dd H3 f3 rx h3 => xk x σd S3 hx σ H3 cls dd ((f1.trans f2).trans f3) (rs.mono (((f1.trans f2).trans f3).ext hr)) rx h3⟩
  · cases h
theorem sE_sub {a i : T} {c : Cc} {W : WX} {ex : EX} {X : Cx} {e : Expr} (o : XOk defs gl k c W X) (h : chkE c (.sub a i) e = true) (ih1 : ∀ {x : Expr}, chkE c a x = true → PE X x (tD X.K X.w W ex (wpE (cw defs gl k) ex a)))
    (ih2 : ∀ {x : Expr}, chkE c i x = true → PE X x (tD X.K X.w W ex (wpE (cw defs gl k) ex i))) : PE X e (tD X.K X.w W ex (wpE (cw defs gl k) ex (.sub a i))) := by
  simp only [chkE] at h
  split at h
  · simp only [Bool.and_eq_true] at h
    obtain ⟨⟨h1, h2⟩, h3⟩ := h
    exact (pe_ix (sub_ok o.hu1) (ih1 h1) (ih2 h2) (plain_ix h3)).weak fun σ H Q q => tD_op (by simpa only [wpE] using q)
  · cases h
theorem sE_blt {b : Bi} {ts : List T} {c : Cc} {W : WX} {ex : EX} {X : Cx} {e : Expr} (o : XOk defs gl k c W X) (h : chkE c (.blt b ts) e = true) (ih : ∀ {es : List Expr}, chkEs c ts es = true → PA X es (tDA X.K X.w W ex (wpEs (cw defs gl k) ex ts))) : PE X e (tD X.K X.w W ex (wpE (cw defs gl k) ex (.blt b ts))) := by
  simp only [chkE] at h
  split at h
  · rename_i g _ es _
    simp only [Bool.and_eq_true, Bool.or_eq_true, decide_eq_true_eq] at h
    obtain ⟨⟨⟨⟨h1, h2⟩, h3⟩, h4⟩, hca⟩ := h
    obtain ⟨g1, g2, g3⟩ := o.gl_of h2
    have hp := chkEs_plain h3
    have PAs := ih h3
    cases es with
    | nil => simp at h4
    | cons e0 es =>
      rw [List.all_cons, Bool.and_eq_true] at hp
      rcases h1 with h1 | h1
      · cases en : b.fn with
        | none => rw [en] at h1; cases h1
        | some n =>
          rw [en] at h1
          cases h1
          obtain ⟨b1, b2⟩ := bfn_boot en
          exact (pe_callB (bfn_ok (o.calm hca) o.room.gd o.hu b en) g1 (o.blt n b2) b1 PAs g3 g2 (plain_star hp.1) (star_all hp.2)).weak fun σ H Q q => tD_cb (by simpa only [wpE] using q)
      · cases en : b.tyn with
        | none => rw [en] at h1; cases h1
        | some n =>
          rw [en] at h1
          cases h1
          obtain ⟨b1, b2⟩ := bty_boot en
          exact (pe_callTy (bty_ok b en) g1 (o.blt n b2) b1 PAs g3 g2 (plain_star hp.1) (star_all hp.2)).weak fun σ H Q q => tD_cb (by simpa only [wpE] using q)
  · cases h
theorem relf_lookup {K : PySem.W.Frag} {w : World} {H : Hp} {f : Str} {v : D} : ∀ {fs : List (Str × D)} {fv : List (Str × V)}, RelF K w H fs fv → fs.lookup f = some v → ∃ u, fv.lookup f = some u ∧ RelD K w H v u
  | [], fv, r, e => by simp at e
  | (g, d) :: fs, fv, r, e => by
    simp only [RelF] at r
    obtain ⟨u, us, rfl, r1, r2⟩ := r
    simp only [List.lookup_cons] at e ⊢
    split at e
    · cases e; exact ⟨u, rfl, r1⟩
    · exact relf_lookup r2 e
theorem relf_none {K : PySem.W.Frag} {w : World} {H : Hp} {f : Str} : ∀ {fs : List (Str × D)} {fv : List (Str × V)}, RelF K w H fs fv → fs.lookup f = none → fv.lookup f = none
  | [], fv, r, e => by simp only [RelF] at r; subst r; rfl
  | (g, d) :: fs, fv, r, e => by
    simp only [RelF] at r
    obtain ⟨u, us, rfl, r1, r2⟩ := r
    simp only [List.lookup_cons] at e ⊢
    split at e
    · cases e
    · exact relf_none r2 e
theorem tDA_nil {K : PySem.W.Frag} {w : World} {W : WX} {C : Cw} {ex : EX} {σ : L2.St} {H : Hp} {Q : List V → Hp → Prop} (h : tDA K w W ex (wpEs C ex []) σ H Q) : Q [] H := by
  obtain ⟨σd, S, R, rs, hr, xk, f, kk⟩ := h
  simp only [wpEs] at f
  exact kk [] S f [] H (Fm.refl _ _) relds_nil hr
theorem HR.made {K : PySem.W.Frag} {w : World} {H : Hp} {S : Sto} {x dx : Addr} {C : Addr} {cn : Str} (h : HR K w H S) (n1 : H x = none) (n2 : H dx = none) (n3 : dx ≠ x) (cf : ClsF K cn C) : HR K w (upd (upd H dx (.own x)) x (.ins C dx [])) (updS S x (.ins cn [])) := by
  have h1 : HR K w (upd H dx (.own x)) S := h.free n2
  have n1' : upd H dx (.own x) x = none := by rw [upd_ne (Ne.symm n3)]; exact n1
  exact h1.new n1' ⟨C, dx, [], cf, upd_same, by simp only [RelF]⟩
theorem Fm.made {H : Hp} {S : Sto} {x dx : Addr} {C : Addr} {cn : Str} (n1 : H x = none) (n2 : H dx = none) (n3 : dx ≠ x) : Fm H S (upd (upd H dx (.own x)) x (.ins C dx [])) (updS S x (.ins cn [])) := fun a u e q =>
  ⟨by rw [upd_ne (ne_of_none e n1), upd_ne (ne_of_none e n2)]; exact e, by rw [updS_ne (ne_of_none e n1)]; exact q⟩
theorem sE_new {q cn : Str} {ts : List T} {c : Cc} {W : WX} {ex : EX} {X : Cx} {e : Expr} (o : XOk defs gl k c W X) (h : chkE c (.new q cn ts) e = true) (ih : ∀ {es : List Expr}, chkEs c ts es = true → PA X es (tDA X.K X.w W ex (wpEs (cw defs gl k) ex ts))) : PE X e (tD X.K X.w W ex (wpE (cw defs gl k) ex (.new q cn ts))) := by
  simp only [chkE] at h
  split at h
  · rename_i g p0 es p1
    simp only [Bool.and_eq_true, decide_eq_true_eq] at h
    obtain ⟨⟨⟨⟨h1, h2⟩, h3⟩, h4⟩, hca⟩ := h
    subst h1
    obtain ⟨g1, g2, g3⟩ := o.gl_of h2
    obtain ⟨d, C, f, fd, ps, dz, dvs, ed, cf, m1, mk, bd, vd, rp, np, F⟩ := o.mks _ _ _ h4
    have hp := chkEs_plain h3
    have hl3 := chkEs_len h3
    refine (pe_makeD (E := L2.WE W) mk F (o.rm1 hca) g1 m1 bd vd (fun σ => passAt o.tk σ) (ih h3) hp g2 (fun z σ H Q qq => ?_)).weak fun σ H Q qq => ?_
    · subst z
      have : ts = [] := List.eq_nil_of_length_eq_zero hl3.symm
      subst this
      exact tDA_nil qq
    obtain ⟨σd, S, R, rs, hr, xk, f', kk⟩ := qq
    simp only [wpE] at f'
    refine ⟨σd, S, _, rs, hr, xk, f', fun ds S1 hd vs H1 f1 rv h1 x dx n1 n2 n3 => ?_⟩
    have hs := hd x (h1.fresh n1)
    have hm := h1.made n1 n2 n3 cf
    have fm := Fm.made (S := S1) (C := C) (cn := g) n1 n2 n3
    have ext := fm.ext h1
    refine ⟨_, _, _, _, sem_len hs ed, ?_, hm, hs, fun v S2 hv u H2 f2 ru h2 => ?_, fun xx S2 hx cls dd H2 f2 rx h2 => ?_⟩
    · simp only [RelDs]
      exact ⟨_, _, rfl, by simp only [RelD], RelDs.append (RelDs.mono ext _ _ rv) (rp _)⟩
    · obtain ⟨rfl, hv⟩ := hv
      simp only [RelD] at ru
      exact ⟨ru, kk _ S2 hv _ H2 ((f1.trans fm).trans f2) (by simp only [RelD]) h2⟩
    · exact xk xx σd S2 hx σ H2 cls dd ((f1.trans fm).trans f2) (rs.mono (((f1.trans fm).trans f2).ext hr)) rx h2
  · cases h
theorem sE_meth {q cn m : Str} {a : T} {ts : List T} {c : Cc} {W : WX} {ex : EX} {X : Cx} {e : Expr} (o : XOk defs gl k c W X) (h : chkE c (.meth q cn m a ts) e = true) (ia : ∀ {x : Expr}, chkE c a x = true → PE X x (tD X.K X.w W ex (wpE (cw defs gl k) ex a))) (ih : ∀ {es : List Expr}, chkEs c ts es = true → PA X es (tDA X.K X.w W ex (wpEs (cw defs gl k) ex ts))) : PE X e (tD X.K X.w W ex (wpE (cw defs gl k) ex (.meth q cn m a ts))) := by
  simp only [chkE] at h
  split at h
  · simp only [Bool.and_eq_true, decide_eq_true_eq] at h
    obtain ⟨⟨⟨⟨⟨⟨⟨h1, h2⟩, h3⟩, h4⟩, h5⟩, h6⟩, h7⟩, hca⟩ := h
    subst h1
    have hp := chkEs_plain h3
    have hl3 := chkEs_len h3
    obtain ⟨d, C, f, fd, ps, ed, cf, mt, bd, np, F⟩ := o.ms _ _ _ h7
    refine (pe_methD (E := L2.WE W) (ia h2) cf.cl mt F (o.rm hca) bd (fun σ => passAt o.tk σ) (ih h3) hp (nocall_base (by simpa using h4)) h6 h5 (fun z σ H Q qq => ?_)).weak fun σ H Q qq => ?_
    · subst z
      have : ts = [] := List.eq_nil_of_length_eq_zero hl3.symm
      subst this
      exact tDA_nil qq
    obtain ⟨σd, S, R, rs, hr, xk, f', kk⟩ := qq
    simp only [wpE] at f'
    refine ⟨σd, S, _, rs, hr, xk, f', fun x S1 hx v1 H1 f1 rv1 h1 => ?_⟩
    obtain ⟨ho, hx⟩ := hx
    unfold okSelf at ho
    split at ho
    · rename_i p
      split at ho
      · rename_i c' fs es
        simp only [Bool.and_eq_true, decide_eq_true_eq] at ho
        obtain ⟨rfl, hn⟩ := ho
        simp only [RelD] at rv1
        obtain ⟨C', dx, fv, cf', e1, r1⟩ := h1 p _ es
        have eC : C' = C := by
          have := cf'.ns.symm.trans cf.ns
          simpa using this
        subst eC
        refine ⟨p, dx, fv, rv1, e1, relf_none r1 (by simpa using hn), σd, S1, _, rs.mono (f1.ext hr), h1, xk.next f1, hx, fun ds S2 hd vs H2 f2 rv2 h2 => ?_⟩
        refine ⟨_, S2, R, _, sem_len hd ed, ?_, h2, hd, kk.next (f1.trans f2) fun _ _ z => z, fun xx S3 hxx cls dd H3 f3 rx h3 => xk xx σd S3 hxx σ H3 cls dd ((f1.trans f2).trans f3) (rs.mono (((f1.trans f2).trans f3).ext hr)) rx h3⟩
        simp only [RelDs]
        exact ⟨_, _, rfl, by simp only [RelD], rv2⟩
      · cases ho
    · cases ho
  · cases h
theorem sE_isc {a : T} {m : Str} {c : Cc} {W : WX} {ex : EX} {X : Cx} {e : Expr} (o : XOk defs gl k c W X) (h : chkE c (.isc a m) e = true) (ia : ∀ {x : Expr}, chkE c a x = true → PE X x (tD X.K X.w W ex (wpE (cw defs gl k) ex a))) : PE X e (tD X.K X.w W ex (wpE (cw defs gl k) ex (.isc a m))) := by
  simp only [chkE] at h
  split at h
  · simp only [Bool.and_eq_true, decide_eq_true_eq] at h
    obtain ⟨⟨⟨⟨⟨⟨h1, h2⟩, h3⟩, h4⟩, h5⟩, h6⟩, h7⟩ := h
    subst h1 h2
    obtain ⟨g1, g2, g3⟩ := o.gl_of h3
    obtain ⟨k1, k2, k3⟩ := o.gl_of h4
    obtain ⟨p, hp, e2⟩ := List.any_eq_true.mp h7
    obtain ⟨pq, pc, pn⟩ := p
    simp only [decide_eq_true_eq] at e2
    subst e2
    obtain ⟨d, C, f, fd, ps, dz, dvs, ed, cf, mc, _⟩ := o.mks pq _ pn (by simpa using hp)
    refine (pe_callB (call_isF cf) g1 (o.blt "isinstance" (by decide)) (bfn_boot (b := .isinst) rfl).1 (pa_cons (ia h5) (pa_cons (pe_glob (v := .ref C) k1 mc rfl k2) pa_nil) (plain_star h6)) g3 g2 (plain_star h6) rfl).weak fun σ H Q qq => ?_
    obtain ⟨σd, S, R, rs, hr, xk, f', kk⟩ := qq
    simp only [wpE] at f'
    refine ⟨σd, S, _, rs, hr, xk, f', fun x S1 hx v1 H1 f1 rv1 h1 => ?_⟩
    obtain ⟨ho, hx⟩ := hx
    unfold isIns at ho
    split at ho
    · rename_i p
      split at ho
      · rename_i c' fs es
        simp only [decide_eq_true_eq] at ho
        subst ho
        simp only [RelD] at rv1
        obtain ⟨C', dx, fv, cf', e1, r1⟩ := h1 p _ es
        have eC : C' = C := by
          have := cf'.ns.symm.trans cf.ns
          simpa using this
        subst eC
        subst rv1
        exact ⟨p, dx, fv, rfl, e1, (kk.next f1 fun _ _ z => z).same hx (by simp only [RelD]) h1⟩
      · cases ho
    · cases ho
  · cases h
theorem sE_eqo {q cn : Str} {a b : T} {c : Cc} {W : WX} {ex : EX} {X : Cx} {e : Expr} (o : XOk defs gl k c W X) (h : chkE c (.eqo q cn a b) e = true) (ia : ∀ {x : Expr}, chkE c a x = true → PE X x (tD X.K X.w W ex (wpE (cw defs gl k) ex a))) (ib : ∀ {x : Expr}, chkE c b x = true → PE X x (tD X.K X.w W ex (wpE (cw defs gl k) ex b))) : PE X e (tD X.K X.w W ex (wpE (cw defs gl k) ex (.eqo q cn a b))) := by
  simp only [chkE] at h
  split at h
  · simp only [Bool.and_eq_true, decide_eq_true_eq] at h
    obtain ⟨⟨⟨⟨h2, h3⟩, h4⟩, h7⟩, hca⟩ := h
    obtain ⟨d, C, f, fd, ps, ed, cf, mt, bd, np, F⟩ := o.ms _ _ _ h7
    refine (pe_eqO (E := L2.WE W) (ia h2) (ib h3) mt.at_ mt.fn F (o.rm hca) bd (fun σ => passAt o.tk σ) (plain_mark h4)).weak fun σ H Q qq => ?_
    obtain ⟨σd, S, R, rs, hr, xk, f', kk⟩ := qq
    simp only [wpE] at f'
    refine ⟨σd, S, _, rs, hr, xk, f', fun x S1 hx v1 H1 f1 rv1 h1 => ?_⟩
    refine ⟨σd, S1, _, rs.mono (f1.ext hr), h1, xk.next f1, hx, fun y S2 hy v2 H2 f2 rv2 h2 => ?_⟩
    obtain ⟨ho, ho', hy⟩ := hy
    have inst : ∀ {z : D} {v : V}, isIns cn S2 z = true → RelD X.K X.w H2 z v → ∃ p dx fv, v = .ref p ∧ z = .ref p ∧ H2 p = some (.ins C dx fv) := fun {z v} hz rz => by
      unfold isIns at hz
      split at hz
      · rename_i p
        split at hz
        · rename_i c' fs es
          simp only [decide_eq_true_eq] at hz
          subst hz
          simp only [RelD] at rz
          obtain ⟨C', dx, fv, cf', e1, r1⟩ := h2 p _ es
          have eC : C' = C := by
            have := cf'.ns.symm.trans cf.ns
            simpa using this
          subst eC
          exact ⟨p, dx, fv, rz, rfl, e1⟩
        · cases hz
      · cases hz
    obtain ⟨p, dx, fv, rfl, rfl, e1⟩ := inst ho (rv1.mono (f2.ext h1))
    obtain ⟨p', dx', fv', rfl, rfl, e2⟩ := inst ho' rv2
    refine ⟨p, p', dx, dx', fv, fv', rfl, rfl, e1, e2, ?_⟩
    refine ⟨_, S2, _, _, sem_len hy ed, ?_, h2, hy, fun d S3 hd v H3 f3 rv3 h3 => ?_, fun xx S3 hxx cls dd H3 f3 rx h3 => xk xx σd S3 hxx σ H3 cls dd ((f1.trans f2).trans f3) (rs.mono (((f1.trans f2).trans f3).ext hr)) rx h3⟩
    · simp only [RelDs, RelD]
      exact ⟨_, _, rfl, rfl, _, _, rfl, rfl, rfl⟩
    · obtain ⟨kb, rfl, hR⟩ := hd
      have : v = .bl kb := by simpa only [RelD] using rv3
      exact ⟨kb, this, (kk.next ((f1.trans f2).trans f3) fun _ _ z => z).same hR rv3 h3⟩
  · cases h
theorem sE_lno {q cn : Str} {a : T} {c : Cc} {W : WX} {ex : EX} {X : Cx} {e : Expr} (o : XOk defs gl k c W X) (h : chkE c (.lno q cn a) e = true) (ia : ∀ {x : Expr}, chkE c a x = true → PE X x (tD X.K X.w W ex (wpE (cw defs gl k) ex a))) : PE X e (tD X.K X.w W ex (wpE (cw defs gl k) ex (.lno q cn a))) := by
  simp only [chkE] at h
  split at h
  · simp only [Bool.and_eq_true, decide_eq_true_eq] at h
    obtain ⟨⟨⟨⟨⟨rfl, h2⟩, h3⟩, h4⟩, h5⟩, hca⟩ := h
    obtain ⟨g1, g2, g3⟩ := o.gl_of h2
    obtain ⟨d, C, f, fd, ps, ed, cf, mt, bd, np, F⟩ := o.ms _ _ _ h5
    refine (pe_callB (call_lenO mt.at_ mt.fn F (o.rm1 hca) bd) g1 (o.blt "len" (by decide)) (bfn_boot (b := .len) rfl).1 (pa_cons (ia h3) pa_nil (plain_star h4)) g3 g2 (plain_star h4) rfl).weak fun σ H Q qq => ?_
    obtain ⟨σd, S, R, rs, hr, xk, f', kk⟩ := qq
    simp only [wpE] at f'
    refine ⟨σd, S, _, rs, hr, xk, f', fun x S1 hx v1 H1 f1 rv1 h1 => ?_⟩
    obtain ⟨ho, hx⟩ := hx
    unfold isIns at ho
    split at ho
    · rename_i p
      split at ho
      · rename_i c' fs es
        simp only [decide_eq_true_eq] at ho
        subst ho
        simp only [RelD] at rv1
        obtain ⟨C', dx, fv, cf', e1, r1⟩ := h1 p _ es
        have eC : C' = C := by
          have := cf'.ns.symm.trans cf.ns
          simpa using this
        subst eC
        subst rv1
        refine ⟨p, dx, fv, rfl, e1, ?_⟩
        refine ⟨_, S1, _, _, sem_len hx ed, ?_, h1, hx, fun d S3 hd v H3 f3 rv3 h3 => ?_, fun xx S3 hxx => hxx.elim⟩
        · simp only [RelDs, RelD]
          exact ⟨_, _, rfl, rfl, rfl⟩
        · obtain ⟨n, rfl, hn, hR⟩ := hd
          have : v = .int n := by simpa only [RelD] using rv3
          exact ⟨n, this, hn, (kk.next (f1.trans f3) fun _ _ z => z).same hR (by simp only [RelD]) h3⟩
      · cases ho
    · cases ho
  · cases h
theorem sE_rpo {q cn : Str} {a : T} {c : Cc} {W : WX} {ex : EX} {X : Cx} {e : Expr} (o : XOk defs gl k c W X) (h : chkE c (.rpo q cn a) e = true) (ia : ∀ {x : Expr}, chkE c a x = true → PE X x (tD X.K X.w W ex (wpE (cw defs gl k) ex a))) : PE X e (tD X.K X.w W ex (wpE (cw defs gl k) ex (.rpo q cn a))) := by
  simp only [chkE] at h
  split at h
  · simp only [Bool.and_eq_true, decide_eq_true_eq] at h
    obtain ⟨⟨⟨⟨⟨rfl, h2⟩, h3⟩, h4⟩, h5⟩, hca⟩ := h
    obtain ⟨g1, g2, g3⟩ := o.gl_of h2
    obtain ⟨d, C, f, fd, ps, ed, cf, mt, bd, np, F⟩ := o.ms _ _ _ h5
    refine (pe_callB (call_reprO mt.at_ mt.fn F (o.rm1 hca) bd) g1 (o.blt "repr" (by decide)) (bfn_boot (b := .repr) rfl).1 (pa_cons (ia h3) pa_nil (plain_star h4)) g3 g2 (plain_star h4) rfl).weak fun σ H Q qq => ?_
    obtain ⟨σd, S, R, rs, hr, xk, f', kk⟩ := qq
    simp only [wpE] at f'
    refine ⟨σd, S, _, rs, hr, xk, f', fun x S1 hx v1 H1 f1 rv1 h1 => ?_⟩
    obtain ⟨ho, hx⟩ := hx
    unfold isIns at ho
    split at ho
    · rename_i p
      split at ho
      · rename_i c' fs es
        simp only [decide_eq_true_eq] at ho
        subst ho
        simp only [RelD] at rv1
        obtain ⟨C', dx, fv, cf', e1, r1⟩ := h1 p _ es
        have eC : C' = C := by
          have := cf'.ns.symm.trans cf.ns
          simpa using this
        subst eC
        subst rv1
        refine ⟨p, dx, fv, rfl, e1, ?_⟩
        refine ⟨_, S1, _, _, sem_len hx ed, ?_, h1, hx, fun d S3 hd v H3 f3 rv3 h3 => ?_, fun xx S3 hxx => hxx.elim⟩
        · simp only [RelDs, RelD]
          exact ⟨_, _, rfl, rfl, rfl⟩
        · obtain ⟨z, rfl, hR⟩ := hd
          have : v = .str z := by simpa only [RelD] using rv3
          exact ⟨z, this, (kk.next (f1.trans f3) fun _ _ z => z).same hR (by simp only [RelD]) h3⟩
      · cases ho
    · cases ho
  · cases h
theorem okI_int {d : D} (h : okI d) : ∃ i : Int, d = .int i ∧ i.natAbs.log2 < 1920 := by
  unfold okI at h
  split at h
  · exact ⟨_, rfl, h⟩
  · cases h
theorem txt_len {i : Int} (h : i.natAbs.log2 < 1920) : (Str.ofString (toString i)).length ≤ 1921 := by
  have := int_text_length_le (k := 1920) (by decide) h
  rw [PySem.ofString_length]
  exact this
theorem app_lenZ {a b : Str} : (a ++ b).length = a.length + b.length := by
  show (a.cps ++ b.cps).size = a.cps.size + b.cps.size
  rw [Array.size_append]
theorem sE_fs2 {x0 y0 z0 : Str} {a b : T} {c : Cc} {W : WX} {ex : EX} {X : Cx} {e : Expr} (o : XOk defs gl k c W X) (h : chkE c (.fs2 x0 a y0 b z0) e = true) (ia : ∀ {x : Expr}, chkE c a x = true → PE X x (tD X.K X.w W ex (wpE (cw defs gl k) ex a))) (ib : ∀ {x : Expr}, chkE c b x = true → PE X x (tD X.K X.w W ex (wpE (cw defs gl k) ex b))) : PE X e (tD X.K X.w W ex (wpE (cw defs gl k) ex (.fs2 x0 a y0 b z0))) := by
  simp only [chkE] at h
  split at h
  · simp only [Bool.and_eq_true, decide_eq_true_eq] at h
    obtain ⟨⟨⟨⟨⟨rfl, rfl⟩, rfl⟩, hz⟩, h3⟩, h4⟩ := h
    refine (L2.pe_joined (.cons pe_str (.cons (L2.pe_fmt (ia h3)) (.cons pe_str (.cons (L2.pe_fmt (ib h4)) (.cons pe_str .nil)))))).weak fun σ H Q qq => ?_
    obtain ⟨σd, S, R, rs, hr, xk, f', kk⟩ := qq
    simp only [wpE] at f'
    have e0 : Str.empty.length = 0 := rfl
    have eZ := sizeLine_eq
    refine ⟨_, rfl, by rw [app_lenZ]; omega, ?_⟩
    refine ⟨σd, S, _, rs, hr, xk, f', fun d S1 hd v H1 f1 rv h1 => .inr ?_⟩
    obtain ⟨od, hd⟩ := hd
    obtain ⟨i, rfl, hi⟩ := okI_int od
    have li := txt_len hi
    refine ⟨i, by simpa only [RelD] using rv, hi, _, rfl, by rw [app_lenZ, app_lenZ]; omega, _, rfl, by rw [app_lenZ, app_lenZ, app_lenZ]; omega, ?_⟩
    refine ⟨σd, S1, _, rs.mono (f1.ext hr), h1, xk.next f1, hd, fun e S2 he v2 H2 f2 rv2 h2 => .inr ?_⟩
    obtain ⟨oe, he⟩ := he
    obtain ⟨j, rfl, hj⟩ := okI_int oe
    have lj := txt_len hj
    refine ⟨j, by simpa only [RelD] using rv2, hj, _, rfl, by rw [app_lenZ, app_lenZ, app_lenZ, app_lenZ]; omega, _, rfl, by rw [app_lenZ, app_lenZ, app_lenZ, app_lenZ, app_lenZ]; omega, ?_⟩
    exact (kk.next (f1.trans f2) fun _ _ z => z).same he (by simp only [RelD, fs2T]) h2
  · cases h
theorem sE_newK {q cn : Str} {ts us : List T} {ks : List Str} {c : Cc} {W : WX} {ex : EX} {X : Cx} {e : Expr} (o : XOk defs gl k c W X) (h : chkE c (.newK q cn ts ks us) e = true) (ih : ∀ {es : List Expr}, chkEs c ts es = true → PA X es (tDA X.K X.w W ex (wpEs (cw defs gl k) ex ts)))
    (ik : ∀ {kws : List Keyword}, chkKw c us ks kws = true → PK X kws (tDA X.K X.w W ex (wpEs (cw defs gl k) ex us))) : PE X e (tD X.K X.w W ex (wpE (cw defs gl k) ex (.newK q cn ts ks us))) := by
  simp only [chkE] at h
  split at h
  · rename_i g p0 es kws p1
    simp only [Bool.and_eq_true, decide_eq_true_eq] at h
    obtain ⟨⟨⟨⟨⟨⟨⟨h1, h2⟩, h3⟩, h4⟩, h5⟩, h6⟩, h7⟩, hca⟩ := h
    subst h1
    obtain ⟨g1, g2, g3⟩ := o.gl_of h2
    have PAs := ih h3
    have PKs := ik h5
    have hp := chkEs_plain h3
    obtain ⟨hnm, hul⟩ := chkKw_names h5
    obtain ⟨d, C, f, fd, ps, ed, cf, m1, mk, kb, np, F⟩ := o.mkk _ _ _ _ h7 h6
    cases es with
    | nil => simp at h4
    | cons e0 es =>
      refine (pe_makeKG (E := L2.WE W) mk F (o.rm1 hca) g1 m1 kb (fun σ => passAt o.tk σ) PAs PKs hnm g2 hp).weak fun σ H Q qq => ?_
      obtain ⟨σd, S, R, rs, hr, xk, f', kk⟩ := qq
      simp only [wpE] at f'
      refine ⟨σd, S, _, rs, hr, xk, f', fun ds S1 hd vs H1 f1 rv h1 => ?_⟩
      refine ⟨σd, S1, _, rs.mono (f1.ext hr), h1, xk.next f1, hd.2, fun es2 S2 hd2 zs H2 f2 rz h2 => ⟨by rw [← rv.length]; exact hd.1, by rw [← rz.length, hd2.1, hul], fun x dx n1 n2 n3 => ?_⟩⟩
      have hs := hd2.2 x (h2.fresh n1)
      have hm := h2.made n1 n2 n3 cf
      have fm := Fm.made (S := S2) (C := C) (cn := g) n1 n2 n3
      have ext := fm.ext h2
      have rv2 := RelDs.mono (f2.ext h1) _ _ rv
      refine ⟨_, _, _, _, sem_len hs ed, ?_, hm, hs, fun v S3 hv u H3 f3 ru h3 => ?_, fun xx S3 hx cls dd H3 f3 rx h3 => ?_⟩
      · simp only [List.cons_append, RelDs]
        exact ⟨_, _, rfl, by simp only [RelD], RelDs.append (RelDs.mono ext _ _ rv2) (RelDs.mono ext _ _ rz)⟩
      · obtain ⟨rfl, hv⟩ := hv
        simp only [RelD] at ru
        exact ⟨ru, kk _ S3 hv _ H3 (((f1.trans f2).trans fm).trans f3) (by simp only [RelD]) h3⟩
      · exact xk xx σd S3 hx σ H3 cls dd (((f1.trans f2).trans fm).trans f3) (rs.mono ((((f1.trans f2).trans fm).trans f3).ext hr)) rx h3
  · cases h
mutual
theorem sE : ∀ (t : T) {c : Cc} {W : WX} {ex : EX} {X : Cx} {e : Expr}, XOk defs gl k c W X → chkE c t e = true → PE X e (tD X.K X.w W ex (wpE (cw defs gl k) ex t))
  | .var i, c, W, ex, X, e, o, h => sE_var o h
  | .int i, c, W, ex, X, e, o, h => by
    simp only [chkE] at h
    split at h
    · simp only [decide_eq_true_eq] at h
      subst h
      exact pe_int.weak fun σ H Q q => tD_c (d := .int i) (fun _ => by simp only [RelD]) (by simpa only [wpE] using q)
    · cases h
  | .bl i, c, W, ex, X, e, o, h => by
    simp only [chkE] at h
    split at h
    · simp only [decide_eq_true_eq] at h
      subst h
      exact pe_bl.weak fun σ H Q q => tD_c (d := .bl i) (fun _ => by simp only [RelD]) (by simpa only [wpE] using q)
    · cases h
  | .non, c, W, ex, X, e, o, h => by
    simp only [chkE] at h
    split at h
    · exact pe_non.weak fun σ H Q q => tD_c (d := .non) (fun _ => by simp only [RelD]) (by simpa only [wpE] using q)
    · cases h
  | .str i, c, W, ex, X, e, o, h => by
    simp only [chkE] at h
    split at h
    · simp only [decide_eq_true_eq] at h
      subst h
      exact pe_str.weak fun σ H Q q => tD_c (d := .str i) (fun _ => by simp only [RelD]) (by simpa only [wpE] using q)
    · cases h
  | .glob x, c, W, ex, X, e, o, h => by
    simp only [chkE] at h
    split at h
    · simp only [Bool.and_eq_true, decide_eq_true_eq] at h
      obtain ⟨rfl, h2⟩ := h
      obtain ⟨g1, g2, g3⟩ := o.gl_of h2
      cases eg : gl x with
      | none => exact ⟨fun pins s σ H Q I q => by
          obtain ⟨σd, S, R, rs, hr, xk, f, kk⟩ := q
          simp only [wpE, eg] at f⟩
      | some d =>
        obtain ⟨u, v, m, r, rd⟩ := o.gls x d eg
        refine (pe_glob g1 m r g2).weak fun σ H Q q => tD_c (d := d) rd (by simpa only [wpE, eg] using q)
    · cases h
  | .bty x, c, W, ex, X, e, o, h => by
    simp only [chkE] at h
    split at h
    · simp only [Bool.and_eq_true, decide_eq_true_eq] at h
      obtain ⟨⟨rfl, h2⟩, h3⟩ := h
      obtain ⟨g1, g2, g3⟩ := o.gl_of h2
      obtain ⟨b1, b2⟩ := tyNames_boot h3
      refine (pe_bltn (v := .ty x) g1 (o.blt x b2) b1 rfl g3 g2).weak fun σ H Q q => tD_c (d := .ty x) (fun _ => by simp only [RelD]) (by simpa only [wpE] using q)
    · cases h
  | .bin op a b, c, W, ex, X, e, o, h => by
    simp only [chkE] at h
    split at h
    · simp only [Bool.and_eq_true, decide_eq_true_eq] at h
      obtain ⟨⟨rfl, h2⟩, h3⟩ := h
      exact (pe_op (bin_ok op) (sE a (ex := ex) o h2) (sE b (ex := ex) o h3)).weak fun σ H Q q => tD_op (by simpa only [wpE] using q)
    · cases h
  | .neg a, c, W, ex, X, e, o, h => by
    simp only [chkE] at h
    split at h
    · exact (pe_un un_neg_ok (sE a (ex := ex) o h)).weak fun σ H Q q => tD_un (by simp only [wpE] at q; exact q)
    · cases h
  | .cmp op a b, c, W, ex, X, e, o, h => by
    simp only [chkE] at h
    split at h
    · simp only [Bool.and_eq_true, decide_eq_true_eq] at h
      obtain ⟨⟨⟨rfl, h2⟩, h3⟩, h4⟩ := h
      exact (pe_cmpR (cmp_ok o.hu op) (sE a (ex := ex) o h2) (sE b (ex := ex) o h3) (plain_mark h4)).weak fun σ H Q q => tD_op (by simpa only [wpE] using q)
    · cases h
  | .chain op op2 a b d, c, W, ex, X, e, o, h => by
    simp only [chkE] at h
    split at h
    · simp only [Bool.and_eq_true, decide_eq_true_eq] at h
      obtain ⟨⟨⟨⟨⟨⟨rfl, rfl⟩, h2⟩, h3⟩, h4⟩, h5⟩, h6⟩ := h
      refine (pe_chain (cmp_ok o.hu op) (cmp_ok o.hu op2) (sE a (ex := ex) o h2) (sE b (ex := ex) o h3) (sE d (ex := ex) o h4) (show behindInMarks op2 _ = false from plain_mark h6)).weak fun σ H Q q => ?_
      obtain ⟨σd, S, R, rs, hr, xk, f, kk⟩ := q
      simp only [wpE] at f
      refine ⟨σd, S, _, rs, hr, xk, f, fun x S1 hx v1 H1 f1 rv1 h1 => ⟨σd, S1, _, rs.mono (f1.ext hr), h1, xk.next f1, hx, fun y S2 hy v2 H2 f2 rv2 h2' =>
        ⟨x, y, S2, _, RelD.mono (f2.ext h1) _ _ rv1, rv2, h2', hy, fun z S3 hz v3 H3 f3 rv3 h3' => ?_⟩⟩⟩
      split at hz
      · rename_i b
        simp only [RelD] at rv3
        subst rv3
        refine ⟨b, rfl, ?_⟩
        cases b with
        | false =>
          rw [if_neg Bool.false_ne_true] at hz ⊢
          exact kk _ S3 hz _ H3 ((f1.trans f2).trans f3) (by simp only [RelD]) h3'
        | true =>
          rw [if_pos rfl] at hz ⊢
          refine ⟨σd, S3, _, rs.mono (((f1.trans f2).trans f3).ext hr), h3', xk.next ((f1.trans f2).trans f3), hz, fun u S4 hu v4 H4 f4 rv4 h4' => ?_⟩
          exact ⟨y, u, S4, R, RelD.mono (f4.ext h3') _ _ (RelD.mono (f3.ext h2') _ _ rv2), rv4, h4', hu, kk.next (((f1.trans f2).trans f3).trans f4) fun _ _ z => z⟩
      · exact hz.elim
    · cases h
  | .bop op ts, c, W, ex, X, e, o, h => by
    simp only [chkE] at h
    split at h
    · simp only [Bool.and_eq_true, decide_eq_true_eq] at h
      obtain ⟨rfl, h2⟩ := h
      simpa only [wpE] using sB op ts (ex := ex) o h2
    · cases h
  | .nt a, c, W, ex, X, e, o, h => by
    simp only [chkE] at h
    split at h
    · refine (pe_notT (sE a (ex := ex) o h)).weak fun σ H Q q => ?_
      obtain ⟨σd, S, R, rs, hr, xk, f, kk⟩ := q
      simp only [wpE] at f
      refine ⟨σd, S, _, rs, hr, xk, f, fun d S1 hd v1 H1 f1 rv1 h1 => ?_⟩
      split at hd
      · rename_i b eb
        exact ⟨b, tru_of h1 rv1 eb, kk _ S1 hd _ H1 f1 (by simp only [RelD]) h1⟩
      · exact hd.elim
    · cases h
  | .ite d a b, c, W, ex, X, e, o, h => by
    simp only [chkE] at h
    split at h
    · simp only [Bool.and_eq_true] at h
      obtain ⟨⟨h1, h2⟩, h3⟩ := h
      refine (pe_ifExp (sT d (ex := ex) o h1) (sE a (ex := ex) o h2) (sE b (ex := ex) o h3)).weak fun σ H Q q => ?_
      obtain ⟨σd, S, R, rs, hr, xk, f, kk⟩ := q
      simp only [wpE] at f
      refine ⟨σd, S, _, rs, hr, xk, f, fun bb S1 hb H1 f1 h1' => ?_⟩
      cases bb with
      | true =>
        rw [if_pos rfl] at hb ⊢
        exact ⟨σd, S1, R, rs.mono (f1.ext hr), h1', xk.next f1, hb, kk.next f1 fun _ _ z => z⟩
      | false =>
        rw [if_neg Bool.false_ne_true] at hb ⊢
        exact ⟨σd, S1, R, rs.mono (f1.ext hr), h1', xk.next f1, hb, kk.next f1 fun _ _ z => z⟩
    · cases h
  | .tup ts, c, W, ex, X, e, o, h => by
    simp only [chkE] at h
    split at h
    · refine (pe_tup (sEs ts (ex := ex) o h)).weak fun σ H Q q => ?_
      obtain ⟨σd, S, R, rs, hr, xk, f, kk⟩ := q
      simp only [wpE] at f
      exact ⟨σd, S, _, rs, hr, xk, f, fun ds S1 hd vs H1 f1 rv h1 => ⟨by rw [← rv.length]; exact Nat.le_trans hd.1 (by decide), fun p np => (kk.next f1 fun _ _ z => z).tup hd.2 h1 rv np⟩⟩
    · cases h
  | .lst ts, c, W, ex, X, e, o, h => by
    simp only [chkE] at h
    split at h
    · refine (pe_lst (sEs ts (ex := ex) o h)).weak fun σ H Q q => ?_
      obtain ⟨σd, S, R, rs, hr, xk, f, kk⟩ := q
      simp only [wpE] at f
      exact ⟨σd, S, _, rs, hr, xk, f, fun ds S1 hd vs H1 f1 rv h1 => ⟨by rw [← rv.length]; exact Nat.le_trans hd.1 (by decide), fun p np => (kk.next f1 fun _ _ z => z).lst (hd.2 p (h1.fresh np)) h1 rv np⟩⟩
    · cases h
  | .sub a i, c, W, ex, X, e, o, h => by
    exact sE_sub o h (fun h' => sE a (ex := ex) o h') fun h' => sE i (ex := ex) o h'
  | .slice a lo hi, c, W, ex, X, e, o, h => by
    simp only [chkE] at h
    split at h
    · simp only [Bool.and_eq_true] at h
      obtain ⟨⟨h1, h2⟩, h3⟩ := h
      refine (pe_slice slice_ok (sE a (ex := ex) o h1) (sO lo (ex := ex) o h2) (sO hi (ex := ex) o h3)).weak fun σ H Q q => ?_
      obtain ⟨σd, S, R, rs, hr, xk, f, kk⟩ := q
      simp only [wpE] at f
      exact ⟨σd, S, _, rs, hr, xk, f, fun x S1 hx v1 H1 f1 rv1 h1 => ⟨σd, S1, _, rs.mono (f1.ext hr), h1, xk.next f1, hx, fun l S2 hl H2 f2 h2 => ⟨σd, S2, _, rs.mono ((f1.trans f2).ext hr), h2, xk.next (f1.trans f2), hl, fun u S3 hu H3 f3 h3 =>
        ⟨x, S3, R, RelD.mono ((f2.trans f3).ext h1) _ _ rv1, h3, hu, kk.next ((f1.trans f2).trans f3) fun _ _ z => z⟩⟩⟩⟩
    · cases h
  | .call f ts, c, W, ex, X, e, o, h => sE_call o h fun h' => sEs ts (ex := ex) o h'
  | .callK f ts ks us, c, W, ex, X, e, o, h => sE_callK o h (fun h' => sEs ts (ex := ex) o h') fun h' => sKw us (ex := ex) o h'
  | .newK q cn ts ks us, c, W, ex, X, e, o, h => sE_newK o h (fun h' => sEs ts (ex := ex) o h') fun h' => sKw us (ex := ex) o h'
  | .lno q cn a, c, W, ex, X, e, o, h => sE_lno o h (fun h' => sE a (ex := ex) o h')
  | .rpo q cn a, c, W, ex, X, e, o, h => sE_rpo o h (fun h' => sE a (ex := ex) o h')
  | .fs2 x a y b z, c, W, ex, X, e, o, h => sE_fs2 o h (fun h' => sE a (ex := ex) o h') fun h' => sE b (ex := ex) o h'
  | .blt b ts, c, W, ex, X, e, o, h => sE_blt o h fun h' => sEs ts (ex := ex) o h'
  | .new q cn ts, c, W, ex, X, e, o, h => sE_new o h fun h' => sEs ts (ex := ex) o h'
  | .fld a f, c, W, ex, X, e, o, h => by
    simp only [chkE] at h
    split at h
    · simp only [Bool.and_eq_true, decide_eq_true_eq] at h
      obtain ⟨⟨⟨h1, h2⟩, h3⟩, h4⟩ := h
      subst h1
      refine (pe_fld (sE a (ex := ex) o h2) (nocall_base (by simpa using h3))).weak fun σ H Q q => ?_
      obtain ⟨σd, S, R, rs, hr, xk, f', kk⟩ := q
      simp only [wpE] at f'
      refine ⟨σd, S, _, rs, hr, xk, f', fun d S1 hx v1 H1 f1 rv1 h1 => ?_⟩
      unfold wFld at hx
      split at hx
      · rename_i p
        split at hx
        · rename_i cn fs es
          split at hx
          · rename_i v el
            simp only [RelD] at rv1
            obtain ⟨C, dx, fv, cf, e1, r1⟩ := h1 p _ es
            obtain ⟨u, l1, l2⟩ := relf_lookup r1 el
            exact ⟨p, C, dx, fv, u, rv1, e1, cf.cl, cf.na _ (by simpa using h4), l1, (kk.next f1 fun _ _ z => z).same hx l2 h1⟩
          · exact hx.elim
        · exact hx.elim
      · exact hx.elim
    · cases h
  | .meth q cn m a ts, c, W, ex, X, e, o, h => sE_meth o h (fun h' => sE a (ex := ex) o h') fun h' => sEs ts (ex := ex) o h'
  | .eqo q cn a b, c, W, ex, X, e, o, h => sE_eqo o h (fun h' => sE a (ex := ex) o h') fun h' => sE b (ex := ex) o h'
  | .isc a m, c, W, ex, X, e, o, h => sE_isc o h fun h' => sE a (ex := ex) o h'
  | .isx a m, c, W, ex, X, e, o, h => by
    simp only [chkE] at h
    split at h
    · simp only [Bool.and_eq_true, decide_eq_true_eq] at h
      obtain ⟨⟨⟨⟨⟨⟨⟨h1, h2⟩, h3⟩, h4⟩, h5⟩, h6⟩, h7⟩, h8⟩ := h
      subst h1 h2
      obtain ⟨g1, g2, g3⟩ := o.gl_of h3
      obtain ⟨k1, k2, k3⟩ := o.gl_of h4
      obtain ⟨M, m1, m2⟩ := o.xs _ h8
      rename_i x _ _ y _ _
      refine (pe_callB (call_isx (by simpa using h7) m2) g1 (o.blt "isinstance" (by decide)) (bfn_boot (b := .isinst) rfl).1 (pa_cons (sE a (ex := ex) o h5) (pa_cons (pe_glob (v := .ref M) k1 m1 rfl k2) pa_nil) (plain_star h6)) g3 g2 (plain_star h6) rfl).weak fun σ H Q q => ?_
      obtain ⟨σd, S, R, rs, hr, xk, f, kk⟩ := q
      simp only [wpE] at f
      refine ⟨σd, S, _, rs, hr, xk, f, fun d S1 hx v1 H1 f1 rv1 h1 => ?_⟩
      unfold wIsx at hx
      split at hx
      · simp only [RelD] at rv1
        obtain ⟨a', oe, C, dx, vs, rfl, xc, q1, q2, q3, q4, q5, q6⟩ := rv1
        exact ⟨_, C, a', oe, dx, xc, rfl, q1, q2, q3, q4, ⟨_, q5⟩, (kk.next f1 fun _ _ z => z).same hx (by simp only [RelD]) h1⟩
      · exact hx.elim
    · cases h
  | .atr a f, c, W, ex, X, e, o, h => by
    simp only [chkE] at h
    split at h
    · simp only [Bool.and_eq_true, decide_eq_true_eq] at h
      obtain ⟨⟨⟨h1, h2⟩, h3⟩, h4⟩ := h
      subst h1
      refine (pe_atr (sE a (ex := ex) o h2) (by simpa using h4) (nocall_base (by simpa using h3))).weak fun σ H Q q => ?_
      obtain ⟨σd, S, R, rs, hr, xk, f, kk⟩ := q
      simp only [wpE] at f
      refine ⟨σd, S, _, rs, hr, xk, f, fun d S1 hx v1 H1 f1 rv1 h1 => ?_⟩
      unfold wAtr at hx
      split at hx
      · rename_i n ns ds
        simp only [RelD] at rv1
        obtain ⟨a', oe, C, dx, vs, rfl, xc, q1, q2, q3, q4, q5, q6⟩ := rv1
        split at hx
        · rename_i v el
          obtain ⟨u, w1, w2⟩ := lookup_rel q6 el
          exact ⟨a', oe, dx, _, C, _, u, rfl, xc, q1, q2, q3, q4, q5, w1, (kk.next f1 fun _ _ z => z).same hx w2 h1⟩
        · exact hx.elim
      · exact hx.elim
    · cases h
  | .back a, c, W, ex, X, e, o, h => by
    simp only [chkE] at h
    split at h
    · refine (pe_revA (sE a (ex := ex) o h)).weak fun σ H Q q => ?_
      obtain ⟨σd, S, R, rs, hr, xk, f, kk⟩ := q
      simp only [wpE] at f
      refine ⟨σd, S, _, rs, hr, xk, f, fun x S1 hx v1 H1 f1 rv1 h1 => ?_⟩
      unfold wBack at hx
      split at hx
      · simp only [RelD] at rv1
        subst rv1
        split at hx
        · rename_i e1
          obtain ⟨vs, q1, q2⟩ := h1.sql e1
          exact ⟨_, vs, rfl, .inl ⟨q1, fun p np => (kk.next f1 fun _ _ z => z).lst (hx p (h1.fresh np)) h1 (relds_rev2 q2) np⟩⟩
        · exact hx.elim
      · simp only [RelD] at rv1
        obtain ⟨a', vs, rfl, q1, q2⟩ := rv1
        exact ⟨_, vs, rfl, .inr ⟨q1, fun p np => (kk.next f1 fun _ _ z => z).tup hx h1 (relds_rev2 q2) np⟩⟩
      · exact hx.elim
    · cases h
  | .lset a, c, W, ex, X, e, o, h => by
    simp only [chkE] at h
    split at h
    · simp only [Bool.and_eq_true, decide_eq_true_eq] at h
      obtain ⟨⟨⟨⟨⟨⟨h1, h2⟩, h3⟩, h4⟩, h5⟩, h6⟩, hca⟩ := h
      subst h1 h2
      obtain ⟨g1, _, _⟩ := o.gl_of h3
      obtain ⟨g2, _, _⟩ := o.gl_of h4
      refine (pe_lenSetT g1 (o.blt "len" (by decide)) g2 (o.blt "set" (by decide)) (sE a (ex := ex) o h5) (o.calm hca) (plain_star h6)).weak fun σ H Q q => ?_
      obtain ⟨σd, S, R, rs, hr, xk, f, kk⟩ := q
      simp only [wpE] at f
      refine ⟨σd, S, _, rs, hr, xk, f, fun x S1 hx v1 H1 f1 rv1 h1 => ?_⟩
      unfold wLset at hx
      split at hx
      · simp only [RelD] at rv1
        obtain ⟨a', vs, rfl, q1, q2⟩ := rv1
        split at hx
        · rename_i ns en
          have ev := ints_of q2 en
          subst ev
          exact ⟨a', ns, rfl, q1, hx.1, fun out nd hm => (kk.next f1 fun _ _ z => z).same (hx.2 out nd hm) (by simp only [RelD]) h1⟩
        · exact hx.elim
      · exact hx.elim
    · cases h
  | .lrng a, c, W, ex, X, e, o, h => by
    simp only [chkE] at h
    split at h
    · simp only [Bool.and_eq_true, decide_eq_true_eq] at h
      obtain ⟨⟨⟨⟨⟨⟨h1, h2⟩, h3⟩, h4⟩, h5⟩, h6⟩, hca⟩ := h
      subst h1 h2
      obtain ⟨g1, _, _⟩ := o.gl_of h3
      obtain ⟨g2, _, _⟩ := o.gl_of h4
      refine (pe_listRg (o.calm hca) g1 (o.blt "list" (by decide)) (prg_1 g2 (o.blt "range" (by decide)) (sE a (ex := ex) o h5) (plain_star h6)) rfl).weak fun σ H Q q => ?_
      obtain ⟨σd, S, R, rs, hr, xk, f, kk⟩ := q
      simp only [wpE] at f
      refine ⟨σd, S, _, rs, hr, xk, f, fun x S1 hx v1 H1 f1 rv1 h1 => ?_⟩
      unfold wLrng at hx
      split at hx
      · rename_i n
        simp only [RelD] at rv1
        subst rv1
        refine ⟨n, rfl, ⟨by omega, by omega, by omega, by omega, by omega⟩, fun p np => ?_⟩
        have e : rgV 0 n = ((List.range n.toNat).map fun i : Nat => (i : Int)).map V.int := by
          unfold rgV
          rw [List.map_map, Int.sub_zero]
          refine List.map_congr_left fun i _ => ?_
          simp
        rw [e]
        refine (kk.next f1 fun _ _ z => z).lst (hx.2.2 p (h1.fresh np)) h1 ?_ np
        have e2 : ((List.range n.toNat).map fun i => D.int (i : Nat)) = ((List.range n.toNat).map fun i : Nat => (i : Int)).map D.int := by rw [List.map_map]; rfl
        rw [e2]
        exact RelDs.of_ints _
      · exact hx.elim
    · cases h
  | .lrev a, c, W, ex, X, e, o, h => by
    simp only [chkE] at h
    split at h
    · simp only [Bool.and_eq_true, decide_eq_true_eq] at h
      obtain ⟨⟨⟨⟨⟨⟨h1, h2⟩, h3⟩, h4⟩, h5⟩, h6⟩, hca⟩ := h
      subst h1 h2
      obtain ⟨g1, _, _⟩ := o.gl_of h3
      obtain ⟨g2, _, _⟩ := o.gl_of h4
      refine (pe_listRev (o.calm hca) g1 (o.blt "list" (by decide)) g2 (o.blt "reversed" (by decide)) (sE a (ex := ex) o h5) (plain_star h6)).weak fun σ H Q q => ?_
      obtain ⟨σd, S, R, rs, hr, xk, f, kk⟩ := q
      simp only [wpE] at f
      refine ⟨σd, S, _, rs, hr, xk, f, fun x S1 hx v1 H1 f1 rv1 h1 => ?_⟩
      unfold wLrev at hx
      split at hx
      · rename_i xs e
        obtain ⟨a', vs, rfl, q1, q2, _⟩ := items_of h1 e rv1
        exact ⟨a', vs, rfl, q2, fun p np => (kk.next f1 fun _ _ z => z).lst (hx p (h1.fresh np)) h1 (relds_rev2 q1) np⟩
      · exact hx.elim
    · cases h
  | .lzip a b, c, W, ex, X, e, o, h => by
    simp only [chkE] at h
    split at h
    · simp only [Bool.and_eq_true, decide_eq_true_eq] at h
      obtain ⟨⟨⟨⟨⟨⟨⟨⟨h1, h2⟩, h3⟩, h4⟩, h5⟩, h6⟩, h7⟩, h8⟩, hca⟩ := h
      subst h1 h2
      obtain ⟨g1, _, _⟩ := o.gl_of h3
      obtain ⟨g2, _, _⟩ := o.gl_of h4
      refine (pe_listZip (o.calm hca) g1 (o.blt "list" (by decide)) g2 (o.blt "zip" (by decide)) (pa_cons (sE a (ex := ex) o h5) (pa_cons (sE b (ex := ex) o h7) pa_nil (plain_star h8)) (plain_star h6)) (plain_star h6) (by rw [plain_star h8]; rfl)).weak fun σ H Q q => ?_
      obtain ⟨σd, S, R, rs, hr, xk, f, kk⟩ := q
      simp only [wpE] at f
      refine ⟨σd, S, _, rs, hr, xk, f, fun d S1 hd v H1 f1 rv h1 => ⟨σd, S1, _, rs.mono (f1.ext hr), h1, xk.next f1, hd, fun d2 S2 hd2 v2 H2 f2 rv2 h2 => ?_⟩⟩
      have rv' := RelD.mono (f2.ext h1) _ _ rv
      unfold wLzip at hd2
      split at hd2
      · simp only [RelD] at rv' rv2
        obtain ⟨a, vs, rfl, t1, r1⟩ := rv'
        obtain ⟨b, us, rfl, t2, r2⟩ := rv2
        exact ⟨a, b, vs, us, rfl, t1, t2, fun q H' us np up e hl hat => zip_kont (kk.next (f1.trans f2) fun _ _ z => z) h2 r1 r2 np up e hl hat (hd2 q (h2.fresh np))⟩
      · exact hd2.elim
    · cases h
  | .mth m a ts, c, W, ex, X, e, o, h => by
    simp only [chkE] at h
    split at h
    · simp only [Bool.and_eq_true, decide_eq_true_eq] at h
      obtain ⟨⟨⟨⟨⟨rfl, h1⟩, h2⟩, h3⟩, h4⟩, h5⟩ := h
      have hb := fun (x : Str) (env : Env) (wh : Sem Value) => nocall_base (x := x) (env := env) (wh := wh) (by simpa using h3)
      rename_i o' apos es cpos
      cases es with
      | nil =>
        have e0 : ts = [] := List.eq_nil_of_length_eq_zero (chkEs_len h2).symm
        subst e0
        refine (pe_bm0 m.plain m.slot m.typ (mth_ok o.hu1 m) (sE a (ex := ex) o h1) (hb _ _ _) h4).weak fun σ H Q q => ?_
        obtain ⟨σd, S, R, rs, hr, xk, f, kk⟩ := q
        simp only [wpE, wpEs] at f
        exact ⟨σd, S, _, rs, hr, xk, f, fun x S1 hx v1 H1 f1 rv1 h1 => ⟨recv_ok h1 rv1 hx.1, x, [], S1, R, rv1, relds_nil, h1, hx.2, kk.next f1 fun _ _ z => z⟩⟩
      | cons e0 es =>
        have hp := chkEs_plain h2
        have hp' := hp
        rw [List.all_cons, Bool.and_eq_true] at hp'
        have few : ((backTo cpos (starEach (e0 :: es) X.env)).all (fun x => !x.1) && (backToKw cpos (keywordEach [] X.env)).all (fun x => x.1.isSome) && decide ((e0 :: es).length + ([] : List Keyword).length + (if ([] : List Keyword).isEmpty then 0 else 1) < 30)) = true := by
          rw [star_not hp]
          show (true && true && decide (_ + 0 + 0 < 30)) = true
          simpa using h5
        refine (pe_bm m.plain m.slot m.typ (mth_ok o.hu1 m) (sE a (ex := ex) o h1) (sEs ts (ex := ex) o h2) (hb _ _ _) few h4 (plain_star hp'.1) (star_all hp'.2)).weak fun σ H Q q => ?_
        obtain ⟨σd, S, R, rs, hr, xk, f, kk⟩ := q
        simp only [wpE] at f
        exact ⟨σd, S, _, rs, hr, xk, f, fun x S1 hx v1 H1 f1 rv1 h1 => ⟨recv_ok h1 rv1 hx.1, σd, S1, _, rs.mono (f1.ext hr), h1, xk.next f1, hx.2, fun ds S2 hd vs H2 f2 rv2 h2 =>
          ⟨x, ds, S2, R, RelD.mono (f2.ext h1) _ _ rv1, rv2, h2, hd, kk.next (f1.trans f2) fun _ _ z => z⟩⟩⟩
    · cases h
  | .lc g it ifs own d, c, W, ex, X, e, o, h => by
    simp only [chkE] at h
    split at h
    · simp only [Bool.and_eq_true] at h
      obtain ⟨⟨⟨⟨⟨⟨⟨h1, h2⟩, h3⟩, h4⟩, h5⟩, h6⟩, h7⟩, hca⟩ := h
      rename_i scope _
      have bo : BlkOk X.N X.env.scope scope own := by rw [o.hN, o.hsc]; exact blkOk_by h2
      refine (pe_lc (g := gV X.K g) (tt := tDT X.K X.w W0 ex0 (wpTs (cw defs gl k) ifs)) (te := tD X.K X.w W0 ex0 (wpE (cw defs gl k) ex0 d)) (o.calm hca) (by rw [o.hN]; exact o.nd) (sI it (ex := ex) o h1) bo
        (fun s H C cl fp => sG (o.blk s H scope C cl fp) g _ h3) (fun s H C cl fp => sTs ifs (o.blk s H scope C cl fp) h5) (fun s H C cl fp => sE d (o.blk s H scope C cl fp) h6) (plain_fold h7)).weak fun σ H Q q => ?_
      obtain ⟨σd, S, R, rs, hr, xk, f, kk⟩ := q
      simp only [wpE] at f
      exact ⟨σd, S, _, rs, hr, xk, f, fun ds G S1 hd J H1 f1 h1 wk Da nD => lc_of (rs.mono (f1.ext hr)) h1 wk h4 nD hd (kk.next f1 fun _ _ z => z)⟩
    · cases h
  | .dct ks vs, c, W, ex, X, e, o, h => by
    simp only [chkE] at h
    split at h
    · simp only [Bool.and_eq_true, decide_eq_true_eq] at h
      obtain ⟨⟨⟨⟨h1, h2⟩, h3⟩, h4⟩, h5⟩ := h
      rename_i kz vz pos
      have hk := chkKs_all h1
      refine (pe_disp (sP ks vs (ex := ex) (pos := pos) o (by rw [hk.2, h3]; exact chkEs_len h2) h1 h2) hk.1 h3 (by intro z; rw [z] at h4; cases h4) h5).weak fun σ H Q q => ?_
      obtain ⟨σd, S, R, rs, hr, xk, f, kk⟩ := q
      simp only [wpE] at f
      intro p np
      have hn : ks.length = kz.length := hk.2
      refine pairs_of ks vs (by rw [hk.2, h3]; exact chkEs_len h2) (rs.mono (ext_new np)) (hr.free np) (xk.next (Fm.tup hr np)) f fun ds S1 hd us H1 f1 rv h1 => ?_
      obtain ⟨e1, e2⟩ := f1 p _ upd_same (hr.fresh np)
      have lu : us.length = ks.length := by rw [← rv.length]; exact hd.1
      refine ⟨e1, (ks.zip us).map fun z => (Sum.inr z.1, z.2), ?_, ?_, ?_⟩
      · simp only [List.map_map]
        rfl
      · rw [List.length_map, List.length_zip, lu, hn]
        omega
      · refine kk _ _ (hd.2 p e2) _ _ ?_ (by simp only [RelD]) ?_
        · intro a oo ea qa
          have ne : a ≠ p := ne_of_none ea np
          obtain ⟨q1, q2⟩ := f1 a oo (by rw [upd_ne ne]; exact ea) qa
          exact ⟨by rw [upd_ne ne]; exact q1, by rw [updS_ne ne]; exact q2⟩
        · intro a ob qa
          have exq : Ext H1 (upd H1 p (.dK (mergeK [] ((ks.zip us).map fun z => (Sum.inr z.1, z.2))))) := ext_put e1 (fun _ z => nomatch z) (fun _ _ z => nomatch z) fun _ z => nomatch z
          by_cases ne : a = p
          · subst ne
            rw [updS_same] at qa
            cases qa
            refine ⟨_, upd_same, RelKV.mono exq _ _ ?_⟩
            exact relkv_fold rv (by simp only [RelKV])
          · rw [updS_ne ne] at qa
            exact (h1 a ob qa).mono exq (upd_ne ne)
    · cases h
theorem sT : ∀ (t : T) {c : Cc} {W : WX} {ex : EX} {X : Cx} {e : Expr}, XOk defs gl k c W X → chkE c t e = true → PT X e (tDT X.K X.w W ex (wpT (cw defs gl k) ex t))
  | .bop op ts, c, W, ex, X, e, o, h => by
    simp only [chkE] at h
    split at h
    · simp only [Bool.and_eq_true, decide_eq_true_eq] at h
      obtain ⟨rfl, h2⟩ := h
      simpa only [wpT] using (sTB op ts (ex := ex) o h2).pt
    · cases h
  | .nt a, c, W, ex, X, e, o, h => by
    simp only [chkE] at h
    split at h
    · refine (pt_not (sT a (ex := ex) o h)).weak fun σ H Q q => ?_
      obtain ⟨σd, S, R, rs, hr, xk, f, kk⟩ := q
      simp only [wpT] at f
      exact ⟨σd, S, _, rs, hr, xk, f, fun b S1 hb H1 f1 h1 => kk _ S1 hb H1 f1 h1⟩
    · cases h
  | .var i, c, W, ex, X, e, o, h => by
    have he : ifV e = true := by
      simp only [chkE] at h
      split at h
      · rfl
      · cases h
    refine (pt_truth (sE_var (ex := ex) o h) (plain_true he)).weak fun σ H Q q => tD_tru ?_
    obtain ⟨σd, S, R, rs, hr, xk, f, kk⟩ := q
    refine ⟨σd, S, R, rs, hr, xk, ?_, kk⟩
    simp only [wpT] at f
    simp only [wpE]
    split at f
    · exact f
    · exact f.elim
  | .cmp op a b, c, W, ex, X, e, o, h => by
    simp only [chkE] at h
    split at h
    · simp only [Bool.and_eq_true, decide_eq_true_eq] at h
      obtain ⟨⟨⟨rfl, h2⟩, h3⟩, h4⟩ := h
      refine (pt_cmpR (cmp_ok o.hu op) (sE a (ex := ex) o h2) (sE b (ex := ex) o h3) (plain_mark h4)).weak fun σ H Q q => tD_op ?_
      obtain ⟨σd, S, R, rs, hr, xk, f, kk⟩ := q
      simp only [wpT] at f
      refine ⟨σd, S, _, rs, hr, xk, f, fun d S1 hd v H1 f1 rv h1 => ?_⟩
      split at hd
      · simp only [RelD] at rv
        exact ⟨_, rv, kk _ S1 hd H1 f1 h1⟩
      · exact hd.elim
    · cases h
  | .chain op op2 a b d, c, W, ex, X, e, o, h => by
    simp only [chkE] at h
    split at h
    · simp only [Bool.and_eq_true, decide_eq_true_eq] at h
      obtain ⟨⟨⟨⟨⟨⟨rfl, rfl⟩, h2⟩, h3⟩, h4⟩, h5⟩, h6⟩ := h
      refine (pt_chain (cmp_ok o.hu op) (cmp_ok o.hu op2) (sE a (ex := ex) o h2) (sE b (ex := ex) o h3) (sE d (ex := ex) o h4) (show behindInMarks op2 _ = false from plain_mark h6)).weak fun σ H Q q => ?_
      obtain ⟨σd, S, R, rs, hr, xk, f, kk⟩ := q
      simp only [wpT] at f
      refine ⟨σd, S, _, rs, hr, xk, f, fun x S1 hx v1 H1 f1 rv1 h1 => ⟨σd, S1, _, rs.mono (f1.ext hr), h1, xk.next f1, hx, fun y S2 hy v2 H2 f2 rv2 h2' =>
        ⟨x, y, S2, _, RelD.mono (f2.ext h1) _ _ rv1, rv2, h2', hy, fun z S3 hz v3 H3 f3 rv3 h3' => ?_⟩⟩⟩
      split at hz
      · rename_i b
        simp only [RelD] at rv3
        subst rv3
        refine ⟨b, rfl, ?_⟩
        cases b with
        | false =>
          rw [if_neg Bool.false_ne_true] at hz ⊢
          exact ⟨false, rfl, kk _ S3 hz H3 ((f1.trans f2).trans f3) h3'⟩
        | true =>
          rw [if_pos rfl] at hz ⊢
          refine ⟨σd, S3, _, rs.mono (((f1.trans f2).trans f3).ext hr), h3', xk.next ((f1.trans f2).trans f3), hz, fun u S4 hu v4 H4 f4 rv4 h4' => ?_⟩
          refine ⟨y, u, S4, _, RelD.mono (f4.ext h3') _ _ (RelD.mono (f3.ext h2') _ _ rv2), rv4, h4', hu, fun d S5 hd v5 H5 f5 rv5 h5' => ?_⟩
          split at hd
          · simp only [RelD] at rv5
            exact ⟨_, rv5, kk _ S5 hd H5 ((((f1.trans f2).trans f3).trans f4).trans f5) h5'⟩
          · exact hd.elim
      · exact hz.elim
    · cases h
  | .call f ts, c, W, ex, X, e, o, h => by
    have he : ifV e = true := by
      simp only [chkE] at h
      split at h
      · rfl
      · cases h
    refine (pt_truth (sE_call (ex := ex) o h fun h' => sEs ts (ex := ex) o h') (plain_true he)).weak fun σ H Q q => tD_tru ?_
    obtain ⟨σd, S, R, rs, hr, xk, f, kk⟩ := q
    exact ⟨σd, S, R, rs, hr, xk, by simp only [wpT] at f; simp only [wpE]; exact f, kk⟩
  | .blt b ts, c, W, ex, X, e, o, h => by
    have he : ifV e = true := by
      simp only [chkE] at h
      split at h
      · rfl
      · cases h
    refine (pt_truth (sE_blt (ex := ex) o h fun h' => sEs ts (ex := ex) o h') (plain_true he)).weak fun σ H Q q => tD_tru ?_
    obtain ⟨σd, S, R, rs, hr, xk, f, kk⟩ := q
    exact ⟨σd, S, R, rs, hr, xk, by simp only [wpT] at f; simp only [wpE]; exact f, kk⟩
  | .int _, c, W, ex, X, e, o, h => ⟨fun pins s σ H Q I q => by obtain ⟨σd, S, R, rs, hr, xk, f, kk⟩ := q; simp only [wpT] at f⟩
  | .bl _, c, W, ex, X, e, o, h => ⟨fun pins s σ H Q I q => by obtain ⟨σd, S, R, rs, hr, xk, f, kk⟩ := q; simp only [wpT] at f⟩
  | .non, c, W, ex, X, e, o, h => ⟨fun pins s σ H Q I q => by obtain ⟨σd, S, R, rs, hr, xk, f, kk⟩ := q; simp only [wpT] at f⟩
  | .str _, c, W, ex, X, e, o, h => ⟨fun pins s σ H Q I q => by obtain ⟨σd, S, R, rs, hr, xk, f, kk⟩ := q; simp only [wpT] at f⟩
  | .glob _, c, W, ex, X, e, o, h => ⟨fun pins s σ H Q I q => by obtain ⟨σd, S, R, rs, hr, xk, f, kk⟩ := q; simp only [wpT] at f⟩
  | .bty _, c, W, ex, X, e, o, h => ⟨fun pins s σ H Q I q => by obtain ⟨σd, S, R, rs, hr, xk, f, kk⟩ := q; simp only [wpT] at f⟩
  | .bin _ _ _, c, W, ex, X, e, o, h => ⟨fun pins s σ H Q I q => by obtain ⟨σd, S, R, rs, hr, xk, f, kk⟩ := q; simp only [wpT] at f⟩
  | .neg _, c, W, ex, X, e, o, h => ⟨fun pins s σ H Q I q => by obtain ⟨σd, S, R, rs, hr, xk, f, kk⟩ := q; simp only [wpT] at f⟩
  | .ite _ _ _, c, W, ex, X, e, o, h => ⟨fun pins s σ H Q I q => by obtain ⟨σd, S, R, rs, hr, xk, f, kk⟩ := q; simp only [wpT] at f⟩
  | .tup _, c, W, ex, X, e, o, h => ⟨fun pins s σ H Q I q => by obtain ⟨σd, S, R, rs, hr, xk, f, kk⟩ := q; simp only [wpT] at f⟩
  | .lst _, c, W, ex, X, e, o, h => ⟨fun pins s σ H Q I q => by obtain ⟨σd, S, R, rs, hr, xk, f, kk⟩ := q; simp only [wpT] at f⟩
  | .sub a i, c, W, ex, X, e, o, h => by
    have he : ifV e = true := by
      simp only [chkE] at h
      split at h
      · rfl
      · cases h
    refine (pt_truth (sE_sub (ex := ex) o h (fun h' => sE a (ex := ex) o h') fun h' => sE i (ex := ex) o h') (plain_true he)).weak fun σ H Q q => tD_tru ?_
    obtain ⟨σd, S, R, rs, hr, xk, f, kk⟩ := q
    exact ⟨σd, S, R, rs, hr, xk, by simp only [wpT] at f; simp only [wpE]; exact f, kk⟩
  | .meth q cn m a ts, c, W, ex, X, e, o, h => by
    have he : ifV e = true := by
      simp only [chkE] at h
      split at h
      · rfl
      · cases h
    refine (pt_truth (sE_meth (ex := ex) o h (fun h' => sE a (ex := ex) o h') fun h' => sEs ts (ex := ex) o h') (plain_true he)).weak fun σ H Q q => tD_tru ?_
    obtain ⟨σd, S, R, rs, hr, xk, f, kk⟩ := q
    exact ⟨σd, S, R, rs, hr, xk, by simp only [wpT] at f; simp only [wpE]; exact f, kk⟩
  | .isc a m, c, W, ex, X, e, o, h => by
    have he : ifV e = true := by
      simp only [chkE] at h
      split at h
      · rfl
      · cases h
    refine (pt_truth (sE_isc (ex := ex) o h fun h' => sE a (ex := ex) o h') (plain_true he)).weak fun σ H Q q => tD_tru ?_
    obtain ⟨σd, S, R, rs, hr, xk, f, kk⟩ := q
    exact ⟨σd, S, R, rs, hr, xk, by simp only [wpT] at f; simp only [wpE]; exact f, kk⟩
  | .eqo _ _ _ _, c, W, ex, X, e, o, h => ⟨fun pins s σ H Q I q => by obtain ⟨σd, S, R, rs, hr, xk, f, kk⟩ := q; simp only [wpT] at f⟩
  | .new _ _ _, c, W, ex, X, e, o, h => ⟨fun pins s σ H Q I q => by obtain ⟨σd, S, R, rs, hr, xk, f, kk⟩ := q; simp only [wpT] at f⟩
  | .fld _ _, c, W, ex, X, e, o, h => ⟨fun pins s σ H Q I q => by obtain ⟨σd, S, R, rs, hr, xk, f, kk⟩ := q; simp only [wpT] at f⟩
  | .lrev _, c, W, ex, X, e, o, h => ⟨fun pins s σ H Q I q => by obtain ⟨σd, S, R, rs, hr, xk, f, kk⟩ := q; simp only [wpT] at f⟩
  | .callK _ _ _ _, c, W, ex, X, e, o, h => ⟨fun pins s σ H Q I q => by obtain ⟨σd, S, R, rs, hr, xk, f, kk⟩ := q; simp only [wpT] at f⟩
  | .newK _ _ _ _ _, c, W, ex, X, e, o, h => ⟨fun pins s σ H Q I q => by obtain ⟨σd, S, R, rs, hr, xk, f, kk⟩ := q; simp only [wpT] at f⟩
  | .lno _ _ _, c, W, ex, X, e, o, h => ⟨fun pins s σ H Q I q => by obtain ⟨σd, S, R, rs, hr, xk, f, kk⟩ := q; simp only [wpT] at f⟩
  | .rpo _ _ _, c, W, ex, X, e, o, h => ⟨fun pins s σ H Q I q => by obtain ⟨σd, S, R, rs, hr, xk, f, kk⟩ := q; simp only [wpT] at f⟩
  | .fs2 _ _ _ _ _, c, W, ex, X, e, o, h => ⟨fun pins s σ H Q I q => by obtain ⟨σd, S, R, rs, hr, xk, f, kk⟩ := q; simp only [wpT] at f⟩
  | .lset _, c, W, ex, X, e, o, h => ⟨fun pins s σ H Q I q => by obtain ⟨σd, S, R, rs, hr, xk, f, kk⟩ := q; simp only [wpT] at f⟩
  | .lrng _, c, W, ex, X, e, o, h => ⟨fun pins s σ H Q I q => by obtain ⟨σd, S, R, rs, hr, xk, f, kk⟩ := q; simp only [wpT] at f⟩
  | .lzip _ _, c, W, ex, X, e, o, h => ⟨fun pins s σ H Q I q => by obtain ⟨σd, S, R, rs, hr, xk, f, kk⟩ := q; simp only [wpT] at f⟩
  | .slice _ _ _, c, W, ex, X, e, o, h => ⟨fun pins s σ H Q I q => by obtain ⟨σd, S, R, rs, hr, xk, f, kk⟩ := q; simp only [wpT] at f⟩
  | .mth _ _ _, c, W, ex, X, e, o, h => ⟨fun pins s σ H Q I q => by obtain ⟨σd, S, R, rs, hr, xk, f, kk⟩ := q; simp only [wpT] at f⟩
  | .lc _ _ _ _ _, c, W, ex, X, e, o, h => ⟨fun pins s σ H Q I q => by obtain ⟨σd, S, R, rs, hr, xk, f, kk⟩ := q; simp only [wpT] at f⟩
  | .dct _ _, c, W, ex, X, e, o, h => ⟨fun pins s σ H Q I q => by obtain ⟨σd, S, R, rs, hr, xk, f, kk⟩ := q; simp only [wpT] at f⟩
  | .back _, c, W, ex, X, e, o, h => ⟨fun pins s σ H Q I q => by obtain ⟨σd, S, R, rs, hr, xk, f, kk⟩ := q; simp only [wpT] at f⟩
  | .isx _ _, c, W, ex, X, e, o, h => ⟨fun pins s σ H Q I q => by obtain ⟨σd, S, R, rs, hr, xk, f, kk⟩ := q; simp only [wpT] at f⟩
  | .atr _ _, c, W, ex, X, e, o, h => ⟨fun pins s σ H Q I q => by obtain ⟨σd, S, R, rs, hr, xk, f, kk⟩ := q; simp only [wpT] at f⟩
theorem sEs : ∀ (ts : List T) {c : Cc} {W : WX} {ex : EX} {X : Cx} {es : List Expr}, XOk defs gl k c W X → chkEs c ts es = true → PA X es (tDA X.K X.w W ex (wpEs (cw defs gl k) ex ts))
  | [], c, W, ex, X, es, o, h => by
    simp only [chkEs] at h
    split at h
    · refine pa_nil.weak fun σ H Q q => ?_
      obtain ⟨σd, S, R, rs, hr, xk, f, kk⟩ := q
      simp only [wpEs] at f
      exact kk [] S f [] H (Fm.refl _ _) relds_nil hr
    · cases h
  | t :: ts, c, W, ex, X, es, o, h => by
    simp only [chkEs] at h
    split at h
    · cases h
    · simp only [Bool.and_eq_true] at h
      exact (pa_cons (sE t (ex := ex) o h.1.1) (sEs ts (ex := ex) o h.2) (plain_star h.1.2)).weak fun σ H Q q => tD_cons (by simpa only [wpEs] using q)
theorem sKw : ∀ (us : List T) {ks : List Str} {c : Cc} {W : WX} {ex : EX} {X : Cx} {kws : List Keyword}, XOk defs gl k c W X → chkKw c us ks kws = true → PK X kws (tDA X.K X.w W ex (wpEs (cw defs gl k) ex us))
  | [], ks, c, W, ex, X, kws, o, h => by
    simp only [chkKw, Bool.and_eq_true, List.isEmpty_iff] at h
    rw [h.2]
    refine pk_nil.weak fun σ H Q q => ?_
    obtain ⟨σd, S, R, rs, hr, xk, f, kk⟩ := q
    simp only [wpEs] at f
    exact kk [] S f [] H (Fm.refl _ _) relds_nil hr
  | u :: us, ks, c, W, ex, X, kws, o, h => by
    simp only [chkKw] at h
    split at h
    · simp only [Bool.and_eq_true] at h
      exact (pk_cons (sE u (ex := ex) o h.1.2) (sKw us (ex := ex) o h.2)).weak fun σ H Q q => tD_cons (by simpa only [wpEs] using q)
    · cases h
theorem sO : ∀ (t : Option T) {c : Cc} {W : WX} {ex : EX} {X : Cx} {e : Option Expr}, XOk defs gl k c W X → chkO c t e = true → PO X e (fun σ H Q => ∃ σd S R, RelSt X.K X.w H σd σ ∧ HR X.K X.w H S ∧ ExK X.K X.w H S ex W ∧ wpO (cw defs gl k) ex t σd S R ∧ ∀ i S', R i S' → ∀ H', Fm H S H' S' → HR X.K X.w H' S' → Q i H')
  | none, c, W, ex, X, e, o, h => by
    simp only [chkO, Option.isNone_iff_eq_none] at h
    subst h
    refine ⟨fun pins s σ H Q I q => po_none.run pins s σ H Q I ?_⟩
    obtain ⟨σd, S, R, rs, hr, xk, f, kk⟩ := q
    simp only [wpO] at f
    exact kk none S f H (Fm.refl _ _) hr
  | some t, c, W, ex, X, e, o, h => by
    simp only [chkO] at h
    split at h
    · refine ⟨fun pins s σ H Q I q => (po_some (sE t (ex := ex) o h)).run pins s σ H Q I ?_⟩
      obtain ⟨σd, S, R, rs, hr, xk, f, kk⟩ := q
      simp only [wpO] at f
      refine ⟨σd, S, _, rs, hr, xk, f, fun d S1 hd v H1 f1 rv h1 => ?_⟩
      split at hd
      · simp only [RelD] at rv
        exact ⟨_, rv, kk _ S1 hd H1 f1 h1⟩
      · exact hd.elim
    · cases h
theorem sB : ∀ (op : BoolOp) (ts : List T) {c : Cc} {W : WX} {ex : EX} {X : Cx} {es : List Expr} {pos : Pos}, XOk defs gl k c W X → chkEs c ts es = true → PE X (.BoolOp op es pos) (tD X.K X.w W ex (wpB (cw defs gl k) ex op ts))
  | op, [], c, W, ex, X, es, pos, o, h => ⟨fun pins s σ H Q I q => by obtain ⟨σd, S, R, rs, hr, xk, f, kk⟩ := q; simp only [wpB] at f⟩
  | op, [t], c, W, ex, X, es, pos, o, h => by
    simp only [chkEs] at h
    split at h
    · cases h
    · simp only [Bool.and_eq_true] at h
      obtain ⟨h1, h2⟩ := h
      split at h2
      · simpa only [wpB] using pe_one (sE t (ex := ex) o h1.1)
      · cases h2
  | op, t :: u :: ts, c, W, ex, X, es, pos, o, h => by
    unfold chkEs at h
    split at h
    · cases h
    · simp only [Bool.and_eq_true] at h
      obtain ⟨h1, h2⟩ := h
      have ih := fun pos => sB op (u :: ts) (ex := ex) (pos := pos) o h2
      rename_i e0 es0
      cases es0 with
      | nil => simp only [chkEs] at h2; cases h2
      | cons e1 es1 =>
        cases op with
        | And =>
          refine (pe_andT (sE t (ex := ex) o h1.1) (ih pos)).weak fun σ H Q q => ?_
          obtain ⟨σd, S, R, rs, hr, xk, f, kk⟩ := q
          simp only [wpB] at f
          refine ⟨σd, S, _, rs, hr, xk, f, fun d S1 hd v H1 f1 rv h1 => ?_⟩
          split at hd
          · rename_i b eb
            refine ⟨b, tru_of h1 rv eb, ?_⟩
            cases b with
            | true =>
              rw [if_pos rfl] at hd ⊢
              exact ⟨σd, S1, R, rs.mono (f1.ext hr), h1, xk.next f1, hd, kk.next f1 fun _ _ z => z⟩
            | false =>
              rw [if_neg Bool.false_ne_true] at hd ⊢
              exact kk _ S1 hd _ H1 f1 rv h1
          · exact hd.elim
        | Or =>
          refine (pe_orT (sE t (ex := ex) o h1.1) (ih pos)).weak fun σ H Q q => ?_
          obtain ⟨σd, S, R, rs, hr, xk, f, kk⟩ := q
          simp only [wpB] at f
          refine ⟨σd, S, _, rs, hr, xk, f, fun d S1 hd v H1 f1 rv h1 => ?_⟩
          split at hd
          · rename_i b eb
            refine ⟨b, tru_of h1 rv eb, ?_⟩
            cases b with
            | false =>
              rw [if_neg Bool.false_ne_true] at hd ⊢
              exact ⟨σd, S1, R, rs.mono (f1.ext hr), h1, xk.next f1, hd, kk.next f1 fun _ _ z => z⟩
            | true =>
              rw [if_pos rfl] at hd ⊢
              exact kk _ S1 hd _ H1 f1 rv h1
          · exact hd.elim
theorem sTB : ∀ (op : BoolOp) (ts : List T) {c : Cc} {W : WX} {ex : EX} {X : Cx} {es : List Expr} {pos : Pos}, XOk defs gl k c W X → chkEs c ts es = true → PW X (.BoolOp op es pos) (tDT X.K X.w W ex (wpTB (cw defs gl k) ex op ts))
  | op, [], c, W, ex, X, es, pos, o, h => ⟨fun wh pins s σ H Q I q => by obtain ⟨σd, S, R, rs, hr, xk, f, kk⟩ := q; simp only [wpTB] at f⟩
  | op, [t], c, W, ex, X, es, pos, o, h => by
    simp only [chkEs] at h
    split at h
    · cases h
    · simp only [Bool.and_eq_true] at h
      obtain ⟨h1, h2⟩ := h
      split at h2
      · cases op with
        | And => simpa only [wpTB] using pw_and1 (sT t (ex := ex) o h1.1)
        | Or => simpa only [wpTB] using pw_or1 (sT t (ex := ex) o h1.1)
      · cases h2
  | op, t :: u :: ts, c, W, ex, X, es, pos, o, h => by
    unfold chkEs at h
    split at h
    · cases h
    · simp only [Bool.and_eq_true] at h
      obtain ⟨h1, h2⟩ := h
      have ih := fun pos => sTB op (u :: ts) (ex := ex) (pos := pos) o h2
      rename_i e0 es0
      cases es0 with
      | nil => simp only [chkEs] at h2; cases h2
      | cons e1 es1 =>
        cases op with
        | And =>
          refine (pw_and (sT t (ex := ex) o h1.1) (ih pos)).weak fun σ H Q q => ?_
          obtain ⟨σd, S, R, rs, hr, xk, f, kk⟩ := q
          simp only [wpTB] at f
          refine ⟨σd, S, _, rs, hr, xk, f, fun b S1 hd H1 f1 h1 => ?_⟩
          cases b with
          | true =>
            rw [if_pos rfl] at hd ⊢
            exact ⟨σd, S1, R, rs.mono (f1.ext hr), h1, xk.next f1, hd, fun b S2 hb H2 f2 h2 => kk b S2 hb H2 (f1.trans f2) h2⟩
          | false =>
            rw [if_neg Bool.false_ne_true] at hd ⊢
            exact kk _ S1 hd H1 f1 h1
        | Or =>
          refine (pw_or (sT t (ex := ex) o h1.1) (ih pos)).weak fun σ H Q q => ?_
          obtain ⟨σd, S, R, rs, hr, xk, f, kk⟩ := q
          simp only [wpTB] at f
          refine ⟨σd, S, _, rs, hr, xk, f, fun b S1 hd H1 f1 h1 => ?_⟩
          cases b with
          | false =>
            rw [if_neg Bool.false_ne_true] at hd ⊢
            exact ⟨σd, S1, R, rs.mono (f1.ext hr), h1, xk.next f1, hd, fun b S2 hb H2 f2 h2 => kk b S2 hb H2 (f1.trans f2) h2⟩
          | true =>
            rw [if_pos rfl] at hd ⊢
            exact kk _ S1 hd H1 f1 h1
theorem sTs : ∀ (ts : List T) {c : Cc} {X : Cx} {es : List Expr}, XOk defs gl k c W0 X → chkEs c ts es = true → PTs X es (tDT X.K X.w W0 ex0 (wpTs (cw defs gl k) ts))
  | [], c, X, es, o, h => by
    simp only [chkEs] at h
    split at h
    · refine ⟨fun pins s σ H Q I q => pts_nil.run pins s σ H Q I ?_⟩
      obtain ⟨σd, S, R, rs, hr, xk, f, kk⟩ := q
      simp only [wpTs] at f
      exact kk _ S f H (Fm.refl _ _) hr
    · cases h
  | [t], c, X, es, o, h => by
    simp only [chkEs] at h
    split at h
    · cases h
    · simp only [Bool.and_eq_true] at h
      obtain ⟨h1, h2⟩ := h
      split at h2
      · simpa only [wpTs] using pts_one (sT t (ex := ex0) o h1.1)
      · cases h2
  | _ :: _ :: _, c, X, es, o, h => ⟨fun pins s σ H Q I q => by obtain ⟨σd, S, R, rs, hr, xk, f, kk⟩ := q; simp only [wpTs] at f⟩
theorem sP : ∀ (ks : List Str) (ts : List T) {c : Cc} {W : WX} {ex : EX} {X : Cx} {kz : List (Option Expr)} {vz : List Expr} {pos : Pos}, XOk defs gl k c W X → ks.length = ts.length → chkKs ks kz = true → chkEs c ts vz = true → PPs X pos kz vz (trsOf X.K X.w W (cw defs gl k) ex ks ts)
  | [], [], c, W, ex, X, kz, vz, pos, o, hl, h1, h2 => by
    simp only [chkKs] at h1
    simp only [chkEs] at h2
    split at h1
    · split at h2
      · exact pps_nil
      · cases h2
    · cases h1
  | [], t :: ts, c, W, ex, X, kz, vz, pos, o, hl, h1, h2 => by simp at hl
  | x :: ks, [], c, W, ex, X, kz, vz, pos, o, hl, h1, h2 => by simp at hl
  | x :: ks, t :: ts, c, W, ex, X, kz, vz, pos, o, hl, h1, h2 => by
    simp only [chkKs] at h1
    split at h1
    · simp only [Bool.and_eq_true, decide_eq_true_eq] at h1
      obtain ⟨rfl, h1⟩ := h1
      simp only [chkEs] at h2
      split at h2
      · cases h2
      · simp only [Bool.and_eq_true] at h2
        exact pps_cons pe_str (sE t (ex := ex) o h2.1.1) (sP ks ts (ex := ex) o (by simpa using hl) h1 h2.2)
    · cases h1
theorem sI : ∀ (it : Ti) {c : Cc} {W : WX} {ex : EX} {X : Cx} {e tg : Expr}, XOk defs gl k c W X → chkI c it e tg = true → PI X tg e (tDI X.K X.w W ex (wpI (cw defs gl k) ex it))
  | .seq t, c, W, ex, X, e, tg, o, h => by
    simp only [chkI] at h
    refine (pi_seq (sE t (ex := ex) o h)).weak fun σ H R q => ?_
    obtain ⟨σd, S, RI, rs, hr, xk, f, kk⟩ := q
    simp only [wpI] at f
    refine ⟨σd, S, _, rs, hr, xk, f, fun d S1 hd v H1 f1 rv h1 => ?_⟩
    split at hd
    · simp only [RelD] at rv
      obtain ⟨a, vs, rfl, t1, r1⟩ := rv
      exact ⟨a, rfl, .inr ⟨⟨vs, t1⟩, kk _ _ S1 hd _ H1 f1 h1 (walkd_tup t1 r1)⟩⟩
    · simp only [RelD] at rv
      obtain ⟨a, vs, rfl, t1, r1⟩ := rv
      exact ⟨a, rfl, .inl ⟨⟨vs, t1.sq⟩, kk _ _ S1 hd _ H1 f1 h1 (walkd_kl t1 r1)⟩⟩
    · simp only [RelD] at rv
      subst rv
      split at hd
      · rename_i es
        obtain ⟨vs, q1, q2⟩ := h1.sql es
        exact ⟨_, rfl, .inl ⟨⟨vs, q1⟩, kk _ _ S1 hd _ H1 f1 h1 walkd_list⟩⟩
      · exact hd.elim
    · exact hd.elim
  | .rng1 t, c, W, ex, X, e, tg, o, h => by
    simp only [chkI] at h
    split at h
    · simp only [Bool.and_eq_true, decide_eq_true_eq] at h
      obtain ⟨⟨⟨rfl, h2⟩, h3⟩, h4⟩ := h
      obtain ⟨g1, g2, g3⟩ := o.gl_of h2
      refine (pi_range1 g1 (o.blt "range" (by decide)) (pa_cons (sE t (ex := ex) o h3) pa_nil (plain_star h4)) (plain_star h4)).weak fun σ H R q => ?_
      obtain ⟨σd, S, RI, rs, hr, xk, f, kk⟩ := q
      simp only [wpI] at f
      refine ⟨σd, S, _, rs, hr, xk, f, fun d S1 hd v H1 f1 rv h1 => ?_⟩
      split at hd
      · rename_i n
        simp only [RelD] at rv
        subst rv
        refine ⟨n, rfl, hd.1, hd.2.1, kk _ _ S1 hd.2.2 _ H1 f1 h1 ?_⟩
        have w0 := walkd_range (K := X.K) (w := X.w) (H0 := H1) (lo := 0) (n := n.toNat)
        simp only [Int.zero_add] at w0
        exact w0
      · exact hd.elim
    · cases h
  | .rng2 t u, c, W, ex, X, e, tg, o, h => by
    simp only [chkI] at h
    split at h
    · simp only [Bool.and_eq_true, decide_eq_true_eq] at h
      obtain ⟨⟨⟨⟨⟨rfl, h2⟩, h3⟩, h4⟩, h5⟩, h6⟩ := h
      obtain ⟨g1, g2, g3⟩ := o.gl_of h2
      refine (pi_range2 g1 (o.blt "range" (by decide)) (pa_cons (sE t (ex := ex) o h3) (pa_cons (sE u (ex := ex) o h5) pa_nil (plain_star h6)) (plain_star h4)) (by rw [plain_star h4, plain_star h6]; rfl) (by rw [plain_star h6]; rfl)).weak fun σ H R q => ?_
      obtain ⟨σd, S, RI, rs, hr, xk, f, kk⟩ := q
      simp only [wpI] at f
      refine ⟨σd, S, _, rs, hr, xk, f, fun d S1 hd v H1 f1 rv h1 => ⟨σd, S1, _, rs.mono (f1.ext hr), h1, xk.next f1, hd, fun d2 S2 hd2 v2 H2 f2 rv2 h2 => ?_⟩⟩
      split at hd2
      · rename_i i j
        simp only [RelD] at rv rv2
        subst rv rv2
        exact ⟨i, j, rfl, hd2.1, kk _ _ S2 hd2.2 _ H2 (f1.trans f2) h2 walkd_range⟩
      · exact hd2.elim
    · cases h
  | .enm t, c, W, ex, X, e, tg, o, h => by
    simp only [chkI] at h
    split at h
    · split at h
      · simp only [Bool.and_eq_true, decide_eq_true_eq] at h
        obtain ⟨⟨⟨rfl, h2⟩, h3⟩, h4⟩ := h
        obtain ⟨g1, g2, g3⟩ := o.gl_of h2
        refine (pi_enumT g1 (o.blt "enumerate" (by decide)) (sE t (ex := ex) o h3) (plain_star h4)).weak fun σ H R q => ?_
        obtain ⟨σd, S, RI, rs, hr, xk, f, kk⟩ := q
        simp only [wpI] at f
        refine ⟨σd, S, _, rs, hr, xk, f, fun d S1 hd v H1 f1 rv h1 => ?_⟩
        split at hd
        · simp only [RelD] at rv
          subst rv
          split at hd
          · rename_i es
            obtain ⟨vs, q1, q2⟩ := h1.sql es
            exact ⟨_, vs, rfl, .inl ⟨q1, kk _ _ S1 hd _ H1 f1 h1 walkd_enum⟩⟩
          · exact hd.elim
        · simp only [RelD] at rv
          obtain ⟨a, vs, rfl, q1, q2⟩ := rv
          exact ⟨a, vs, rfl, .inr ⟨q1, kk _ _ S1 hd _ H1 f1 h1 (walkd_enumT q1 q2)⟩⟩
        · exact hd.elim
      · cases h
    · cases h
  | .zip t u, c, W, ex, X, e, tg, o, h => by
    simp only [chkI] at h
    split at h
    · split at h
      · simp only [Bool.and_eq_true, decide_eq_true_eq] at h
        obtain ⟨⟨⟨⟨⟨rfl, h2⟩, h3⟩, h4⟩, h5⟩, h6⟩ := h
        obtain ⟨g1, g2, g3⟩ := o.gl_of h2
        refine (RZ.pi_zipA g1 (o.blt "zip" (by decide)) (pa_cons (sE t (ex := ex) o h3) (pa_cons (sE u (ex := ex) o h5) pa_nil (plain_star h6)) (plain_star h4)) (plain_star h4) (by rw [plain_star h6]; rfl)).weak fun σ H R q => ?_
        obtain ⟨σd, S, RI, rs, hr, xk, f, kk⟩ := q
        simp only [wpI] at f
        refine ⟨σd, S, _, rs, hr, xk, f, fun d S1 hd v H1 f1 rv h1 => ⟨σd, S1, _, rs.mono (f1.ext hr), h1, xk.next f1, hd, fun d2 S2 hd2 v2 H2 f2 rv2 h2 => ?_⟩⟩
        have rv' := RelD.mono (f2.ext h1) _ _ rv
        split at hd2
        · simp only [RelD] at rv' rv2
          obtain ⟨a, vs, rfl, t1, r1⟩ := rv'
          obtain ⟨b, us, rfl, t2, r2⟩ := rv2
          exact ⟨a, b, vs, us, rfl, .inr ⟨t1, t2, kk _ _ S2 hd2 _ H2 (f1.trans f2) h2 (walkd_zipT t1 t2 r1 r2)⟩⟩
        · simp only [RelD] at rv' rv2
          subst rv' rv2
          split at hd2
          · rename_i e1 e2
            obtain ⟨vs, q1, q2⟩ := h2.sql e1
            obtain ⟨us, q3, q4⟩ := h2.sql e2
            exact ⟨_, _, vs, us, rfl, .inl ⟨q1, q3, kk _ _ S2 hd2 _ H2 (f1.trans f2) h2 walkd_zip⟩⟩
          · exact hd2.elim
        · exact hd2.elim
      · cases h
    · cases h
  | .rev t, c, W, ex, X, e, tg, o, h => by
    simp only [chkI] at h
    split at h
    · simp only [Bool.and_eq_true, decide_eq_true_eq] at h
      obtain ⟨⟨⟨rfl, h2⟩, h3⟩, h4⟩ := h
      obtain ⟨g1, g2, g3⟩ := o.gl_of h2
      refine (RT.pi_revA g1 (o.blt "reversed" (by decide)) (sE t (ex := ex) o h3) (plain_star h4)).weak fun σ H R q => ?_
      obtain ⟨σd, S, RI, rs, hr, xk, f, kk⟩ := q
      simp only [wpI] at f
      refine ⟨σd, S, _, rs, hr, xk, f, fun d S1 hd v H1 f1 rv h1 => ?_⟩
      split at hd
      · simp only [RelD] at rv
        obtain ⟨a, vs, rfl, t1, r1⟩ := rv
        exact ⟨a, vs, rfl, .inr ⟨t1, kk _ _ S1 hd _ H1 f1 h1 (walkd_revT r1.length.symm t1 r1)⟩⟩
      · simp only [RelD] at rv
        subst rv
        split at hd
        · rename_i es
          obtain ⟨vs, q1, q2⟩ := h1.sql es
          exact ⟨_, vs, rfl, .inl ⟨q1, kk _ _ S1 hd _ H1 f1 h1 (walkd_rev q2.length.symm)⟩⟩
        · exact hd.elim
      · exact hd.elim
    · cases h
end
end
end Z

set_option Elab.async false
set_option linter.all false
set_option maxRecDepth 100000
set_option maxHeartbeats 4000000
namespace Z
open PySem PySem.Spec PyProof.Rows L2
theorem any2 {α : Type} (f : α → Bool) (a b : α) (h1 : f a = false) (h2 : f b = false) : ¬ ([a, b].any f = true) := by
  rw [List.any_cons, List.any_cons, List.any_nil, h1, h2]
  decide
theorem dups2 {x y : Str} (ne : x ≠ y) : ([x, y] : List Str).eraseDups.length = 2 := by
  rw [List.eraseDups_cons]
  have e : (!(y == x)) = true := by simpa using ne.symm
  rw [List.filter_cons, if_pos e, List.filter_nil, List.eraseDups_cons, List.filter_nil, List.eraseDups_nil]
  rfl
theorem swap_par {x y : Str} {a b : Expr} {px py pt pt2 : Pos} {kt k2 : Nat} {env : Env} (hk : env.scope.kind = .function) (hx : env.scope.names.lookup x = some .local) (hy : env.scope.names.lookup y = some .local) (ne : x ≠ y) (hl : (px.line == py.line) = true)
    (ha : plainE a = true) (hb : plainE b = true) (h1 : (foldedForSure 8 a && foldedForSure 8 b) = false) (h2 : (constantsAlone 8 a && constantsAlone 8 b) = false) :
    swappedStores [.Tuple [.Name x px, .Name y py] kt pt] (.Tuple [a, b] k2 pt2) env = pure (some [x, y]) := by
  have kx : env.kindOf x = some .local := hx
  have ky : env.kindOf y = some .local := hy
  have hbk : env.blockKind = .function := by unfold Env.blockKind; rw [hk]; rfl
  have hl' : (py.line == px.line) = true := by
    rw [beq_iff_eq] at hl ⊢
    exact hl.symm
  have key : ∀ l : List Str, l = [x, y] → (if (l.length != 2 || l.eraseDups.length != l.length) = true then (pure none : Sem (Option (List Str))) else if [a, b].all (foldedForSure 8) = true then pure none else
      if [a, b].all (constantsAlone 8) = true then (do unsupported "assign.tuple-of-constant-expressions:order-of-the-stores"; pure (some l)) else pure (some l)) = pure (some [x, y]) := fun l e => by
    subst e
    have c1 : ¬ (([x, y] : List Str).length != 2 || ([x, y] : List Str).eraseDups.length != ([x, y] : List Str).length) = true := by
      rw [dups2 ne]
      show ¬ ((2 : Nat) != 2 || (2 : Nat) != 2) = true
      decide
    have c2 : ¬ [a, b].all (foldedForSure 8) = true := by
      rw [List.all_cons, List.all_cons, List.all_nil, Bool.and_true, h1]
      exact Bool.false_ne_true
    have c3 : ¬ [a, b].all (constantsAlone 8) = true := by
      rw [List.all_cons, List.all_cons, List.all_nil, Bool.and_true, h2]
      exact Bool.false_ne_true
    rw [if_neg c1, if_neg c2, if_neg c3]
  unfold swappedStores
  simp only [hbk]
  have c0 : ¬ (!([Expr.Name x px, Expr.Name y py].length == 2 || [Expr.Name x px, Expr.Name y py].length == 3) || [a, b].length != [Expr.Name x px, Expr.Name y py].length || ScopeKind.function != ScopeKind.function) = true := by
    show ¬ (!((2 : Nat) == 2 || (2 : Nat) == 3) || (2 : Nat) != 2 || ScopeKind.function != ScopeKind.function) = true
    decide
  rw [if_neg c0]
  rw [if_neg (any2 _ a b (by cases a <;> first | rfl | (exact absurd (show false = true from ha) Bool.false_ne_true)) (by cases b <;> first | rfl | (exact absurd (show false = true from hb) Bool.false_ne_true)))]
  refine key _ ?_
  simp only [List.filterMap_cons, List.filterMap_nil, kx, ky]
  have g : (Option.map (fun z : Expr => z.pos.line) [Expr.Name x px, Expr.Name y py].head?).getD 0 = px.line := rfl
  have t1 : (some NameKind.local == some NameKind.local && px.line == px.line) = true := by simp
  have t2 : (some NameKind.local == some NameKind.local && py.line == px.line) = true := by rw [hl']; rfl
  rw [g, if_pos t1, if_pos t2]
theorem any3 {α : Type} (f : α → Bool) (a b c : α) (h1 : f a = false) (h2 : f b = false) (h3 : f c = false) : ¬ ([a, b, c].any f = true) := by
  simp [List.any_cons, h1, h2, h3]
theorem dups3 {x y z : Str} (n1 : x ≠ y) (n2 : x ≠ z) (n3 : y ≠ z) : ([x, y, z] : List Str).eraseDups.length = 3 := by
  have e1 : (y == x) = false := by simpa using Ne.symm n1
  have e2 : (z == x) = false := by simpa using Ne.symm n2
  have e3 : (z == y) = false := by simpa using Ne.symm n3
  simp [List.eraseDups_cons, List.filter_cons, e1, e2, e3]
theorem swap_par3 {x y z : Str} {a b c : Expr} {px py pz pt pt2 : Pos} {kt k2 : Nat} {env : Env} (hk : env.scope.kind = .function) (hx : env.scope.names.lookup x = some .local) (hy : env.scope.names.lookup y = some .local) (hz : env.scope.names.lookup z = some .local) (n1 : x ≠ y) (n2 : x ≠ z) (n3 : y ≠ z)
    (hl : (px.line == py.line) = true) (hl2 : (px.line == pz.line) = true) (ha : plainE a = true) (hb : plainE b = true) (hc : plainE c = true) (h1 : (foldedForSure 8 a && foldedForSure 8 b && foldedForSure 8 c) = false) (h2 : (constantsAlone 8 a && constantsAlone 8 b && constantsAlone 8 c) = false) :
    swappedStores [.Tuple [.Name x px, .Name y py, .Name z pz] kt pt] (.Tuple [a, b, c] k2 pt2) env = pure (some [x, y, z]) := by
  have kx : env.kindOf x = some .local := hx
  have ky : env.kindOf y = some .local := hy
  have kz : env.kindOf z = some .local := hz
  have hbk : env.blockKind = .function := by unfold Env.blockKind; rw [hk]; rfl
  have hl' : (py.line == px.line) = true := by
    rw [beq_iff_eq] at hl ⊢
    exact hl.symm
  have hl2' : (pz.line == px.line) = true := by
    rw [beq_iff_eq] at hl2 ⊢
    exact hl2.symm
  have key : ∀ l : List Str, l = [x, y, z] → (if (l.length != 3 || l.eraseDups.length != l.length) = true then (pure none : Sem (Option (List Str))) else if [a, b, c].all (foldedForSure 8) = true then pure none else
      if [a, b, c].all (constantsAlone 8) = true then (do unsupported "assign.tuple-of-constant-expressions:order-of-the-stores"; pure (some l)) else pure (some l)) = pure (some [x, y, z]) := fun l e => by
    subst e
    have c1 : ¬ (([x, y, z] : List Str).length != 3 || ([x, y, z] : List Str).eraseDups.length != ([x, y, z] : List Str).length) = true := by
      rw [dups3 n1 n2 n3]
      show ¬ ((3 : Nat) != 3 || (3 : Nat) != 3) = true
      decide
    have c2 : ¬ [a, b, c].all (foldedForSure 8) = true := by
      rw [List.all_cons, List.all_cons, List.all_cons, List.all_nil, Bool.and_true, ← Bool.and_assoc, h1]
      exact Bool.false_ne_true
    have c3 : ¬ [a, b, c].all (constantsAlone 8) = true := by
      rw [List.all_cons, List.all_cons, List.all_cons, List.all_nil, Bool.and_true, ← Bool.and_assoc, h2]
      exact Bool.false_ne_true
    rw [if_neg c1, if_neg c2, if_neg c3]
  unfold swappedStores
  simp only [hbk]
  have c0 : ¬ (!([Expr.Name x px, Expr.Name y py, Expr.Name z pz].length == 2 || [Expr.Name x px, Expr.Name y py, Expr.Name z pz].length == 3) || [a, b, c].length != [Expr.Name x px, Expr.Name y py, Expr.Name z pz].length || ScopeKind.function != ScopeKind.function) = true := by
    show ¬ (!((3 : Nat) == 2 || (3 : Nat) == 3) || (3 : Nat) != 3 || ScopeKind.function != ScopeKind.function) = true
    decide
  rw [if_neg c0]
  rw [if_neg (any3 _ a b c (by cases a <;> first | rfl | (exact absurd (show false = true from ha) Bool.false_ne_true)) (by cases b <;> first | rfl | (exact absurd (show false = true from hb) Bool.false_ne_true)) (by cases c <;> first | rfl | (exact absurd (show false = true from hc) Bool.false_ne_true)))]
  refine key _ ?_
  simp only [List.filterMap_cons, List.filterMap_nil, kx, ky, kz]
  have g : (Option.map (fun z : Expr => z.pos.line) [Expr.Name x px, Expr.Name y py, Expr.Name z pz].head?).getD 0 = px.line := rfl
  have t1 : (some NameKind.local == some NameKind.local && px.line == px.line) = true := by simp
  have t2 : (some NameKind.local == some NameKind.local && py.line == px.line) = true := by rw [hl']; rfl
  have t3 : (some NameKind.local == some NameKind.local && pz.line == px.line) = true := by rw [hl2']; rfl
  rw [g, if_pos t1, if_pos t2, if_pos t3]
theorem swap_cell {e : Expr} {x : Str} {q : Pos} {n : Nat} {env : Env} (hx : env.scope.names.lookup x = some .cell) : swapsWith e (some (.Name x q)) n env = pure false := by
  have kx : (env.kindOf x == some .local) = false := by
    show (env.scope.names.lookup x == some .local) = false
    rw [hx]
    decide
  cases e <;> first | rfl | (unfold swapsWith; simp only [kx, Bool.and_false, Bool.false_and])
theorem swap_none {es : List Expr} {kk : Nat} {p : Pos} {e : Expr} {env : Env} (h : (match e with | .Tuple _ _ _ => false | _ => true) = true) : swappedStores [.Tuple es kk p] e env = pure none := by
  cases e <;> first | (exact absurd (show false = true from h) Bool.false_ne_true) | rfl
section
variable {defs : Str → Option DefT} {gl : Str → Option D} {k : Nat}
theorem lc_read {K : PySem.W.Frag} {w : World} {W : WX} {ex : EX} {g : Tg} {it : Ti} {ifs : List T} {own : List (Str × Nat)} {d : T} {σ : L2.St} {H : Hp} {Q : VK} (og : ownG (own.map (·.2)) g = true)
    (q : tD K w W ex (wpE (cw defs gl k) ex (.lc g it ifs own d)) σ H Q) :
    tLc (tDI K w W ex (wpI (cw defs gl k) ex it)) (gV K g) (tDT K w W0 ex0 (wpTs (cw defs gl k) ifs)) (tD K w W0 ex0 (wpE (cw defs gl k) ex0 d)) (own.map (·.2)) σ H Q := by
  obtain ⟨σd, S, R, rs, hr, xk, f, kk⟩ := q
  simp only [wpE] at f
  exact ⟨σd, S, _, rs, hr, xk, f, fun ds G S1 hd J H1 f1 h1 wk Da nD => lc_of (rs.mono (f1.ext hr)) h1 wk og nD hd (kk.next f1 fun _ _ z => z)⟩
theorem asg_lc {c : Cc} {W : WX} {ex : EX} {X : Cx} {i : Nat} {x : Str} {q pos q2 : Pos} {elt : Expr} {gs : List Comprehension} {scope : Scope} {t : T} (hf : X.env.scope.kind = .function) (o : XOk defs gl k c W X) (hN : c.N[i]? = some x) (hl : c.sc.names.lookup x = some .local) (h2 : chkE c t (.ListComp elt gs scope q2) = true)
    (hq : (q.line == q2.line) = true) (hn : (scope.names.any fun (n, k) => n == x && (k == .local || k == .cell)) = false) :
    PS X (.Assign [.Name x q] (.ListComp elt gs scope q2) pos) (tAsg (tD X.K X.w W ex (wpE (cw defs gl k) ex t)) (gName i)) := by
  cases t with
  | lc g it ifs own d =>
    simp only [chkE] at h2
    split at h2
    · rename_i e0
      simp only [Bool.and_eq_true] at h2
      obtain ⟨⟨⟨⟨⟨⟨⟨h1, h2⟩, h3⟩, h4⟩, h5⟩, h6⟩, h7⟩, hca⟩ := h2
      cases e0
      have bo : BlkOk X.N X.env.scope scope own := by rw [o.hN, o.hsc]; exact blkOk_by h2
      have hl' : X.env.scope.names.lookup x = some .local := by rw [o.hsc]; exact hl
      refine (ps_setLc (g := gV X.K g) (tt := tDT X.K X.w W0 ex0 (wpTs (cw defs gl k) ifs)) (te := tD X.K X.w W0 ex0 (wpE (cw defs gl k) ex0 d)) (o.calm hca) (by rw [o.hN]; exact o.nd) (by rw [o.hN]; exact hN) hl' (sw_true hf hl' hq hn) (sI it (ex := ex) o h1) bo
        (fun s H C cl fp => sG (o.blk s H scope C cl fp) g _ h3) (fun s H C cl fp => sTs ifs (o.blk s H scope C cl fp) h5) (fun s H C cl fp => sE d (o.blk s H scope C cl fp) h6) (plain_fold h7)).weak fun De σ H q => lc_read h4 q
    · cases h2
  | _ => simp only [chkE] at h2 <;> cases h2
end
end Z

set_option Elab.async false
set_option linter.all false
set_option maxRecDepth 100000
set_option maxHeartbeats 4000000
namespace Z
open PySem PySem.Spec PyProof.Rows L2

theorem nolc_sole {e t : Expr} {n : Nat} {env : Env} (h : lcE e = false) : swapsWithSole [t] e n env = pure false := by
  unfold swapsWithSole
  exact nolc_swap h
theorem mem_of_lk {β : Type} {k : Str} {v : β} : ∀ {l : List (Str × β)}, l.lookup k = some v → (k, v) ∈ l
  | [], h => by cases h
  | (j, u) :: l, h => by
    rw [List.lookup_cons] at h
    split at h
    · rename_i e
      cases h
      rw [eq_of_beq e]
      exact List.mem_cons_self
    · exact List.mem_cons_of_mem _ (mem_of_lk h)
structure EndK (K : PySem.W.Frag) (w : World) (H : Hp) (S : Sto) (E : EndD) (D : Ends) : Prop where
  nx : ∀ σd S', E.nx σd S' → ∀ σ H', Fm H S H' S' → RelSt K w H' σd σ → HR K w H' S' → D.nx σ H'
  rt : ∀ d S', E.rt d S' → ∀ v H', Fm H S H' S' → RelD K w H' d v → HR K w H' S' → D.rt v H'
  bk : ∀ σd S', E.bk σd S' → ∀ σ H', Fm H S H' S' → RelSt K w H' σd σ → HR K w H' S' → D.bk σ H'
  ct : ∀ σd S', E.ct σd S' → ∀ σ H', Fm H S H' S' → RelSt K w H' σd σ → HR K w H' S' → D.ct σ H'
theorem EndK.next {K : PySem.W.Frag} {w : World} {H H' : Hp} {S S' : Sto} {E : EndD} {D : Ends} (k : EndK K w H S E D) (f : Fm H S H' S') : EndK K w H' S' E D :=
  ⟨fun σd S2 h σ H2 f2 => k.nx σd S2 h σ H2 (f.trans f2), fun d S2 h v H2 f2 => k.rt d S2 h v H2 (f.trans f2), fun σd S2 h σ H2 f2 => k.bk σd S2 h σ H2 (f.trans f2), fun σd S2 h σ H2 f2 => k.ct σd S2 h σ H2 (f.trans f2)⟩
def tDS (K : PySem.W.Frag) (w : World) (W : WX) (ex : EX) (f : EndD → StD → Sto → Prop) : L2.TS := fun D σ H => ∃ σd S E, RelSt K w H σd σ ∧ HR K w H S ∧ ExK K w H S ex W ∧ f E σd S ∧ EndK K w H S E D
theorem sub_assign {o i : Expr} {pos : Pos} {env : Env} (h : plainE i = true) : ∀ v, assign (.Subscript o i pos) env v = (do
      let ov ← holding [v] (eval o env)
      let iv ← holding [v, ov] (eval i env)
      standAt pos
      holding [v, ov, iv] (setItem ov iv v)
      release [v, ov, iv] []) := by
  intro v
  cases i <;> first | rfl | (exact absurd (show false = true from h) Bool.false_ne_true)
theorem xcl_len {n : Str} {ns : List Str} (h : xcl n = some ns) : ns.length ≤ 2 := by
  have m := mem_of_lk h
  simp only [xclT, List.mem_cons, List.not_mem_nil, or_false, Prod.mk.injEq] at m
  rcases m with ⟨_, rfl⟩ | ⟨_, rfl⟩ | ⟨_, rfl⟩ | ⟨_, rfl⟩ | ⟨_, rfl⟩ | ⟨_, rfl⟩ | ⟨_, rfl⟩ <;> simp
theorem zip_rev {α β : Type} : ∀ {a : List α} {b : List β}, a.length = b.length → (a.zip b).reverse = a.reverse.zip b.reverse
  | [], [], _ => rfl
  | x :: a, y :: b, h => by
    have h' : a.length = b.length := by simpa using h
    rw [List.zip_cons_cons, List.reverse_cons, List.reverse_cons, List.reverse_cons, zip_rev h', List.zip_append (by simpa using h')]
    rfl
  | [], _ :: _, h => by simp at h
  | _ :: _, [], h => by simp at h
theorem HR.xd {K : PySem.W.Frag} {w : World} {H : Hp} {S : Sto} (h : HR K w H S) {p : Addr} {o : HO} (n : H p = none) : HR K w (upd H p o) S := fun a ob q => by
  have ne : a ≠ p := fun z => by subst z; rw [h.fresh n] at q; cases q
  exact (h a ob q).mono (ext_new n) (upd_ne ne)
theorem HR.keep {K : PySem.W.Frag} {w : World} {H : Hp} {S : Sto} (h : HR K w H S) {p : Addr} {o : HO} (n : H p = none) : HR K w (upd H p o) S := HR.xd h n
section
variable {defs : Str → Option DefT} {gl : Str → Option D} {k : Nat}
theorem XOk.tr {c : Cc} {W W' : WX} {X : Cx} (o : XOk defs gl k c W X) {pn : List (Addr × Obj)} {xe : Value → Shared → Prop} (tk : Takes (X.tr pn xe) W') (po : PassesOwn (model X.prog X.w) X.A X.env xe) : XOk defs gl k c W' (X.tr pn xe) :=
  { o with tk := tk, po := po }
theorem XOk.suite {c : Cc} {W : WX} {X : Cx} (o : XOk defs gl k c W X) (a : Addr) (pn : List (Addr × Obj)) : XOk defs gl k { c with calm := false } W0 (X.suite a pn) :=
  { o with room := ⟨⟨o.room.rm.dp, o.room.rm.un⟩, o.room.gd⟩, hand := fun z => Bool.noConfusion z, calm := fun z => Bool.noConfusion z, tk := takes0, po := PassesOwn.never }
end
section
variable {defs : Str → Option DefT} {gl : Str → Option D} {k : Nat}
theorem pip_ok {X : Cx} (op : Operator) : PIp X op (fun x y H Q => ∃ i j, x = .int i ∧ y = .int j ∧ ((op = .Add ∧ Q (.int (i + j)) H) ∨ (op = .Sub ∧ Q (.int (i - j)) H))) := by
  intro pins s σ H x y v u Q I r1 r2 h
  obtain ⟨i, j, rfl, rfl, ⟨rfl, q⟩ | ⟨rfl, q⟩⟩ := h
  · exact ip_add pins s σ H _ _ v u Q I r1 r2 ⟨i, j, rfl, rfl, q⟩
  · exact ip_sub pins s σ H _ _ v u Q I r1 r2 ⟨i, j, rfl, rfl, q⟩
theorem relf_len {K : PySem.W.Frag} {w : World} {H : Hp} : ∀ {fs : List (Str × D)} {fv : List (Str × V)}, RelF K w H fs fv → fs.length = fv.length
  | [], fv, r => by simp only [RelF] at r; subst r; rfl
  | (g, d) :: fs, fv, r => by
    simp only [RelF] at r
    obtain ⟨u, us, rfl, r1, r2⟩ := r
    rw [List.length_cons, List.length_cons, relf_len r2]
theorem relf_put {K : PySem.W.Frag} {w : World} {H : Hp} {f : Str} {v : D} {u : V} (rv : RelD K w H v u) : ∀ {fs : List (Str × D)} {fv : List (Str × V)}, RelF K w H fs fv → RelF K w H (putFD f v fs) (putF f u fv)
  | [], fv, r => by simp only [RelF] at r; subst r; simp only [putFD, putF, RelF]; exact ⟨u, [], rfl, rv, rfl⟩
  | (g, d) :: fs, fv, r => by
    simp only [RelF] at r
    obtain ⟨x, us, rfl, r1, r2⟩ := r
    simp only [putFD, putF]
    split
    · simp only [RelF]; exact ⟨u, us, rfl, rv, r2⟩
    · simp only [RelF]; exact ⟨x, _, rfl, r1, relf_put rv r2⟩
theorem for_of {K : PySem.W.Frag} {w : World} {H1 : Hp} {S1 : Sto} {J : It} {ds : List D} {G : Sto → Prop} {g : Tg} {W : WX} {ex : EX} {fb : EndD → StD → Sto → Prop} {σd : StD} {σ : L2.St} {E : EndD} {De : Ends} (rs : RelSt K w H1 σd σ) (hr : HR K w H1 S1) (xk : ExK K w H1 S1 ex W) (wk : WalkD K w J ds G H1)
    (f : forL (fun d N σ S => wpG g d σ S fun σ' => fb { E with nx := N, ct := N, bk := E.nx } σ' S) G E.nx ds σd S1) (ek : EndK K w H1 S1 E De) :
    ∃ W' : Nat → Nat → L2.St → Hp → Prop, (∃ m, W' 0 m σ H1) ∧ ∀ i m σ H, W' i m σ H →
      (J.stop i H ∧ De.nx σ H) ∨ (J.go i H ∧ ∃ N : L2.St → Hp → Prop, (∀ σ' H', N σ' H' → ∃ m', m' < m ∧ W' (i + 1) m' σ' H') ∧ ∀ x H', J.yld i H x H' → gV K g x σ H' fun σ2 H2 => tDS K w W ex fb { De with nx := N, ct := N, bk := De.nx } σ2 H2) := by
  refine ⟨fun i m σ Hh => m = ds.length - i ∧ i ≤ ds.length ∧ ∃ σd S, HR K w Hh S ∧ Fm H1 S1 Hh S ∧ RelSt K w Hh σd σ ∧ forL (fun d N σ S => wpG g d σ S fun σ' => fb { E with nx := N, ct := N, bk := E.nx } σ' S) G E.nx (ds.drop i) σd S,
    ⟨ds.length, by simp, Nat.zero_le _, σd, S1, hr, Fm.refl _ _, rs, by simpa using f⟩, ?_⟩
  rintro i m σ Hh ⟨rfl, hi, σd, S, hh, fm, rs, fl⟩
  by_cases hlt : i < ds.length
  · rw [List.drop_eq_getElem_cons hlt] at fl
    unfold forL at fl
    obtain ⟨gS, ft⟩ := fl
    have exx : Ext H1 Hh := fm.ext hr
    refine .inr ⟨wk.goes i Hh S hlt exx hh gS, fun σ' H' => ∃ σd S, HR K w H' S ∧ Fm H1 S1 H' S ∧ RelSt K w H' σd σ' ∧ forL (fun d N σ S => wpG g d σ S fun σ' => fb { E with nx := N, ct := N, bk := E.nx } σ' S) G E.nx (ds.drop (i + 1)) σd S,
      fun σ' H' z => ⟨ds.length - (i + 1), by omega, rfl, hlt, z⟩, fun x H' y => ?_⟩
    obtain ⟨d, ed, rd, hH⟩ := wk.yields i Hh S x H' hlt exx hh gS y
    rw [List.getElem?_eq_getElem hlt] at ed
    cases ed
    have hh' : HR K w H' S := by
      rcases hH with rfl | ⟨T, xs, nT, rfl⟩
      · exact hh
      · exact hh.tup nT
    have fm2 : Fm Hh S H' S := by
      rcases hH with rfl | ⟨T, xs, nT, rfl⟩
      · exact Fm.refl _ _
      · exact Fm.tup hh nT
    have fm' : Fm H1 S1 H' S := fm.trans fm2
    refine gD_of (vs := []) hh' g _ x σd σ _ _ rd (rs.mono (fm2.ext hh)) ft fun σd2 σ2 h1 h2 _ => ?_
    refine ⟨σd2, S, _, h2, hh', xk.next fm', h1, ⟨fun σd3 S3 h3 σ3 H3 f3 r3 hr3 => ?_, fun d S3 h3 v H3 f3 r3 hr3 => ?_, fun σd3 S3 h3 σ3 H3 f3 r3 hr3 => ?_, fun σd3 S3 h3 σ3 H3 f3 r3 hr3 => ?_⟩⟩
    · exact ⟨σd3, S3, hr3, fm'.trans f3, r3, h3⟩
    · exact ek.rt d S3 h3 v H3 (fm'.trans f3) r3 hr3
    · exact ek.nx σd3 S3 h3 σ3 H3 (fm'.trans f3) r3 hr3
    · exact ⟨σd3, S3, hr3, fm'.trans f3, r3, h3⟩
  · have e : i = ds.length := by omega
    subst e
    rw [List.drop_length] at fl
    unfold forL at fl
    obtain ⟨gS, ft⟩ := fl
    exact .inl ⟨wk.stops Hh S (fm.ext hr) hh gS, ek.nx σd S ft σ Hh fm rs hh⟩
theorem pgs_starred {X : Cx} {e : Expr} {p : Pos} {es : List Expr} {t : TG} {u : TGs} (h1 : PG X e t) (h2 : PGs X es u) : PGs X (.Starred e p :: es) (gCons t u) := by
  refine ⟨fun pins s σ H vs us Q I r h => ?_⟩
  obtain ⟨v, vr, e1, h⟩ := h
  subst e1
  cases r with
  | cons r rr =>
    show wpAny _ _ (assignInOrder (assign e X.env :: (assignEach es X.env).map (·.2)) _) _ _ _
    refine assignInOrder_cons (thn (h1.run pins s σ H _ _ _ I r h) fun _ s1 ⟨σ1, H1, I1, q1⟩ => ?_)
    exact h2.run pins s1 σ1 H1 _ _ Q I1 rr q1
theorem sNames {c : Cc} {W : WX} {X : Cx} (o : XOk defs gl k c W X) : ∀ (is : List Nat) (es : List Expr), chkNames c is es = true → PGs X es (gVs X.K (is.map Tg.nm)) ∧ (assignEach es X.env).length = is.length ∧ (assignEach es X.env).findIdx? (·.1) = none
  | [], es, h => by
    simp only [chkNames] at h
    split at h
    · exact ⟨by simp only [List.map_nil, gVs]; exact pgs_nil, rfl, rfl⟩
    · cases h
  | a :: is, es, h => by
    simp only [chkNames] at h
    split at h
    · simp only [Bool.and_eq_true, decide_eq_true_eq] at h
      obtain ⟨⟨h1, h2⟩, h3⟩ := h
      obtain ⟨l1, l2⟩ := o.loc_of h2
      obtain ⟨p, q, r⟩ := sNames o is _ h3
      refine ⟨?_, ?_, ?_⟩
      · simp only [List.map_cons, gVs, gV]
        exact pgs_cons (pg_name (by rw [o.hN]; exact o.nd) (by rw [o.hN]; exact h1) l1 l2) p rfl
      · show (assignEach _ X.env).length + 1 = _
        rw [q, List.length_cons]
      · show List.findIdx? (·.1) ((false, _) :: assignEach _ X.env) = none
        rw [List.findIdx?_cons]
        simp [r]
    · cases h
theorem sStar {c : Cc} {W : WX} {X : Cx} (o : XOk defs gl k c W X) (i : Nat) (js : List Nat) : ∀ (is : List Nat) (es : List Expr), chkStar c i js is es = true → PGs X es (gVs X.K ((is ++ [i] ++ js).map Tg.nm)) ∧ (assignEach es X.env).length = (is ++ [i] ++ js).length ∧ (assignEach es X.env).findIdx? (·.1) = some is.length
  | [], es, h => by
    simp only [chkStar] at h
    split at h
    · simp only [Bool.and_eq_true, decide_eq_true_eq] at h
      obtain ⟨⟨h1, h2⟩, h3⟩ := h
      obtain ⟨l1, l2⟩ := o.loc_of h2
      obtain ⟨p, q, r⟩ := sNames o js _ h3
      refine ⟨?_, ?_, ?_⟩
      · simp only [List.nil_append, List.cons_append, List.map_cons, gVs, gV]
        exact pgs_starred (pg_name (by rw [o.hN]; exact o.nd) (by rw [o.hN]; exact h1) l1 l2) p
      · show (assignEach _ X.env).length + 1 = _
        rw [q]
        simp
      · show List.findIdx? (·.1) ((true, _) :: assignEach _ X.env) = some 0
        rw [List.findIdx?_cons]
        simp
    · cases h
  | a :: is, es, h => by
    simp only [chkStar] at h
    split at h
    · simp only [Bool.and_eq_true, decide_eq_true_eq] at h
      obtain ⟨⟨h1, h2⟩, h3⟩ := h
      obtain ⟨l1, l2⟩ := o.loc_of h2
      obtain ⟨p, q, r⟩ := sStar o i js is _ h3
      refine ⟨?_, ?_, ?_⟩
      · simp only [List.cons_append, List.map_cons, gVs, gV]
        exact pgs_cons (pg_name (by rw [o.hN]; exact o.nd) (by rw [o.hN]; exact h1) l1 l2) p rfl
      · show (assignEach _ X.env).length + 1 = _
        rw [q]
        simp
      · show List.findIdx? (·.1) ((false, _) :: assignEach _ X.env) = _
        rw [List.findIdx?_cons]
        simp [r]
    · cases h
mutual
theorem sS : ∀ (s : TS) {c : Cc} {W : WX} {ex : EX} {X : Cx} {st : Stmt}, (X.env.scope.kind = .function ∧ X.stack = X.env :: X.outer ∧ X.env.frame = some X.env.locals) → XOk defs gl k c W X → chkS c s st = true → PS X st (tDS X.K X.w W ex (wpS (cw defs gl k) ex s))
  | .ex t, c, W, ex, X, st, hf, o, h => by
    simp only [chkS] at h
    split at h
    · simp only [Bool.and_eq_true] at h
      refine (ps_expr (sE t (ex := ex) o h.1) (nolc_swap (by simpa using h.2))).weak fun De σ H q => ?_
      obtain ⟨σd, S, E, rs, hr, xk, f, ek⟩ := q
      simp only [wpS] at f
      exact ⟨σd, S, _, rs, hr, xk, f, fun d S1 hd v H1 f1 rv h1 => ek.nx _ S1 hd _ H1 f1 (rs.mono (f1.ext hr)) h1⟩
    · cases h
  | .asg g t, c, W, ex, X, st, hf, o, h => by
    simp only [chkS] at h
    split at h
    · simp only [Bool.and_eq_true] at h
      obtain ⟨⟨h1, h2⟩, h3⟩ := h
      rename_i tg e pos
      have main : ∀ {De : Ends} {σ : L2.St} {H : Hp}, tDS X.K X.w W ex (wpS (cw defs gl k) ex (.asg g t)) De σ H → tAsg (tD X.K X.w W ex (wpE (cw defs gl k) ex t)) (gV X.K g) De σ H := fun {De σ H} q => by
        obtain ⟨σd, S, E, rs, hr, xk, f, ek⟩ := q
        simp only [wpS] at f
        exact ⟨σd, S, _, rs, hr, xk, f, fun d S1 hd v H1 f1 rv h1 => gD_of (vs := []) h1 g d v σd σ _ _ rv (rs.mono (f1.ext hr)) hd fun σd2 σ2 h4 h5 _ => ek.nx σd2 S1 h4 σ2 H1 f1 h5 h1⟩
      have PEt := sE t (ex := ex) o h2
      have PGt := sG o g tg h1
      split at h3
      · rename_i x q
        cases g with
        | tup gs => simp only [chkG] at h1; cases h1
        | nm i =>
          simp only [chkG, Bool.and_eq_true, decide_eq_true_eq] at h1
          obtain ⟨l1, l2⟩ := o.loc_of h1.2
          simp only [gV] at main
          simp only [Bool.or_eq_true, Bool.and_eq_true, decide_eq_true_eq, Bool.not_eq_true'] at h3
          rcases h3 with (h3 | h3) | ⟨h3, h4⟩
          · exact (ps_set (by rw [o.hN]; exact o.nd) (by rw [o.hN]; exact h1.1) l1 PEt (nolc_swap h3) l2).weak fun De σ H q => main q
          · exact (ps_set (by rw [o.hN]; exact o.nd) (by rw [o.hN]; exact h1.1) l1 PEt (swap_cell (by rw [o.hsc]; exact h3)) l2).weak fun De σ H q => main q
          · split at h4
            · simp only [Bool.and_eq_true, Bool.not_eq_true'] at h4
              exact (asg_lc (ex := ex) hf.1 o h1.1 h3 h2 h4.1 h4.2).weak fun De σ H q => main q
            · cases h4
      · simp only [Bool.and_eq_true] at h3
        exact (ps_asg PEt PGt (nolc_sole (by simpa using h3.1)) (swap_none h3.2) (by rw [chkG_star h1]; rfl)).weak fun De σ H q => main q
      · cases h3
    · cases h
  | .par i j t u, c, W, ex, X, st, hf, o, h => by
    simp only [chkS] at h
    split at h
    · simp only [Bool.and_eq_true, decide_eq_true_eq, Bool.not_eq_true'] at h
      obtain ⟨⟨⟨⟨⟨⟨⟨⟨⟨⟨h1, h2⟩, h3⟩, h4⟩, h5⟩, h6⟩, h7⟩, h8⟩, h9⟩, h10⟩, hca⟩ := h
      have hp := chkEs_plain h7
      simp only [List.all_cons, List.all_nil, Bool.and_eq_true, Bool.and_true] at hp
      rename_i x q y q2 _ _ a b _ _ _
      have hl5 : X.env.scope.names.lookup x = some .local := by rw [o.hsc]; exact h5
      have hl6 : X.env.scope.names.lookup y = some .local := by rw [o.hsc]; exact h6
      refine (ps_par (o.calm hca) (by rw [o.hN]; exact o.nd) (by rw [o.hN]; exact h1) (by rw [o.hN]; exact h2) h3 hl5 hl6 (sEs [t, u] (ex := ex) o h7) (swap_par hf.1 hl5 hl6 h4 h8 hp.1 hp.2 h9 h10)).weak fun De σ H q => ?_
      obtain ⟨σd, S, E, rs, hr, xk, f, ek⟩ := q
      simp only [wpS] at f
      refine ⟨σd, S, fun ds S1 => match ds with | [x, y] => E.nx ((σd.set i (some x)).set j (some y)) S1 | _ => False, rs, hr, xk, ?_, fun ds S1 hd vs H1 f1 rv h1 => ?_⟩
      · simp only [wpEs]
        exact f
      · dsimp only at hd
        split at hd
        · obtain ⟨v, u, rfl, r1, r2⟩ := relds_two rv
          exact ⟨v, u, rfl, ek.nx _ S1 hd _ H1 f1 (((rs.mono (f1.ext hr)).set r1).set r2) h1⟩
        · exact hd.elim
    · cases h
  | .par3 i j l t u v, c, W, ex, X, st, hf, o, h => by
    simp only [chkS] at h
    split at h
    · simp only [Bool.and_eq_true, decide_eq_true_eq, Bool.not_eq_true'] at h
      obtain ⟨⟨⟨⟨⟨⟨⟨⟨⟨⟨⟨⟨⟨⟨⟨⟨⟨h1, h2⟩, h3⟩, n1⟩, n2⟩, n3⟩, m1⟩, m2⟩, m3⟩, l1⟩, l2⟩, l3⟩, h7⟩, h8⟩, h8'⟩, h9⟩, h10⟩, hca⟩ := h
      have hp := chkEs_plain h7
      simp only [List.all_cons, List.all_nil, Bool.and_eq_true, Bool.and_true] at hp
      rename_i x q y q2 z q3 _ _ a b d _ _ _
      have hl5 : X.env.scope.names.lookup x = some .local := by rw [o.hsc]; exact l1
      have hl6 : X.env.scope.names.lookup y = some .local := by rw [o.hsc]; exact l2
      have hl7 : X.env.scope.names.lookup z = some .local := by rw [o.hsc]; exact l3
      refine (ps_par3 (o.calm hca) (by rw [o.hN]; exact o.nd) (by rw [o.hN]; exact h1) (by rw [o.hN]; exact h2) (by rw [o.hN]; exact h3) n1 n2 n3 hl5 hl6 hl7 (sEs [t, u, v] (ex := ex) o h7) (swap_par3 hf.1 hl5 hl6 hl7 m1 m2 m3 h8 h8' hp.1 hp.2.1 hp.2.2 h9 h10)).weak fun De σ H q => ?_
      obtain ⟨σd, S, E, rs, hr, xk, f, ek⟩ := q
      simp only [wpS] at f
      refine ⟨σd, S, fun ds S1 => match ds with | [x, y, z] => E.nx (((σd.set i (some x)).set j (some y)).set l (some z)) S1 | _ => False, rs, hr, xk, ?_, fun ds S1 hd vs H1 f1 rv h1 => ?_⟩
      · simp only [wpEs]
        exact f
      · dsimp only at hd
        split at hd
        · simp only [RelDs] at rv
          obtain ⟨v1, _, rfl, r1, v2, _, rfl, r2, v3, _, rfl, r3, rfl⟩ := rv
          exact ⟨v1, v2, v3, rfl, ek.nx _ S1 hd _ H1 f1 ((((rs.mono (f1.ext hr)).set r1).set r2).set r3) h1⟩
        · exact hd.elim
    · cases h
  | .star is i js t, c, W, ex, X, st, hf, o, h => by
    simp only [chkS] at h
    split at h
    · rename_i es _ _ e _
      simp only [Bool.and_eq_true] at h
      obtain ⟨⟨⟨⟨h1, h2⟩, h3⟩, h4⟩, hca⟩ := h
      obtain ⟨p, hn, hst⟩ := sStar o i js is es h1
      refine (ps_asg (sE t (ex := ex) o h2) (pg_star (o.calm hca) p hn hst) (nolc_sole (by simpa using h3)) (swap_none h4) rfl).weak fun De σ H q => ?_
      obtain ⟨σd, S, E, rs, hr, xk, f, ek⟩ := q
      simp only [wpS] at f
      refine ⟨σd, S, _, rs, hr, xk, f, fun d S1 hd v H1 f1 rv h1 => ?_⟩
      split at hd
      · rename_i ds e1
        obtain ⟨a, xs, rfl, q1, q2, _⟩ := items_of h1 e1 rv
        have hlen := q1.length
        refine ⟨a, xs, rfl, q2.symm, by simp only [List.length_append, List.length_cons, List.length_nil]; omega, by simp only [List.length_append, List.length_cons, List.length_nil]; omega, by omega, fun p' np => ?_⟩
        have en : xs.length + 1 - (is.length + 1 + js.length) = ds.length - is.length - js.length := by omega
        have em : (xs.drop is.length).drop (ds.length - is.length - js.length) = xs.drop (ds.length - js.length) := by rw [List.drop_drop]; congr 1; omega
        rw [show (is ++ [i] ++ js).length = is.length + 1 + js.length by simp only [List.length_append, List.length_cons, List.length_nil], en, em]
        have rmid : RelDs X.K X.w H1 ((ds.drop is.length).take (ds.length - is.length - js.length)) ((xs.drop is.length).take (ds.length - is.length - js.length)) := (q1.drop _).take _
        have hr2 : HR X.K X.w (upd H1 p' (.lst ((xs.drop is.length).take (ds.length - is.length - js.length)))) (updS S1 p' (.lst ((ds.drop is.length).take (ds.length - is.length - js.length)))) := by
          refine HR.addS (h1.free np) ⟨_, upd_same, RelDs.mono (ext_new np) _ _ rmid⟩
        have f2 : Fm H1 S1 (upd H1 p' (.lst ((xs.drop is.length).take (ds.length - is.length - js.length)))) (updS S1 p' (.lst ((ds.drop is.length).take (ds.length - is.length - js.length)))) := by
          intro b ob eb qb
          have ne : b ≠ p' := ne_of_none eb np
          exact ⟨by rw [upd_ne ne]; exact eb, by rw [updS_ne ne]; exact qb⟩
        have rall : RelDs X.K X.w (upd H1 p' (.lst ((xs.drop is.length).take (ds.length - is.length - js.length)))) (ds.take is.length ++ [.ref p'] ++ ds.drop (ds.length - js.length)) (xs.take is.length ++ [.ref p'] ++ xs.drop (ds.length - js.length)) :=
          ((RelDs.mono (ext_new np) _ _ (q1.take _)).append (by simp only [RelDs, RelD]; exact ⟨_, [], rfl, rfl, rfl⟩)).append (RelDs.mono (ext_new np) _ _ (q1.drop _))
        refine gDs_of (vs := []) hr2 _ _ _ σd σ _ _ rall (rs.mono ((f1.trans f2).ext hr)) (by simp; omega) (hd.2.2 p' (h1.fresh np)) fun σd2 σ2 h4 h5 _ => ek.nx σd2 _ h4 σ2 _ (f1.trans f2) h5 hr2
      · exact hd.elim
    · cases h
  | .set a i t, c, W, ex, X, st, hf, o, h => by
    simp only [chkS] at h
    split at h
    · simp only [Bool.and_eq_true] at h
      obtain ⟨⟨⟨⟨h1, h2⟩, h3⟩, h4⟩, h5⟩ := h
      refine (ps_asg (sE t (ex := ex) o h4) (pg_sub (sE a (ex := ex) o h1) (sE i (ex := ex) o h2) (set_ok o.hu1) (sub_assign h3)) (nolc_sole (by simpa using h5)) rfl rfl).weak fun De σ H q => ?_
      obtain ⟨σd, S, E, rs, hr, xk, f, ek⟩ := q
      simp only [wpS] at f
      refine ⟨σd, S, _, rs, hr, xk, f, fun v S1 hv vv H1 f1 rv h1 => ⟨σd, S1, _, rs.mono (f1.ext hr), h1, xk.next f1, hv, fun oo S2 ho vo H2 f2 ro h2 => ⟨σd, S2, _, rs.mono ((f1.trans f2).ext hr), h2, xk.next (f1.trans f2), ho, fun kk S3 hk vk H3 f3 rk h3 => ?_⟩⟩⟩
      exact ⟨oo, kk, v, S3, _, RelD.mono (f3.ext h2) _ _ ro, rk, RelD.mono ((f2.trans f3).ext h1) _ _ rv, h3, hk, fun S4 h4 H4 f4 h4' => ek.nx _ S4 h4 _ H4 (((f1.trans f2).trans f3).trans f4) (rs.mono ((((f1.trans f2).trans f3).trans f4).ext hr)) h4'⟩
    · cases h
  | .setf a fl t, c, W, ex, X, st, hf, o, h => by
    simp only [chkS] at h
    split at h
    · simp only [Bool.and_eq_true, decide_eq_true_eq] at h
      obtain ⟨⟨⟨⟨h1, h2⟩, h3⟩, h4⟩, h5⟩ := h
      have h1' := h1.symm
      subst h1'
      refine (ps_fld (sE a (ex := ex) o h2) (sE t (ex := ex) o h3) (nolc_swap (by simpa using h4))).weak fun De σ H q => ?_
      obtain ⟨σd, S, E, rs, hr, xk, f, ek⟩ := q
      simp only [wpS] at f
      refine ⟨σd, S, _, rs, hr, xk, f, fun v S1 hv vv H1 f1 rv h1 => ⟨σd, S1, _, rs.mono (f1.ext hr), h1, xk.next f1, hv, fun oo S2 ho vo H2 f2 ro h2 => ?_⟩⟩
      unfold wSetf at ho
      split at ho
      · rename_i p
        split at ho
        · rename_i cn fs es
          simp only [RelD] at ro
          obtain ⟨C, dx, fv, cf, e1, r1⟩ := h2 p _ es
          refine ⟨p, C, dx, fv, ro, e1, cf.cl, cf.na _ (by simpa using h5), by rw [← relf_len r1]; omega, ?_⟩
          refine ek.nx _ _ ho.2 _ _ ((f1.trans f2).trans (Fm.mut es)) ?_ (h2.mut es ⟨C, dx, _, cf, upd_same, ?_⟩)
          · exact rs.mono (((f1.trans f2).trans (Fm.mut (o := .ins C dx (putF fl vv fv)) (ob := .ins cn (putFD fl v fs)) es)).ext hr)
          · exact relf_put (RelD.mono (ext_mut h2 es) _ _ (RelD.mono (f2.ext h1) _ _ rv)) (RelF.mono (ext_mut h2 es) _ _ r1)
        · exact ho.elim
      · exact ho.elim
    · cases h
  | .aug op i t, c, W, ex, X, st, hf, o, h => by
    simp only [chkS] at h
    split at h
    · simp only [Bool.and_eq_true, decide_eq_true_eq] at h
      obtain ⟨⟨⟨rfl, h1⟩, h2⟩, h3⟩ := h
      obtain ⟨l1, l2⟩ := o.loc_of h2
      refine (ps_aug (by rw [o.hN]; exact o.nd) (by rw [o.hN]; exact h1) l1 (sE t (ex := ex) o h3) (pip_ok op) l2).weak fun De σ H q => ?_
      obtain ⟨σd, S, E, rs, hr, xk, f, ek⟩ := q
      simp only [wpS] at f
      split at f
      · rename_i x ed
        obtain ⟨v, e1, e2⟩ := rs.get ed
        simp only [RelD] at e2
        subst e2
        refine ⟨_, e1, σd, S, _, rs, hr, xk, f, fun d S1 hd u H1 f1 ru h1 => ?_⟩
        split at hd
        · simp only [RelD] at ru
          exact ⟨_, _, rfl, ru, .inl ⟨rfl, ek.nx _ S1 hd _ H1 f1 ((rs.mono (f1.ext hr)).set (by simp only [RelD])) h1⟩⟩
        · simp only [RelD] at ru
          exact ⟨_, _, rfl, ru, .inr ⟨rfl, ek.nx _ S1 hd _ H1 f1 ((rs.mono (f1.ext hr)).set (by simp only [RelD])) h1⟩⟩
        · exact hd.elim
      · exact f.elim
    · cases h
  | .ife t a b, c, W, ex, X, st, hf, o, h => by
    simp only [chkS] at h
    split at h
    · simp only [Bool.and_eq_true] at h
      obtain ⟨⟨h1, h2⟩, h3⟩ := h
      refine (ps_if (sT t (ex := ex) o h1) (sSs a (ex := ex) hf o h2) (sSs b (ex := ex) hf o h3)).weak fun De σ H q => ?_
      obtain ⟨σd, S, E, rs, hr, xk, f, ek⟩ := q
      simp only [wpS] at f
      refine ⟨σd, S, _, rs, hr, xk, f, fun bb S1 hb H1 f1 h1' => ?_⟩
      cases bb with
      | true =>
        rw [if_pos rfl] at hb ⊢
        exact ⟨σd, S1, E, rs.mono (f1.ext hr), h1', xk.next f1, hb, ek.next f1⟩
      | false =>
        rw [if_neg Bool.false_ne_true] at hb ⊢
        exact ⟨σd, S1, E, rs.mono (f1.ext hr), h1', xk.next f1, hb, ek.next f1⟩
    · cases h
  | .whil t b, c, W, ex, X, st, hf, o, h => by
    simp only [chkS] at h
    split at h
    · simp only [Bool.and_eq_true] at h
      obtain ⟨h1, h2⟩ := h
      refine (ps_while o.po (sT t (ex := ex) o h1) (sSs b (ex := ex) hf o h2)).weak fun De σ H q => ?_
      obtain ⟨σd, S, E, rs, hr, xk, f, ek⟩ := q
      simp only [wpS] at f
      obtain ⟨Wd, ⟨m0, w0⟩, turn⟩ := f
      refine ⟨fun m σ Hh => ∃ σd Sh, HR X.K X.w Hh Sh ∧ Fm H S Hh Sh ∧ RelSt X.K X.w Hh σd σ ∧ Wd m σd Sh, ⟨m0, σd, S, hr, Fm.refl _ _, rs, w0⟩, ?_⟩
      rintro m σ Hh ⟨σd, Sh, hh, fm, rs, wm⟩
      refine ⟨σd, Sh, _, rs, hh, xk.next fm, turn m σd Sh wm, fun bb S1 hb H1 f1 h1' => ?_⟩
      have fm1 := fm.trans f1
      have rs1 := rs.mono (f1.ext hh)
      cases bb with
      | true =>
        rw [if_pos rfl] at hb
        dsimp only
        rw [if_pos rfl]
        refine ⟨fun σ' H' => ∃ m', m' < m ∧ ∃ σd Sh, HR X.K X.w H' Sh ∧ Fm H S H' Sh ∧ RelSt X.K X.w H' σd σ' ∧ Wd m' σd Sh, fun σ' H' z => z, σd, S1, _, rs1, h1', xk.next fm1, hb,
          ⟨fun σd3 S3 h3 σ3 H3 f3 r3 hr3 => ?_, fun d S3 h3 v H3 f3 r3 hr3 => ek.rt d S3 h3 v H3 (fm1.trans f3) r3 hr3, fun σd3 S3 h3 σ3 H3 f3 r3 hr3 => ek.nx σd3 S3 h3 σ3 H3 (fm1.trans f3) r3 hr3, fun σd3 S3 h3 σ3 H3 f3 r3 hr3 => ?_⟩⟩
        · obtain ⟨m', hm, hw⟩ := h3
          exact ⟨m', hm, σd3, S3, hr3, fm1.trans f3, r3, hw⟩
        · obtain ⟨m', hm, hw⟩ := h3
          exact ⟨m', hm, σd3, S3, hr3, fm1.trans f3, r3, hw⟩
      | false =>
        rw [if_neg Bool.false_ne_true] at hb
        dsimp only
        rw [if_neg Bool.false_ne_true]
        exact ek.nx σd S1 hb σ H1 fm1 rs1 h1'
    · cases h
  | .fr g it b, c, W, ex, X, st, hf, o, h => by
    simp only [chkS] at h
    split at h
    · simp only [Bool.and_eq_true] at h
      obtain ⟨⟨⟨⟨h1, h2⟩, h3⟩, h4⟩, hca⟩ := h
      refine (ps_for o.po (o.calm hca) (sI it (ex := ex) o h1) (sG o g _ h2) (sSs b (ex := ex) hf o h3) (plain_fold h4)).weak fun De σ H q => ?_
      obtain ⟨σd, S, E, rs, hr, xk, f, ek⟩ := q
      simp only [wpS] at f
      exact ⟨σd, S, _, rs, hr, xk, f, fun ds G S1 hd J H1 f1 h1' wk => for_of (rs.mono (f1.ext hr)) h1' (xk.next f1) wk hd (ek.next f1)⟩
    · cases h
  | .ret t, c, W, ex, X, st, hf, o, h => by
    simp only [chkS] at h
    split at h
    · refine (ps_ret (sE t (ex := ex) o h)).weak fun De σ H q => ?_
      obtain ⟨σd, S, E, rs, hr, xk, f, ek⟩ := q
      simp only [wpS] at f
      exact ⟨σd, S, _, rs, hr, xk, f, fun d S1 hd v H1 f1 rv h1 => ek.rt d S1 hd v H1 f1 rv h1⟩
    · cases h
  | .retN, c, W, ex, X, st, hf, o, h => by
    simp only [chkS] at h
    split at h
    · refine ps_retN.weak fun De σ H q => ?_
      obtain ⟨σd, S, E, rs, hr, xk, f, ek⟩ := q
      simp only [wpS] at f
      exact ek.rt _ S f _ H (Fm.refl _ _) (by simp only [RelD]) hr
    · cases h
  | .pass, c, W, ex, X, st, hf, o, h => by
    simp only [chkS] at h
    split at h
    · refine ps_pass.weak fun De σ H q => ?_
      obtain ⟨σd, S, E, rs, hr, xk, f, ek⟩ := q
      simp only [wpS] at f
      exact ek.nx _ S f _ H (Fm.refl _ _) rs hr
    · cases h
  | .brk, c, W, ex, X, st, hf, o, h => by
    simp only [chkS] at h
    split at h
    · refine ps_break.weak fun De σ H q => ?_
      obtain ⟨σd, S, E, rs, hr, xk, f, ek⟩ := q
      simp only [wpS] at f
      exact ek.bk _ S f _ H (Fm.refl _ _) rs hr
    · cases h
  | .cont, c, W, ex, X, st, hf, o, h => by
    simp only [chkS] at h
    split at h
    · refine ps_continue.weak fun De σ H q => ?_
      obtain ⟨σd, S, E, rs, hr, xk, f, ek⟩ := q
      simp only [wpS] at f
      exact ek.ct _ S f _ H (Fm.refl _ _) rs hr
    · cases h
  | .never, c, W, ex, X, st, hf, o, h => ps_never.weak fun De σ H q => by
      obtain ⟨σd, S, E, rs, hr, xk, f, ek⟩ := q
      simp only [wpS] at f
  | .rais n ts, c, W, ex, X, st, hf, o, h => by
    simp only [chkS] at h
    split at h
    · simp only [Bool.and_eq_true, decide_eq_true_eq, Bool.not_eq_true'] at h
      obtain ⟨⟨⟨⟨⟨rfl, h1⟩, h2⟩, h3⟩, h4⟩, hca⟩ := h
      obtain ⟨g1, g2, g3⟩ := o.gl_of h1
      obtain ⟨ns, C, fI, fd, e1, RF⟩ := o.xr _ h4
      have hp := chkEs_plain h2
      have PAs := sEs ts (ex := ex) o h2
      rename_i es _ _
      cases es with
      | nil => simp at h3
      | cons e0 es =>
        rw [List.all_cons, Bool.and_eq_true] at hp
        refine (ps_raisD RF (o.calm hca) o.tk ((o.rm hca).rm.mono (by omega)) g1 g2 PAs (plain_star hp.1) (star_all hp.2)).weak fun De σ H q => ?_
        obtain ⟨σd, S, E, rs, hr, xk, f, ek⟩ := q
        simp only [wpS, e1] at f
        refine ⟨σd, S, _, rs, hr, xk, f, fun ds S1 hd vs H1 f1 rv h1' => ?_⟩
        have hl := rv.length
        have hnl : ns.length ≤ 2 := xcl_len e1
        refine rInner_of (by rw [← hl]; exact hd.1) (by rw [← hl, hd.1]; omega) fun dx nd => ?_
        have rv' := RelDs.mono (ext_new (o := .xd (ns.zip vs).reverse) nd) _ _ rv
        refine xk _ _ S1 hd.2 σ _ _ _ (f1.trans (Fm.tup h1' nd)) (rs.mono ((f1.trans (Fm.tup (o := .xd (ns.zip vs).reverse) h1' nd)).ext hr)) ⟨C, dx, vs.reverse, rfl, RF.cls, rfl, ?_, rv'.reverse⟩ (HR.xd h1' nd)
        rw [upd_same]
        congr 2
        exact zip_rev (by rw [← hl]; exact hd.1.symm)
    · cases h
  | .tryx b m i hd, c, W, ex, X, st, hf, o, h => by
    simp only [chkS] at h
    split at h
    · simp only [Bool.and_eq_true, decide_eq_true_eq] at h
      obtain ⟨⟨⟨⟨⟨⟨⟨⟨h1, h2⟩, h3⟩, h4⟩, h5⟩, h6⟩, h7⟩, h8⟩, hca⟩ := h
      subst h1
      obtain ⟨g1, g2, g3⟩ := o.gl_of h2
      obtain ⟨M, m1, m2⟩ := o.xs _ h8
      rename_i body x _ nm b0 suite _ _
      have hln : X.env.kindOf nm = some .local := by show X.env.scope.names.lookup nm = _; rw [o.hsc]; exact h4
      refine (ps_tryK (i := i) (c := .ref M) (Wout := W) (tb := fun W' D σ H => ∃ ex', tDS X.K X.w W' ex' (wpSs (cw defs gl k) ex' b) D σ H) (ts := fun a oe => tDS X.K X.w W0 ex0 (wpSs (cw defs gl k) ex0 hd)) hf.2.1 hf.2.2 (by rw [o.hN]; exact o.nd) (by rw [o.hN]; exact h3) hln ⟨g1, g2, .inl m1⟩ o.tk
        (fun W' pn xe tk' po' => ⟨fun pins s σ H D I ⟨ex', q⟩ => (sSs b (c := c) (ex := ex') (X := X.tr pn xe) hf (o.tr tk' po') h5).run pins s σ H D I q⟩) (fun a oe pn => sSs hd (c := { c with calm := false }) (X := X.suite a pn) hf (o.suite a pn) h6)).weak fun De σ H q => ?_
      obtain ⟨σd, S, E, rs, hr, xk, f, ek⟩ := q
      simp only [wpS] at f
      refine ⟨_, σd, S, E, rs, hr, fun x σd' S' hx σ' H' cls d fm rs' rx hr' => ?_, f, ek⟩
      obtain ⟨C, da, vs, rfl, xc, rfl, q1, q2⟩ := rx
      refine ⟨_, (xc.is _ (by simpa using h7) M m2).2, fun e => ?_, fun e => ?_⟩
      · intro a oe na hz hfv
        have e := of_decide_eq_true e
        rw [if_pos e] at hx
        have fm2 : Fm H' S' (upd H' a (kept oe)) S' := Fm.tup hr' na
        have ext2 := ext_new (o := kept oe) na
        have fm3 := fm.trans fm2
        refine ⟨_, S', _, (rs'.mono ext2).set ?_, HR.keep hr' na, exk0, hx, ⟨fun σd2 S2 h2 σ2 H2 f2 r2 hr2 => ek.nx _ S2 h2 _ H2 (fm3.trans f2) r2.unset hr2, fun d S2 h2 v H2 f2 r2 hr2 => ek.rt d S2 h2 v H2 (fm3.trans f2) r2 hr2, fun σd2 S2 h2 σ2 H2 f2 r2 hr2 => ek.bk _ S2 h2 _ H2 (fm3.trans f2) r2.unset hr2, fun σd2 S2 h2 σ2 H2 f2 r2 hr2 => ek.ct _ S2 h2 _ H2 (fm3.trans f2) r2.unset hr2⟩⟩
        simp only [RelD]
        exact ⟨a, oe, C, da, vs, rfl, xc, upd_same, hz.1, hz.2, hfv, ext2.xd _ _ q1, RelDs.mono ext2 _ _ q2⟩
      · have e := of_decide_eq_false e
        rw [if_neg e] at hx
        exact xk x σd' S' hx σ' H' _ _ fm rs' ⟨C, da, vs, rfl, xc, rfl, q1, q2⟩ hr'
    · cases h
theorem sSs : ∀ (s : List TS) {c : Cc} {W : WX} {ex : EX} {X : Cx} {st : List Stmt}, (X.env.scope.kind = .function ∧ X.stack = X.env :: X.outer ∧ X.env.frame = some X.env.locals) → XOk defs gl k c W X → chkSs c s st = true → PSs X st (tDS X.K X.w W ex (wpSs (cw defs gl k) ex s))
  | [], c, W, ex, X, st, hf, o, h => by
    simp only [chkSs] at h
    split at h
    · refine pss_nil.weak fun De σ H q => ?_
      obtain ⟨σd, S, E, rs, hr, xk, f, ek⟩ := q
      simp only [wpSs] at f
      exact ek.nx _ S f _ H (Fm.refl _ _) rs hr
    · cases h
  | s :: ss, c, W, ex, X, st, hf, o, h => by
    simp only [chkSs] at h
    split at h
    · cases h
    · simp only [Bool.and_eq_true] at h
      refine (pss_cons (sS s (ex := ex) hf o h.1) (sSs ss (ex := ex) hf o h.2)).weak fun De σ H q => ?_
      obtain ⟨σd, S, E, rs, hr, xk, f, ek⟩ := q
      simp only [wpSs] at f
      exact ⟨σd, S, _, rs, hr, xk, f, ⟨fun σd1 S1 h1 σ1 H1 f1 r1 hr1 => ⟨σd1, S1, E, r1, hr1, xk.next f1, h1, ek.next f1⟩, ek.rt, ek.bk, ek.ct⟩⟩
end
end
end Z

set_option Elab.async false
set_option linter.all false
set_option maxRecDepth 100000
set_option maxHeartbeats 4000000
namespace Z
open PySem PySem.Spec PyProof.Rows L2
section
variable {P : Program} {w : World} {K : PySem.W.Frag} {mg : Str → Option Value} {base : Heap} {defs : Str → Option DefT} {gl : Str → Option D}
structure DFact (K : PySem.W.Frag) (w : World) (mg : Str → Option Value) (dfs xs xr hot : List Str) (ms : List (Str × Str × Str)) (mks : List (Str × Str × Nat)) (f : Str) (d : DefT) (fa : Addr) (fd : FuncData) (N ps : List Str) (st : Stmt) : Prop where
  mgf : dfs.contains f = true → mg f = some (.ref fa)
  fn : ∃ nm dvs kws, FunD K nm f (defArgs st) (defBody st) (defScope st) dvs kws fa fd
  fnH : hot.contains f = true → Fun K f f st fa fd
  bd : kwT f = none → Binds K fd ps []
  kb : ∀ n ks, kwT f = some (n, ks) → KBn K fd ps n ks (fun us ws => us ++ ws) (fun vs zs => vs ++ zs)
  np : ps.length = d.np
  ns : N.length = d.ns
  sc : FnScope N ps (defScope st)
  ck : chkSs ⟨N, defScope st, fun _ => true, dfs, xs, xr, hot, ms, mks, true⟩ d.body (defBody st) = true
  ckH : hot.contains f = true → chkSs ⟨N, defScope st, fun _ => true, dfs, xs, xr, hot, ms, mks, false⟩ d.body (defBody st) = true
  msf : ∀ cn m, ms.contains (f, cn, m) = true → ∃ C, ClsF K cn C ∧ Meth K C m fa
  mkf : ∀ cn n, mks.contains (f, cn, n) = true → ∃ C dz dvs, ClsF K cn C ∧ mg cn = some (.ref C) ∧ Mk K C fa ∧ Binds K fd ps dz ∧ Vals dvs dz ∧ ∀ H, RelDs K w H (padT f n) dvs
  mkk : ∀ n ks, mkT f = some (n, ks) → KBn K fd ps (n + 1) ks (fun us ws => us ++ ws) (fun vs zs => vs ++ zs)
structure GFact (K : PySem.W.Frag) (w : World) (mg : Str → Option Value) (dfs xs xr hot : List Str) (ms : List (Str × Str × Str)) (mks : List (Str × Str × Nat)) (defs : Str → Option DefT) (gl : Str → Option D) : Prop where
  df : ∀ f d, defs f = some d → ∃ fa fd N ps st, DFact K w mg dfs xs xr hot ms mks f d fa fd N ps st
  hdf : ∀ f, dfs.contains f = true → ∃ d, defs f = some d
  hms : ∀ q cn m, ms.contains (q, cn, m) = true → ∃ d, defs q = some d
  hmk : ∀ q cn n, mks.contains (q, cn, n) = true → ∃ d, defs q = some d
  nkw : ∀ g, (hot.contains g = true ∨ ∃ cn m, ms.contains (g, cn, m) = true) → kwT g = none
  hotd : ∀ g, hot.contains g = true → ∀ fa fd N ps st d, DFact K w mg dfs xs xr hot ms mks g d fa fd N ps st → mg g = some (.ref fa)
  gls : ∀ x d, gl x = some d → ∃ u v, mg x = some u ∧ RelV v u ∧ ∀ H, RelD K w H d v
  blt : ∀ n ∈ bnames, mg (Str.ofString n) = none
  xs : ∀ m, xs.contains m = true → ∃ M, mg m = some (.ref M) ∧ PySem.W.nsIn K mainGlobals m = some (some (.ref M))
  xr : ∀ n, xr.contains n = true → ∃ ns C fI fd, xcl n = some ns ∧ RFact K mg n ns C fI fd
theorem relst_start {H : Hp} {N : List Str} {ds : List D} {vs : List V} {ns : Nat} (hn : N.length = ns) (r : RelDs K w H ds vs) : RelSt K w H (startD ns ds) (L2.start N vs) := by
  unfold startD L2.start
  have hl := r.length
  refine ⟨by simp [hn, hl], fun i d e => ?_⟩
  by_cases hi : i < ds.length
  · rw [List.getElem?_append_left (by simpa using hi), List.getElem?_map] at e
    rw [List.getElem?_append_left (by rw [List.length_map, ← hl]; exact hi), List.getElem?_map]
    cases q : ds[i]? with
    | none => rw [q] at e; cases e
    | some d' =>
      rw [q] at e
      cases e
      obtain ⟨v, h1, h2⟩ := r.get q
      exact ⟨v, by rw [h1]; rfl, h2⟩
  · rw [List.getElem?_append_right (by simpa using hi)] at e
    rw [List.getElem?_replicate] at e
    split at e <;> cases e
theorem all_ok2 {dfs xs xr hot : List Str} {ms : List (Str × Str × Str)} {mks : List (Str × Str × Nat)} (G : GFact K w mg dfs xs xr hot ms mks defs gl) : ∀ (k : Nat) (f : Str) (d : DefT) (fa : Addr) (fd : FuncData) (N ps : List Str) (st : Stmt), defs f = some d → DFact K w mg dfs xs xr hot ms mks f d fa fd N ps st →
    FnG P w K mg base (L2.CX P w) (2 * k + 2) fa fd ps (spD K w d.np (sem defs gl k f)) ∧ (hot.contains f = true → FnQ P w K mg base (L2.CX P w) (2 * k + 2) fa fd ps (spD K w d.np (sem defs gl k f))) := by
  intro k
  induction k with
  | zero =>
    intro f d fa fd N ps st ed F
    exact ⟨⟨fun vs H Q E h => by obtain ⟨_, _, _, _, _, _, _, z, _⟩ := h; exact z.elim, fun A outer s H args us vs Q E _ _ _ _ h => by obtain ⟨_, _, _, _, _, _, _, z, _⟩ := h; exact z.elim⟩, fun _ => ⟨fun vs H Q E h => by obtain ⟨_, _, _, _, _, _, _, z, _⟩ := h; exact z.elim, fun A outer s H args us vs Q E _ _ _ _ h => by obtain ⟨_, _, _, _, _, _, _, z, _⟩ := h; exact z.elim⟩⟩
  | succ k ih =>
    intro f d fa fd N ps st ed F
    have hln : ∀ vs H Q E, spD K w d.np (sem defs gl (k + 1) f) vs H Q E → vs.length = ps.length := fun vs H Q E h => by
      obtain ⟨ds, _, _, _, hl, rd, _⟩ := h
      rw [← rd.length, hl, F.np]
    have calK : ∀ g dg n ks, dfs.contains g = true → kwT g = some (n, ks) → defs g = some dg → ∃ fa fd ps, mg g = some (.ref fa) ∧ PySem.W.keepIn K (.ref fa) = true ∧ KBn K fd ps n ks (fun us ws => us ++ ws) (fun vs zs => vs ++ zs) ∧ ps.length = dg.np ∧ FnG P w K mg base (L2.CX P w) (2 * k + 2) fa fd ps (spD K w dg.np (sem defs gl k g)) := fun g dg n ks hg hk eg => by
      obtain ⟨fa', fd', N', ps', st', F'⟩ := G.df g dg eg
      obtain ⟨_, _, _, fn'⟩ := F'.fn
      exact ⟨fa', fd', ps', F'.mgf hg, fn'.kp, F'.kb n ks hk, F'.np, (ih g dg fa' fd' N' ps' st' eg F').1⟩
    have cal : ∀ g dg, dfs.contains g = true → kwT g = none → defs g = some dg → ∃ fa fd ps, mg g = some (.ref fa) ∧ PySem.W.keepIn K (.ref fa) = true ∧ Binds K fd ps [] ∧ ps.length = dg.np ∧ FnG P w K mg base (L2.CX P w) (2 * k + 2) fa fd ps (spD K w dg.np (sem defs gl k g)) := fun g dg hg hkw eg => by
      obtain ⟨fa', fd', N', ps', st', F'⟩ := G.df g dg eg
      obtain ⟨_, _, _, fn'⟩ := F'.fn
      exact ⟨fa', fd', ps', F'.mgf hg, fn'.kp, F'.bd hkw, F'.np, (ih g dg fa' fd' N' ps' st' eg F').1⟩
    have calH : ∀ g dg, hot.contains g = true → defs g = some dg → ∃ fa fd ps, mg g = some (.ref fa) ∧ PySem.W.keepIn K (.ref fa) = true ∧ Binds K fd ps [] ∧ ps.length = dg.np ∧ FnQ P w K mg base (L2.CX P w) (2 * k + 2) fa fd ps (spD K w dg.np (sem defs gl k g)) := fun g dg hg eg => by
      obtain ⟨fa', fd', N', ps', st', F'⟩ := G.df g dg eg
      exact ⟨fa', fd', ps', G.hotd g hg fa' fd' N' ps' st' dg F', (F'.fnH hg).kp, F'.bd (G.nkw g (.inl hg)), F'.np, (ih g dg fa' fd' N' ps' st' eg F').2 hg⟩
    have cms : ∀ q cn m, ms.contains (q, cn, m) = true → ∃ d C f fd ps, defs q = some d ∧ ClsF K cn C ∧ Meth K C m f ∧ Binds K fd ps [] ∧ ps.length = d.np ∧ FnG P w K mg base (L2.CX P w) (2 * k + 2) f fd ps (spD K w d.np (sem defs gl k q)) := fun q cn m hm => by
      obtain ⟨d', eg⟩ := G.hms q cn m hm
      obtain ⟨fa', fd', N', ps', st', F'⟩ := G.df q d' eg
      obtain ⟨C, cf, mt⟩ := F'.msf cn m hm
      exact ⟨d', C, fa', fd', ps', eg, cf, mt, F'.bd (G.nkw q (.inr ⟨cn, m, hm⟩)), F'.np, (ih q d' fa' fd' N' ps' st' eg F').1⟩
    have cmk : ∀ q cn n, mks.contains (q, cn, n) = true → ∃ d C f fd ps dz dvs, defs q = some d ∧ ClsF K cn C ∧ mg cn = some (.ref C) ∧ Mk K C f ∧ Binds K fd ps dz ∧ Vals dvs dz ∧ (∀ H, RelDs K w H (padT q n) dvs) ∧ ps.length = d.np ∧ FnG P w K mg base (L2.CX P w) (2 * k + 2) f fd ps (spD K w d.np (sem defs gl k q)) := fun q cn n hm => by
      obtain ⟨d', eg⟩ := G.hmk q cn n hm
      obtain ⟨fa', fd', N', ps', st', F'⟩ := G.df q d' eg
      obtain ⟨C, dz, dvs, cf, m1, mk, bd, vd, rp⟩ := F'.mkf cn n hm
      exact ⟨d', C, fa', fd', ps', dz, dvs, eg, cf, m1, mk, bd, vd, rp, F'.np, (ih q d' fa' fd' N' ps' st' eg F').1⟩
    have cmkk : ∀ q cn n ks, mkT q = some (n, ks) → mks.contains (q, cn, n + ks.length) = true → ∃ d C f fd ps, defs q = some d ∧ ClsF K cn C ∧ mg cn = some (.ref C) ∧ Mk K C f ∧ KBn K fd ps (n + 1) ks (fun us ws => us ++ ws) (fun vs zs => vs ++ zs) ∧ ps.length = d.np ∧ FnG P w K mg base (L2.CX P w) (2 * k + 2) f fd ps (spD K w d.np (sem defs gl k q)) := fun q cn n ks hk hm => by
      obtain ⟨d', eg⟩ := G.hmk q cn _ hm
      obtain ⟨fa', fd', N', ps', st', F'⟩ := G.df q d' eg
      obtain ⟨C, dz, dvs, cf, m1, mk, _⟩ := F'.mkf cn _ hm
      exact ⟨d', C, fa', fd', ps', eg, cf, m1, mk, F'.mkk n ks hk, F'.np, (ih q d' fa' fd' N' ps' st' eg F').1⟩
    obtain ⟨nm0, dvs0, kws0, fn0⟩ := F.fn
    refine ⟨fng_of fn0 F.sc hln fun cdv A outer s H vs Q E hr h => ?_, fun hhot => fnq_of (F.fnH hhot) F.sc hln fun cdv A outer s H vs Q E p hr h => ?_⟩
    · obtain ⟨ds, S, R, RX, hl, rd, hh, f', kk, xx⟩ := h
      simp only [sem, ed] at f'
      have o : XOk defs gl k ⟨N, defScope st, fun _ => true, dfs, xs, xr, hot, ms, mks, true⟩ (fun cls d _ H => E cls d H) (cxOf (L2.CX P w) P w K mg base N f (defScope st) fa cdv A outer s H E) :=
        { cal := cal, calK := calK, calH := calH, xs := G.xs, xr := G.xr, ms := cms, mks := cmk, mkk := cmkk, gls := G.gls, blt := G.blt, hN := rfl, hsc := rfl, hfn := rfl, room := ⟨L2H.roomH_of hr.rm, hr.gd⟩, hand := fun _ => hr.rm.hd, calm := fun _ => rfl, tk := takes_of rfl rfl rfl rfl, po := passes_of rfl, nd := F.sc.nd, hdf := G.hdf }
      refine ⟨_, sSs d.body (ex := fun x _ S' => RX x S') ⟨F.sc.kind, rfl, rfl⟩ o F.ck, ?_⟩
      refine ⟨startD d.ns ds, S, _, relst_start F.ns rd, hh, fun x σd S' hx σ H' cls dd fm rs rx hr' => xx x S' hx cls dd H' fm rx hr', f'.2, ⟨fun σd S' hx σ H' fm rs hr' => ?_, fun d S' hx v H' fm rv hr' => kk d S' hx v H' fm rv hr', fun σd S' hx => hx.elim, fun σd S' hx => hx.elim⟩⟩
      exact kk _ S' hx _ H' fm (by simp only [RelD]) hr'
    · obtain ⟨ds, S, R, RX, hl, rd, hh, f', kk, xx⟩ := h
      simp only [sem, ed] at f'
      have o : XOk defs gl k ⟨N, defScope st, fun _ => true, dfs, xs, xr, hot, ms, mks, false⟩ (fun cls d _ H => E cls d H) (L2H.cxH (L2.CX P w) P w K mg base N f (defScope st) fa cdv A outer s H E p) :=
        { cal := cal, calK := calK, calH := calH, xs := G.xs, xr := G.xr, ms := cms, mks := cmk, mkk := cmkk, gls := G.gls, blt := G.blt, hN := rfl, hsc := rfl, hfn := rfl, room := hr, hand := fun z => Bool.noConfusion z, calm := fun z => Bool.noConfusion z, tk := takes_of rfl rfl rfl rfl, po := passes_of rfl, nd := F.sc.nd, hdf := G.hdf }
      refine ⟨_, sSs d.body (ex := fun x _ S' => RX x S') ⟨F.sc.kind, rfl, rfl⟩ o (F.ckH hhot), ?_⟩
      refine ⟨startD d.ns ds, S, _, relst_start F.ns rd, hh, fun x σd S' hx σ H' cls dd fm rs rx hr' => xx x S' hx cls dd H' fm rx hr', f'.2, ⟨fun σd S' hx σ H' fm rs hr' => ?_, fun d S' hx v H' fm rv hr' => kk d S' hx v H' fm rv hr', fun σd S' hx => hx.elim, fun σd S' hx => hx.elim⟩⟩
      exact kk _ S' hx _ H' fm (by simp only [RelD]) hr'
theorem all_ok {dfs xs xr hot : List Str} {ms : List (Str × Str × Str)} {mks : List (Str × Str × Nat)} (G : GFact K w mg dfs xs xr hot ms mks defs gl) (k : Nat) (f : Str) (d : DefT) (fa : Addr) (fd : FuncData) (N ps : List Str) (st : Stmt) (ed : defs f = some d) (F : DFact K w mg dfs xs xr hot ms mks f d fa fd N ps st) :
    FnG P w K mg base (L2.CX P w) (2 * k + 2) fa fd ps (spD K w d.np (sem defs gl k f)) := (all_ok2 G k f d fa fd N ps st ed F).1
theorem law_sp {k : Nat} {H : Hp} {a : Addr} {ns : List Int} (hO : Only H) (hS : SqL K H a (ns.map V.int))
    (h : ∀ S : Sto, (∀ b, S b = none) → sem defs gl k "law" [.kl (ns.map D.int)] S (fun d _ => d = .bl true) fun _ _ => False) :
    spD K w 1 (sem defs gl k "law") [.ref a] H (fun v _ => v = .bl true) fun _ _ _ => False := by
  have fl : FL K H a (ns.map V.int) := by
    rcases hS with (hS | ⟨o, hS⟩) | hS
    · rcases hO a with z | ⟨o, xs, z⟩ <;> (rw [hS] at z; cases z)
    · exact .inl ⟨o, hS⟩
    · exact .inr hS
  refine ⟨[.kl (ns.map D.int)], fun _ => none, _, _, rfl, ?_, fun b ob z => (nomatch z), h _ (fun _ => rfl), fun d S' hd v H' fm rv hr => ?_, fun x S' hx => hx.elim⟩
  · simp only [RelDs, RelD]
    exact ⟨_, [], rfl, ⟨a, _, rfl, fl, RelDs.of_ints ns⟩, rfl⟩
  · subst hd
    simpa only [RelD] using rv
theorem cx_false {H : Hp} {s : Shared} {e : Value} {s' : Shared} (h : L2.CX P w [] H s (fun _ _ _ => False) e s') : False := by
  obtain ⟨_, _, _, _, _, _, _, _, _, _, _, _, z⟩ := h
  exact z
end
end Z

set_option Elab.async false
set_option linter.all false
set_option maxRecDepth 100000
set_option maxHeartbeats 4000000
namespace Z
open PySem PySem.Spec PyProof.Rows L2
theorem law_callG {P : Program} {w : World} {K : PySem.W.Frag} {mg mb : Str → Option Value} {CX : CXT} {k : Nat} {fa a : Addr} {fd : FuncData} {x : Str} {sp : Sp} {t0 : Shared} {vs : List Value} {ns : List Int}
    (KX : K.In t0.heap) (hns : t0.heap.Ns mainGlobals mg) (hb : t0.heap.Ns builtinsNs mb) (hbb : ∀ x : Str, x ≠ "__name__" → mb x = bootBuiltins x) (hlim : t0.heap.NoLimit) (hg : t0.gens = #[]) (ha : t0.heap.get? a = some { cls := .type "list", data := .seq vs.toArray }) (hi : IntsAre vs ns) (hl : ns.length ≤ sizeLine) (hr : RoomG k callerA)
    (F : ∀ base : Heap, K.In base → base.Ns mainGlobals mg → FnG P w K mg base CX k fa fd [x] sp) (hbind : ∀ (s : Shared) (u : Value), BindsTo s fd ⟨[u], []⟩ [(x, u)]) (hsp : ∀ H : Hp, Only H → SqL K H a (ns.map V.int) → sp [.ref a] H (fun v _ => v = .bl true) fun _ _ _ => False) (hCX : ∀ H e s', CX [] H t0 (fun _ _ _ => False) e s' → False) :
    codeAny (model P w) callerA (.call (.ref fa) ⟨[.ref a], []⟩) (fun r s' => r = .ok (.ret (.bool true)) ∧ OldK t0.heap s'.heap ∧ s'.os = t0.os ∧ AllBare s'.gens) t0 := by
  have rv := vals_ints hi; have lenV := hi.length
  have core : ∀ H : Hp, Only H → SqL K H a (ns.map V.int) → HOk P w H t0.heap → (∀ b, H b ≠ none → b = a) → (H a ≠ none → K.lookup a = none) → codeAny (model P w) callerA (.call (.ref fa) ⟨[.ref a], []⟩) (fun r s' => r = .ok (.ret (.bool true)) ∧ OldK t0.heap s'.heap ∧ s'.os = t0.os ∧ AllBare s'.gens) t0 := by
    intro H hO hS hok hA hK
    have only_a : ∀ {b : Addr} {u : HO}, H b = some u → b = a := fun {b u} q => hA b (by rw [q]; simp)
    have bs_of : ∀ {b : Addr} {o : Obj}, t0.heap.get? b = some o → H b = none → (hidT t0.heap H).get? b = some o := fun e n => hidT_get e n
    have no_dict : ∀ {b : Addr} {o : Obj} {es : Array DictEntry} {ep : Nat}, t0.heap.get? b = some o → o.data = .dict es ep → H b = none := fun {b o es ep} e d => by
      cases q : H b with
      | none => rfl
      | some u => obtain rfl := only_a q; rw [ha] at e; cases e; exact nomatch (show Data.seq vs.toArray _ = Data.dict es ep from d)
    have ns_of : ∀ {b : Addr} {m : Str → Option Value}, t0.heap.Ns b m → (hidT t0.heap H).Ns b m := fun {b m} ⟨o, es, ep, e, d, r⟩ => ⟨o, es, ep, bs_of e (no_dict e d), d, r⟩
    have k_in : K.In (hidT t0.heap H) := fun b o e => bs_of (KX b o e) (by
      cases q : H b with
      | none => rfl
      | some u => obtain rfl := only_a q; rw [hK (by rw [q]; simp)] at e; cases e)
    have md : Mod K mg (hidT t0.heap H) := ⟨k_in, ns_of hns, ⟨mb, ns_of hb, hbb⟩, let ⟨mc, h1, h2⟩ := hlim; ⟨mc, ns_of h1, h2⟩⟩
    have env0 : Env0 P w K mg (hidT t0.heap H) callerA [] t0 H := ⟨rfl, md, fun b o e => of_hidT e, Nat.le_of_eq (hidT_size _ _), trivial, fun b hb => absurd (show b ∈ ([] : List Addr) from hb) (by simp), hok, .of_eq hg⟩
    refine codeAny_mono ((F _ k_in (ns_of hns)).run callerA [] t0 H ⟨[.ref a], []⟩ [.ref a] [.ref a] _ _ hr env0 (hbind t0 (.ref a)) (.cons rfl .nil) (hsp H hO hS)) fun r s' h => ?_
    cases r with
    | error e => exact (hCX H e s' h).elim
    | ok fl =>
      cases fl with
      | next => exact False.elim h
      | brk => exact False.elim h
      | cont => exact False.elim h
      | ret u =>
        obtain ⟨v, H2, os, bare, un, hok2, r2, q⟩ := h
        obtain rfl : v = .bl true := q
        obtain rfl : u = Value.bool true := r2
        refine ⟨rfl, OldK.of_keep fun b o e => ?_, os, bare⟩
        cases q : H b with
        | none => exact un.keep b o e q (by intro z; exact absurd (show b ∈ ([] : List Addr) from z) (by simp)) (by simp)
        | some u =>
          rcases hO b with z | ⟨ob, xs, z⟩
          · rw [q] at z; cases z
          · obtain ⟨e1, _⟩ := hok b _ z; obtain ⟨e2, _⟩ := hok2 b _ (un.frzs b ob _ z); rw [e] at e1; cases e1; exact e2
  cases hk : K.lookup a with
  | some o =>
    have e := KX a o hk; rw [ha] at e; cases e
    exact core (fun _ => none) (fun _ => .inl rfl) (.inr ⟨_, vs.toArray, _, hk, rfl, rfl, rfl, by rw [List.size_toArray, lenV]; exact hl, by simpa using rv⟩) (fun b u z => nomatch (show (none : Option HO) = some u from z)) (fun b z => absurd rfl z) fun z => absurd rfl z
  | none =>
    refine core (fun b => if b = a then some (.frz { cls := .type "list", data := .seq vs.toArray } (.lst (ns.map V.int))) else none) (fun b => ?_) (.inl (.inr ⟨{ cls := .type "list", data := .seq vs.toArray }, if_pos rfl⟩)) (fun b u z => ?_) (fun b z => ?_) fun _ => hk <;> by_cases hb : b = a
    · exact .inr ⟨_, _, if_pos hb⟩
    · exact .inl (if_neg hb)
    · cases (if_pos hb).symm.trans z; subst hb; exact ⟨ha, by rw [List.length_map]; exact hl, vs, _, rv, ha⟩
    · cases (if_neg hb).symm.trans z
    · exact hb
    · exact absurd (if_neg hb) z
theorem walk_ofG {l : PySem.W.OpenLaw} {n k : Nat} {q : Program} {loose : List Str} {XP : (Str → Option Value) → Heap → Prop} {YP : World → Heap → Prop} {d : DefRec} {K : Params → PySem.W.Frag} {CX : World → CXT} {sp : World → Sp} {x : Str} (hn : l.most = some n) (hn2 : n ≤ sizeLine) (hdf : d.params.defaults = []) (hr : RoomG k callerA) (hY : ∀ (w : World) (h : Heap), YP w h → (K w.params).In h)
    (F : ∀ (w : World) (mg : Str → Option Value) (fa : Addr) (h : Heap), (K w.params).In h → h.Ns mainGlobals mg → mg d.name = some (.ref fa) → ∃ fd : FuncData, (∀ (s : Shared) (u : Value), BindsTo s fd ⟨[u], []⟩ [(x, u)]) ∧ ∀ base : Heap, (K w.params).In base → base.Ns mainGlobals mg → FnG l.prog w (K w.params) mg base (CX w) k fa fd [x] (sp w))
    (hsp : ∀ (w : World) (H : Hp) (a : Addr) (ns : List Int), ns.length ≤ n → Only H → SqL (K w.params) H a (ns.map V.int) → sp w [.ref a] H (fun v _ => v = .bl true) fun _ _ _ => False) (hCX : ∀ (w : World) (H : Hp) (s : Shared) (e : Value) (s' : Shared), CX w [] H s (fun _ _ _ => False) e s' → False) :
    PySem.W.WalkO q loose XP YP l.row.toRowW d [] (fun f vs => PySem.call f vs) := Att.attach_call hn hdf fun w s₀ t0 mg mb fa o pm cd doc a vs ns G Y ho hd hcd hmg hobj hints hlen hg =>
  let ⟨fd, hb, hF⟩ := F w mg fa _ (hY w _ Y) G.T.g hmg
  law_callG (hY w _ Y) G.T.g G.T.b G.T.builtins G.T.nolimit hg hobj hints (Nat.le_trans hlen hn2) hr hF hb (fun H hO hS => hsp w H a ns hlen hO hS) fun H e s' => hCX w H t0 e s'
end Z

set_option Elab.async false
set_option linter.all false
set_option maxRecDepth 100000
set_option maxHeartbeats 4000000
namespace Z
open PySem PySem.Spec PyProof.Rows L2
def XP (K : PySem.W.Frag) (C : Addr) (m : Str) (b : Bool) : Prop := PySem.W.nsIn K mainGlobals m = some none ∨ ∃ M, PySem.W.nsIn K mainGlobals m = some (some (.ref M)) ∧ PySem.W.subIn K (.ref M) (.type "BaseException") = some true ∧ PySem.W.hasDictIn K M = true ∧ PySem.W.typeIn K (.ref M) = some (.type "type") ∧ (C == M) = b ∧ PySem.W.subIn K (.ref C) (.ref M) = some b
end Z

set_option Elab.async false
set_option linter.all false
set_option maxRecDepth 100000
set_option maxHeartbeats 4000000
namespace Z
open PySem PySem.Spec PyProof.Rows L2
section
variable {K : PySem.W.Frag} {w : World}
theorem ms_no {ms : List (Str × Str × Str)} {f : Str} {A : Str → Str → Prop} (h : (ms.all fun p => !(p.1 == f)) = true) : ∀ cn m, ms.contains (f, cn, m) = true → A cn m := fun cn m hm => by
  have := List.all_eq_true.mp h _ (by simpa using hm)
  simp at this
theorem ms_one {ms : List (Str × Str × Str)} {f c0 m0 : Str} {A : Str → Str → Prop} (h : (ms.all fun p => !(p.1 == f) || (p.2.1 == c0 && p.2.2 == m0)) = true) (a : A c0 m0) : ∀ cn m, ms.contains (f, cn, m) = true → A cn m := fun cn m hm => by
  have := List.all_eq_true.mp h _ (by simpa using hm)
  simp at this
  obtain ⟨rfl, rfl⟩ := this
  exact a
theorem mk_no {ms : List (Str × Str × Nat)} {f : Str} {A : Str → Nat → Prop} (h : (ms.all fun p => !(p.1 == f)) = true) : ∀ cn m, ms.contains (f, cn, m) = true → A cn m := fun cn m hm => by
  have := List.all_eq_true.mp h _ (by simpa using hm)
  simp at this
theorem mk_two {ms : List (Str × Str × Nat)} {f c0 : Str} {m0 m1 : Nat} {A : Str → Nat → Prop} (h : (ms.all fun p => !(p.1 == f) || (p.2.1 == c0 && (p.2.2 == m0 || p.2.2 == m1))) = true) (a : A c0 m0) (b : A c0 m1) : ∀ cn m, ms.contains (f, cn, m) = true → A cn m := fun cn m hm => by
  have := List.all_eq_true.mp h _ (by simpa using hm)
  simp at this
  obtain ⟨rfl, rfl | rfl⟩ := this
  · exact a
  · exact b
theorem kit_self {C : Addr} : PySem.W.kitOne K (.ref C) (.ref C) = some true := by
  unfold PySem.W.kitOne
  rw [if_pos (by simp)]
theorem fun_to {x q : Str} {st : Stmt} {f : Addr} {fd : FuncData} (F : Fun K x q st f fd) : FunD K x q (defArgs st) (defBody st) (defScope st) [] [] f fd := by
  obtain ⟨oc, od, kV, doc, pm, an, cdv, ct, osl, e, l, c⟩ := F.ex
  exact ⟨⟨oc, od, .none, kV, doc, pm, an, cdv, ct, osl, e, l, c, .inl ⟨rfl, rfl⟩, .inl rfl⟩, F.kp⟩
theorem fun1_mk {x qual : Str} {st : Stmt} {f T e : Addr} {o : Obj} {n : Nat} {oc : Value} {od an : Option Addr} {osl : Array (Option Value)} {kV doc pm cdv ct : Value} (l : K.lookup f = some ⟨oc, od, .func (PySem.W.fnOf x qual (defArgs st) (defBody st) (defScope st) (.ref T) kV doc pm an cdv ct), osl⟩)
    (c : PySem.W.codeIn K cdv qual = true) (k : PySem.W.keepIn K (.ref f) = true) (lT : K.lookup T = some o) (oT : o.data = .seq #[.ref e] n) : FunD K x qual (defArgs st) (defBody st) (defScope st) [.ref e] [] f (PySem.W.fnOf x qual (defArgs st) (defBody st) (defScope st) (.ref T) kV doc pm an cdv ct) :=
  ⟨⟨oc, od, .ref T, kV, doc, pm, an, cdv, ct, osl, rfl, l, c, .inr ⟨by simp, T, o, [.ref e], n, rfl, lT, oT, .cons rfl .nil⟩, .inl rfl⟩, k⟩
theorem binds_full {fd : FuncData} {ps : List Str} {v : V} (h : ∃ ds, Vals ([v].drop 1) ds ∧ Binds K fd ps ds) : Binds K fd ps [] := by
  obtain ⟨ds, hv, hb⟩ := h
  cases hv
  exact hb
theorem relDs_e {e : Addr} {o : Obj} {n : Nat} (l : K.lookup e = some o) (c : o.cls = .type "tuple") (d : o.data = .seq #[] n) (H : Hp) : RelDs K w H [.tup []] [V.ref e] := by
  simp only [RelDs, RelD]
  exact ⟨_, _, rfl, ⟨e, [], rfl, .inr ⟨o, #[], n, l, c, d, by decide, .nil⟩, rfl⟩, rfl⟩
theorem hms_of {ms : List (Str × Str × Str)} {defs : Str → Option DefT} (h : (ms.all fun p => (defs p.1).isSome) = true) : ∀ q cn m, ms.contains (q, cn, m) = true → ∃ d, defs q = some d := fun q cn m hm => by
  have h2 := List.all_eq_true.mp h _ (by simpa using hm)
  exact Option.isSome_iff_exists.mp h2
theorem hmk_of {ms : List (Str × Str × Nat)} {defs : Str → Option DefT} (h : (ms.all fun p => (defs p.1).isSome) = true) : ∀ q cn m, ms.contains (q, cn, m) = true → ∃ d, defs q = some d := fun q cn m hm => by
  have h2 := List.all_eq_true.mp h _ (by simpa using hm)
  exact Option.isSome_iff_exists.mp h2
theorem hotd_of {mg : Str → Option Value} {dfs xs xr hot : List Str} {ms : List (Str × Str × Str)} {mks : List (Str × Str × Nat)} (h : (hot.all fun g => dfs.contains g) = true) : ∀ g, hot.contains g = true → ∀ fa fd N ps st d, DFact K w mg dfs xs xr hot ms mks g d fa fd N ps st → mg g = some (.ref fa) := fun g hg fa fd N ps st d F =>
  F.mgf (List.all_eq_true.mp h g (by simpa using hg))
end
section
variable {K : PySem.W.Frag} {x qual : Str} {st : Stmt} {f : Addr} {fd : FuncData} {ps ks : List Str} {n : Nat} {g : Str}
theorem kb_no (h : (kwT g).isNone = true) : ∀ n ks, kwT g = some (n, ks) → KBn K fd ps n ks (fun us ws => us ++ ws) (fun vs zs => vs ++ zs) := fun n ks e => by rw [e] at h; cases h
theorem mkk_no (h : (mkT g).isNone = true) : ∀ n ks, mkT g = some (n, ks) → KBn K fd ps (n + 1) ks (fun us ws => us ++ ws) (fun vs zs => vs ++ zs) := fun n ks e => by rw [e] at h; cases h
theorem mkk_yes {m : Nat} {js : List Str} (h : mkT g = some (m, js)) (k : KBn K fd ps (m + 1) js (fun us ws => us ++ ws) (fun vs zs => vs ++ zs)) : ∀ n ks, mkT g = some (n, ks) → KBn K fd ps (n + 1) ks (fun us ws => us ++ ws) (fun vs zs => vs ++ zs) := fun n ks e => by rw [h] at e; cases e; exact k
theorem nkw_of {hot : List Str} {ms : List (Str × Str × Str)} (h : (hot.all (fun g => (kwT g).isNone) && ms.all (fun p => (kwT p.1).isNone)) = true) : ∀ g, (hot.contains g = true ∨ ∃ cn m, ms.contains (g, cn, m) = true) → kwT g = none := fun g hg => by
  rw [Bool.and_eq_true, List.all_eq_true, List.all_eq_true] at h
  rcases hg with hg | ⟨cn, m, hg⟩
  · simpa using h.1 g (by simpa using hg)
  · simpa using h.2 _ (by simpa using hg)
end
end Z

set_option Elab.async false
set_option linter.all false
set_option maxRecDepth 100000
set_option maxHeartbeats 4000000
namespace Z
open PySem PySem.Spec PyProof.Rows L2
theorem mem_of_lookup {α β : Type} [BEq α] [LawfulBEq α] {x : α} {y : β} : ∀ {l : List (α × β)}, l.lookup x = some y → (x, y) ∈ l
  | [], h => by cases h
  | (a, b) :: l, h => by
    rw [List.lookup_cons] at h
    cases e : x == a with
    | true => rw [e] at h; cases h; rw [eq_of_beq e]; exact List.mem_cons_self
    | false => rw [e] at h; exact List.mem_cons_of_mem _ (mem_of_lookup h)
end Z

set_option Elab.async false
set_option linter.all false
set_option maxRecDepth 100000
set_option maxHeartbeats 4000000
namespace Z
open PySem PySem.Spec PyProof.Rows L2
def dLCell : DefT := ⟨2, 3, [
    .ife (.cmp .Lt (.var 1) (.blt .len [(.var 0)])) [.ret (.sub (.var 0) (.var 1))] [],
    .asg (.nm 2) (.bin .Add (.bin .Mult (.var 1) (.int 7919)) (.int 5)),
    .ife (.cmp .Gt (.blt .len [(.var 0)]) (.int 0)) [.asg (.nm 2) (.bin .Add (.bin .Mult (.bin .Mod (.sub (.var 0) (.bin .Mod (.bin .Mult (.var 1) (.int 7)) (.blt .len [(.var 0)]))) (.int 2147483629)) (.int 48271)) (.bin .Mult (.var 1) (.int 7919)))] [],
    .ret (.bin .Mult (.bin .Mod (.var 2) (.int 2147483647)) (.int 31))]⟩
end Z

set_option Elab.async false
set_option linter.all false
set_option maxRecDepth 100000
set_option maxHeartbeats 4000000
namespace Z
open PySem PySem.Spec PyProof.Rows L2
section
variable {C : Cw} {ex : EX} {σ : StD} {S : Sto} {Q : D → Sto → Prop} {B : Bool → Sto → Prop} {Qs : List D → Sto → Prop} {D' : EndD} {ss : List TS}
theorem v_var {i : Nat} {d : D} (e : σ[i]? = some (some d)) (h : Q d S) : wpE C ex (.var i) σ S Q := by unfold wpE; rw [e]; exact h
theorem v_int {i : Int} (h : Q (.int i) S) : wpE C ex (.int i) σ S Q := by unfold wpE; exact h
theorem v_bl {i : Bool} (h : Q (.bl i) S) : wpE C ex (.bl i) σ S Q := by unfold wpE; exact h
theorem v_non (h : Q .non S) : wpE C ex .non σ S Q := by unfold wpE; exact h
theorem v_str {x : Str} (h : Q (.str x) S) : wpE C ex (.str x) σ S Q := by unfold wpE; exact h
theorem v_bty {x : String} (h : Q (.ty x) S) : wpE C ex (.bty x) σ S Q := by unfold wpE; exact h
theorem v_glob {x : Str} {d : D} (e : C.gl x = some d) (h : Q d S) : wpE C ex (.glob x) σ S Q := by unfold wpE; rw [e]; exact h
theorem v_bin {op : Operator} {a b : T} (h : wpE C ex a σ S fun x S1 => wpE C ex b σ S1 fun y S2 => wBin op x y S2 Q) : wpE C ex (.bin op a b) σ S Q := by unfold wpE; exact h
theorem v_cmp {op : CmpOp} {a b : T} (h : wpE C ex a σ S fun x S1 => wpE C ex b σ S1 fun y S2 => wCmp op x y S2 Q) : wpE C ex (.cmp op a b) σ S Q := by unfold wpE; exact h
theorem v_bop {op : BoolOp} {ts : List T} (h : wpB C ex op ts σ S Q) : wpE C ex (.bop op ts) σ S Q := by unfold wpE; exact h
theorem v_nt {a : T} (h : wpE C ex a σ S fun d S1 => ∃ k, tru S1 d = some k ∧ Q (.bl (!k)) S1) : wpE C ex (.nt a) σ S Q := by
  unfold wpE
  have : (fun d S1 => ∃ k, tru S1 d = some k ∧ Q (.bl (!k)) S1) = (fun (d : D) (S1 : Sto) => match tru S1 d with | some k => Q (.bl (!k)) S1 | none => False) := by
    funext d S1
    cases tru S1 d <;> simp
  rw [this] at h
  exact h
theorem v_ite {c a b : T} (h : wpT C ex c σ S fun k S1 => if k = true then wpE C ex a σ S1 Q else wpE C ex b σ S1 Q) : wpE C ex (.ite c a b) σ S Q := by unfold wpE; exact h
theorem v_tup {ts : List T} (h : wpEs C ex ts σ S fun ds S1 => ds.length ≤ 100 ∧ Q (.tup ds) S1) : wpE C ex (.tup ts) σ S Q := by unfold wpE; exact h
theorem v_lst {ts : List T} (h : wpEs C ex ts σ S fun ds S1 => ds.length ≤ 100 ∧ ∀ p, S1 p = none → Q (.ref p) (updS S1 p (.lst ds))) : wpE C ex (.lst ts) σ S Q := by unfold wpE; exact h
theorem v_sub {a i : T} (h : wpE C ex a σ S fun x S1 => wpE C ex i σ S1 fun y S2 => wSub x y S2 Q) : wpE C ex (.sub a i) σ S Q := by unfold wpE; exact h
theorem v_slice {a : T} {lo hi : Option T} (h : wpE C ex a σ S fun x S1 => wpO C ex lo σ S1 fun l S2 => wpO C ex hi σ S2 fun h S3 => wSlice x l h S3 Q) : wpE C ex (.slice a lo hi) σ S Q := by unfold wpE; exact h
theorem v_call {f : Str} {ts : List T} (h : wpEs C ex ts σ S fun ds S1 => C.cal f ds S1 Q fun x S2 => ex x σ S2) : wpE C ex (.call f ts) σ S Q := by unfold wpE; exact h
theorem v_blt {f : Bi} {ts : List T} (h : wpEs C ex ts σ S fun ds S1 => wBlt f ds S1 Q) : wpE C ex (.blt f ts) σ S Q := by unfold wpE; exact h
theorem v_lrev {a : T} (h : wpE C ex a σ S fun x S1 => wLrev x S1 Q) : wpE C ex (.lrev a) σ S Q := by unfold wpE; exact h
theorem v_lzip {a b : T} (h : wpE C ex a σ S fun x S1 => wpE C ex b σ S1 fun y S2 => wLzip x y S2 Q) : wpE C ex (.lzip a b) σ S Q := by unfold wpE; exact h
theorem v_mth {m : Me} {a : T} {ts : List T} (h : wpE C ex a σ S fun x S1 => okRecv m S1 x = true ∧ wpEs C ex ts σ S1 fun ds S2 => wMth m x ds S2 Q) : wpE C ex (.mth m a ts) σ S Q := by unfold wpE; exact h
theorem v_lc {g : Tg} {it : Ti} {ifs : List T} {own : List (Str × Nat)} {e : T} (h : wpI C ex it σ S fun ds G S1 =>
      lcL (fun d S2 k => wpG g d (wipeD σ (own.map (·.2))) S2 fun σ2 => wpTs C ifs σ2 S2 fun b S3 => if b = true then wpE C (fun _ _ _ => False) e σ2 S3 fun v S4 => k (some v) S4 else k none S3) G Q ds [] S1) : wpE C ex (.lc g it ifs own e) σ S Q := by unfold wpE; exact h
theorem v_lno {q c : Str} {a : T} (h : wpE C ex a σ S fun x S1 => isIns c S1 x = true ∧ C.cal q [x] S1 (fun d S2 => ∃ n : Nat, d = .int n ∧ n < 1000000 ∧ Q (.int n) S2) fun _ _ => False) : wpE C ex (.lno q c a) σ S Q := by unfold wpE; exact h
theorem v_rpo {q c : Str} {a : T} (h : wpE C ex a σ S fun x S1 => isIns c S1 x = true ∧ C.cal q [x] S1 (fun d S2 => ∃ z, d = .str z ∧ Q (.str z) S2) fun _ _ => False) : wpE C ex (.rpo q c a) σ S Q := by unfold wpE; exact h
theorem v_fs2 {x y z : Str} {a b : T} (h : wpE C ex a σ S fun d S1 => okI d ∧ wpE C ex b σ S1 fun e S2 => okI e ∧ Q (.str (fs2T x d y e z)) S2) : wpE C ex (.fs2 x a y b z) σ S Q := by unfold wpE; exact h
theorem v_newK {q c : Str} {ts us : List T} {ks : List Str} (h : wpEs C ex ts σ S fun ds S1 => ds.length = ts.length ∧ wpEs C ex us σ S1 fun es S2 => es.length = us.length ∧ ∀ x, S2 x = none → C.cal q (.ref x :: (ds ++ es)) (updS S2 x (.ins c [])) (fun v S3 => v = .non ∧ Q (.ref x) S3) fun xx S3 => ex xx σ S3) : wpE C ex (.newK q c ts ks us) σ S Q := by unfold wpE; exact h
theorem vs_nil (h : Qs [] S) : wpEs C ex [] σ S Qs := by unfold wpEs; exact h
theorem vs_cons {t : T} {ts : List T} (h : wpE C ex t σ S fun d S1 => wpEs C ex ts σ S1 fun ds S2 => Qs (d :: ds) S2) : wpEs C ex (t :: ts) σ S Qs := by unfold wpEs; exact h
theorem vo_none {R : Option Int → Sto → Prop} (h : R none S) : wpO C ex none σ S R := by unfold wpO; exact h
theorem vo_some {t : T} {R : Option Int → Sto → Prop} (h : wpE C ex t σ S fun d S1 => ∃ i, d = .int i ∧ R (some i) S1) : wpO C ex (some t) σ S R := by
  unfold wpO
  have : (fun d S1 => ∃ i, d = .int i ∧ R (some i) S1) = (fun (d : D) (S1 : Sto) => match d with | .int i => R (some i) S1 | _ => False) := by
    funext d S1
    cases d <;> simp
  rw [this] at h
  exact h
theorem vb_one {op : BoolOp} {t : T} (h : wpE C ex t σ S Q) : wpB C ex op [t] σ S Q := by unfold wpB; exact h
theorem vb_and {t u : T} {ts : List T} (h : wpE C ex t σ S fun d S1 => ∃ k, tru S1 d = some k ∧ if k = true then wpB C ex .And (u :: ts) σ S1 Q else Q d S1) : wpB C ex .And (t :: u :: ts) σ S Q := by
  unfold wpB
  have : (fun d S1 => ∃ k, tru S1 d = some k ∧ if k = true then wpB C ex .And (u :: ts) σ S1 Q else Q d S1) = (fun (d : D) (S1 : Sto) => match tru S1 d with | some k => (if k = true then wpB C ex .And (u :: ts) σ S1 Q else Q d S1) | none => False) := by
    funext d S1
    cases tru S1 d <;> simp
  rw [this] at h
  exact h
theorem vb_or {t u : T} {ts : List T} (h : wpE C ex t σ S fun d S1 => ∃ k, tru S1 d = some k ∧ if k = true then Q d S1 else wpB C ex .Or (u :: ts) σ S1 Q) : wpB C ex .Or (t :: u :: ts) σ S Q := by
  unfold wpB
  have : (fun d S1 => ∃ k, tru S1 d = some k ∧ if k = true then Q d S1 else wpB C ex .Or (u :: ts) σ S1 Q) = (fun (d : D) (S1 : Sto) => match tru S1 d with | some k => (if k = true then Q d S1 else wpB C ex .Or (u :: ts) σ S1 Q) | none => False) := by
    funext d S1
    cases tru S1 d <;> simp
  rw [this] at h
  exact h
def TrD (S : Sto) (d : D) (B : Bool → Sto → Prop) : Prop := ∃ k, tru S d = some k ∧ B k S
theorem trD_of {d : D} : TrD S d B → (match tru S d with | some k => B k S | none => False) := fun ⟨k, e, h⟩ => by rw [e]; exact h
theorem t_bop {op : BoolOp} {ts : List T} (h : wpTB C ex op ts σ S B) : wpT C ex (.bop op ts) σ S B := by unfold wpT; exact h
theorem t_nt {a : T} (h : wpT C ex a σ S fun k S1 => B (!k) S1) : wpT C ex (.nt a) σ S B := by unfold wpT; exact h
theorem t_var {i : Nat} {d : D} (e : σ[i]? = some (some d)) (h : TrD S d B) : wpT C ex (.var i) σ S B := by unfold wpT; rw [e]; exact trD_of h
theorem t_cmp {op : CmpOp} {a b : T} (h : wpE C ex a σ S fun x S1 => wpE C ex b σ S1 fun y S2 => wCmp op x y S2 fun z S3 => ∃ k, z = .bl k ∧ B k S3) : wpT C ex (.cmp op a b) σ S B := by
  unfold wpT
  have : (fun (z : D) S3 => ∃ k, z = .bl k ∧ B k S3) = (fun (z : D) (S3 : Sto) => match z with | .bl k => B k S3 | _ => False) := by
    funext d S1
    cases d <;> simp
  rw [this] at h
  exact h
theorem t_call {f : Str} {ts : List T} (h : wpEs C ex ts σ S fun ds S1 => C.cal f ds S1 (fun d S2 => TrD S2 d B) fun x S2 => ex x σ S2) : wpT C ex (.call f ts) σ S B := by
  unfold wpT
  have : (fun d S2 => TrD S2 d B) = (fun (d : D) (S2 : Sto) => match tru S2 d with | some k => B k S2 | none => False) := by
    funext d S1
    unfold TrD
    cases tru S1 d <;> simp
  rw [this] at h
  exact h
theorem t_blt {f : Bi} {ts : List T} (h : wpEs C ex ts σ S fun ds S1 => wBlt f ds S1 fun d S2 => TrD S2 d B) : wpT C ex (.blt f ts) σ S B := by
  unfold wpT
  have : (fun d S2 => TrD S2 d B) = (fun (d : D) (S2 : Sto) => match tru S2 d with | some k => B k S2 | none => False) := by
    funext d S1
    unfold TrD
    cases tru S1 d <;> simp
  rw [this] at h
  exact h
theorem t_sub {a i : T} (h : wpE C ex a σ S fun x S1 => wpE C ex i σ S1 fun y S2 => wSub x y S2 fun d S3 => TrD S3 d B) : wpT C ex (.sub a i) σ S B := by
  unfold wpT
  have : (fun d S2 => TrD S2 d B) = (fun (d : D) (S2 : Sto) => match tru S2 d with | some k => B k S2 | none => False) := by
    funext d S1
    unfold TrD
    cases tru S1 d <;> simp
  rw [this] at h
  exact h
theorem t_chain {op op2 : CmpOp} {a b c : T} (h : wpE C ex a σ S fun x S1 => wpE C ex b σ S1 fun y S2 => wCmp op x y S2 fun z S3 => ∃ k, z = .bl k ∧ if k = true then wpE C ex c σ S3 fun u S4 => wCmp op2 y u S4 fun z S5 => ∃ k, z = .bl k ∧ B k S5 else B false S3) : wpT C ex (.chain op op2 a b c) σ S B := by
  unfold wpT
  have e1 : (fun (z : D) S3 => ∃ k, z = .bl k ∧ B k S3) = (fun (z : D) (S3 : Sto) => match z with | .bl k => B k S3 | _ => False) := by
    funext d S1
    cases d <;> simp
  rw [e1] at h
  have e2 : (fun x S1 => wpE C ex b σ S1 fun y S2 => wCmp op x y S2 fun z S3 => ∃ k, z = .bl k ∧ if k = true then wpE C ex c σ S3 fun u S4 => wCmp op2 y u S4 (fun (z : D) (S3 : Sto) => match z with | .bl k => B k S3 | _ => False) else B false S3) = (fun (x : D) (S1 : Sto) => wpE C ex b σ S1 fun y S2 => wCmp op x y S2 fun (z : D) (S3 : Sto) => match z with | .bl k => (if k = true then wpE C ex c σ S3 fun u S4 => wCmp op2 y u S4 (fun (z : D) (S3 : Sto) => match z with | .bl k => B k S3 | _ => False) else B false S3) | _ => False) := by
    funext x S1
    congr
    funext y S2
    congr
    funext z S3
    cases z <;> simp
  rw [e2] at h
  exact h
theorem tb_one {op : BoolOp} {t : T} (h : wpT C ex t σ S B) : wpTB C ex op [t] σ S B := by unfold wpTB; exact h
theorem tb_and {t u : T} {ts : List T} (h : wpT C ex t σ S fun k S1 => if k = true then wpTB C ex .And (u :: ts) σ S1 B else B false S1) : wpTB C ex .And (t :: u :: ts) σ S B := by unfold wpTB; exact h
theorem tb_or {t u : T} {ts : List T} (h : wpT C ex t σ S fun k S1 => if k = true then B true S1 else wpTB C ex .Or (u :: ts) σ S1 B) : wpTB C ex .Or (t :: u :: ts) σ S B := by unfold wpTB; exact h
theorem tr_bl {b : Bool} (h : B b S) : TrD S (.bl b) B := ⟨b, rfl, h⟩
theorem tr_int {b : Int} (h : B (b != 0) S) : TrD S (.int b) B := ⟨_, rfl, h⟩
theorem ts_nil (h : B true S) : wpTs C [] σ S B := by unfold wpTs; exact h
theorem ts_one {t : T} (h : wpT C (fun _ _ _ => False) t σ S B) : wpTs C [t] σ S B := by unfold wpTs; exact h
theorem s_nil (h : D'.nx σ S) : wpSs C ex [] D' σ S := by unfold wpSs; exact h
theorem s_ex {e : T} (h : wpE C ex e σ S fun _ S1 => wpSs C ex ss D' σ S1) : wpSs C ex (.ex e :: ss) D' σ S := by unfold wpSs wpS; exact h
theorem s_asg {g : Tg} {e : T} (h : wpE C ex e σ S fun d S1 => wpG g d σ S1 fun σ' => wpSs C ex ss D' σ' S1) : wpSs C ex (.asg g e :: ss) D' σ S := by unfold wpSs wpS; exact h
theorem s_par {i j : Nat} {a b : T} (h : wpE C ex a σ S fun x S1 => wpE C ex b σ S1 fun y S2 => wpSs C ex ss D' ((σ.set i (some x)).set j (some y)) S2) : wpSs C ex (.par i j a b :: ss) D' σ S := by unfold wpSs wpS; exact h
theorem s_set {a i e : T} (h : wpE C ex e σ S fun v S1 => wpE C ex a σ S1 fun o S2 => wpE C ex i σ S2 fun k S3 => wSet o k v S3 fun S4 => wpSs C ex ss D' σ S4) : wpSs C ex (.set a i e :: ss) D' σ S := by unfold wpSs wpS; exact h
theorem s_ife {c : T} {a b : List TS} (h : wpT C ex c σ S fun k S1 => if k = true then wpSs C ex a { D' with nx := wpSs C ex ss D' } σ S1 else wpSs C ex b { D' with nx := wpSs C ex ss D' } σ S1) : wpSs C ex (.ife c a b :: ss) D' σ S := by
  unfold wpSs wpS; exact h
theorem s_ret {e : T} (h : wpE C ex e σ S D'.rt) : wpSs C ex (.ret e :: ss) D' σ S := by unfold wpSs wpS; exact h
theorem s_try {b hd : List TS} {m : Str} {i : Nat} (h : wpSs C (fun x σ' S' => if x.cls = m then wpSs C (fun _ _ _ => False) hd ⟨fun σ2 S2 => wpSs C ex ss D' (σ2.set i none) S2, D'.rt, fun σ2 S2 => D'.bk (σ2.set i none) S2, fun σ2 S2 => D'.ct (σ2.set i none) S2⟩ (σ'.set i (some (.exn x.cls x.ns x.ds))) S' else ex x σ' S') b { D' with nx := wpSs C ex ss D' } σ S) : wpSs C ex (.tryx b m i hd :: ss) D' σ S := by unfold wpSs; unfold wpS; exact h
theorem s_retN (h : D'.rt .non S) : wpSs C ex (.retN :: ss) D' σ S := by unfold wpSs wpS; exact h
theorem s_pass (h : wpSs C ex ss D' σ S) : wpSs C ex (.pass :: ss) D' σ S := by unfold wpSs wpS; exact h
theorem s_brk (h : D'.bk σ S) : wpSs C ex (.brk :: ss) D' σ S := by unfold wpSs wpS; exact h
theorem s_cont (h : D'.ct σ S) : wpSs C ex (.cont :: ss) D' σ S := by unfold wpSs wpS; exact h
theorem s_fr {g : Tg} {it : Ti} {b : List TS} (h : wpI C ex it σ S fun ds G S1 => forL (fun d N σ S => wpG g d σ S fun σ' => wpSs C ex b { D' with nx := N, ct := N, bk := wpSs C ex ss D' } σ' S) G (wpSs C ex ss D') ds σ S1) : wpSs C ex (.fr g it b :: ss) D' σ S := by
  unfold wpSs wpS; exact h
theorem g_nm {i : Nat} {d : D} {R : StD → Prop} (h : R (σ.set i (some d))) : wpG (.nm i) d σ S R := by unfold wpG; exact h
theorem g_tup {gs : List Tg} {d : D} {ds : List D} {R : StD → Prop} (e : itemsD S d = some ds) (l : ds.length = gs.length) (h : wpGs gs ds σ S R) : wpG (.tup gs) d σ S R := by unfold wpG; rw [e]; exact ⟨l, h⟩
theorem g_nil {ds : List D} {R : StD → Prop} (h : R σ) : wpGs [] ds σ S R := by unfold wpGs; exact h
theorem g_cons {g : Tg} {gs : List Tg} {d : D} {ds : List D} {R : StD → Prop} (h : wpG g d σ S fun σ' => wpGs gs ds σ' S R) : wpGs (g :: gs) (d :: ds) σ S R := by unfold wpGs; exact h
theorem i_seq {e : T} {R : List D → (Sto → Prop) → Sto → Prop} (h : wpE C ex e σ S fun d S1 => (∃ ds, d = .tup ds ∧ R ds (fun _ => True) S1) ∨ (∃ ds, d = .kl ds ∧ R ds (fun _ => True) S1) ∨ ∃ a ds, d = .ref a ∧ S1 a = some (.lst ds) ∧ R ds (fun S => S a = some (.lst ds)) S1) : wpI C ex (.seq e) σ S R := by
  unfold wpI
  have : (fun (d : D) S1 => (∃ ds, d = .tup ds ∧ R ds (fun _ => True) S1) ∨ (∃ ds, d = .kl ds ∧ R ds (fun _ => True) S1) ∨ ∃ a ds, d = .ref a ∧ S1 a = some (.lst ds) ∧ R ds (fun S => S a = some (.lst ds)) S1)
      = (fun (d : D) (S1 : Sto) => match d with | .tup ds => R ds (fun _ => True) S1 | .kl ds => R ds (fun _ => True) S1 | .ref a => (match S1 a with | some (.lst ds) => R ds (fun S => S a = some (.lst ds)) S1 | _ => False) | _ => False) := by
    funext d S1
    cases d <;> simp
    rename_i a
    cases h1 : S1 a with
    | none => simp
    | some o => cases o <;> simp
  rw [this] at h
  exact h
theorem i_rng1 {a : T} {R : List D → (Sto → Prop) → Sto → Prop} (h : wpE C ex a σ S fun d S1 => ∃ n, d = .int n ∧ -(2 ^ 62) ≤ n ∧ n < 2 ^ 62 ∧ R ((List.range n.toNat).map fun i => .int (i : Nat)) (fun _ => True) S1) : wpI C ex (.rng1 a) σ S R := by
  unfold wpI
  have : (fun (d : D) S1 => ∃ n, d = .int n ∧ -(2 ^ 62) ≤ n ∧ n < 2 ^ 62 ∧ R ((List.range n.toNat).map fun i => .int (i : Nat)) (fun _ => True) S1) = (fun (d : D) (S1 : Sto) => match d with | .int n => -(2 ^ 62) ≤ n ∧ n < 2 ^ 62 ∧ R ((List.range n.toNat).map fun i => .int (i : Nat)) (fun _ => True) S1 | _ => False) := by
    funext d S1
    cases d <;> simp
  rw [this] at h
  exact h
theorem o_add {i j : Int} (h : Q (.int (i + j)) S) : wBin .Add (.int i) (.int j) S Q := h
theorem o_sub {i j : Int} (h : Q (.int (i - j)) S) : wBin .Sub (.int i) (.int j) S Q := h
theorem o_mul {i j : Int} (c : CMul i j) (h : Q (.int (i * j)) S) : wBin .Mult (.int i) (.int j) S Q := ⟨c, h⟩
theorem v_back {a : T} (h : wpE C ex a σ S fun x S1 => wBack x S1 Q) : wpE C ex (.back a) σ S Q := by unfold wpE; exact h
theorem v_isx {a : T} {m : Str} (h : wpE C ex a σ S fun x S1 => wIsx m x S1 Q) : wpE C ex (.isx a m) σ S Q := by unfold wpE; exact h
theorem v_atr {a : T} {f : Str} (h : wpE C ex a σ S fun x S1 => wAtr f x S1 Q) : wpE C ex (.atr a f) σ S Q := by unfold wpE; exact h
theorem o_div {i j : Int} (c : CDiv i j) (h : Q (.int (i / j)) S) : wBin .FloorDiv (.int i) (.int j) S Q := ⟨c, h⟩
theorem o_mod {i j : Int} (c : 0 < j) (h : Q (.int (i % j)) S) : wBin .Mod (.int i) (.int j) S Q := ⟨c, h⟩
theorem o_pow {i j : Int} (c : CPow i j) (h : Q (.int (i ^ j.toNat)) S) : wBin .Pow (.int i) (.int j) S Q := ⟨c, h⟩
theorem o_lt {i j : Int} (h : Q (.bl (decide (i < j))) S) : wCmp .Lt (.int i) (.int j) S Q := h
theorem o_le {i j : Int} (h : Q (.bl (decide (i ≤ j))) S) : wCmp .LtE (.int i) (.int j) S Q := h
theorem o_gt {i j : Int} (h : Q (.bl (decide (j < i))) S) : wCmp .Gt (.int i) (.int j) S Q := h
theorem o_ge {i j : Int} (h : Q (.bl (decide (j ≤ i))) S) : wCmp .GtE (.int i) (.int j) S Q := h
theorem o_subL {a : Addr} {xs : List D} {i : Int} {v : D} (e : S a = some (.lst xs)) (e2 : atI xs i = some v) (h : Q v S) : wSub (.ref a) (.int i) S Q := by unfold wSub; simp only [e, e2]; exact h
theorem o_subT {xs : List D} {i : Int} {v : D} (e2 : atI xs i = some v) (h : Q v S) : wSub (.tup xs) (.int i) S Q := by unfold wSub; simp only [e2]; exact h
theorem o_subK {xs : List D} {i : Int} {v : D} (e2 : atI xs i = some v) (h : Q v S) : wSub (.kl xs) (.int i) S Q := by unfold wSub; simp only [e2]; exact h
theorem o_subC {kvs : List (Str × Int)} {z : Str} {i : Int} (e2 : kvs.lookup z = some i) (h : Q (.int i) S) : wSub (.cd kvs) (.str z) S Q := by unfold wSub; simp only [e2]; exact h
theorem o_subD {a : Addr} {kvs : List (Key × D)} {d v : D} {key : Key} (e : S a = some (.dct kvs)) (e1 : keyD d = some key) (e2 : lookD kvs key = some v) (h : Q v S) : wSub (.ref a) d S Q := by unfold wSub; simp only [e, e1, e2]; exact h
theorem o_setL {a : Addr} {xs : List D} {i : Int} {j : Nat} {v : D} {R : Sto → Prop} (e : S a = some (.lst xs)) (e2 : ixN xs.length i = some j) (h : R (updS S a (.lst (xs.set j v)))) : wSet (.ref a) (.int i) v S R := by unfold wSet; simp only [e, e2]; exact h
theorem o_len {d : D} {n : Nat} (e : lenD S d = some n) (h : Q (.int n) S) : wBlt .len [d] S Q := by unfold wBlt; simp only [e]; exact h
theorem c_true {A B : Prop} (h : A) : if true = true then A else B := h
theorem c_false {A B : Prop} (h : B) : if false = true then A else B := h
theorem c_dec {p : Prop} [Decidable p] {A B : Prop} (h1 : p → A) (h2 : ¬ p → B) : if decide p = true then A else B := by
  by_cases hp : p
  · rw [if_pos (decide_eq_true hp)]; exact h1 hp
  · rw [if_neg (fun z => hp (of_decide_eq_true z))]; exact h2 hp
theorem c_nott {A B : Prop} (h : B) : if (!true) = true then A else B := h
theorem c_notf {A B : Prop} (h : A) : if (!false) = true then A else B := h
theorem c_decT {p : Prop} [Decidable p] {A B : Prop} (e : p) (h : A) : if decide p = true then A else B := by rw [if_pos (decide_eq_true e)]; exact h
theorem c_decF {p : Prop} [Decidable p] {A B : Prop} (e : ¬ p) (h : B) : if decide p = true then A else B := by rw [if_neg (fun z => e (of_decide_eq_true z))]; exact h
theorem upd_at {a p : Addr} {o u : Ob} (n : S p = none) (e : S a = some o) : updS S p u a = some o := by
  rw [updS_ne (fun z => by subst z; rw [n] at e; cases e)]; exact e
end
end Z

set_option Elab.async false
set_option linter.all false
set_option maxRecDepth 100000
set_option maxHeartbeats 4000000
namespace Z
open PySem PySem.Spec PyProof.Rows L2
def Off (A : List Addr) (S S' : Sto) : Prop := ∀ b o, b ∉ A → S b = some o → S' b = some o
theorem Off.refl (A : List Addr) (S : Sto) : Off A S S := fun _ _ _ e => e
theorem Off.trans {A : List Addr} {S S' S'' : Sto} (a : Off A S S') (b : Off A S' S'') : Off A S S'' := fun c o h e => b c o h (a c o h e)
theorem Off.upd {A : List Addr} {S : Sto} {a : Addr} {o : Ob} (h : a ∈ A) : Off A S (updS S a o) := fun b u hb e => by
  rw [updS_ne (fun z => hb (by rw [z]; exact h))]; exact e
theorem Off.new {A : List Addr} {S : Sto} {p : Addr} {o : Ob} (h : S p = none) : Off A S (updS S p o) := fun b u hb e => upd_at h e
theorem Off.mono {A B : List Addr} {S S' : Sto} (h : Off A S S') (s : ∀ x ∈ A, x ∈ B) : Off B S S' := fun b o hb e => h b o (fun z => hb (s b z)) e
theorem Off.drop {A : List Addr} {p : Addr} {S S' : Sto} (h : Off (p :: A) S S') (n : S p = none) : Off A S S' := fun b o hb e => h b o (fun z => by
  rcases List.mem_cons.mp z with z | z
  · subst z; rw [n] at e; cases e
  · exact hb z) e
def Flow (S : Sto) (a : Addr) : Prop := ∃ x y z : Int, S a = some (.lst [.int x, .int y, .int z]) ∧ -(2 ^ 64) < z ∧ z < 2 ^ 64
theorem Flow.off {S S' : Sto} {a : Addr} {A : List Addr} (f : Flow S a) (h : Off A S S') (n : a ∉ A) : Flow S' a := let ⟨x, y, z, e, r⟩ := f; ⟨x, y, z, h a _ n e, r⟩
section
variable {defs : Str → Option DefT} {gl : Str → Option D} {k : Nat} {S : Sto} {Q : D → Sto → Prop} {E : Exc → Sto → Prop}
theorem sem_of {f : Str} {d : DefT} {ds : List D} (hd : defs f = some d) (hl : ds.length = d.np) (h : wpSs ⟨sem defs gl k, gl⟩ (fun x _ S' => E x S') d.body ⟨fun _ S' => Q .non S', Q, fun _ _ => False, fun _ _ => False⟩ (startD d.ns ds) S) : sem defs gl (k + 1) f ds S Q E := by
  unfold sem; rw [hd]; exact ⟨hl, h⟩
theorem lc_ind {turn : D → Sto → (Option D → Sto → Prop) → Prop} {G : Sto → Prop} {Q : D → Sto → Prop} (I : List D → List D → Sto → Prop) (hg : ∀ r acc S, I r acc S → G S)
    (hend : ∀ acc S, I [] acc S → ∀ p, S p = none → Q (.ref p) (updS S p (.lst acc)))
    (hstep : ∀ d r acc S (K : Option D → Sto → Prop), I (d :: r) acc S → (∀ v S', I r (acc ++ [v]) S' → K (some v) S') → (∀ S', I r acc S' → K none S') → acc.length < sizeLine ∧ turn d S K) :
    ∀ (ds acc : List D) (S : Sto), I ds acc S → lcL turn G Q ds acc S
  | [], acc, S, h => ⟨hg _ _ _ h, hend acc S h⟩
  | d :: ds, acc, S, h => by
    obtain ⟨h1, h2⟩ := hstep d ds acc S (fun o S' => match o with | some v => lcL turn G Q ds (acc ++ [v]) S' | none => lcL turn G Q ds acc S') h (fun v S' hi => lc_ind I hg hend hstep ds _ S' hi) fun S' hi => lc_ind I hg hend hstep ds _ S' hi
    exact ⟨hg _ _ _ h, h1, h2⟩
theorem for_ind {turn : D → (StD → Sto → Prop) → StD → Sto → Prop} {G : Sto → Prop} {F : StD → Sto → Prop} (I : List D → StD → Sto → Prop) (hg : ∀ r σ S, I r σ S → G S) (hend : ∀ σ S, I [] σ S → F σ S)
    (hstep : ∀ d r σ S (N : StD → Sto → Prop), I (d :: r) σ S → (∀ σ' S', I r σ' S' → N σ' S') → turn d N σ S) : ∀ (ds : List D) (σ : StD) (S : Sto), I ds σ S → forL turn G F ds σ S
  | [], σ, S, h => ⟨hg _ _ _ h, hend σ S h⟩
  | d :: ds, σ, S, h => ⟨hg _ _ _ h, hstep d ds σ S _ h fun σ' S' hi => for_ind I hg hend hstep ds σ' S' hi⟩
theorem atI_nat {α : Type} {xs : List α} {i : Nat} {v : α} (h : xs[i]? = some v) : atI xs (i : Int) = some v := by
  have hi : i < xs.length := by
    by_cases z : i < xs.length
    · exact z
    · rw [List.getElem?_eq_none (by omega)] at h; cases h
  unfold atI ixN
  rw [if_pos (by omega)]
  simpa [hi] using h
theorem atI_ints {ns : List Int} {i : Int} (h0 : 0 ≤ i) (h1 : i < ns.length) : ∃ z, atI (ns.map D.int) i = some (.int z) := by
  obtain ⟨n, rfl⟩ := Int.eq_ofNat_of_zero_le h0
  have hn : n < ns.length := by omega
  exact ⟨ns[n], atI_nat (by rw [List.getElem?_map, List.getElem?_eq_getElem hn]; rfl)⟩
local macro_rules | `(tactic| fail) => `(tactic| refine ⟨Nat.le_of_ble_eq_true rfl, ?_⟩)
local macro_rules | `(tactic| fail) => `(tactic| with_reducible refine ⟨_, rfl, ?_⟩)
local macro_rules | `(tactic| fail) => `(tactic| ((with_reducible apply o_sliceT); (focus rfl)))
local macro_rules | `(tactic| fail) => `(tactic| ((with_reducible apply o_inTf); (focus rfl); (focus rfl); (focus (simp [inF, eqF, str_beq]; done))))
local macro_rules | `(tactic| fail) => `(tactic| ((with_reducible apply o_inTt); (focus rfl); (focus rfl); (focus (simp [inF, eqF, str_beq]; done))))
local macro_rules | `(tactic| fail) => `(tactic| ((with_reducible apply o_subC); (focus (repeat (first | with_reducible exact lk_hit | ((with_reducible apply lk_miss); (focus (exact str_ne (by decide)))))))))
local macro_rules | `(tactic| fail) => `(tactic| ((with_reducible apply o_inC); (focus (repeat (first | with_reducible exact lk_hit | ((with_reducible apply lk_miss); (focus (exact str_ne (by decide)))))))))
local macro_rules | `(tactic| fail) => `(tactic| ((with_reducible apply o_ninC); (focus (repeat (first | with_reducible exact lk_hit | ((with_reducible apply lk_miss); (focus (exact str_ne (by decide)))))))))
local macro_rules | `(tactic| fail) => `(tactic| ((with_reducible apply o_isinF); (focus rfl); (focus (decide +kernel))))
local macro_rules | `(tactic| fail) => `(tactic| ((with_reducible apply o_isinT); (focus rfl); (focus (decide +kernel))))
local macro_rules | `(tactic| fail) => `(tactic| with_reducible refine i_enm ?_)
local macro_rules | `(tactic| fail) => `(tactic| ((with_reducible apply g_tup); (focus rfl); (focus rfl)))
local macro_rules | `(tactic| fail) => `(tactic| ((with_reducible apply v_dctN); (focus (decide +kernel))))
local macro_rules | `(tactic| fail) => `(tactic| ((with_reducible apply o_len); (focus (exact len_ref (by (first | assumption | exact updS_same | exact upd_at (by assumption) (by assumption)))))))
local macro_rules | `(tactic| fail) => `(tactic| ((with_reducible apply o_tuple); (focus (first | rfl | exact items_ref (by (first | assumption | exact updS_same | exact upd_at (by assumption) (by assumption)))))))
local macro_rules | `(tactic| fail) => `(tactic| ((with_reducible apply o_get2); (focus (first | assumption | exact updS_same | exact upd_at (by assumption) (by assumption))); (focus rfl); (focus (repeat (first | with_reducible exact getD_hit | with_reducible exact getD_nil | ((with_reducible apply getD_miss); (focus (exact str_ne (by decide)))))))))
local macro_rules | `(tactic| fail) => `(tactic| ((with_reducible apply o_get1); (focus (first | assumption | exact updS_same | exact upd_at (by assumption) (by assumption))); (focus rfl); (focus (repeat (first | with_reducible exact getD_hit | with_reducible exact getD_nil | ((with_reducible apply getD_miss); (focus (exact str_ne (by decide)))))))))
local macro_rules | `(tactic| fail) => `(tactic| (refine And.intro ?_ ?_; (focus (first | exact recvL (by (first | assumption | exact updS_same | exact upd_at (by assumption) (by assumption))) rfl | exact recvD (by (first | assumption | exact updS_same | exact upd_at (by assumption) (by assumption))) rfl))))
local macro_rules | `(tactic| fail) => `(tactic| ((with_reducible apply o_subD); (focus (first | assumption | exact updS_same | exact upd_at (by assumption) (by assumption))); (focus rfl); (focus (repeat (first | with_reducible exact lookD_hit | ((with_reducible apply look_miss); (focus (exact str_ne (by decide)))))))))
local macro_rules | `(tactic| fail) => `(tactic| ((with_reducible apply c_ndF); (focus (((try simp only [List.length_cons, List.length_nil, List.length_append, List.length_map]); omega)))))
local macro_rules | `(tactic| fail) => `(tactic| ((with_reducible apply c_ndT); (focus (((try simp only [List.length_cons, List.length_nil, List.length_append, List.length_map]); omega)))))
local macro_rules | `(tactic| fail) => `(tactic| with_reducible refine o_intB ?_)
local macro_rules | `(tactic| fail) => `(tactic| ((with_reducible apply c_decF); (focus (((try simp only [List.length_cons, List.length_nil, List.length_append, List.length_map]); omega)))))
local macro_rules | `(tactic| fail) => `(tactic| ((with_reducible apply c_decT); (focus (((try simp only [List.length_cons, List.length_nil, List.length_append, List.length_map]); omega)))))
local macro_rules | `(tactic| fail) => `(tactic| with_reducible refine c_notf ?_)
local macro_rules | `(tactic| fail) => `(tactic| with_reducible refine c_nott ?_)
local macro_rules | `(tactic| fail) => `(tactic| with_reducible refine o_eqI ?_)
local macro_rules | `(tactic| fail) => `(tactic| ((with_reducible apply o_eqIf); (focus (((try simp only [List.length_cons, List.length_nil, List.length_append, List.length_map]); omega)))))
local macro_rules | `(tactic| fail) => `(tactic| ((with_reducible apply o_eqIt); (focus (((try simp only [List.length_cons, List.length_nil, List.length_append, List.length_map]); omega)))))
local macro_rules | `(tactic| fail) => `(tactic| with_reducible refine o_isB ?_)
local macro_rules | `(tactic| fail) => `(tactic| with_reducible refine o_isN ?_)
local macro_rules | `(tactic| fail) => `(tactic| with_reducible refine o_isR ?_)
local macro_rules | `(tactic| fail) => `(tactic| with_reducible refine o_eqB ?_)
local macro_rules | `(tactic| fail) => `(tactic| with_reducible refine o_neII ?_)
local macro_rules | `(tactic| fail) => `(tactic| with_reducible refine o_neBB ?_)
local macro_rules | `(tactic| fail) => `(tactic| ((with_reducible apply o_eqSf); (focus decide)))
local macro_rules | `(tactic| fail) => `(tactic| with_reducible refine o_eqSt ?_)
local macro_rules | `(tactic| fail) => `(tactic| ((with_reducible apply o_len); focus (first | rfl | (simp only [lenD]; simp only [*]; done))))
local macro_rules | `(tactic| fail) => `(tactic| ((with_reducible apply o_setL); (focus (first | assumption | exact updS_same | exact upd_at (by assumption) (by assumption))); (focus rfl)))
local macro_rules | `(tactic| fail) => `(tactic| ((with_reducible apply o_subT); focus (rfl)))
local macro_rules | `(tactic| fail) => `(tactic| ((with_reducible apply o_subL); (focus (first | assumption | exact updS_same | exact upd_at (by assumption) (by assumption))); (focus rfl)))
local macro_rules | `(tactic| fail) => `(tactic| ((with_reducible apply o_pow); focus (unfold CPow; omega)))
local macro_rules | `(tactic| fail) => `(tactic| ((with_reducible apply o_mod); focus (omega)))
local macro_rules | `(tactic| fail) => `(tactic| ((with_reducible apply o_div); focus (unfold CDiv; omega)))
local macro_rules | `(tactic| fail) => `(tactic| ((with_reducible apply o_mul); focus (unfold CMul; omega)))
local macro_rules | `(tactic| fail) => `(tactic| ((with_reducible apply v_glob); focus (first | assumption | rfl)))
local macro_rules | `(tactic| fail) => `(tactic| ((with_reducible apply t_var); focus (rfl)))
local macro_rules | `(tactic| fail) => `(tactic| ((with_reducible apply v_var); focus (rfl)))
local macro_rules | `(tactic| fail) => `(tactic| with_reducible refine c_false ?_)
local macro_rules | `(tactic| fail) => `(tactic| with_reducible refine c_true ?_)
local macro_rules | `(tactic| fail) => `(tactic| with_reducible refine o_ge ?_)
local macro_rules | `(tactic| fail) => `(tactic| with_reducible refine o_gt ?_)
local macro_rules | `(tactic| fail) => `(tactic| with_reducible refine o_le ?_)
local macro_rules | `(tactic| fail) => `(tactic| with_reducible refine o_lt ?_)
local macro_rules | `(tactic| fail) => `(tactic| with_reducible refine o_sub ?_)
local macro_rules | `(tactic| fail) => `(tactic| with_reducible refine o_add ?_)
local macro_rules | `(tactic| fail) => `(tactic| with_reducible refine i_rng1 ?_)
local macro_rules | `(tactic| fail) => `(tactic| with_reducible refine i_seq ?_)
local macro_rules | `(tactic| fail) => `(tactic| with_reducible refine g_cons ?_)
local macro_rules | `(tactic| fail) => `(tactic| with_reducible refine g_nil ?_)
local macro_rules | `(tactic| fail) => `(tactic| with_reducible refine g_nm ?_)
local macro_rules | `(tactic| fail) => `(tactic| with_reducible refine ts_one ?_)
local macro_rules | `(tactic| fail) => `(tactic| with_reducible refine ts_nil ?_)
local macro_rules | `(tactic| fail) => `(tactic| with_reducible refine tr_int ?_)
local macro_rules | `(tactic| fail) => `(tactic| with_reducible refine tr_bl ?_)
local macro_rules | `(tactic| fail) => `(tactic| with_reducible refine tb_or ?_)
local macro_rules | `(tactic| fail) => `(tactic| with_reducible refine tb_and ?_)
local macro_rules | `(tactic| fail) => `(tactic| with_reducible refine tb_one ?_)
local macro_rules | `(tactic| fail) => `(tactic| with_reducible refine t_chain ?_)
local macro_rules | `(tactic| fail) => `(tactic| with_reducible refine t_sub ?_)
local macro_rules | `(tactic| fail) => `(tactic| with_reducible refine t_blt ?_)
local macro_rules | `(tactic| fail) => `(tactic| with_reducible refine t_call ?_)
local macro_rules | `(tactic| fail) => `(tactic| with_reducible refine t_cmp ?_)
local macro_rules | `(tactic| fail) => `(tactic| with_reducible refine t_nt ?_)
local macro_rules | `(tactic| fail) => `(tactic| with_reducible refine t_bop ?_)
local macro_rules | `(tactic| fail) => `(tactic| with_reducible refine vb_or ?_)
local macro_rules | `(tactic| fail) => `(tactic| with_reducible refine vb_and ?_)
local macro_rules | `(tactic| fail) => `(tactic| with_reducible refine vb_one ?_)
local macro_rules | `(tactic| fail) => `(tactic| with_reducible refine vo_some ?_)
local macro_rules | `(tactic| fail) => `(tactic| with_reducible refine vo_none ?_)
local macro_rules | `(tactic| fail) => `(tactic| with_reducible refine vs_cons ?_)
local macro_rules | `(tactic| fail) => `(tactic| with_reducible refine vs_nil ?_)
local macro_rules | `(tactic| fail) => `(tactic| with_reducible refine v_lc ?_)
local macro_rules | `(tactic| fail) => `(tactic| with_reducible refine v_mth ?_)
local macro_rules | `(tactic| fail) => `(tactic| with_reducible refine v_lzip ?_)
local macro_rules | `(tactic| fail) => `(tactic| with_reducible refine v_lrev ?_)
local macro_rules | `(tactic| fail) => `(tactic| with_reducible refine v_blt ?_)
local macro_rules | `(tactic| fail) => `(tactic| with_reducible refine v_call ?_)
local macro_rules | `(tactic| fail) => `(tactic| with_reducible refine v_slice ?_)
local macro_rules | `(tactic| fail) => `(tactic| with_reducible refine v_sub ?_)
local macro_rules | `(tactic| fail) => `(tactic| with_reducible refine v_lst ?_)
local macro_rules | `(tactic| fail) => `(tactic| with_reducible refine v_tup ?_)
local macro_rules | `(tactic| fail) => `(tactic| with_reducible refine v_ite ?_)
local macro_rules | `(tactic| fail) => `(tactic| with_reducible refine v_nt ?_)
local macro_rules | `(tactic| fail) => `(tactic| with_reducible refine v_bop ?_)
local macro_rules | `(tactic| fail) => `(tactic| with_reducible refine v_cmp ?_)
local macro_rules | `(tactic| fail) => `(tactic| with_reducible refine v_bin ?_)
local macro_rules | `(tactic| fail) => `(tactic| with_reducible refine v_bty ?_)
local macro_rules | `(tactic| fail) => `(tactic| with_reducible refine v_str ?_)
local macro_rules | `(tactic| fail) => `(tactic| with_reducible refine v_non ?_)
local macro_rules | `(tactic| fail) => `(tactic| with_reducible refine v_bl ?_)
local macro_rules | `(tactic| fail) => `(tactic| with_reducible refine v_int ?_)
local macro_rules | `(tactic| fail) => `(tactic| with_reducible refine s_cont ?_)
local macro_rules | `(tactic| fail) => `(tactic| with_reducible refine s_brk ?_)
local macro_rules | `(tactic| fail) => `(tactic| with_reducible refine s_nil ?_)
local macro_rules | `(tactic| fail) => `(tactic| with_reducible refine s_pass ?_)
local macro_rules | `(tactic| fail) => `(tactic| with_reducible refine s_retN ?_)
local macro_rules | `(tactic| fail) => `(tactic| with_reducible refine s_ret ?_)
local macro_rules | `(tactic| fail) => `(tactic| with_reducible refine s_ife ?_)
local macro_rules | `(tactic| fail) => `(tactic| with_reducible refine s_set ?_)
local macro_rules | `(tactic| fail) => `(tactic| with_reducible refine s_par ?_)
local macro_rules | `(tactic| fail) => `(tactic| with_reducible refine s_asg ?_)
local macro_rules | `(tactic| fail) => `(tactic| with_reducible refine s_ex ?_)

theorem spec_cell (hd : defs "_law_cell" = some dLCell) {ns : List Int} {i : Int} (hk : 1 ≤ k) (hi : 0 ≤ i ∧ i < 1000) (hl : ns.length ≤ 63) (hq : ∀ r, Q (.int r) S) : sem defs gl k "_law_cell" [.kl (ns.map D.int), .int i] S Q E := by
  obtain ⟨k, rfl⟩ : ∃ j, k = j + 1 := ⟨k - 1, by omega⟩
  have h3 : (ns.map D.int).length = ns.length := List.length_map _
  (refine sem_of hd rfl ?_; unfold dLCell; simp only [startD, List.map_cons, List.map_nil, List.length_cons, List.length_nil, List.replicate_succ, List.replicate_zero, List.cons_append, List.nil_append, Nat.reduceAdd, Nat.reduceSub])
  (repeat fail)
  refine c_dec (fun h => ?_) (fun h => ?_)
  · rw [h3] at h
    obtain ⟨z, hz⟩ := atI_ints hi.1 h
    (repeat fail)
    exact o_subK hz (hq _)
  · (repeat fail)
    refine c_dec (fun h2 => ?_) (fun h2 => ?_)
    · obtain ⟨z, hz⟩ := atI_ints (ns := ns) (i := i * 7 % ((ns.map D.int).length : Int)) (Int.emod_nonneg _ (by omega)) (by rw [← h3]; exact Int.emod_lt_of_pos _ h2)
      (repeat fail)
      refine o_subK hz ?_
      (repeat fail)
      exact hq _
    · (repeat fail)
      exact hq _
end
end Z

set_option Elab.async false
set_option linter.all false
set_option maxRecDepth 100000
set_option maxHeartbeats 4000000
namespace Z
open PySem PySem.Spec PyProof.Rows L2
theorem str_eq {a b : String} : (Str.ofString a = Str.ofString b) = (a = b) := by
  apply propext
  refine ⟨fun h => ?_, fun h => by rw [h]⟩
  rw [Str.ofString_eq_toList, Str.ofString_eq_toList] at h
  have h1 : (a.toList.map Char.toNat) = (b.toList.map Char.toNat) := by
    have := congrArg (fun s : Str => s.cps.toList) h
    simpa using this
  have h2 : a.toList = b.toList := (List.map_inj_right (fun x y e => Char.toNat_inj.mp e)).mp h1
  exact String.toList_inj.mp h2
theorem str_ne {a b : String} (h : a ≠ b) : Str.ofString a ≠ Str.ofString b := by rw [ne_eq, str_eq]; exact h
theorem strOk_of (s : String) : PyData.strOk (Str.ofString s) = true := by
  rw [Str.ofString_eq_toList]
  unfold PyData.strOk
  simp only [List.all_toArray, List.all_eq_true, List.mem_map, decide_eq_true_eq]
  rintro x ⟨c, _, rfl⟩
  have := c.valid
  unfold UInt32.isValidChar Nat.isValidChar at this
  show c.val.toNat < _
  omega
theorem shS (s : String) : SeqAt.shaped (.str (Str.ofString s)) = true := by
  unfold SeqAt.shaped
  simp only [PyData.canLay0, PyData.depth, strOk_of, Bool.true_and]
  rfl
theorem shI (i : Int) : SeqAt.shaped (.int i) = true := by
  unfold SeqAt.shaped
  simp only [PyData.canLay0, PyData.depth, Bool.true_and]
  rfl
theorem shB (i : Bool) : SeqAt.shaped (.bool i) = true := by
  unfold SeqAt.shaped
  simp only [PyData.canLay0, PyData.depth, Bool.true_and]
  rfl
section
variable {S : Sto} {Q : D → Sto → Prop}
theorem o_eqSt {x : String} (h : Q (.bl true) S) : wCmp .Eq (.str (Str.ofString x)) (.str (Str.ofString x)) S Q := by
  unfold wCmp wEq; simp only [toPS, toP]
  refine ⟨shS x, shS x, ?_⟩
  simpa [PyData.eqv] using h
theorem o_eqSf {x y : String} (n : x ≠ y) (h : Q (.bl false) S) : wCmp .Eq (.str (Str.ofString x)) (.str (Str.ofString y)) S Q := by
  unfold wCmp wEq; simp only [toPS, toP]
  refine ⟨shS x, shS y, ?_⟩
  have e : PyData.eqv (.str (Str.ofString x)) (.str (Str.ofString y)) = false := by simp only [PyData.eqv]; exact beq_eq_false_iff_ne.mpr (str_ne n)
  rw [e]
  exact h
theorem o_isR {a : Addr} (h : Q (.bl false) S) : wCmp .Is (.ref a) .non S Q := h
theorem o_isN (h : Q (.bl true) S) : wCmp .Is .non .non S Q := h
theorem o_isB {a b : Bool} (h : Q (.bl (decide (a = b))) S) : wCmp .Is (.bl a) (.bl b) S Q := h
theorem lookD_hit {k : Str} {v : D} {r : List (Key × D)} : lookD ((.inr k, v) :: r) (.inr k) = some v := by simp [lookD]
theorem lookD_miss {k j : Str} {v : D} {r : List (Key × D)} (n : k ≠ j) : lookD ((.inr k, v) :: r) (.inr j) = lookD r (.inr j) := by simp [lookD, n]
theorem look_miss {k j : Str} {v : D} {w : Option D} {r : List (Key × D)} (n : k ≠ j) (h : lookD r (.inr j) = w) : lookD ((.inr k, v) :: r) (.inr j) = w := (lookD_miss n).trans h
theorem getD_hit {k : Str} {v u : D} {r : List (Key × D)} : (lookD ((.inr k, v) :: r) (.inr k)).getD u = v := by rw [lookD_hit]; rfl
theorem getD_miss {k j : Str} {v u w : D} {r : List (Key × D)} (n : k ≠ j) (h : (lookD r (.inr j)).getD u = w) : (lookD ((.inr k, v) :: r) (.inr j)).getD u = w := by rw [lookD_miss n]; exact h
theorem getD_nil {j : Key} {u : D} : (lookD [] j).getD u = u := rfl
theorem o_eqI {i j : Int} (h : Q (.bl (decide (i = j))) S) : wCmp .Eq (.int i) (.int j) S Q := by
  unfold wCmp wEq; simp only [toPS, toP]
  refine ⟨shI i, shI j, ?_⟩
  have : PyData.eqv (.int i) (.int j) = decide (i = j) := by simp only [PyData.eqv]; by_cases z : i = j <;> simp [z]
  rw [this]
  exact h
theorem o_eqIt {i j : Int} (e : i = j) (h : Q (.bl true) S) : wCmp .Eq (.int i) (.int j) S Q := o_eqI (by rw [decide_eq_true e]; exact h)
theorem o_eqIf {i j : Int} (e : ¬ i = j) (h : Q (.bl false) S) : wCmp .Eq (.int i) (.int j) S Q := o_eqI (by rw [decide_eq_false e]; exact h)
theorem o_get1 {a : Addr} {kvs : List (Key × D)} {d v : D} {key : Key} (e : S a = some (.dct kvs)) (e1 : keyD d = some key) (e2 : (lookD kvs key).getD .non = v) (h : Q v S) : wMth .get (.ref a) [d] S Q := by
  unfold wMth; simp only [e, e1, e2]; exact h
theorem o_get2 {a : Addr} {kvs : List (Key × D)} {d v u : D} {key : Key} (e : S a = some (.dct kvs)) (e1 : keyD d = some key) (e2 : (lookD kvs key).getD u = v) (h : Q v S) : wMth .get (.ref a) [d, u] S Q := by
  unfold wMth; simp only [e, e1, e2]; exact h
theorem o_append {a : Addr} {xs : List D} {d : D} (e : S a = some (.lst xs)) (l : xs.length < sizeLine) (h : Q .non (updS S a (.lst (xs ++ [d])))) : wMth .append (.ref a) [d] S Q := by
  unfold wMth; simp only [e]; exact ⟨l, h⟩
theorem recvL {m : Me} {a : Addr} {xs : List D} (e : S a = some (.lst xs)) (h : m.ofDict = false) : okRecv m S (.ref a) = true := by unfold okRecv; simp [e, h]
theorem recvD {m : Me} {a : Addr} {xs : List (Key × D)} (e : S a = some (.dct xs)) (h : m.ofDict = true) : okRecv m S (.ref a) = true := by unfold okRecv; simp [e, h]
theorem o_tuple {d : D} {xs : List D} (e : itemsD S d = some xs) (h : Q (.tup xs) S) : wBlt .tuple [d] S Q := by unfold wBlt; simp only [e]; exact h
theorem items_ref {a : Addr} {xs : List D} (e : S a = some (.lst xs)) : itemsD S (.ref a) = some xs := by unfold itemsD; simp only [e]
theorem len_ref {a : Addr} {xs : List D} (e : S a = some (.lst xs)) : lenD S (.ref a) = some xs.length := by unfold lenD; simp only [e]
theorem o_intB {b : Bool} (h : Q (.int (if b then 1 else 0)) S) : wBlt .int [.bl b] S Q := h
end
theorem str_beq {a b : String} : (Str.ofString a == Str.ofString b) = decide (a = b) := by
  by_cases h : a = b
  · subst h; simp
  · rw [beq_eq_false_iff_ne.mpr (str_ne h)]; simp [h]
theorem lk_hit {β : Type} {k : Str} {v : β} {r : List (Str × β)} : List.lookup k ((k, v) :: r) = some v := by simp [List.lookup_cons]
theorem lk_miss {β : Type} {k j : Str} {v : β} {w : Option β} {r : List (Str × β)} (n : j ≠ k) (h : List.lookup k r = w) : List.lookup k ((j, v) :: r) = w := by
  rw [List.lookup_cons, show (k == j) = false from beq_eq_false_iff_ne.mpr (Ne.symm n)]; exact h
section
variable {S : Sto} {Q : D → Sto → Prop}
theorem o_isinst {d : D} {n t : String} {b : Bool} (e : tyD S d = some t) (e2 : kitB t n = some b) (h : Q (.bl b) S) : wBlt .isinst [d, .ty n] S Q := by unfold wBlt; simp only [e, e2]; exact h
theorem o_isinT {d : D} {n t : String} (e : tyD S d = some t) (e2 : kitB t n = some true) (h : Q (.bl true) S) : wBlt .isinst [d, .ty n] S Q := o_isinst e e2 h
theorem o_isinF {d : D} {n t : String} (e : tyD S d = some t) (e2 : kitB t n = some false) (h : Q (.bl false) S) : wBlt .isinst [d, .ty n] S Q := o_isinst e e2 h
theorem o_ninC {z : Str} {kvs : List (Str × Int)} {i : Int} (e : kvs.lookup z = some i) (h : Q (.bl false) S) : wCmp .NotIn (.str z) (.cd kvs) S Q := by unfold wCmp; simp only [e]; exact h
theorem o_inC {z : Str} {kvs : List (Str × Int)} {i : Int} (e : kvs.lookup z = some i) (h : Q (.bl true) S) : wCmp .In (.str z) (.cd kvs) S Q := by unfold wCmp; simp only [e]; exact h
theorem o_inT {x : D} {ys : List D} {b : Bool} (f : flatD x = true) (g : ys.all flatD = true) (e : inF x ys = b) (h : Q (.bl b) S) : wCmp .In x (.tup ys) S Q := by unfold wCmp; simp only [itemsD, e]; exact .inl ⟨f, g, h⟩
theorem o_sliceT {xs ys : List D} {lo hi : Option Int} (e : cutD xs lo hi = ys) (h : Q (.tup ys) S) : wSlice (.tup xs) lo hi S Q := by unfold wSlice; simp only [e]; exact h
theorem o_inTt {x : D} {ys : List D} (f : flatD x = true) (g : ys.all flatD = true) (e : inF x ys = true) (h : Q (.bl true) S) : wCmp .In x (.tup ys) S Q := o_inT f g e h
theorem o_inTf {x : D} {ys : List D} (f : flatD x = true) (g : ys.all flatD = true) (e : inF x ys = false) (h : Q (.bl false) S) : wCmp .In x (.tup ys) S Q := o_inT f g e h
end
theorem c_nd {p : Prop} [Decidable p] {A B : Prop} (h1 : p → B) (h2 : ¬ p → A) : if (!decide p) = true then A else B := by
  by_cases h : p
  · simp only [h, decide_true, Bool.not_true, Bool.false_eq_true, if_false]; exact h1 h
  · simp only [h, decide_false, Bool.not_false, if_true]; exact h2 h
theorem c_ndT {p : Prop} [Decidable p] {A B : Prop} (e : p) (h : B) : if (!decide p) = true then A else B := c_nd (fun _ => h) (fun z => absurd e z)
theorem c_ndF {p : Prop} [Decidable p] {A B : Prop} (e : ¬ p) (h : A) : if (!decide p) = true then A else B := c_nd (fun z => absurd z e) (fun _ => h)
inductive Pg where
  | inp (i : Nat) | num (n : Int) | yes | no | plus (n : Int) (a : Pg) | least (a b : Pg) | most (a b : Pg) | atmost (a b : Pg) | not (a : Pg) | both (a b : Pg) | either (a b : Pg) | ife (c a b : Pg)
def Pg.d : Pg → D
  | .inp i => .tup [.str "in", .int i]
  | .num n => .tup [.str "num", .int n]
  | .yes => .tup [.str "yes"]
  | .no => .tup [.str "no"]
  | .plus n a => .tup [.str "plus", .int n, a.d]
  | .least a b => .tup [.str "least", a.d, b.d]
  | .most a b => .tup [.str "most", a.d, b.d]
  | .atmost a b => .tup [.str "atmost", a.d, b.d]
  | .not a => .tup [.str "not", a.d]
  | .both a b => .tup [.str "both", a.d, b.d]
  | .either a b => .tup [.str "either", a.d, b.d]
  | .ife c a b => .tup [.str "if", c.d, a.d, b.d]
def Pg.ok (ks : List Bool) : Bool → Pg → Prop
  | t, .inp i => ks[i]? = some t
  | t, .num _ => t = false
  | t, .yes => t = true
  | t, .no => t = true
  | t, .plus _ a => t = false ∧ a.ok ks false
  | t, .least a b => t = false ∧ a.ok ks false ∧ b.ok ks false
  | t, .most a b => t = false ∧ a.ok ks false ∧ b.ok ks false
  | t, .atmost a b => t = true ∧ a.ok ks false ∧ b.ok ks false
  | t, .not a => t = true ∧ a.ok ks true
  | t, .both a b => t = true ∧ a.ok ks true ∧ b.ok ks true
  | t, .either a b => t = true ∧ a.ok ks true ∧ b.ok ks true
  | t, .ife c a b => c.ok ks true ∧ a.ok ks t ∧ b.ok ks t
def Pg.size : Pg → Nat
  | .inp _ => 1 | .num _ => 1 | .yes => 1 | .no => 1
  | .plus _ a => a.size + 1 | .not a => a.size + 1
  | .least a b => a.size + b.size + 1 | .most a b => a.size + b.size + 1 | .atmost a b => a.size + b.size + 1
  | .both a b => a.size + b.size + 1 | .either a b => a.size + b.size + 1
  | .ife c a b => c.size + a.size + b.size + 1
def Pg.ht : Pg → Nat
  | .inp _ => 1 | .num _ => 1 | .yes => 1 | .no => 1
  | .plus _ a => a.ht + 1 | .not a => a.ht + 1
  | .least a b => max a.ht b.ht + 1 | .most a b => max a.ht b.ht + 1 | .atmost a b => max a.ht b.ht + 1
  | .both a b => max a.ht b.ht + 1 | .either a b => max a.ht b.ht + 1
  | .ife c a b => max c.ht (max a.ht b.ht) + 1
def kS (t : Bool) : Str := if t then "truth" else "num"
def kD (ks : List Bool) : List D := ks.map fun t => .str (kS t)
def World3 (S : Sto) (a : Addr) (ks : List Bool) : Prop := ∃ c i n : Int, S a = some (.dct [(.inr "kinds", .tup (kD ks)), (.inr "cmp", .int c), (.inr "if", .int i), (.inr "any", .int n)])
theorem World3.off {S S' : Sto} {a : Addr} {A : List Addr} {ks : List Bool} (f : World3 S a ks) (h : Off A S S') (n : a ∉ A) : World3 S' a ks := let ⟨x, y, z, e⟩ := f; ⟨x, y, z, h a _ n e⟩
end Z

set_option Elab.async false
set_option linter.all false
set_option maxRecDepth 100000
set_option maxHeartbeats 4000000
namespace Z
open PySem PySem.Spec PyProof.Rows L2
theorem app_ok {a b : Str} (ha : PyData.strOk a = true) (hb : PyData.strOk b = true) : PyData.strOk (a ++ b) = true := by
  unfold PyData.strOk at *
  show (a.cps ++ b.cps).all _ = true
  rw [Array.all_append, ha, hb]
  rfl
theorem app_len {a b : Str} : (a ++ b).length = a.length + b.length := by
  show (a.cps ++ b.cps).size = a.cps.size + b.cps.size
  rw [Array.size_append]
theorem join_ok {sep : Str} (hs : PyData.strOk sep = true) : ∀ {ts : List Str}, (∀ t ∈ ts, PyData.strOk t = true) → PyData.strOk (Str.join sep ts) = true
  | [], _ => by simp [Str.join, Str.empty, PyData.strOk]
  | [x], h => h x (by simp)
  | x :: y :: r, h => app_ok (app_ok (h x (by simp)) hs) (join_ok hs fun t ht => h t (by simp at ht ⊢; exact .inr ht))
theorem join_len {sep : Str} : ∀ {ts : List Str}, (Str.join sep ts).length ≤ (ts.map fun t => t.length + sep.length).sum
  | [] => Nat.zero_le _
  | [x] => by simp [Str.join]
  | x :: y :: r => by
    have ih := join_len (sep := sep) (ts := y :: r)
    have e : (Str.join sep (x :: y :: r)).length = x.length + sep.length + (Str.join sep (y :: r)).length := by
      show ((x ++ sep) ++ Str.join sep (y :: r)).length = _
      rw [app_len, app_len]
    rw [e, List.map_cons, List.sum_cons]
    omega
theorem tuple_ok {ts : List Str} (h : ∀ t ∈ ts, PyData.strOk t = true) : PyData.strOk (tupleText ts) = true := by
  unfold tupleText
  refine app_ok (app_ok (strOk_of "(") (join_ok (strOk_of ", ") h)) ?_
  split
  · exact strOk_of ",)"
  · exact strOk_of ")"
theorem tuple_len {ts : List Str} : (tupleText ts).length ≤ (ts.map fun t => t.length + 2).sum + 3 := by
  unfold tupleText
  have h1 := join_len (sep := ", ") (ts := ts)
  have h2 : (Str.ofString ", ").length = 2 := by decide
  have h3 : (Str.ofString "(").length = 1 := by decide
  rw [h2] at h1
  rw [app_len, app_len, h3]
  split
  · have : (Str.ofString ",)").length = 2 := by decide
    omega
  · have : (Str.ofString ")").length = 1 := by decide
    omega
mutual
/-- data whose texts and numbers are short -/
def shO : PyData → Prop
  | .none => True
  | .bool _ => True
  | .int i => -10000000 ≤ i ∧ i ≤ 10000000
  | .str x => PyData.strOk (reprText x) = true ∧ (reprText x).length ≤ 20 ∧ PyData.strOk x = true
  | .tuple xs => shOs xs
  | _ => False
def shOs : List PyData → Prop
  | [] => True
  | x :: xs => shO x ∧ shOs xs
end
mutual
def nodes : PyData → Nat
  | .tuple xs => nodess xs + 1
  | _ => 1
def nodess : List PyData → Nat
  | [] => 0
  | x :: xs => nodes x + nodess xs
end
theorem log7 {c : Int} (h : -10000000 ≤ c ∧ c ≤ 10000000) : c.natAbs.log2 < 1920 := by
  by_cases h0 : c.natAbs = 0
  · rw [h0]; decide
  · rw [Nat.log2_lt h0]
    have h24 : c.natAbs < 2 ^ 24 := by omega
    exact Nat.lt_of_lt_of_le h24 (Nat.pow_le_pow_right (by decide) (by decide))
theorem int_len {c : Int} (h : -10000000 ≤ c ∧ c ≤ 10000000) : (Str.ofString (toString c)).length ≤ 20 := by
  have h1 := int_text_length_le10 (a := c) (k := 8) (by omega) (by omega)
  have h2 : (Str.ofString (toString c)).length = (toString c).length := by
    first | exact PySem.ofString_length _ | exact PySem.Spec.ofString_length _ | exact PyProof.ofString_length _ | exact ofString_length _
  omega
mutual
theorem sh_all : ∀ p : PyData, shO p → PyData.strOk p.shown = true ∧ p.shown.length + 2 ≤ 30 * nodes p ∧ p.showable = true ∧ p.canLay0 = true
  | .none, _ => ⟨strOk_of "None", by decide, rfl, rfl⟩
  | .bool b, _ => by cases b <;> exact ⟨strOk_of _, by decide, rfl, rfl⟩
  | .int i, h => ⟨strOk_of (toString i), by have := int_len h; show (Str.ofString (toString i)).length + 2 ≤ 30 * 1; omega, decide_eq_true (log7 h), rfl⟩
  | .str x, h => ⟨h.1, by show (reprText x).length + 2 ≤ 30 * 1; have := h.2.1; omega, rfl, by simpa [PyData.canLay0] using h.2.2⟩
  | .tuple xs, h => by
    obtain ⟨h1, h2, h3, h4⟩ := sh_alls xs (by simpa only [shO] using h)
    refine ⟨tuple_ok h1, ?_, by simpa [PyData.showable] using h3, by simpa [PyData.canLay0] using h4⟩
    show (tupleText (PyData.shownAll xs)).length + 2 ≤ 30 * (nodess xs + 1)
    have := tuple_len (ts := PyData.shownAll xs)
    omega
  | .list _, h => by simp [shO] at h
  | .dict _, h => by simp [shO] at h
theorem sh_alls : ∀ ps : List PyData, shOs ps → (∀ t ∈ PyData.shownAll ps, PyData.strOk t = true) ∧ ((PyData.shownAll ps).map fun t => t.length + 2).sum ≤ 30 * nodess ps ∧ PyData.showableAll ps = true ∧ PyData.canLayAll0 ps = true
  | [], _ => ⟨by simp [PyData.shownAll], by simp [PyData.shownAll], rfl, rfl⟩
  | p :: ps, h => by
    simp only [shOs] at h
    obtain ⟨a1, a2, a3, a4⟩ := sh_all p h.1
    obtain ⟨b1, b2, b3, b4⟩ := sh_alls ps h.2
    refine ⟨fun t ht => ?_, ?_, by simp [PyData.showableAll, a3, b3], by simp [PyData.canLayAll0, a4, b4]⟩
    · simp only [PyData.shownAll, List.mem_cons] at ht
      rcases ht with rfl | ht
      · exact a1
      · exact b1 t ht
    · have hn : 1 ≤ nodes p := by cases p <;> simp [nodes]
      simp only [PyData.shownAll, List.map_cons, List.sum_cons, nodess]
      omega
end
section
variable {S : Sto} {Q : D → Sto → Prop}
theorem o_neSJ {b : Str} (hb : PyData.strOk b = true) (h : Q (.bl false) S) : wCmp .NotEq (.str b) (.str b) S Q := by
  have sh : SeqAt.shaped (.str b) = true := by
    unfold SeqAt.shaped
    simp only [PyData.canLay0, hb, Bool.true_and, PyData.depth]
    rfl
  unfold wCmp wEq
  simp only [toPS, toP]
  refine ⟨sh, sh, ?_⟩
  have e : PyData.eqv (.str b) (.str b) = true := by simp [PyData.eqv]
  rw [e]
  exact h
end
end Z

set_option Elab.async false
set_option linter.all false
namespace Z
open PySem PySem.Spec PyProof.Rows L2
def dLFlowB : DefT := ⟨2, 3, [
    .asg (.nm 2) (.blt .abs [(.call "_law_cell" [(.var 0), (.var 1)])]),
    .ret (.lst [(.bin .Mult (.var 2) (.blt .int [(.cmp .GtE (.var 2) (.bin .Pow (.int 10) (.int 18)))])), (.int 0), (.bin .Add (.bin .Mod (.var 2) (.int 2147483629)) (.bin .Mult (.int 40692) (.var 1)))])]⟩
def dLDrawB : DefT := ⟨2, 3, [
    .ife (.cmp .Gt (.sub (.var 0) (.int 0)) (.int 0)) [.asg (.nm 2) (.bin .Mod (.sub (.var 0) (.int 0)) (.var 1)), .set (.var 0) (.int 0) (.bin .FloorDiv (.sub (.var 0) (.int 0)) (.var 1)), .ret (.var 2)] [],
    .set (.var 0) (.int 1) (.bin .Add (.sub (.var 0) (.int 1)) (.int 1)),
    .set (.var 0) (.int 2) (.bin .Mod (.bin .Add (.bin .Add (.bin .Mult (.sub (.var 0) (.int 2)) (.int 48271)) (.int 12820163)) (.sub (.var 0) (.int 1))) (.int 2147483647)),
    .ret (.bin .Mod (.bin .FloorDiv (.sub (.var 0) (.int 2)) (.int 31)) (.var 1))]⟩
def dClosed : DefT := ⟨2, 9, [
    .asg (.nm 2) (.lc (.nm 3) (.rng1 (.bin .Add (.var 0) (.int 1))) [] [("i", 3)] (.lc (.nm 4) (.rng1 (.bin .Add (.var 0) (.int 1))) [] [("j", 4)] .non)),
    .fr (.nm 3) (.rng1 (.bin .Add (.var 0) (.int 1))) [.set (.sub (.var 2) (.var 3)) (.var 3) (.int 0)],
    .fr (.tup [(.nm 3), (.nm 4), (.nm 5)]) (.seq (.var 1)) [.asg (.nm 6) (.sub (.sub (.var 2) (.bin .Add (.var 3) (.int 1))) (.bin .Add (.var 4) (.int 1))), .ife (.bop .Or [(.cmp .Is (.var 6) .non), (.cmp .Lt (.var 5) (.var 6))]) [.set (.sub (.var 2) (.bin .Add (.var 3) (.int 1))) (.bin .Add (.var 4) (.int 1)) (.var 5)] []],
    .fr (.nm 7) (.rng1 (.bin .Add (.var 0) (.int 1))) [.fr (.nm 3) (.rng1 (.bin .Add (.var 0) (.int 1))) [.fr (.nm 4) (.rng1 (.bin .Add (.var 0) (.int 1))) [.ife (.bop .And [(.cmp .IsNot (.sub (.sub (.var 2) (.var 3)) (.var 7)) .non), (.cmp .IsNot (.sub (.sub (.var 2) (.var 7)) (.var 4)) .non)]) [.asg (.nm 8) (.bin .Add (.sub (.sub (.var 2) (.var 3)) (.var 7)) (.sub (.sub (.var 2) (.var 7)) (.var 4))), .ife (.bop .Or [(.cmp .Is (.sub (.sub (.var 2) (.var 3)) (.var 4)) .non), (.cmp .Lt (.var 8) (.sub (.sub (.var 2) (.var 3)) (.var 4)))]) [.set (.sub (.var 2) (.var 3)) (.var 4) (.var 8)] []] []]]],
    .ret (.var 2)]⟩
def dBoundsInit : DefT := ⟨3, 6, [
    .setf (.var 0) "many" (.var 1),
    .setf (.var 0) "given" (.blt .tuple [(.lc (.tup [(.nm 3), (.nm 4), (.nm 5)]) (.seq (.var 2)) [] [("i", 3), ("j", 4), ("c", 5)] (.tup [(.var 3), (.var 4), (.var 5)]))]),
    .setf (.var 0) "sums" (.call "closed" [(.var 1), (.fld (.var 0) "given")])]⟩
def dLRows : DefT := ⟨4, 8, [
    .asg (.nm 4) (.lst []),
    .fr (.nm 5) (.rng1 (.call "_law_draw" [(.var 0), (.bin .Add (.var 2) (.int 1))])) [.par 6 7 (.bin .Sub (.call "_law_draw" [(.var 0), (.bin .Add (.var 1) (.int 1))]) (.int 1)) (.bin .Sub (.call "_law_draw" [(.var 0), (.bin .Add (.var 1) (.int 1))]) (.int 1)), .ife (.bop .And [(.cmp .Gt (.call "_law_draw" [(.var 0), (.int 8)]) (.int 0)), (.cmp .Gt (.var 1) (.int 0))]) [.asg (.nm 7) (.bin .Sub (.bin .Mod (.bin .Add (.bin .Add (.var 6) (.int 2)) (.call "_law_draw" [(.var 0), (.var 1)])) (.bin .Add (.var 1) (.int 1))) (.int 1))] [], .ex (.mth .append (.var 4) [(.tup [(.var 6), (.var 7), (.blt .min [(.var 3), (.bin .Sub (.call "_law_draw" [(.var 0), (.bin .Add (.bin .Mult (.int 2) (.var 3)) (.int 1))]) (.sub (.lst [(.var 3), (.bin .FloorDiv (.var 3) (.int 2))]) (.call "_law_draw" [(.var 0), (.int 2)])))])])])],
    .ret (.var 4)]⟩
def dLKeeps : DefT := ⟨2, 6, [
    .asg (.nm 2) (.bin .Add (.blt .list [(.var 1)]) (.lst [(.int 0)])),
    .ret (.cmp .Eq (.lc (.tup [(.nm 3), (.nm 4), (.nm 5)]) (.seq (.var 0)) [(.cmp .Gt (.sub (.var 2) (.var 3)) (.bin .Add (.sub (.var 2) (.var 4)) (.var 5)))] [("_law_i", 3), ("_law_j", 4), ("_law_c", 5)] (.int 1)) (.lst []))]⟩
def dBoundsAlso : DefT := ⟨4, 4, [
    .ret (.new "Bounds.__init__" "Bounds" [(.fld (.var 0) "many"), (.bin .Add (.fld (.var 0) "given") (.tup [(.tup [(.var 1), (.var 2), (.var 3)])]))])]⟩
def dBoundsRows : DefT := ⟨1, 1, [
    .ret (.fld (.var 0) "given")]⟩
end Z

set_option Elab.async false
set_option linter.all false
set_option maxRecDepth 100000
set_option maxHeartbeats 400000
namespace Z
open PySem PySem.Spec PyProof.Rows L2
section
variable {C : Cw} {ex : EX} {σ : StD} {S : Sto} {Q : D → Sto → Prop} {B : Bool → Sto → Prop} {D' : EndD} {ss : List TS}
theorem v_fld {a : T} {f : Str} (h : wpE C ex a σ S fun x S1 => wFld f x S1 Q) : wpE C ex (.fld a f) σ S Q := by unfold wpE; exact h
theorem v_new {q c : Str} {ts : List T} (h : wpEs C ex ts σ S fun ds S1 => ∀ x, S1 x = none → C.cal q (.ref x :: (ds ++ padT q ts.length)) (updS S1 x (.ins c [])) (fun v S2 => v = .non ∧ Q (.ref x) S2) fun xx S2 => ex xx σ S2) : wpE C ex (.new q c ts) σ S Q := by unfold wpE; exact h
theorem v_meth {q c m : Str} {a : T} {ts : List T} (h : wpE C ex a σ S fun x S1 => okSelf c m S1 x = true ∧ wpEs C ex ts σ S1 fun ds S2 => C.cal q (x :: ds) S2 Q fun xx S3 => ex xx σ S3) : wpE C ex (.meth q c m a ts) σ S Q := by unfold wpE; exact h
theorem t_meth {q c m : Str} {a : T} {ts : List T} (h : wpE C ex a σ S fun x S1 => okSelf c m S1 x = true ∧ wpEs C ex ts σ S1 fun ds S2 => C.cal q (x :: ds) S2 (fun d S3 => TrD S3 d B) fun xx S3 => ex xx σ S3) : wpT C ex (.meth q c m a ts) σ S B := by
  unfold wpT
  have e : (fun (d : D) (S3 : Sto) => TrD S3 d B) = fun d S3 => (match tru S3 d with | some k => B k S3 | none => False) := by
    funext d S3
    unfold TrD
    apply propext
    constructor
    · rintro ⟨k, e, h⟩; rw [e]; exact h
    · intro h
      split at h
      · rename_i k e; exact ⟨k, e, h⟩
      · exact h.elim
  simp only [e] at h
  exact h
theorem v_isc {a : T} {m : Str} (h : wpE C ex a σ S fun x S1 => isIns m S1 x = true ∧ Q (.bl true) S1) : wpE C ex (.isc a m) σ S Q := by unfold wpE; exact h
theorem t_isc {a : T} {m : Str} (h : wpE C ex a σ S fun x S1 => isIns m S1 x = true ∧ B true S1) : wpT C ex (.isc a m) σ S B := by unfold wpT; exact h
theorem v_eqo {q c : Str} {a b : T} (h : wpE C ex a σ S fun x S1 => wpE C ex b σ S1 fun y S2 => isIns c S2 x = true ∧ isIns c S2 y = true ∧ C.cal q [x, y] S2 (fun d S3 => ∃ k, d = .bl k ∧ Q (.bl k) S3) fun xx S3 => ex xx σ S3) : wpE C ex (.eqo q c a b) σ S Q := by unfold wpE; exact h
theorem s_setf {a e : T} {f : Str} (h : wpE C ex e σ S fun v S1 => wpE C ex a σ S1 fun o S2 => wSetf f o v S2 fun S3 => wpSs C ex ss D' σ S3) : wpSs C ex (.setf a f e :: ss) D' σ S := by unfold wpSs wpS; exact h
theorem o_fld {a : Addr} {c f : Str} {fs : List (Str × D)} {v : D} (e : S a = some (.ins c fs)) (l : fs.lookup f = some v) (h : Q v S) : wFld f (.ref a) S Q := by unfold wFld; simp only [e, l]; exact h
theorem o_setf {a : Addr} {c f : Str} {fs : List (Str × D)} {v : D} {R : Sto → Prop} (e : S a = some (.ins c fs)) (hl : fs.length < 100) (h : R (updS S a (.ins c (putFD f v fs)))) : wSetf f (.ref a) v S R := by unfold wSetf; simp only [e]; exact ⟨hl, h⟩
theorem selfOk {a : Addr} {c m : Str} {fs : List (Str × D)} (e : S a = some (.ins c fs)) (h : (fs.lookup m).isNone = true) : okSelf c m S (.ref a) = true := by unfold okSelf; simp [e, h]
theorem insOk {a : Addr} {c : Str} {fs : List (Str × D)} (e : S a = some (.ins c fs)) : isIns c S (.ref a) = true := by unfold isIns; simp [e]
end
end Z

set_option Elab.async false
set_option linter.all false
set_option maxRecDepth 100000
set_option maxHeartbeats 4000000
namespace Z
open PySem PySem.Spec PyProof.Rows L2
abbrev Row := Int × Int × Int
def rowD (r : Row) : D := .tup [.int r.1, .int r.2.1, .int r.2.2]
def RowOk (n f : Int) (r : Row) : Prop := -1 ≤ r.1 ∧ r.1 < n ∧ -1 ≤ r.2.1 ∧ r.2.1 < n ∧ -f ≤ r.2.2 ∧ r.2.2 ≤ f
theorem mem_rng {n : Nat} {d : D} (h : d ∈ (List.range n).map fun i => D.int (i : Nat)) : ∃ i : Nat, d = .int i ∧ i < n := by
  obtain ⟨i, hi, rfl⟩ := List.mem_map.mp h
  exact ⟨i, rfl, List.mem_range.mp hi⟩
theorem Flow.newB {S : Sto} {a p : Addr} {o : Ob} (f : Flow S a) (h : S p = none) : Flow (updS S p o) a := let ⟨x, y, z, e, r⟩ := f; ⟨x, y, z, upd_at h e, r⟩
theorem Flow.setB {S : Sto} {a p : Addr} {o : Ob} (f : Flow S a) (h : a ≠ p) : Flow (updS S p o) a := let ⟨x, y, z, e, r⟩ := f; ⟨x, y, z, by rw [updS_ne h]; exact e, r⟩
section
variable {defs : Str → Option DefT} {gl : Str → Option D} {k : Nat} {S : Sto} {Q : D → Sto → Prop} {E : Exc → Sto → Prop}
theorem o_abs {i : Int} (h : Q (.int (if i < 0 then -i else i)) S) : wBlt .abs [.int i] S Q := h
theorem o_min2 {i j : Int} (h : ∀ c, (c = i ∨ c = j) → c ≤ i → c ≤ j → Q (.int c) S) : wBlt .min [.int i, .int j] S Q := by
  have : Q (.int (if j < i then j else i)) S := by
    split
    · exact h _ (.inr rfl) (by omega) (by omega)
    · exact h _ (.inl rfl) (by omega) (by omega)
  exact this
local macro_rules | `(tactic| fail) => `(tactic| ((with_reducible refine And.intro ?_ ?_); (focus (exact Nat.le_of_ble_eq_true rfl))))
local macro_rules | `(tactic| fail) => `(tactic| with_reducible refine ⟨_, rfl, ?_⟩)
local macro_rules | `(tactic| fail) => `(tactic| ((with_reducible apply o_sliceT); (focus rfl)))
local macro_rules | `(tactic| fail) => `(tactic| ((with_reducible apply o_inTf); (focus rfl); (focus rfl); (focus (simp [inF, eqF, str_beq]; done))))
local macro_rules | `(tactic| fail) => `(tactic| ((with_reducible apply o_inTt); (focus rfl); (focus rfl); (focus (simp [inF, eqF, str_beq]; done))))
local macro_rules | `(tactic| fail) => `(tactic| ((with_reducible apply o_subC); (focus ((repeat (first | with_reducible exact lk_hit | ((with_reducible apply lk_miss); (focus (exact str_ne (by decide)))))); done))))
local macro_rules | `(tactic| fail) => `(tactic| ((with_reducible apply o_inC); (focus ((repeat (first | with_reducible exact lk_hit | ((with_reducible apply lk_miss); (focus (exact str_ne (by decide)))))); done))))
local macro_rules | `(tactic| fail) => `(tactic| ((with_reducible apply o_ninC); (focus ((repeat (first | with_reducible exact lk_hit | ((with_reducible apply lk_miss); (focus (exact str_ne (by decide)))))); done))))
local macro_rules | `(tactic| fail) => `(tactic| ((with_reducible apply o_isinF); (focus rfl); (focus (decide +kernel))))
local macro_rules | `(tactic| fail) => `(tactic| ((with_reducible apply o_isinT); (focus rfl); (focus (decide +kernel))))
local macro_rules | `(tactic| fail) => `(tactic| with_reducible refine i_enm ?_)
local macro_rules | `(tactic| fail) => `(tactic| ((with_reducible apply g_tup); (focus rfl); (focus rfl)))
local macro_rules | `(tactic| fail) => `(tactic| ((with_reducible apply v_dctN); (focus (decide +kernel))))
local macro_rules | `(tactic| fail) => `(tactic| ((with_reducible apply o_len); (focus (exact len_ref (by (first | assumption | exact updS_same | exact upd_at (by assumption) (by assumption)))))))
local macro_rules | `(tactic| fail) => `(tactic| ((with_reducible apply o_tuple); (focus (first | rfl | exact items_ref (by (first | assumption | exact updS_same | exact upd_at (by assumption) (by assumption)))))))
local macro_rules | `(tactic| fail) => `(tactic| ((with_reducible apply o_get2); (focus (first | assumption | exact updS_same | exact upd_at (by assumption) (by assumption))); (focus rfl); (focus ((repeat (first | with_reducible exact getD_hit | with_reducible exact getD_nil | ((with_reducible apply getD_miss); (focus (exact str_ne (by decide)))))); done))))
local macro_rules | `(tactic| fail) => `(tactic| ((with_reducible apply o_get1); (focus (first | assumption | exact updS_same | exact upd_at (by assumption) (by assumption))); (focus rfl); (focus ((repeat (first | with_reducible exact getD_hit | with_reducible exact getD_nil | ((with_reducible apply getD_miss); (focus (exact str_ne (by decide)))))); done))))
local macro_rules | `(tactic| fail) => `(tactic| ((with_reducible refine And.intro ?_ ?_); (focus (first | exact recvL (by (first | assumption | exact updS_same | exact upd_at (by assumption) (by assumption))) rfl | exact recvD (by (first | assumption | exact updS_same | exact upd_at (by assumption) (by assumption))) rfl))))
local macro_rules | `(tactic| fail) => `(tactic| ((with_reducible apply o_subD); (focus (first | assumption | exact updS_same | exact upd_at (by assumption) (by assumption))); (focus rfl); (focus ((repeat (first | with_reducible exact lookD_hit | ((with_reducible apply look_miss); (focus (exact str_ne (by decide)))))); done))))
local macro_rules | `(tactic| fail) => `(tactic| ((with_reducible apply c_ndF); (focus (((try simp only [List.length_cons, List.length_nil, List.length_append, List.length_map]); omega)))))
local macro_rules | `(tactic| fail) => `(tactic| ((with_reducible apply c_ndT); (focus (((try simp only [List.length_cons, List.length_nil, List.length_append, List.length_map]); omega)))))
local macro_rules | `(tactic| fail) => `(tactic| with_reducible refine o_intB ?_)
local macro_rules | `(tactic| fail) => `(tactic| ((with_reducible apply c_decF); (focus (((try simp only [List.length_cons, List.length_nil, List.length_append, List.length_map]); omega)))))
local macro_rules | `(tactic| fail) => `(tactic| ((with_reducible apply c_decT); (focus (((try simp only [List.length_cons, List.length_nil, List.length_append, List.length_map]); omega)))))
local macro_rules | `(tactic| fail) => `(tactic| with_reducible refine c_notf ?_)
local macro_rules | `(tactic| fail) => `(tactic| with_reducible refine c_nott ?_)
local macro_rules | `(tactic| fail) => `(tactic| with_reducible refine o_eqI ?_)
local macro_rules | `(tactic| fail) => `(tactic| ((with_reducible apply o_eqIf); (focus (((try simp only [List.length_cons, List.length_nil, List.length_append, List.length_map]); omega)))))
local macro_rules | `(tactic| fail) => `(tactic| ((with_reducible apply o_eqIt); (focus (((try simp only [List.length_cons, List.length_nil, List.length_append, List.length_map]); omega)))))
local macro_rules | `(tactic| fail) => `(tactic| with_reducible refine o_isB ?_)
local macro_rules | `(tactic| fail) => `(tactic| with_reducible refine o_isN ?_)
local macro_rules | `(tactic| fail) => `(tactic| with_reducible refine o_isR ?_)
local macro_rules | `(tactic| fail) => `(tactic| with_reducible refine o_eqB ?_)
local macro_rules | `(tactic| fail) => `(tactic| ((with_reducible apply o_neIf); (focus (((try simp only [List.length_cons, List.length_nil, List.length_append, List.length_map]); omega)))))
local macro_rules | `(tactic| fail) => `(tactic| ((with_reducible apply o_neIt); (focus (((try simp only [List.length_cons, List.length_nil, List.length_append, List.length_map]); omega)))))
local macro_rules | `(tactic| fail) => `(tactic| with_reducible refine o_neII ?_)
local macro_rules | `(tactic| fail) => `(tactic| with_reducible refine o_neBB ?_)
local macro_rules | `(tactic| fail) => `(tactic| ((with_reducible apply o_eqSf); (focus decide)))
local macro_rules | `(tactic| fail) => `(tactic| ((with_reducible apply o_atr); (focus rfl)))
local macro_rules | `(tactic| fail) => `(tactic| with_reducible refine o_isx ?_)
local macro_rules | `(tactic| fail) => `(tactic| with_reducible refine o_eqSt ?_)
local macro_rules | `(tactic| fail) => `(tactic| ((with_reducible apply o_len); focus (first | rfl | (simp only [lenD]; simp only [*]; done))))
local macro_rules | `(tactic| fail) => `(tactic| ((with_reducible apply o_setL); (focus (first | assumption | exact updS_same | exact upd_at (by assumption) (by assumption))); (focus rfl)))
local macro_rules | `(tactic| fail) => `(tactic| ((with_reducible refine And.intro ?_ ?_); (focus (first | exact selfOk (by (first | assumption | exact updS_same | exact upd_at (by assumption) (by assumption))) rfl | exact insOk (by (first | assumption | exact updS_same | exact upd_at (by assumption) (by assumption)))))))
local macro_rules | `(tactic| fail) => `(tactic| ((with_reducible apply o_setf); (focus (first | assumption | exact updS_same | exact upd_at (by assumption) (by assumption))); (focus (decide))))
local macro_rules | `(tactic| fail) => `(tactic| ((with_reducible apply o_fld); (focus (first | assumption | exact updS_same | exact upd_at (by assumption) (by assumption))); (focus rfl)))
local macro_rules | `(tactic| fail) => `(tactic| ((with_reducible apply o_subT); focus (rfl)))
local macro_rules | `(tactic| fail) => `(tactic| ((with_reducible apply o_subL); (focus (first | assumption | exact updS_same | exact upd_at (by assumption) (by assumption))); (focus rfl)))
local macro_rules | `(tactic| fail) => `(tactic| ((with_reducible apply o_pow); focus (unfold CPow; omega)))
local macro_rules | `(tactic| fail) => `(tactic| ((with_reducible apply o_mod); focus (omega)))
local macro_rules | `(tactic| fail) => `(tactic| ((with_reducible apply o_div); focus (unfold CDiv; omega)))
local macro_rules | `(tactic| fail) => `(tactic| ((with_reducible apply o_mul); focus (unfold CMul; omega)))
local macro_rules | `(tactic| fail) => `(tactic| ((with_reducible apply v_glob); focus (first | assumption | rfl)))
local macro_rules | `(tactic| fail) => `(tactic| ((with_reducible apply t_var); focus (rfl)))
local macro_rules | `(tactic| fail) => `(tactic| ((with_reducible apply v_var); focus (rfl)))
local macro_rules | `(tactic| fail) => `(tactic| with_reducible refine c_false ?_)
local macro_rules | `(tactic| fail) => `(tactic| with_reducible refine c_true ?_)
local macro_rules | `(tactic| fail) => `(tactic| with_reducible refine o_ge ?_)
local macro_rules | `(tactic| fail) => `(tactic| with_reducible refine o_gt ?_)
local macro_rules | `(tactic| fail) => `(tactic| with_reducible refine o_le ?_)
local macro_rules | `(tactic| fail) => `(tactic| with_reducible refine o_lt ?_)
local macro_rules | `(tactic| fail) => `(tactic| with_reducible refine o_sub ?_)
local macro_rules | `(tactic| fail) => `(tactic| with_reducible refine o_add ?_)
local macro_rules | `(tactic| fail) => `(tactic| with_reducible refine o_sub1 ?_)
local macro_rules | `(tactic| fail) => `(tactic| with_reducible refine o_sub0 ?_)
local macro_rules | `(tactic| fail) => `(tactic| with_reducible refine i_rng1 ?_)
local macro_rules | `(tactic| fail) => `(tactic| with_reducible refine i_seq ?_)
local macro_rules | `(tactic| fail) => `(tactic| with_reducible refine g_cons ?_)
local macro_rules | `(tactic| fail) => `(tactic| with_reducible refine g_nil ?_)
local macro_rules | `(tactic| fail) => `(tactic| with_reducible refine g_nm ?_)
local macro_rules | `(tactic| fail) => `(tactic| with_reducible refine ts_one ?_)
local macro_rules | `(tactic| fail) => `(tactic| with_reducible refine ts_nil ?_)
local macro_rules | `(tactic| fail) => `(tactic| with_reducible refine tr_int ?_)
local macro_rules | `(tactic| fail) => `(tactic| with_reducible refine tr_bl ?_)
local macro_rules | `(tactic| fail) => `(tactic| with_reducible refine tb_or ?_)
local macro_rules | `(tactic| fail) => `(tactic| with_reducible refine tb_and ?_)
local macro_rules | `(tactic| fail) => `(tactic| with_reducible refine tb_one ?_)
local macro_rules | `(tactic| fail) => `(tactic| with_reducible refine t_chain ?_)
local macro_rules | `(tactic| fail) => `(tactic| with_reducible refine t_sub ?_)
local macro_rules | `(tactic| fail) => `(tactic| with_reducible refine t_blt ?_)
local macro_rules | `(tactic| fail) => `(tactic| with_reducible refine t_call ?_)
local macro_rules | `(tactic| fail) => `(tactic| with_reducible refine t_cmp ?_)
local macro_rules | `(tactic| fail) => `(tactic| with_reducible refine t_nt ?_)
local macro_rules | `(tactic| fail) => `(tactic| with_reducible refine t_bop ?_)
local macro_rules | `(tactic| fail) => `(tactic| with_reducible refine vb_or ?_)
local macro_rules | `(tactic| fail) => `(tactic| with_reducible refine vb_and ?_)
local macro_rules | `(tactic| fail) => `(tactic| with_reducible refine vb_one ?_)
local macro_rules | `(tactic| fail) => `(tactic| with_reducible refine vo_some ?_)
local macro_rules | `(tactic| fail) => `(tactic| with_reducible refine vo_none ?_)
local macro_rules | `(tactic| fail) => `(tactic| with_reducible refine vs_cons ?_)
local macro_rules | `(tactic| fail) => `(tactic| with_reducible refine vs_nil ?_)
local macro_rules | `(tactic| fail) => `(tactic| with_reducible refine s_try ?_)
local macro_rules | `(tactic| fail) => `(tactic| with_reducible refine s_setf ?_)
local macro_rules | `(tactic| fail) => `(tactic| with_reducible refine v_eqo ?_)
local macro_rules | `(tactic| fail) => `(tactic| with_reducible refine t_isc ?_)
local macro_rules | `(tactic| fail) => `(tactic| with_reducible refine v_isc ?_)
local macro_rules | `(tactic| fail) => `(tactic| with_reducible refine t_meth ?_)
local macro_rules | `(tactic| fail) => `(tactic| with_reducible refine v_meth ?_)
local macro_rules | `(tactic| fail) => `(tactic| with_reducible refine v_new ?_)
local macro_rules | `(tactic| fail) => `(tactic| with_reducible refine v_fld ?_)
local macro_rules | `(tactic| fail) => `(tactic| with_reducible refine v_atr ?_)
local macro_rules | `(tactic| fail) => `(tactic| with_reducible refine v_isx ?_)
local macro_rules | `(tactic| fail) => `(tactic| with_reducible refine v_back ?_)
local macro_rules | `(tactic| fail) => `(tactic| with_reducible refine v_lc ?_)
local macro_rules | `(tactic| fail) => `(tactic| with_reducible refine v_mth ?_)
local macro_rules | `(tactic| fail) => `(tactic| with_reducible refine v_lzip ?_)
local macro_rules | `(tactic| fail) => `(tactic| with_reducible refine v_lrev ?_)
local macro_rules | `(tactic| fail) => `(tactic| with_reducible refine v_blt ?_)
local macro_rules | `(tactic| fail) => `(tactic| with_reducible refine v_call ?_)
local macro_rules | `(tactic| fail) => `(tactic| with_reducible refine v_slice ?_)
local macro_rules | `(tactic| fail) => `(tactic| with_reducible refine v_sub ?_)
local macro_rules | `(tactic| fail) => `(tactic| with_reducible refine v_lst ?_)
local macro_rules | `(tactic| fail) => `(tactic| with_reducible refine v_tup ?_)
local macro_rules | `(tactic| fail) => `(tactic| with_reducible refine v_ite ?_)
local macro_rules | `(tactic| fail) => `(tactic| with_reducible refine v_nt ?_)
local macro_rules | `(tactic| fail) => `(tactic| with_reducible refine v_bop ?_)
local macro_rules | `(tactic| fail) => `(tactic| with_reducible refine v_cmp ?_)
local macro_rules | `(tactic| fail) => `(tactic| with_reducible refine v_bin ?_)
local macro_rules | `(tactic| fail) => `(tactic| with_reducible refine v_bty ?_)
local macro_rules | `(tactic| fail) => `(tactic| with_reducible refine v_str ?_)
local macro_rules | `(tactic| fail) => `(tactic| with_reducible refine v_non ?_)
local macro_rules | `(tactic| fail) => `(tactic| with_reducible refine v_bl ?_)
local macro_rules | `(tactic| fail) => `(tactic| with_reducible refine v_int ?_)
local macro_rules | `(tactic| fail) => `(tactic| with_reducible refine s_cont ?_)
local macro_rules | `(tactic| fail) => `(tactic| with_reducible refine s_brk ?_)
local macro_rules | `(tactic| fail) => `(tactic| with_reducible refine s_nil ?_)
local macro_rules | `(tactic| fail) => `(tactic| with_reducible refine s_pass ?_)
local macro_rules | `(tactic| fail) => `(tactic| with_reducible refine s_retN ?_)
local macro_rules | `(tactic| fail) => `(tactic| with_reducible refine s_ret ?_)
local macro_rules | `(tactic| fail) => `(tactic| with_reducible refine s_ife ?_)
local macro_rules | `(tactic| fail) => `(tactic| with_reducible refine s_set ?_)
local macro_rules | `(tactic| fail) => `(tactic| with_reducible refine s_par ?_)
local macro_rules | `(tactic| fail) => `(tactic| with_reducible refine s_asg ?_)
local macro_rules | `(tactic| fail) => `(tactic| with_reducible refine s_ex ?_)

theorem spec_drawB (hd : defs "_law_draw" = some dLDrawB) {a : Addr} {m : Int} (hk : 1 ≤ k) (hF : Flow S a) (hm : 0 < m ∧ m < 1073741824)
    (hq : ∀ r S', 0 ≤ r → r < m → Flow S' a → Off [a] S S' → Q (.int r) S') : sem defs gl k "_law_draw" [.ref a, .int m] S Q E := by
  obtain ⟨k, rfl⟩ : ∃ j, k = j + 1 := ⟨k - 1, by omega⟩
  obtain ⟨x, y, z, hS, hz1, hz2⟩ := hF
  (refine sem_of hd rfl ?_; unfold dLDrawB; simp only [startD, List.map_cons, List.map_nil, List.length_cons, List.length_nil, List.replicate_succ, List.replicate_zero, List.cons_append, List.nil_append, Nat.reduceAdd, Nat.reduceSub])
  (repeat fail)
  refine c_dec (fun hx => ?_) (fun hx => ?_)
  · (repeat fail)
    refine hq _ _ (Int.emod_nonneg _ (by omega)) (Int.emod_lt_of_pos _ hm.1) ⟨_, _, _, updS_same, hz1, hz2⟩ (Off.upd (by simp))
  · (repeat fail)
    refine hq _ _ (Int.emod_nonneg _ (by omega)) (Int.emod_lt_of_pos _ hm.1) ⟨_, _, _, updS_same, by omega, by omega⟩ ((Off.upd (by simp)).trans (Off.upd (by simp)))
theorem spec_flowB (hd : defs "_law_flow" = some dLFlowB) (hd1 : defs "_law_cell" = some dLCell) {ns : List Int} {i : Int} (hk : 2 ≤ k) (hi : 0 ≤ i ∧ i < 1000) (hl : ns.length ≤ 63)
    (hq : ∀ p S', S p = none → Flow S' p → Off [] S S' → Q (.ref p) S') : sem defs gl k "_law_flow" [.kl (ns.map D.int), .int i] S Q E := by
  obtain ⟨k, rfl⟩ : ∃ j, k = j + 1 := ⟨k - 1, by omega⟩
  (refine sem_of hd rfl ?_; unfold dLFlowB; simp only [startD, List.map_cons, List.map_nil, List.length_cons, List.length_nil, List.replicate_succ, List.replicate_zero, List.cons_append, List.nil_append, Nat.reduceAdd, Nat.reduceSub])
  (repeat fail)
  refine spec_cell hd1 (by omega) hi hl fun r => ?_
  (repeat fail)
  refine o_abs ?_
  generalize (if r < 0 then -r else r) = r'
  (repeat fail)
  intro p hp
  exact hq p _ hp ⟨_, _, _, updS_same, by omega, by omega⟩ (Off.new hp)
theorem spec_lrows (hd : defs "_law_rows" = some dLRows) (hd1 : defs "_law_draw" = some dLDrawB) {a : Addr} {n m f : Int} (hk : 2 ≤ k) (hF : Flow S a) (hn : 0 ≤ n ∧ n ≤ 10) (hm : 0 ≤ m ∧ m ≤ 20) (hf : 0 ≤ f ∧ f ≤ 1000)
    (hq : ∀ p S' (rs : List Row), S p = none → S' p = some (.lst (rs.map rowD)) → (∀ r ∈ rs, RowOk n f r) → (rs.length : Int) ≤ m → Flow S' a → Off [a] S S' → Q (.ref p) S') : sem defs gl k "_law_rows" [.ref a, .int n, .int m, .int f] S Q E := by
  obtain ⟨k, rfl⟩ : ∃ j, k = j + 1 := ⟨k - 1, by omega⟩
  (refine sem_of hd rfl ?_; unfold dLRows; simp only [startD, List.map_cons, List.map_nil, List.length_cons, List.length_nil, List.replicate_succ, List.replicate_zero, List.cons_append, List.nil_append, Nat.reduceAdd, Nat.reduceSub])
  (repeat fail)
  intro fp hfp
  have hpa : fp ≠ a := fun z => by subst z; obtain ⟨_, _, _, e, _⟩ := hF; rw [hfp] at e; cases e
  (repeat fail)
  refine spec_drawB hd1 (by omega) (hF.newB hfp) (by omega) fun r0 S0 h1 h2 F0 o0 => ?_
  refine ⟨by omega, by omega, ?_⟩
  refine for_ind (fun r σ S' => (∀ d ∈ r, ∃ i : Nat, d = .int i) ∧ (∃ rs : List Row, S' fp = some (.lst (rs.map rowD)) ∧ (∀ r ∈ rs, RowOk n f r) ∧ (rs.length : Int) + r.length ≤ m) ∧ Flow S' a ∧ Off [a, fp] S S' ∧ ∃ x5 x6 x7 : Option D, σ = [some (.ref a), some (.int n), some (.int m), some (.int f), some (.ref fp), x5, x6, x7]) (fun _ _ _ _ => trivial) ?_ ?_ _ _ _ ?_
  · rintro σ S' ⟨-, ⟨rs, e, h3, h4⟩, F, o, x5, x6, x7, rfl⟩
    (repeat fail)
    exact hq fp S' rs hfp e h3 (by simpa using h4) F (Off.drop (p := fp) (o.mono (by simp)) hfp)
  · rintro d r σ S' N ⟨hr, ⟨rs, e, h3, h4⟩, F, o, x5, x6, x7, rfl⟩ hN
    obtain ⟨i, rfl⟩ := hr d (by simp)
    (repeat fail)
    refine spec_drawB hd1 (by omega) F (by omega) fun r1 S1 a1 b1 F1 o1 => ?_
    (repeat fail)
    refine spec_drawB hd1 (by omega) F1 (by omega) fun r2 S2 a2 b2 F2 o2 => ?_
    (repeat fail)
    refine spec_drawB hd1 (by omega) F2 (by omega) fun r3 S3 a3 b3 F3 o3 => ?_
    have o123 : Off [a] S' S3 := (o1.trans o2).trans o3
    have e3 : S3 fp = some (.lst (rs.map rowD)) := o123 fp _ (by simpa using hpa) e
    have o3' : Off [a, fp] S S3 := o.trans (o123.mono (by simp))
    (repeat fail)
    refine c_dec (fun g => ?_) (fun g => ?_)
    · (repeat fail)
      refine c_dec (fun g2 => ?_) (fun g2 => ?_)
      · (repeat fail)
        refine spec_drawB hd1 (by omega) F3 (by omega) fun r4 S4 a4 b4 F4 o4 => ?_
        have e4 : S4 fp = some (.lst (rs.map rowD)) := o4 fp _ (by simpa using hpa) e3
        have hj0 := Int.emod_nonneg (r1 - 1 + 2 + r4) (b := n + 1) (by omega)
        have hj1 := Int.emod_lt_of_pos (r1 - 1 + 2 + r4) (b := n + 1) (by omega)
        (repeat fail)
        refine spec_drawB hd1 (by omega) F4 (by omega) fun r5 S5 a5 b5 F5 o5 => ?_
        (repeat fail)
        intro lp hlp
        have hla : lp ≠ a := fun z => by subst z; obtain ⟨_, _, _, e, _⟩ := F5; rw [hlp] at e; cases e
        (repeat fail)
        refine spec_drawB hd1 (by omega) (F5.newB hlp) (by omega) fun r6 S6 a6 b6 F6 o6 => ?_
        have e6 : S6 lp = some (.lst [.int f, .int (f / 2)]) := o6 lp _ (by simpa using hla) updS_same
        have e5 : S5 fp = some (.lst (rs.map rowD)) := o5 fp _ (by simpa using hpa) e4
        have hfl : fp ≠ lp := fun z => by subst z; rw [hlp] at e5; cases e5
        have e7 : S6 fp = some (.lst (rs.map rowD)) := o6 fp _ (by simpa using hpa) (upd_at hlp e5)
        have o7 : Off [a, fp] S S6 := (o3'.trans (o4.mono (by simp))).trans ((o5.mono (by simp)).trans ((Off.new hlp).trans (o6.mono (by simp))))
        have r6c : r6 = 0 ∨ r6 = 1 := by omega
        rcases r6c with rfl | rfl <;> refine o_subL e6 rfl ?_ <;> ((repeat fail); refine o_min2 fun c hc0 hc1 hc2 => ?_; (repeat fail); refine o_append e7 (by rw [sizeLine_eq, List.length_map]; simp only [List.length_cons] at h4; omega) ?_; (repeat fail); refine hN _ _ ⟨fun d hd => hr d (List.mem_cons_of_mem _ hd), ⟨rs ++ [(_, _, _)], by rw [updS_same, List.map_append]; rfl, fun r hr => ?_, by simp only [List.length_append, List.length_cons, List.length_nil] at h4 ⊢; omega⟩, F6.setB (Ne.symm hpa), o7.trans (Off.upd (by simp)), _, _, _, rfl⟩; (rcases List.mem_append.mp hr with hr | hr); (focus (exact h3 r hr)); (focus (obtain rfl := List.mem_singleton.mp hr; unfold RowOk; dsimp only; omega)))
      · (repeat fail)
        (repeat fail)
        refine spec_drawB hd1 (by omega) F3 (by omega) fun r5 S5 a5 b5 F5 o5 => ?_
        (repeat fail)
        intro lp hlp
        have hla : lp ≠ a := fun z => by subst z; obtain ⟨_, _, _, e, _⟩ := F5; rw [hlp] at e; cases e
        (repeat fail)
        refine spec_drawB hd1 (by omega) (F5.newB hlp) (by omega) fun r6 S6 a6 b6 F6 o6 => ?_
        have e6 : S6 lp = some (.lst [.int f, .int (f / 2)]) := o6 lp _ (by simpa using hla) updS_same
        have e5 : S5 fp = some (.lst (rs.map rowD)) := o5 fp _ (by simpa using hpa) e3
        have hfl : fp ≠ lp := fun z => by subst z; rw [hlp] at e5; cases e5
        have e7 : S6 fp = some (.lst (rs.map rowD)) := o6 fp _ (by simpa using hpa) (upd_at hlp e5)
        have o7 : Off [a, fp] S S6 := (o3').trans ((o5.mono (by simp)).trans ((Off.new hlp).trans (o6.mono (by simp))))
        have r6c : r6 = 0 ∨ r6 = 1 := by omega
        rcases r6c with rfl | rfl <;> refine o_subL e6 rfl ?_ <;> ((repeat fail); refine o_min2 fun c hc0 hc1 hc2 => ?_; (repeat fail); refine o_append e7 (by rw [sizeLine_eq, List.length_map]; simp only [List.length_cons] at h4; omega) ?_; (repeat fail); refine hN _ _ ⟨fun d hd => hr d (List.mem_cons_of_mem _ hd), ⟨rs ++ [(_, _, _)], by rw [updS_same, List.map_append]; rfl, fun r hr => ?_, by simp only [List.length_append, List.length_cons, List.length_nil] at h4 ⊢; omega⟩, F6.setB (Ne.symm hpa), o7.trans (Off.upd (by simp)), _, _, _, rfl⟩; (rcases List.mem_append.mp hr with hr | hr); (focus (exact h3 r hr)); (focus (obtain rfl := List.mem_singleton.mp hr; unfold RowOk; dsimp only; omega)))
    · (repeat fail)
      (repeat fail)
      refine spec_drawB hd1 (by omega) F3 (by omega) fun r5 S5 a5 b5 F5 o5 => ?_
      (repeat fail)
      intro lp hlp
      have hla : lp ≠ a := fun z => by subst z; obtain ⟨_, _, _, e, _⟩ := F5; rw [hlp] at e; cases e
      (repeat fail)
      refine spec_drawB hd1 (by omega) (F5.newB hlp) (by omega) fun r6 S6 a6 b6 F6 o6 => ?_
      have e6 : S6 lp = some (.lst [.int f, .int (f / 2)]) := o6 lp _ (by simpa using hla) updS_same
      have e5 : S5 fp = some (.lst (rs.map rowD)) := o5 fp _ (by simpa using hpa) e3
      have hfl : fp ≠ lp := fun z => by subst z; rw [hlp] at e5; cases e5
      have e7 : S6 fp = some (.lst (rs.map rowD)) := o6 fp _ (by simpa using hpa) (upd_at hlp e5)
      have o7 : Off [a, fp] S S6 := (o3').trans ((o5.mono (by simp)).trans ((Off.new hlp).trans (o6.mono (by simp))))
      have r6c : r6 = 0 ∨ r6 = 1 := by omega
      rcases r6c with rfl | rfl <;> refine o_subL e6 rfl ?_ <;> ((repeat fail); refine o_min2 fun c hc0 hc1 hc2 => ?_; (repeat fail); refine o_append e7 (by rw [sizeLine_eq, List.length_map]; simp only [List.length_cons] at h4; omega) ?_; (repeat fail); refine hN _ _ ⟨fun d hd => hr d (List.mem_cons_of_mem _ hd), ⟨rs ++ [(_, _, _)], by rw [updS_same, List.map_append]; rfl, fun r hr => ?_, by simp only [List.length_append, List.length_cons, List.length_nil] at h4 ⊢; omega⟩, F6.setB (Ne.symm hpa), o7.trans (Off.upd (by simp)), _, _, _, rfl⟩; (rcases List.mem_append.mp hr with hr | hr); (focus (exact h3 r hr)); (focus (obtain rfl := List.mem_singleton.mp hr; unfold RowOk; dsimp only; omega)))
  · refine ⟨fun d hd => ?_, ⟨[], o0 fp _ (by simpa using hpa) updS_same, fun r hr => (nomatch hr), ?_⟩, F0, (Off.new hfp).trans (o0.mono (by simp)), none, none, none, rfl⟩
    · obtain ⟨i, hi, _⟩ := mem_rng hd
      exact ⟨i, hi⟩
    · simp only [List.length_nil, List.length_map, List.length_range]
      omega
end
end Z

set_option Elab.async false
set_option linter.all false
set_option maxRecDepth 100000
set_option maxHeartbeats 4000000
namespace Z
def Eg (rows : List Row) (i j : Nat) (c : Int) : Prop := ∃ r ∈ rows, r.1 + 1 = i ∧ r.2.1 + 1 = j ∧ r.2.2 = c
inductive Wk (rows : List Row) : Nat → Nat → Int → Prop
  | nil (i : Nat) : Wk rows i i 0
  | cons {i j k : Nat} {c d : Int} : Eg rows i j c → Wk rows j k d → Wk rows i k (c + d)
theorem Wk.app {rows : List Row} {i j k : Nat} {c d : Int} (h : Wk rows i j c) (h2 : Wk rows j k d) : Wk rows i k (c + d) := by
  induction h with
  | nil i => simpa using h2
  | cons e _ ih => have := Wk.cons e (ih h2); rwa [← Int.add_assoc] at this
abbrev Mx := Nat → Nat → Option Int
def setM (M : Mx) (i j : Nat) (v : Option Int) : Mx := fun a b => if a = i ∧ b = j then v else M a b
def ole : Option Int → Option Int → Prop
  | _, none => True
  | some a, some b => a ≤ b
  | none, some _ => False
theorem ole.rfl' (a : Option Int) : ole a a := by cases a <;> simp [ole]
theorem ole.trans {a b c : Option Int} (h : ole a b) (h2 : ole b c) : ole a c := by
  cases a <;> cases b <;> cases c <;> simp only [ole] at * <;> omega
def oadd : Option Int → Option Int → Option Int
  | some a, some b => some (a + b)
  | _, _ => none
def omin : Option Int → Option Int → Option Int
  | some a, some b => if b < a then some b else some a
  | none, b => b
  | a, none => a
theorem omin_l (a b : Option Int) : ole (omin a b) a := by
  cases a <;> cases b <;> simp only [omin] <;> (try split) <;> simp only [ole] <;> omega
theorem omin_r (a b : Option Int) : ole (omin a b) b := by
  cases a <;> cases b <;> simp only [omin] <;> (try split) <;> simp only [ole] <;> omega
theorem omin_cases (a b : Option Int) : omin a b = a ∨ omin a b = b := by
  cases a <;> cases b <;> simp only [omin] <;> (try split) <;> simp
theorem oadd_mono {a b c d : Option Int} (h : ole a b) (h2 : ole c d) : ole (oadd a c) (oadd b d) := by
  cases a <;> cases b <;> cases c <;> cases d <;> simp only [ole, oadd] at * <;> omega
def Snd (rows : List Row) (M : Mx) : Prop := ∀ i j c, M i j = some c → Wk rows i j c
theorem Snd.set {rows : List Row} {M : Mx} (h : Snd rows M) {i j : Nat} {v : Option Int} (hv : ∀ c, v = some c → Wk rows i j c) : Snd rows (setM M i j v) := fun a b c e => by
  unfold setM at e
  split at e
  · rename_i z; rw [z.1, z.2]; exact hv c e
  · exact h a b c e
def Dg (n : Nat) (M : Mx) : Prop := ∀ i, i < n → ole (M i i) (some 0)
def Neg (n : Nat) (M : Mx) : Prop := ∃ i, i < n ∧ ∃ c, M i i = some c ∧ c < 0
theorem Dg.set {n : Nat} {M : Mx} (h : Dg n M) {i j : Nat} {v : Option Int} (hv : ole v (M i j)) : Dg n (setM M i j v) := fun a ha => by
  unfold setM
  split
  · rename_i z; refine hv.trans ?_; rw [← z.1, ← z.2]; exact h a ha
  · exact h a ha
theorem Neg.set {n : Nat} {M : Mx} (h : Neg n M) {i j : Nat} {v : Option Int} (hv : ole v (M i j)) : Neg n (setM M i j v) := by
  obtain ⟨a, ha, c, e, hc⟩ := h
  refine ⟨a, ha, ?_⟩
  unfold setM
  split
  · rename_i z
    rw [← z.1, ← z.2, e] at hv
    cases v with
    | none => simp only [ole] at hv
    | some d => exact ⟨d, rfl, by simp only [ole] at hv; omega⟩
  · exact ⟨c, e, hc⟩
def stg (M : Mx) (k : Nat) : Mx := fun i j => omin (M i j) (oadd (M i k) (M k j))
def Tri (n k : Nat) (M : Mx) : Prop := ∀ p, p < k → ∀ i j, i < n → j < n → ole (M i j) (oadd (M i p) (M p j))
theorem stg_r {M : Mx} {k : Nat} (h : M k k = some 0) (i : Nat) : stg M k i k = M i k := by
  unfold stg
  rw [h]
  cases M i k <;> simp [oadd, omin]
theorem stg_l {M : Mx} {k : Nat} (h : M k k = some 0) (j : Nat) : stg M k k j = M k j := by
  unfold stg
  rw [h]
  cases M k j <;> simp [oadd, omin]
theorem oadd_assoc (a b c : Option Int) : oadd (oadd a b) c = oadd a (oadd b c) := by
  cases a <;> cases b <;> cases c <;> simp [oadd, Int.add_assoc]
theorem oadd_zero (a : Option Int) : oadd a (some 0) = a := by cases a <;> simp [oadd]
theorem tri_stg {n k : Nat} {M : Mx} (hk : k < n) (h : Tri n k M) (h0 : M k k = some 0) : Tri n (k + 1) (stg M k) := fun p hp i j hi hj => by
  by_cases e : p = k
  · subst e
    rw [stg_r h0, stg_l h0]
    exact omin_r _ _
  · have hpk : p < k := by omega
    have t := h p hpk
    have L1 : ole (stg M k i j) (M i j) := omin_l _ _
    have L2 : ole (stg M k i j) (oadd (M i k) (M k j)) := omin_r _ _
    show ole (stg M k i j) (oadd (omin (M i p) (oadd (M i k) (M k p))) (omin (M p j) (oadd (M p k) (M k j))))
    rcases omin_cases (M i p) (oadd (M i k) (M k p)) with e1 | e1 <;> rcases omin_cases (M p j) (oadd (M p k) (M k j)) with e2 | e2 <;> rw [e1, e2]
    · exact L1.trans (t i j hi hj)
    · rw [← oadd_assoc]
      exact L2.trans (oadd_mono (t i k hi hk) (ole.rfl' _))
    · rw [oadd_assoc]
      exact L2.trans (oadd_mono (ole.rfl' _) (t k j hk hj))
    · have : ole (M k k) (oadd (M k p) (M p k)) := t k k hk hk
      rw [h0] at this
      refine L2.trans ?_
      have e3 : oadd (oadd (M i k) (M k p)) (oadd (M p k) (M k j)) = oadd (oadd (M i k) (oadd (M k p) (M p k))) (M k j) := by simp only [oadd_assoc]
      rw [e3]
      refine oadd_mono ?_ (ole.rfl' _)
      have := oadd_mono (ole.rfl' (M i k)) this
      rwa [oadd_zero] at this
def mix (M : Mx) (k i j : Nat) : Mx := fun a b => if a < i ∨ (a = i ∧ b < j) then stg M k a b else M a b
theorem mix_r {M : Mx} {k : Nat} (h : M k k = some 0) (i j a : Nat) : mix M k i j a k = M a k := by
  unfold mix
  split
  · exact stg_r h a
  · rfl
theorem mix_l {M : Mx} {k : Nat} (h : M k k = some 0) (i j b : Nat) : mix M k i j k b = M k b := by
  unfold mix
  split
  · exact stg_l h b
  · rfl
theorem mix_at {M : Mx} {k : Nat} (i j : Nat) : mix M k i j i j = M i j := by
  unfold mix
  rw [if_neg (by omega)]
theorem mix_step {M : Mx} {k : Nat} (h : M k k = some 0) (i j : Nat) : setM (mix M k i j) i j (omin (mix M k i j i j) (oadd (mix M k i j i k) (mix M k i j k j))) = mix M k i (j + 1) := by
  rw [mix_r h, mix_l h, mix_at]
  funext a b
  unfold setM
  by_cases e : a = i ∧ b = j
  · rw [if_pos e, e.1, e.2]
    unfold mix
    rw [if_pos (by omega)]
    rfl
  · rw [if_neg e]
    unfold mix
    by_cases c : a < i ∨ (a = i ∧ b < j)
    · rw [if_pos c, if_pos (by omega)]
    · rw [if_neg c, if_neg (by omega)]
end Z

set_option Elab.async false
set_option linter.all false
set_option maxRecDepth 100000
set_option maxHeartbeats 4000000
namespace Z
open PySem PySem.Spec PyProof.Rows L2
def rngD (i n : Nat) : List D := (List.range' i n).map fun j => .int (j : Nat)
theorem for_rng {turn : D → (StD → Sto → Prop) → StD → Sto → Prop} {G : Sto → Prop} {F : StD → Sto → Prop} {n : Nat} (I : Nat → StD → Sto → Prop) (hg : ∀ i σ S, I i σ S → G S) (hend : ∀ σ S, I n σ S → F σ S)
    (hstep : ∀ i σ S (N : StD → Sto → Prop), i < n → I i σ S → (∀ σ' S', I (i + 1) σ' S' → N σ' S') → turn (.int (i : Nat)) N σ S) {σ : StD} {S : Sto} (h0 : I 0 σ S) : forL turn G F ((List.range n).map fun i => .int (i : Nat)) σ S := by
  rw [List.range_eq_range']
  refine for_ind (fun r σ S => ∃ i, i ≤ n ∧ r = rngD i (n - i) ∧ I i σ S) (fun r σ S ⟨i, _, _, h⟩ => hg i σ S h) ?_ ?_ _ _ _ ⟨0, Nat.zero_le _, rfl, h0⟩
  · rintro σ S ⟨i, hi, e, h⟩
    have : i = n := by
      rcases Nat.eq_or_lt_of_le hi with z | z
      · exact z
      · obtain ⟨m, hm⟩ : ∃ m, n - i = m + 1 := ⟨n - i - 1, by omega⟩
        rw [hm] at e; simp [rngD, List.range'_succ] at e
    subst this
    exact hend σ S h
  · rintro d r σ S N ⟨i, hi, e, h⟩ hN
    rcases Nat.eq_or_lt_of_le hi with z | z
    · subst z; simp [rngD] at e
    · obtain ⟨m, hm⟩ : ∃ m, n - i = m + 1 := ⟨n - i - 1, by omega⟩
      rw [hm] at e
      simp only [rngD, List.range'_succ, List.map_cons, List.cons.injEq] at e
      obtain ⟨rfl, rfl⟩ := e
      exact hstep i σ S N z h fun σ' S' h' => hN σ' S' ⟨i + 1, z, by rw [show n - (i + 1) = m by omega]; rfl, h'⟩
def od : Option Int → D
  | none => .non
  | some c => .int c
def rowM (n : Nat) (f : Nat → Option Int) : List D := (List.range n).map fun j => od (f j)
structure Gd (rows : List Row) (n : Nat) (M : Mx) : Prop where
  snd : Snd rows M
  dg : Dg n M
  le : ∀ r ∈ rows, ole (M (r.1 + 1).toNat (r.2.1 + 1).toNat) (some r.2.2)
theorem Gd.cell {rows : List Row} {n : Nat} {M : Mx} (g : Gd rows n M) (i j k : Nat) : Gd rows n (setM M i j (omin (M i j) (oadd (M i k) (M k j)))) := by
  refine ⟨g.snd.set fun c e => ?_, g.dg.set (omin_l _ _), fun r hr => ?_⟩
  · rcases omin_cases (M i j) (oadd (M i k) (M k j)) with z | z
    · rw [z] at e; exact g.snd i j c e
    · rw [z] at e
      cases h1 : M i k with
      | none => rw [h1] at e; simp [oadd] at e
      | some a =>
        cases h2 : M k j with
        | none => rw [h1, h2] at e; simp [oadd] at e
        | some b =>
          rw [h1, h2] at e
          simp only [oadd, Option.some.injEq] at e
          rw [← e]
          exact (g.snd i k a h1).app (g.snd k j b h2)
  · unfold setM
    split
    · rename_i z
      have := g.le r hr
      rw [z.1, z.2] at this
      exact (omin_l _ _).trans this
    · exact g.le r hr
theorem setM_same {M : Mx} {i j : Nat} : setM M i j (M i j) = M := by
  funext a b
  unfold setM
  split
  · rename_i z; rw [z.1, z.2]
  · rfl
def Eqn (n : Nat) (M M' : Mx) : Prop := ∀ a b, a < n → b < n → M a b = M' a b
theorem Eqn.cell {n : Nat} {M M0 : Mx} {i j k : Nat} (hi : i < n) (hj : j < n) (hk : k < n) (h0 : M0 k k = some 0) (e : Eqn n M (mix M0 k i j)) : Eqn n (setM M i j (omin (M i j) (oadd (M i k) (M k j)))) (mix M0 k i (j + 1)) := fun a b ha hb => by
  rw [← mix_step h0 i j]
  unfold setM
  split
  · rw [e i j hi hj, e i k hi hk, e k j hk hj]
  · exact e a b ha hb
theorem tri_eqn {n k : Nat} {M M' : Mx} (hk : k ≤ n) (e : Eqn n M M') (h : Tri n k M') : Tri n k M := fun p hp i j hi hj => by
  rw [e i j hi hj, e i p hi (by omega), e p j (by omega) hj]
  exact h p hp i j hi hj
structure Mat (S : Sto) (a : Addr) (rs : List Addr) (n : Nat) (M : Mx) : Prop where
  len : rs.length = n
  nd : rs.Nodup
  out : a ∉ rs
  top : S a = some (.lst (rs.map D.ref))
  row : ∀ i r, rs[i]? = some r → S r = some (.lst (rowM n (M i)))
theorem rowM_len {n : Nat} {f : Nat → Option Int} : (rowM n f).length = n := by simp [rowM]
theorem rowM_get {n j : Nat} {f : Nat → Option Int} (h : j < n) : atI (rowM n f) (j : Int) = some (od (f j)) := atI_nat (by simp [rowM, h])
theorem rowM_set {n j : Nat} {f : Nat → Option Int} {v : Option Int} : (rowM n f).set j (od v) = rowM n (fun b => if b = j then v else f b) := by
  refine List.ext_getElem? fun i => ?_
  rw [List.getElem?_set]
  by_cases hi : i < n
  · by_cases e : j = i
    · subst e; simp [rowM, hi]
    · have e' : ¬ i = j := fun z => e z.symm
      simp [rowM, hi, e, e']
  · have : n ≤ i := by omega
    by_cases e : j = i
    · subst e; simp [rowM, hi]
    · simp [rowM, e, this]
section
variable {S : Sto} {a : Addr} {rs : List Addr} {n : Nat} {M : Mx}
theorem Mat.get (m : Mat S a rs n M) {i : Nat} (h : i < n) : ∃ r, rs[i]? = some r ∧ atI (rs.map D.ref) (i : Int) = some (.ref r) ∧ S r = some (.lst (rowM n (M i))) := by
  have hi : i < rs.length := by rw [m.len]; exact h
  exact ⟨rs[i], List.getElem?_eq_getElem hi, atI_nat (by rw [List.getElem?_map, List.getElem?_eq_getElem hi]; rfl), m.row i _ (List.getElem?_eq_getElem hi)⟩
theorem Mat.set (m : Mat S a rs n M) {i j : Nat} {r : Addr} {v : Option Int} (e : rs[i]? = some r) : Mat (updS S r (.lst ((rowM n (M i)).set j (od v)))) a rs n (setM M i j v) := by
  refine ⟨m.len, m.nd, m.out, ?_, fun i' r' e' => ?_⟩
  · rw [updS_ne]; exact m.top
    exact fun z => m.out (by rw [z]; exact List.mem_of_getElem? e)
  · by_cases h : r' = r
    · subst h
      have hii : i' = i := by
        obtain ⟨h1, h2⟩ := List.getElem?_eq_some_iff.mp e
        obtain ⟨h3, h4⟩ := List.getElem?_eq_some_iff.mp e'
        have pw := List.pairwise_iff_getElem.mp m.nd
        rcases Nat.lt_trichotomy i' i with z | z | z
        · exact absurd (h4.trans h2.symm) (pw i' i h3 h1 z)
        · exact z
        · exact absurd (h2.trans h4.symm) (pw i i' h1 h3 z)
      subst hii
      rw [updS_same, rowM_set]
      have : (fun b => if b = j then v else M i' b) = setM M i' j v i' := by funext b; simp [setM]
      rw [this]
    · rw [updS_ne h, m.row i' r' e']
      have hne : i' ≠ i := fun z => h (by rw [z, e] at e'; exact (Option.some.inj e').symm)
      have : M i' = setM M i j v i' := by funext b; simp [setM, hne]
      rw [this]
theorem Mat.off {S' : Sto} {A : List Addr} (m : Mat S a rs n M) (o : Off A S S') (h : a ∉ A) (h2 : ∀ r ∈ rs, r ∉ A) : Mat S' a rs n M :=
  ⟨m.len, m.nd, m.out, o a _ h m.top, fun i r e => o r _ (h2 r (List.mem_of_getElem? e)) (m.row i r e)⟩
theorem Mat.setOff {S0 : Sto} (m : Mat S a rs n M) {i : Nat} {r : Addr} {o : Ob} (h : Off (a :: rs) S0 S) (e : rs[i]? = some r) : Off (a :: rs) S0 (updS S r o) := h.trans (Off.upd (List.mem_cons_of_mem _ (List.mem_of_getElem? e)))
end
section
variable {defs : Str → Option DefT} {gl : Str → Option D} {k : Nat} {S : Sto} {Q : D → Sto → Prop} {E : Exc → Sto → Prop}
theorem o_isIN {i : Int} (h : Q (.bl false) S) : wCmp .Is (.int i) .non S Q := h
theorem o_isnI {i : Int} (h : Q (.bl true) S) : wCmp .IsNot (.int i) .non S Q := h
theorem o_isnN (h : Q (.bl false) S) : wCmp .IsNot .non .non S Q := h
local macro_rules | `(tactic| fail) => `(tactic| ((with_reducible refine And.intro ?_ ?_); (focus (exact Nat.le_of_ble_eq_true rfl))))
local macro_rules | `(tactic| fail) => `(tactic| with_reducible refine ⟨_, rfl, ?_⟩)
local macro_rules | `(tactic| fail) => `(tactic| ((with_reducible apply o_sliceT); (focus rfl)))
local macro_rules | `(tactic| fail) => `(tactic| ((with_reducible apply o_inTf); (focus rfl); (focus rfl); (focus (simp [inF, eqF, str_beq]; done))))
local macro_rules | `(tactic| fail) => `(tactic| ((with_reducible apply o_inTt); (focus rfl); (focus rfl); (focus (simp [inF, eqF, str_beq]; done))))
local macro_rules | `(tactic| fail) => `(tactic| ((with_reducible apply o_subC); (focus ((repeat (first | with_reducible exact lk_hit | ((with_reducible apply lk_miss); (focus (exact str_ne (by decide)))))); done))))
local macro_rules | `(tactic| fail) => `(tactic| ((with_reducible apply o_inC); (focus ((repeat (first | with_reducible exact lk_hit | ((with_reducible apply lk_miss); (focus (exact str_ne (by decide)))))); done))))
local macro_rules | `(tactic| fail) => `(tactic| ((with_reducible apply o_ninC); (focus ((repeat (first | with_reducible exact lk_hit | ((with_reducible apply lk_miss); (focus (exact str_ne (by decide)))))); done))))
local macro_rules | `(tactic| fail) => `(tactic| ((with_reducible apply o_isinF); (focus rfl); (focus (decide +kernel))))
local macro_rules | `(tactic| fail) => `(tactic| ((with_reducible apply o_isinT); (focus rfl); (focus (decide +kernel))))
local macro_rules | `(tactic| fail) => `(tactic| with_reducible refine i_enm ?_)
local macro_rules | `(tactic| fail) => `(tactic| ((with_reducible apply g_tup); (focus rfl); (focus rfl)))
local macro_rules | `(tactic| fail) => `(tactic| ((with_reducible apply v_dctN); (focus (decide +kernel))))
local macro_rules | `(tactic| fail) => `(tactic| ((with_reducible apply o_len); (focus (exact len_ref (by (first | assumption | exact updS_same | exact upd_at (by assumption) (by assumption)))))))
local macro_rules | `(tactic| fail) => `(tactic| ((with_reducible apply o_tuple); (focus (first | rfl | exact items_ref (by (first | assumption | exact updS_same | exact upd_at (by assumption) (by assumption)))))))
local macro_rules | `(tactic| fail) => `(tactic| ((with_reducible apply o_get2); (focus (first | assumption | exact updS_same | exact upd_at (by assumption) (by assumption))); (focus rfl); (focus ((repeat (first | with_reducible exact getD_hit | with_reducible exact getD_nil | ((with_reducible apply getD_miss); (focus (exact str_ne (by decide)))))); done))))
local macro_rules | `(tactic| fail) => `(tactic| ((with_reducible apply o_get1); (focus (first | assumption | exact updS_same | exact upd_at (by assumption) (by assumption))); (focus rfl); (focus ((repeat (first | with_reducible exact getD_hit | with_reducible exact getD_nil | ((with_reducible apply getD_miss); (focus (exact str_ne (by decide)))))); done))))
local macro_rules | `(tactic| fail) => `(tactic| ((with_reducible refine And.intro ?_ ?_); (focus (first | exact recvL (by (first | assumption | exact updS_same | exact upd_at (by assumption) (by assumption))) rfl | exact recvD (by (first | assumption | exact updS_same | exact upd_at (by assumption) (by assumption))) rfl))))
local macro_rules | `(tactic| fail) => `(tactic| ((with_reducible apply o_subD); (focus (first | assumption | exact updS_same | exact upd_at (by assumption) (by assumption))); (focus rfl); (focus ((repeat (first | with_reducible exact lookD_hit | ((with_reducible apply look_miss); (focus (exact str_ne (by decide)))))); done))))
local macro_rules | `(tactic| fail) => `(tactic| ((with_reducible apply c_ndF); (focus (((try simp only [List.length_cons, List.length_nil, List.length_append, List.length_map]); omega)))))
local macro_rules | `(tactic| fail) => `(tactic| ((with_reducible apply c_ndT); (focus (((try simp only [List.length_cons, List.length_nil, List.length_append, List.length_map]); omega)))))
local macro_rules | `(tactic| fail) => `(tactic| with_reducible refine o_intB ?_)
local macro_rules | `(tactic| fail) => `(tactic| ((with_reducible apply c_decF); (focus (((try simp only [List.length_cons, List.length_nil, List.length_append, List.length_map]); omega)))))
local macro_rules | `(tactic| fail) => `(tactic| ((with_reducible apply c_decT); (focus (((try simp only [List.length_cons, List.length_nil, List.length_append, List.length_map]); omega)))))
local macro_rules | `(tactic| fail) => `(tactic| with_reducible refine c_notf ?_)
local macro_rules | `(tactic| fail) => `(tactic| with_reducible refine c_nott ?_)
local macro_rules | `(tactic| fail) => `(tactic| with_reducible refine o_eqI ?_)
local macro_rules | `(tactic| fail) => `(tactic| ((with_reducible apply o_eqIf); (focus (((try simp only [List.length_cons, List.length_nil, List.length_append, List.length_map]); omega)))))
local macro_rules | `(tactic| fail) => `(tactic| ((with_reducible apply o_eqIt); (focus (((try simp only [List.length_cons, List.length_nil, List.length_append, List.length_map]); omega)))))
local macro_rules | `(tactic| fail) => `(tactic| with_reducible refine o_isB ?_)
local macro_rules | `(tactic| fail) => `(tactic| with_reducible refine o_isN ?_)
local macro_rules | `(tactic| fail) => `(tactic| with_reducible refine o_isR ?_)
local macro_rules | `(tactic| fail) => `(tactic| with_reducible refine o_eqB ?_)
local macro_rules | `(tactic| fail) => `(tactic| ((with_reducible apply o_neIf); (focus (((try simp only [List.length_cons, List.length_nil, List.length_append, List.length_map]); omega)))))
local macro_rules | `(tactic| fail) => `(tactic| ((with_reducible apply o_neIt); (focus (((try simp only [List.length_cons, List.length_nil, List.length_append, List.length_map]); omega)))))
local macro_rules | `(tactic| fail) => `(tactic| with_reducible refine o_neII ?_)
local macro_rules | `(tactic| fail) => `(tactic| with_reducible refine o_neBB ?_)
local macro_rules | `(tactic| fail) => `(tactic| ((with_reducible apply o_eqSf); (focus decide)))
local macro_rules | `(tactic| fail) => `(tactic| ((with_reducible apply o_atr); (focus rfl)))
local macro_rules | `(tactic| fail) => `(tactic| with_reducible refine o_isx ?_)
local macro_rules | `(tactic| fail) => `(tactic| with_reducible refine o_eqSt ?_)
local macro_rules | `(tactic| fail) => `(tactic| ((with_reducible apply o_len); focus (first | rfl | (simp only [lenD]; simp only [*]; done))))
local macro_rules | `(tactic| fail) => `(tactic| ((with_reducible apply o_setL); (focus (first | assumption | exact updS_same | exact upd_at (by assumption) (by assumption))); (focus rfl)))
local macro_rules | `(tactic| fail) => `(tactic| ((with_reducible refine And.intro ?_ ?_); (focus (first | exact selfOk (by (first | assumption | exact updS_same | exact upd_at (by assumption) (by assumption))) rfl | exact insOk (by (first | assumption | exact updS_same | exact upd_at (by assumption) (by assumption)))))))
local macro_rules | `(tactic| fail) => `(tactic| ((with_reducible apply o_setf); (focus (first | assumption | exact updS_same | exact upd_at (by assumption) (by assumption))); (focus (decide))))
local macro_rules | `(tactic| fail) => `(tactic| ((with_reducible apply o_fld); (focus (first | assumption | exact updS_same | exact upd_at (by assumption) (by assumption))); (focus rfl)))
local macro_rules | `(tactic| fail) => `(tactic| ((with_reducible apply o_subT); focus (rfl)))
local macro_rules | `(tactic| fail) => `(tactic| ((with_reducible apply o_subL); (focus (first | assumption | exact updS_same | exact upd_at (by assumption) (by assumption))); (focus rfl)))
local macro_rules | `(tactic| fail) => `(tactic| ((with_reducible apply o_pow); focus (unfold CPow; omega)))
local macro_rules | `(tactic| fail) => `(tactic| ((with_reducible apply o_mod); focus (omega)))
local macro_rules | `(tactic| fail) => `(tactic| ((with_reducible apply o_div); focus (unfold CDiv; omega)))
local macro_rules | `(tactic| fail) => `(tactic| ((with_reducible apply o_mul); focus (unfold CMul; omega)))
local macro_rules | `(tactic| fail) => `(tactic| ((with_reducible apply v_glob); focus (first | assumption | rfl)))
local macro_rules | `(tactic| fail) => `(tactic| ((with_reducible apply t_var); focus (rfl)))
local macro_rules | `(tactic| fail) => `(tactic| ((with_reducible apply v_var); focus (rfl)))
local macro_rules | `(tactic| fail) => `(tactic| with_reducible refine c_false ?_)
local macro_rules | `(tactic| fail) => `(tactic| with_reducible refine c_true ?_)
local macro_rules | `(tactic| fail) => `(tactic| with_reducible refine o_ge ?_)
local macro_rules | `(tactic| fail) => `(tactic| with_reducible refine o_gt ?_)
local macro_rules | `(tactic| fail) => `(tactic| with_reducible refine o_le ?_)
local macro_rules | `(tactic| fail) => `(tactic| with_reducible refine o_lt ?_)
local macro_rules | `(tactic| fail) => `(tactic| with_reducible refine o_sub ?_)
local macro_rules | `(tactic| fail) => `(tactic| with_reducible refine o_add ?_)
local macro_rules | `(tactic| fail) => `(tactic| with_reducible refine o_sub1 ?_)
local macro_rules | `(tactic| fail) => `(tactic| with_reducible refine o_sub0 ?_)
local macro_rules | `(tactic| fail) => `(tactic| with_reducible refine i_rng1 ?_)
local macro_rules | `(tactic| fail) => `(tactic| with_reducible refine i_seq ?_)
local macro_rules | `(tactic| fail) => `(tactic| with_reducible refine g_cons ?_)
local macro_rules | `(tactic| fail) => `(tactic| with_reducible refine g_nil ?_)
local macro_rules | `(tactic| fail) => `(tactic| with_reducible refine g_nm ?_)
local macro_rules | `(tactic| fail) => `(tactic| with_reducible refine ts_one ?_)
local macro_rules | `(tactic| fail) => `(tactic| with_reducible refine ts_nil ?_)
local macro_rules | `(tactic| fail) => `(tactic| with_reducible refine tr_int ?_)
local macro_rules | `(tactic| fail) => `(tactic| with_reducible refine tr_bl ?_)
local macro_rules | `(tactic| fail) => `(tactic| with_reducible refine tb_or ?_)
local macro_rules | `(tactic| fail) => `(tactic| with_reducible refine tb_and ?_)
local macro_rules | `(tactic| fail) => `(tactic| with_reducible refine tb_one ?_)
local macro_rules | `(tactic| fail) => `(tactic| with_reducible refine t_chain ?_)
local macro_rules | `(tactic| fail) => `(tactic| with_reducible refine t_sub ?_)
local macro_rules | `(tactic| fail) => `(tactic| with_reducible refine t_blt ?_)
local macro_rules | `(tactic| fail) => `(tactic| with_reducible refine t_call ?_)
local macro_rules | `(tactic| fail) => `(tactic| with_reducible refine t_cmp ?_)
local macro_rules | `(tactic| fail) => `(tactic| with_reducible refine t_nt ?_)
local macro_rules | `(tactic| fail) => `(tactic| with_reducible refine t_bop ?_)
local macro_rules | `(tactic| fail) => `(tactic| with_reducible refine vb_or ?_)
local macro_rules | `(tactic| fail) => `(tactic| with_reducible refine vb_and ?_)
local macro_rules | `(tactic| fail) => `(tactic| with_reducible refine vb_one ?_)
local macro_rules | `(tactic| fail) => `(tactic| with_reducible refine vo_some ?_)
local macro_rules | `(tactic| fail) => `(tactic| with_reducible refine vo_none ?_)
local macro_rules | `(tactic| fail) => `(tactic| with_reducible refine vs_cons ?_)
local macro_rules | `(tactic| fail) => `(tactic| with_reducible refine vs_nil ?_)
local macro_rules | `(tactic| fail) => `(tactic| with_reducible refine s_try ?_)
local macro_rules | `(tactic| fail) => `(tactic| with_reducible refine s_setf ?_)
local macro_rules | `(tactic| fail) => `(tactic| with_reducible refine v_eqo ?_)
local macro_rules | `(tactic| fail) => `(tactic| with_reducible refine t_isc ?_)
local macro_rules | `(tactic| fail) => `(tactic| with_reducible refine v_isc ?_)
local macro_rules | `(tactic| fail) => `(tactic| with_reducible refine t_meth ?_)
local macro_rules | `(tactic| fail) => `(tactic| with_reducible refine v_meth ?_)
local macro_rules | `(tactic| fail) => `(tactic| with_reducible refine v_new ?_)
local macro_rules | `(tactic| fail) => `(tactic| with_reducible refine v_fld ?_)
local macro_rules | `(tactic| fail) => `(tactic| with_reducible refine v_atr ?_)
local macro_rules | `(tactic| fail) => `(tactic| with_reducible refine v_isx ?_)
local macro_rules | `(tactic| fail) => `(tactic| with_reducible refine v_back ?_)
local macro_rules | `(tactic| fail) => `(tactic| with_reducible refine v_lc ?_)
local macro_rules | `(tactic| fail) => `(tactic| with_reducible refine v_mth ?_)
local macro_rules | `(tactic| fail) => `(tactic| with_reducible refine v_lzip ?_)
local macro_rules | `(tactic| fail) => `(tactic| with_reducible refine v_lrev ?_)
local macro_rules | `(tactic| fail) => `(tactic| with_reducible refine v_blt ?_)
local macro_rules | `(tactic| fail) => `(tactic| with_reducible refine v_call ?_)
local macro_rules | `(tactic| fail) => `(tactic| with_reducible refine v_slice ?_)
local macro_rules | `(tactic| fail) => `(tactic| with_reducible refine v_sub ?_)
local macro_rules | `(tactic| fail) => `(tactic| with_reducible refine v_lst ?_)
local macro_rules | `(tactic| fail) => `(tactic| with_reducible refine v_tup ?_)
local macro_rules | `(tactic| fail) => `(tactic| with_reducible refine v_ite ?_)
local macro_rules | `(tactic| fail) => `(tactic| with_reducible refine v_nt ?_)
local macro_rules | `(tactic| fail) => `(tactic| with_reducible refine v_bop ?_)
local macro_rules | `(tactic| fail) => `(tactic| with_reducible refine v_cmp ?_)
local macro_rules | `(tactic| fail) => `(tactic| with_reducible refine v_bin ?_)
local macro_rules | `(tactic| fail) => `(tactic| with_reducible refine v_bty ?_)
local macro_rules | `(tactic| fail) => `(tactic| with_reducible refine v_str ?_)
local macro_rules | `(tactic| fail) => `(tactic| with_reducible refine v_non ?_)
local macro_rules | `(tactic| fail) => `(tactic| with_reducible refine v_bl ?_)
local macro_rules | `(tactic| fail) => `(tactic| with_reducible refine v_int ?_)
local macro_rules | `(tactic| fail) => `(tactic| with_reducible refine s_cont ?_)
local macro_rules | `(tactic| fail) => `(tactic| with_reducible refine s_brk ?_)
local macro_rules | `(tactic| fail) => `(tactic| with_reducible refine s_nil ?_)
local macro_rules | `(tactic| fail) => `(tactic| with_reducible refine s_pass ?_)
local macro_rules | `(tactic| fail) => `(tactic| with_reducible refine s_retN ?_)
local macro_rules | `(tactic| fail) => `(tactic| with_reducible refine s_ret ?_)
local macro_rules | `(tactic| fail) => `(tactic| with_reducible refine s_ife ?_)
local macro_rules | `(tactic| fail) => `(tactic| with_reducible refine s_set ?_)
local macro_rules | `(tactic| fail) => `(tactic| with_reducible refine s_par ?_)
local macro_rules | `(tactic| fail) => `(tactic| with_reducible refine s_asg ?_)
local macro_rules | `(tactic| fail) => `(tactic| with_reducible refine s_ex ?_)

theorem ixN_nat {n i : Nat} (h : i < n) : ixN n (i : Int) = some i := by
  unfold ixN
  rw [if_pos (by omega)]
  simp [h]
theorem spec_closed (hd : defs "closed" = some dClosed) {n : Nat} {f : Int} {rows : List Row} (hk : 1 ≤ k) (hn : n ≤ 10) (hr : ∀ r ∈ rows, RowOk n f r)
    (hq : ∀ p S' rs M, S p = none → (∀ r ∈ rs, S r = none) → Mat S' p rs (n + 1) M → Off [] S S' → Snd rows M → Dg (n + 1) M → (∀ r ∈ rows, ole (M (r.1 + 1).toNat (r.2.1 + 1).toNat) (some r.2.2)) → (Neg (n + 1) M ∨ Tri (n + 1) (n + 1) M) → Q (.ref p) S') : sem defs gl k "closed" [.int n, .tup (rows.map rowD)] S Q E := by
  obtain ⟨k, rfl⟩ : ∃ j, k = j + 1 := ⟨k - 1, by omega⟩
  (refine sem_of hd rfl ?_; unfold dClosed; simp only [startD, List.map_cons, List.map_nil, List.length_cons, List.length_nil, List.replicate_succ, List.replicate_zero, List.cons_append, List.nil_append, Nat.reduceAdd, Nat.reduceSub])
  (repeat fail)
  refine ⟨by omega, by omega, ?_⟩
  have hN : ((n : Int) + 1).toNat = n + 1 := by omega
  rw [hN]
  refine lc_ind (fun r acc S' => ∃ rs : List Addr, acc = rs.map D.ref ∧ rs.Nodup ∧ (∀ x ∈ rs, S x = none ∧ S' x = some (.lst (rowM (n + 1) fun _ => none))) ∧ Off [] S S' ∧ rs.length + r.length = n + 1) (fun _ _ _ _ => trivial) ?_ ?_ _ _ _ ⟨[], rfl, List.nodup_nil, fun x hx => (nomatch hx), Off.refl _ _, by simp⟩
  rotate_left
  · rintro d r acc S' K ⟨rs, rfl, h1, h2, h3, h4⟩ hK -
    simp only [List.length_cons] at h4
    refine ⟨by rw [List.length_map, sizeLine_eq]; omega, ?_⟩
    (repeat fail)
    refine ⟨by omega, by omega, ?_⟩
    rw [hN]
    refine lc_ind (fun r acc S2 => S2 = S' ∧ (∃ m, acc = List.replicate m .non) ∧ acc.length + r.length = n + 1) (fun _ _ _ _ => trivial) ?_ ?_ _ _ _ ⟨rfl, ⟨0, rfl⟩, by simp⟩
    · rintro acc S2 ⟨rfl, ⟨m, rfl⟩, hl⟩ p hp
      refine hK _ _ ⟨rs ++ [p], by simp, ?_, fun x hx => ?_, h3.trans (Off.new hp), by simp; omega⟩
      · refine List.nodup_append.mpr ⟨h1, by simp, fun x hx y hy => ?_⟩
        obtain rfl := List.mem_singleton.mp hy
        intro z; subst z
        rw [(h2 _ hx).2] at hp; cases hp
      · rcases List.mem_append.mp hx with hx | hx
        · exact ⟨(h2 x hx).1, upd_at hp (h2 x hx).2⟩
        · obtain rfl := List.mem_singleton.mp hx
          refine ⟨?_, ?_⟩
          · cases q : S x with
            | none => rfl
            | some o => rw [h3 x o (by simp) q] at hp; cases hp
          · rw [updS_same]
            simp at hl
            subst hl
            simp only [rowM, od, List.map_const', List.length_range]
    · rintro d r acc S2 K ⟨rfl, ⟨m, rfl⟩, hl⟩ hK2 -
      simp only [List.length_cons] at hl
      refine ⟨by rw [sizeLine_eq]; omega, ?_⟩
      (repeat fail)
      exact hK2 _ _ ⟨rfl, ⟨m + 1, by rw [List.replicate_succ']⟩, by simp at hl ⊢; omega⟩
  rintro acc S1 ⟨rs, rfl, h1, h2, h3, h4⟩ p hp
  simp at h4
  have hpS : S p = none := by
    cases q : S p with
    | none => rfl
    | some o => rw [h3 p o (by simp) q] at hp; cases hp
  have m1 : Mat (updS S1 p (.lst (rs.map D.ref))) p rs (n + 1) (fun _ _ => none) := ⟨h4, h1, (fun z => by rw [(h2 p z).2] at hp; cases hp), updS_same, fun i r e => upd_at hp (h2 r (List.mem_of_getElem? e)).2⟩
  have o1 : Off (p :: rs) S (updS S1 p (.lst (rs.map D.ref))) := (h3.mono (by simp)).trans (Off.new hp)
  generalize updS S1 p (.lst (rs.map D.ref)) = S2 at m1 o1
  have fr : ∀ x ∈ p :: rs, S x = none := fun x hx => by
    rcases List.mem_cons.mp hx with z | z
    · rw [z]; exact hpS
    · exact (h2 x z).1
  (repeat fail)
  refine ⟨by omega, by omega, ?_⟩
  rw [hN]
  refine for_rng (fun i σ S' => ∃ M, Mat S' p rs (n + 1) M ∧ Off (p :: rs) S S' ∧ (∀ a, a < i → M a a = some 0) ∧ (∀ a b c, M a b = some c → a = b ∧ c = 0) ∧ ∃ x3, σ = [some (.int n), some (.tup (rows.map rowD)), some (.ref p), x3, none, none, none, none, none]) (fun _ _ _ _ => trivial) ?_ ?_ ⟨_, m1, o1, fun a ha => absurd ha (by omega), fun a b c z => (nomatch z), none, rfl⟩
  rotate_left
  · rintro i σ S' N hi ⟨M, m, o, h5, h6, x3, rfl⟩ hNx
    obtain ⟨r, e1, e2, e3⟩ := m.get hi
    (repeat fail)
    refine o_subL m.top e2 ?_
    (repeat fail)
    refine o_setL e3 (by rw [rowM_len]; exact ixN_nat hi) ?_
    (repeat fail)
    refine hNx _ _ ⟨_, m.set (v := some 0) e1, m.setOff o e1, fun a ha => ?_, fun a b c z => ?_, _, rfl⟩
    · unfold setM
      split
      · rfl
      · rename_i z; exact h5 a (by rcases Nat.lt_succ_iff_lt_or_eq.mp ha with w | w; exact w; exact absurd ⟨w, w⟩ z)
    · unfold setM at z
      split at z
      · rename_i w; cases z; exact ⟨w.1.trans w.2.symm, rfl⟩
      · exact h6 a b c z
  rintro σ S3 ⟨M, m, o, h5, h6, x3, rfl⟩
  refine s_fr (i_seq (v_var rfl (.inl ⟨_, rfl, ?_⟩)))
  refine for_ind (fun r σ S' => ∃ dn td M, rows = dn ++ td ∧ r = td.map rowD ∧ Mat S' p rs (n + 1) M ∧ Off (p :: rs) S S' ∧ Snd rows M ∧ Dg (n + 1) M ∧ (∀ r ∈ dn, ole (M (r.1 + 1).toNat (r.2.1 + 1).toNat) (some r.2.2)) ∧ ∃ x3 x4 x5 x6, σ = [some (.int n), some (.tup (rows.map rowD)), some (.ref p), x3, x4, x5, x6, none, none]) (fun _ _ _ _ => trivial) ?_ ?_ _ _ _ ⟨[], rows, M, rfl, rfl, m, o, fun a b c z => ?_, fun a ha => by rw [h5 a ha]; exact ole.rfl' _, fun r hr => (nomatch hr), x3, none, none, none, rfl⟩
  rotate_right
  · obtain ⟨rfl, rfl⟩ := h6 a b c z; exact .nil a
  rotate_left
  · rintro d r σ S' N ⟨dn, td, M, er, e0, m, o, hs, hg, hd, x3, x4, x5, x6, rfl⟩ hNx
    cases td with
    | nil => cases e0
    | cons q td =>
      simp only [List.map_cons, List.cons.injEq] at e0
      obtain ⟨rfl, rfl⟩ := e0
      have hq0 : q ∈ rows := by rw [er]; simp
      obtain ⟨q1, q2, q3, q4, q5, q6⟩ := hr q hq0
      obtain ⟨i, ei⟩ : ∃ i : Nat, q.1 + 1 = i := ⟨(q.1 + 1).toNat, by omega⟩
      obtain ⟨j, ej⟩ : ∃ j : Nat, q.2.1 + 1 = j := ⟨(q.2.1 + 1).toNat, by omega⟩
      have hi : i < n + 1 := by omega
      have hj : j < n + 1 := by omega
      have ti : (q.1 + 1).toNat = i := by omega
      have tj : (q.2.1 + 1).toNat = j := by omega
      obtain ⟨r, e1, e2, e3⟩ := m.get hi
      unfold rowD
      (repeat fail)
      refine o_subL m.top (by rw [ei]; exact e2) ?_
      (repeat fail)
      refine o_subL e3 (by rw [ej]; exact rowM_get hj) ?_
      have keep : ∀ (v : Option Int), ole v (M i j) → ole v (some q.2.2) → (∀ c, v = some c → Wk rows i j c) → Snd rows (setM M i j v) ∧ Dg (n + 1) (setM M i j v) ∧ (∀ r ∈ dn ++ [q], ole (setM M i j v (r.1 + 1).toNat (r.2.1 + 1).toNat) (some r.2.2)) := fun v h7 h8 h9 => ⟨hs.set h9, hg.set h7, fun r hr => by
        unfold setM
        rcases List.mem_append.mp hr with hr | hr
        · split
          · rename_i z; exact h7.trans (by have := hd r hr; rwa [z.1, z.2] at this)
          · exact hd r hr
        · obtain rfl := List.mem_singleton.mp hr
          rw [ti, tj, if_pos ⟨rfl, rfl⟩]; exact h8⟩
      have wk : Wk rows i j q.2.2 := by have := Wk.cons (c := q.2.2) ⟨q, hq0, ei, ej, rfl⟩ (Wk.nil (rows := rows) j); simpa using this
      have fin : ∀ (v : Option Int) (S2 : Sto) x3 x4 x5 x6, Mat S2 p rs (n + 1) (setM M i j v) → Off (p :: rs) S S2 → ole v (M i j) → ole v (some q.2.2) → (∀ c, v = some c → Wk rows i j c) → N [some (.int n), some (.tup (rows.map rowD)), some (.ref p), x3, x4, x5, x6, none, none] S2 := fun v S2 x3 x4 x5 x6 m2 o2 h7 h8 h9 => by
        obtain ⟨k1, k2, k3⟩ := keep v h7 h8 h9
        exact hNx _ _ ⟨dn ++ [q], td, _, by rw [er]; simp, rfl, m2, o2, k1, k2, k3, _, _, _, _, rfl⟩
      have same : setM M i j (M i j) = M := by
        funext a b
        unfold setM
        split
        · rename_i z; rw [z.1, z.2]
        · rfl
      cases hM : M i j with
      | none =>
        simp only [od]
        (repeat fail)
        refine o_subL m.top (by rw [ei]; exact e2) ?_
        (repeat fail)
        refine o_setL e3 (by rw [ej, rowM_len]; exact ixN_nat hj) ?_
        (repeat fail)
        exact fin (some q.2.2) _ _ _ _ _ (m.set (v := some q.2.2) e1) (m.setOff o e1) (by rw [hM]; simp only [ole]; try omega) (ole.rfl' _) fun c z => by cases z; exact wk
      | some h =>
        simp only [od]
        (repeat fail)
        refine o_isIN ?_
        (repeat fail)
        refine c_dec (fun hlt => ?_) (fun hlt => ?_)
        · (repeat fail)
          refine o_subL m.top (by rw [ei]; exact e2) ?_
          (repeat fail)
          refine o_setL e3 (by rw [ej, rowM_len]; exact ixN_nat hj) ?_
          (repeat fail)
          exact fin (some q.2.2) _ _ _ _ _ (m.set (v := some q.2.2) e1) (m.setOff o e1) (by rw [hM]; simp only [ole]; try omega) (ole.rfl' _) fun c z => by cases z; exact wk
        · (repeat fail)
          exact fin (M i j) _ _ _ _ _ (by rw [same]; exact m) o (ole.rfl' _) (by rw [hM]; simp only [ole]; omega) fun c z => hs i j c z
  rintro σ S4 ⟨dn, td, M, er, e0, m, o, hs, hg, hd, x3, x4, x5, x6, rfl⟩
  have htd : td = [] := by cases td with | nil => rfl | cons _ _ => cases e0
  subst htd
  rw [List.append_nil] at er
  subst er
  have g : Gd rows (n + 1) M := ⟨hs, hg, hd⟩
  clear hs hg hd
  refine s_fr (i_rng1 (v_bin (v_var rfl (v_int (o_add ⟨_, rfl, by omega, by omega, ?_⟩)))))
  rw [hN]
  refine for_rng (fun kk σ S' => ∃ M, Mat S' p rs (n + 1) M ∧ Off (p :: rs) S S' ∧ Gd rows (n + 1) M ∧ (Neg (n + 1) M ∨ Tri (n + 1) kk M) ∧ ∃ x3 x4 x5 x6 x7 x8, σ = [some (.int n), some (.tup (rows.map rowD)), some (.ref p), x3, x4, x5, x6, x7, x8]) (fun _ _ _ _ => trivial) ?_ ?_ ⟨M, m, o, g, .inr fun p hp => absurd hp (by omega), x3, x4, x5, x6, none, none, rfl⟩
  · rintro σ S5 ⟨M, m, o, g, ht, x3, x4, x5, x6, x7, x8, rfl⟩
    (repeat fail)
    exact hq p S5 rs M hpS (fun r hr => (h2 r hr).1) m (fun b ob hb e => o b ob (fun z => by rw [fr b z] at e; cases e) e) g.snd g.dg g.le ht
  rintro kk σ S5 N hkk ⟨M0, m, o, g, ht, x3, x4, x5, x6, x7, x8, rfl⟩ hN5
  refine g_nm ?_
  refine s_fr (i_rng1 (v_bin (v_var rfl (v_int (o_add ⟨_, rfl, by omega, by omega, ?_⟩)))))
  rw [hN]
  have h00 : Neg (n + 1) M0 ∨ (M0 kk kk = some 0 ∧ Tri (n + 1) kk M0) := by
    rcases ht with ht | ht
    · exact .inl ht
    · have := g.dg kk hkk
      cases e : M0 kk kk with
      | none => rw [e] at this; simp [ole] at this
      | some c =>
        rw [e] at this
        simp only [ole] at this
        by_cases hc : c < 0
        · exact .inl ⟨kk, hkk, c, e, hc⟩
        · exact .inr ⟨by rw [show c = 0 by omega], ht⟩
  refine for_rng (fun i σ S' => ∃ M, Mat S' p rs (n + 1) M ∧ Off (p :: rs) S S' ∧ Gd rows (n + 1) M ∧ (Neg (n + 1) M ∨ (M0 kk kk = some 0 ∧ Tri (n + 1) kk M0 ∧ Eqn (n + 1) M (mix M0 kk i 0))) ∧ ∃ x3 x4 x5 x6 x8, σ = [some (.int n), some (.tup (rows.map rowD)), some (.ref p), x3, x4, x5, x6, some (.int (kk : Nat)), x8]) (fun _ _ _ _ => trivial) ?_ ?_ ⟨M0, m, o, g, h00.imp id fun z => ⟨z.1, z.2, fun a b _ _ => by unfold mix; rw [if_neg (by omega)]⟩, x3, x4, x5, x6, x8, rfl⟩
  · rintro σ S6 ⟨M, m, o, g, ht, x3, x4, x5, x6, x8, rfl⟩
    refine hN5 _ _ ⟨M, m, o, g, ht.imp id fun z => ?_, x3, x4, x5, x6, _, x8, rfl⟩
    obtain ⟨z1, z2, z3⟩ := z
    refine tri_eqn (by omega) (M' := stg M0 kk) (fun a b ha hb => ?_) (tri_stg hkk z2 z1)
    rw [z3 a b ha hb]
    unfold mix
    rw [if_pos (.inl ha)]
  rintro i σ S6 N hi ⟨M, m, o, g, ht, x3, x4, x5, x6, x8, rfl⟩ hN6
  refine g_nm ?_
  refine s_fr (i_rng1 (v_bin (v_var rfl (v_int (o_add ⟨_, rfl, by omega, by omega, ?_⟩)))))
  rw [hN]
  refine for_rng (fun j σ S' => ∃ M, Mat S' p rs (n + 1) M ∧ Off (p :: rs) S S' ∧ Gd rows (n + 1) M ∧ (Neg (n + 1) M ∨ (M0 kk kk = some 0 ∧ Tri (n + 1) kk M0 ∧ Eqn (n + 1) M (mix M0 kk i j))) ∧ ∃ x4 x5 x6 x8, σ = [some (.int n), some (.tup (rows.map rowD)), some (.ref p), some (.int (i : Nat)), x4, x5, x6, some (.int (kk : Nat)), x8]) (fun _ _ _ _ => trivial) ?_ ?_ ⟨M, m, o, g, ht, x4, x5, x6, x8, rfl⟩
  · rintro σ S7 ⟨M, m, o, g, ht, x4, x5, x6, x8, rfl⟩
    refine hN6 _ _ ⟨M, m, o, g, ht.imp id fun z => ⟨z.1, z.2.1, fun a b ha hb => ?_⟩, _, x4, x5, x6, x8, rfl⟩
    rw [z.2.2 a b ha hb]
    unfold mix
    by_cases c : a < i ∨ (a = i ∧ b < n + 1)
    · rw [if_pos c, if_pos (by omega)]
    · rw [if_neg c, if_neg (by omega)]
  rintro j σ S7 N hj ⟨M, m, o, g, ht, x4, x5, x6, x8, rfl⟩ hN7
  obtain ⟨ri, e1, e2, e3⟩ := m.get hi
  obtain ⟨rk, d1, d2, d3⟩ := m.get hkk
  have fin : ∀ (v : Option Int) (S2 : Sto) x8, v = omin (M i j) (oadd (M i kk) (M kk j)) → Mat S2 p rs (n + 1) (setM M i j v) → Off (p :: rs) S S2 → N [some (.int n), some (.tup (rows.map rowD)), some (.ref p), some (.int (i : Nat)), some (.int (j : Nat)), x5, x6, some (.int (kk : Nat)), x8] S2 := fun v S2 x8 ev m2 o2 => by
    subst ev
    exact hN7 _ _ ⟨_, m2, o2, g.cell i j kk, ht.imp (fun z => z.set (omin_l _ _)) fun z => ⟨z.1, z.2.1, z.2.2.cell hi hj hkk z.1⟩, _, _, _, _, rfl⟩
  have stay : ∀ x8, M i j = omin (M i j) (oadd (M i kk) (M kk j)) → N [some (.int n), some (.tup (rows.map rowD)), some (.ref p), some (.int (i : Nat)), some (.int (j : Nat)), x5, x6, some (.int (kk : Nat)), x8] S7 := fun x8 ev => fin (M i j) S7 x8 ev (by rw [setM_same]; exact m) o
  (repeat fail)
  refine o_subL m.top e2 ?_
  (repeat fail)
  refine o_subL e3 (rowM_get hkk) ?_
  cases hA : M i kk with
  | none =>
    simp only [od]
    (repeat fail)
    refine o_isnN ?_
    (repeat fail)
    exact stay _ (by rw [hA]; cases M i j <;> simp [oadd, omin])
  | some A =>
    simp only [od]
    (repeat fail)
    refine o_isnI ?_
    (repeat fail)
    refine o_subL m.top d2 ?_
    (repeat fail)
    refine o_subL d3 (rowM_get hj) ?_
    cases hB : M kk j with
    | none =>
      simp only [od]
      (repeat fail)
      refine o_isnN ?_
      (repeat fail)
      exact stay _ (by rw [hA, hB]; cases M i j <;> simp [oadd, omin])
    | some B =>
      simp only [od]
      (repeat fail)
      refine o_isnI ?_
      (repeat fail)
      refine o_subL m.top e2 ?_
      (repeat fail)
      refine o_subL e3 (rowM_get hkk) ?_
      (repeat fail)
      refine o_subL m.top d2 ?_
      (repeat fail)
      refine o_subL d3 (rowM_get hj) ?_
      rw [hA, hB]
      simp only [od]
      (repeat fail)
      refine o_subL m.top e2 ?_
      (repeat fail)
      refine o_subL e3 (rowM_get hj) ?_
      cases hC : M i j with
      | none =>
        rw [show od none = D.non from rfl]
        (repeat fail)
        refine o_subL m.top e2 ?_
        (repeat fail)
        refine o_setL e3 (by rw [rowM_len]; exact ixN_nat hj) ?_
        (repeat fail)
        exact fin (some (A + B)) _ _ (by rw [hA, hB, hC]; simp [oadd, omin]) (m.set (v := some (A + B)) e1) (m.setOff o e1)
      | some c =>
        rw [show od (some c) = D.int c from rfl]
        (repeat fail)
        refine o_isIN ?_
        (repeat fail)
        refine o_subL m.top e2 ?_
        (repeat fail)
        refine o_subL e3 (rowM_get hj) ?_
        rw [hC, show od (some c) = D.int c from rfl]
        (repeat fail)
        refine c_dec (fun hlt => ?_) (fun hlt => ?_)
        · (repeat fail)
          refine o_subL m.top e2 ?_
          (repeat fail)
          refine o_setL e3 (by rw [rowM_len]; exact ixN_nat hj) ?_
          (repeat fail)
          exact fin (some (A + B)) _ _ (by rw [hA, hB, hC]; simp [oadd, omin, hlt]) (m.set (v := some (A + B)) e1) (m.setOff o e1)
        · (repeat fail)
          exact stay _ (by rw [hA, hB, hC]; simp [oadd, omin, hlt])
end
end Z

set_option Elab.async false
set_option linter.all false
set_option maxRecDepth 100000
set_option maxHeartbeats 4000000
namespace Z
open PySem PySem.Spec PyProof.Rows L2
structure Bo (S : Sto) (b p : Addr) (rs : List Addr) (n : Nat) (rows : List Row) (M : Mx) : Prop where
  at_ : S b = some (.ins "Bounds" [("many", .int n), ("given", .tup (rows.map rowD)), ("sums", .ref p)])
  mat : Mat S p rs (n + 1) M
  gd : Gd rows (n + 1) M
  tri : Neg (n + 1) M ∨ Tri (n + 1) (n + 1) M
theorem Bo.off {S S' : Sto} {b p : Addr} {rs : List Addr} {n : Nat} {rows : List Row} {M : Mx} (h : Bo S b p rs n rows M) (o : Off [] S S') : Bo S' b p rs n rows M :=
  ⟨o b _ (by simp) h.at_, h.mat.off o (by simp) (by simp), h.gd, h.tri⟩
theorem Bo.offA {S S' : Sto} {A : List Addr} {b p : Addr} {rs : List Addr} {n : Nat} {rows : List Row} {M : Mx} (h : Bo S b p rs n rows M) (o : Off A S S') (hA : ∀ x ∈ b :: p :: rs, x ∉ A) : Bo S' b p rs n rows M :=
  ⟨o b _ (hA b (by simp)) h.at_, h.mat.off o (hA p (by simp)) (fun r hr => hA r (by simp [hr])), h.gd, h.tri⟩
theorem padT2 : padT "Bounds.__init__" 2 = [] := by decide +kernel
section
variable {defs : Str → Option DefT} {gl : Str → Option D} {k : Nat} {S : Sto} {Q : D → Sto → Prop} {E : Exc → Sto → Prop}
theorem blsOf_map {α : Type} (g : α → Bool) : ∀ xs : List α, blsOf (xs.map fun x => D.bl (g x)) = some (xs.map g)
  | [] => rfl
  | x :: xs => by simp [blsOf, blsOf_map g xs]
local macro_rules | `(tactic| fail) => `(tactic| ((with_reducible refine And.intro ?_ ?_); (focus (exact Nat.le_of_ble_eq_true rfl))))
local macro_rules | `(tactic| fail) => `(tactic| with_reducible refine ⟨_, rfl, ?_⟩)
local macro_rules | `(tactic| fail) => `(tactic| ((with_reducible apply o_sliceT); (focus rfl)))
local macro_rules | `(tactic| fail) => `(tactic| ((with_reducible apply o_inTf); (focus rfl); (focus rfl); (focus (simp [inF, eqF, str_beq]; done))))
local macro_rules | `(tactic| fail) => `(tactic| ((with_reducible apply o_inTt); (focus rfl); (focus rfl); (focus (simp [inF, eqF, str_beq]; done))))
local macro_rules | `(tactic| fail) => `(tactic| ((with_reducible apply o_subC); (focus ((repeat (first | with_reducible exact lk_hit | ((with_reducible apply lk_miss); (focus (exact str_ne (by decide)))))); done))))
local macro_rules | `(tactic| fail) => `(tactic| ((with_reducible apply o_inC); (focus ((repeat (first | with_reducible exact lk_hit | ((with_reducible apply lk_miss); (focus (exact str_ne (by decide)))))); done))))
local macro_rules | `(tactic| fail) => `(tactic| ((with_reducible apply o_ninC); (focus ((repeat (first | with_reducible exact lk_hit | ((with_reducible apply lk_miss); (focus (exact str_ne (by decide)))))); done))))
local macro_rules | `(tactic| fail) => `(tactic| ((with_reducible apply o_isinF); (focus rfl); (focus (decide +kernel))))
local macro_rules | `(tactic| fail) => `(tactic| ((with_reducible apply o_isinT); (focus rfl); (focus (decide +kernel))))
local macro_rules | `(tactic| fail) => `(tactic| with_reducible refine i_enm ?_)
local macro_rules | `(tactic| fail) => `(tactic| ((with_reducible apply g_tup); (focus rfl); (focus rfl)))
local macro_rules | `(tactic| fail) => `(tactic| ((with_reducible apply v_dctN); (focus (decide +kernel))))
local macro_rules | `(tactic| fail) => `(tactic| ((with_reducible apply o_len); (focus (exact len_ref (by (first | assumption | exact updS_same | exact upd_at (by assumption) (by assumption)))))))
local macro_rules | `(tactic| fail) => `(tactic| ((with_reducible apply o_tuple); (focus (first | rfl | exact items_ref (by (first | assumption | exact updS_same | exact upd_at (by assumption) (by assumption)))))))
local macro_rules | `(tactic| fail) => `(tactic| ((with_reducible apply o_get2); (focus (first | assumption | exact updS_same | exact upd_at (by assumption) (by assumption))); (focus rfl); (focus ((repeat (first | with_reducible exact getD_hit | with_reducible exact getD_nil | ((with_reducible apply getD_miss); (focus (exact str_ne (by decide)))))); done))))
local macro_rules | `(tactic| fail) => `(tactic| ((with_reducible apply o_get1); (focus (first | assumption | exact updS_same | exact upd_at (by assumption) (by assumption))); (focus rfl); (focus ((repeat (first | with_reducible exact getD_hit | with_reducible exact getD_nil | ((with_reducible apply getD_miss); (focus (exact str_ne (by decide)))))); done))))
local macro_rules | `(tactic| fail) => `(tactic| ((with_reducible refine And.intro ?_ ?_); (focus (first | exact recvL (by (first | assumption | exact updS_same | exact upd_at (by assumption) (by assumption))) rfl | exact recvD (by (first | assumption | exact updS_same | exact upd_at (by assumption) (by assumption))) rfl))))
local macro_rules | `(tactic| fail) => `(tactic| ((with_reducible apply o_subD); (focus (first | assumption | exact updS_same | exact upd_at (by assumption) (by assumption))); (focus rfl); (focus ((repeat (first | with_reducible exact lookD_hit | ((with_reducible apply look_miss); (focus (exact str_ne (by decide)))))); done))))
local macro_rules | `(tactic| fail) => `(tactic| ((with_reducible apply c_ndF); (focus (((try simp only [List.length_cons, List.length_nil, List.length_append, List.length_map]); omega)))))
local macro_rules | `(tactic| fail) => `(tactic| ((with_reducible apply c_ndT); (focus (((try simp only [List.length_cons, List.length_nil, List.length_append, List.length_map]); omega)))))
local macro_rules | `(tactic| fail) => `(tactic| with_reducible refine o_intB ?_)
local macro_rules | `(tactic| fail) => `(tactic| ((with_reducible apply c_decF); (focus (((try simp only [List.length_cons, List.length_nil, List.length_append, List.length_map]); omega)))))
local macro_rules | `(tactic| fail) => `(tactic| ((with_reducible apply c_decT); (focus (((try simp only [List.length_cons, List.length_nil, List.length_append, List.length_map]); omega)))))
local macro_rules | `(tactic| fail) => `(tactic| with_reducible refine c_notf ?_)
local macro_rules | `(tactic| fail) => `(tactic| with_reducible refine c_nott ?_)
local macro_rules | `(tactic| fail) => `(tactic| with_reducible refine o_eqI ?_)
local macro_rules | `(tactic| fail) => `(tactic| ((with_reducible apply o_eqIf); (focus (((try simp only [List.length_cons, List.length_nil, List.length_append, List.length_map]); omega)))))
local macro_rules | `(tactic| fail) => `(tactic| ((with_reducible apply o_eqIt); (focus (((try simp only [List.length_cons, List.length_nil, List.length_append, List.length_map]); omega)))))
local macro_rules | `(tactic| fail) => `(tactic| with_reducible refine o_isB ?_)
local macro_rules | `(tactic| fail) => `(tactic| with_reducible refine o_isN ?_)
local macro_rules | `(tactic| fail) => `(tactic| with_reducible refine o_isR ?_)
local macro_rules | `(tactic| fail) => `(tactic| with_reducible refine o_eqB ?_)
local macro_rules | `(tactic| fail) => `(tactic| ((with_reducible apply o_neIf); (focus (((try simp only [List.length_cons, List.length_nil, List.length_append, List.length_map]); omega)))))
local macro_rules | `(tactic| fail) => `(tactic| ((with_reducible apply o_neIt); (focus (((try simp only [List.length_cons, List.length_nil, List.length_append, List.length_map]); omega)))))
local macro_rules | `(tactic| fail) => `(tactic| with_reducible refine o_neII ?_)
local macro_rules | `(tactic| fail) => `(tactic| with_reducible refine o_neBB ?_)
local macro_rules | `(tactic| fail) => `(tactic| ((with_reducible apply o_eqSf); (focus decide)))
local macro_rules | `(tactic| fail) => `(tactic| ((with_reducible apply o_atr); (focus rfl)))
local macro_rules | `(tactic| fail) => `(tactic| with_reducible refine o_isx ?_)
local macro_rules | `(tactic| fail) => `(tactic| with_reducible refine o_eqSt ?_)
local macro_rules | `(tactic| fail) => `(tactic| ((with_reducible apply o_len); focus (first | rfl | (simp only [lenD]; simp only [*]; done))))
local macro_rules | `(tactic| fail) => `(tactic| ((with_reducible apply o_setL); (focus (first | assumption | exact updS_same | exact upd_at (by assumption) (by assumption))); (focus rfl)))
local macro_rules | `(tactic| fail) => `(tactic| ((with_reducible refine And.intro ?_ ?_); (focus (first | exact selfOk (by (first | assumption | exact updS_same | exact upd_at (by assumption) (by assumption))) rfl | exact insOk (by (first | assumption | exact updS_same | exact upd_at (by assumption) (by assumption)))))))
local macro_rules | `(tactic| fail) => `(tactic| ((with_reducible apply o_setf); (focus (first | assumption | exact updS_same | exact upd_at (by assumption) (by assumption))); (focus (exact Nat.le_of_ble_eq_true rfl))))
local macro_rules | `(tactic| fail) => `(tactic| ((with_reducible apply o_fld); (focus (first | assumption | exact updS_same | exact upd_at (by assumption) (by assumption))); (focus rfl)))
local macro_rules | `(tactic| fail) => `(tactic| ((with_reducible apply o_subT); focus (rfl)))
local macro_rules | `(tactic| fail) => `(tactic| ((with_reducible apply o_subL); (focus (first | assumption | exact updS_same | exact upd_at (by assumption) (by assumption))); (focus rfl)))
local macro_rules | `(tactic| fail) => `(tactic| ((with_reducible apply o_pow); focus (unfold CPow; omega)))
local macro_rules | `(tactic| fail) => `(tactic| ((with_reducible apply o_mod); focus (omega)))
local macro_rules | `(tactic| fail) => `(tactic| ((with_reducible apply o_div); focus (unfold CDiv; omega)))
local macro_rules | `(tactic| fail) => `(tactic| ((with_reducible apply o_mul); focus (unfold CMul; omega)))
local macro_rules | `(tactic| fail) => `(tactic| ((with_reducible apply v_glob); focus (first | assumption | rfl)))
local macro_rules | `(tactic| fail) => `(tactic| ((with_reducible apply t_var); focus (rfl)))
local macro_rules | `(tactic| fail) => `(tactic| ((with_reducible apply v_var); focus (rfl)))
local macro_rules | `(tactic| fail) => `(tactic| with_reducible refine c_false ?_)
local macro_rules | `(tactic| fail) => `(tactic| with_reducible refine c_true ?_)
local macro_rules | `(tactic| fail) => `(tactic| with_reducible refine o_ge ?_)
local macro_rules | `(tactic| fail) => `(tactic| with_reducible refine o_gt ?_)
local macro_rules | `(tactic| fail) => `(tactic| with_reducible refine o_le ?_)
local macro_rules | `(tactic| fail) => `(tactic| with_reducible refine o_lt ?_)
local macro_rules | `(tactic| fail) => `(tactic| with_reducible refine o_sub ?_)
local macro_rules | `(tactic| fail) => `(tactic| with_reducible refine o_add ?_)
local macro_rules | `(tactic| fail) => `(tactic| with_reducible refine o_sub1 ?_)
local macro_rules | `(tactic| fail) => `(tactic| with_reducible refine o_sub0 ?_)
local macro_rules | `(tactic| fail) => `(tactic| with_reducible refine i_rng1 ?_)
local macro_rules | `(tactic| fail) => `(tactic| with_reducible refine i_seq ?_)
local macro_rules | `(tactic| fail) => `(tactic| with_reducible refine g_cons ?_)
local macro_rules | `(tactic| fail) => `(tactic| with_reducible refine g_nil ?_)
local macro_rules | `(tactic| fail) => `(tactic| with_reducible refine g_nm ?_)
local macro_rules | `(tactic| fail) => `(tactic| with_reducible refine ts_one ?_)
local macro_rules | `(tactic| fail) => `(tactic| with_reducible refine ts_nil ?_)
local macro_rules | `(tactic| fail) => `(tactic| with_reducible refine tr_int ?_)
local macro_rules | `(tactic| fail) => `(tactic| with_reducible refine tr_bl ?_)
local macro_rules | `(tactic| fail) => `(tactic| with_reducible refine tb_or ?_)
local macro_rules | `(tactic| fail) => `(tactic| with_reducible refine tb_and ?_)
local macro_rules | `(tactic| fail) => `(tactic| with_reducible refine tb_one ?_)
local macro_rules | `(tactic| fail) => `(tactic| with_reducible refine t_chain ?_)
local macro_rules | `(tactic| fail) => `(tactic| with_reducible refine t_sub ?_)
local macro_rules | `(tactic| fail) => `(tactic| with_reducible refine t_blt ?_)
local macro_rules | `(tactic| fail) => `(tactic| with_reducible refine t_call ?_)
local macro_rules | `(tactic| fail) => `(tactic| with_reducible refine t_cmp ?_)
local macro_rules | `(tactic| fail) => `(tactic| with_reducible refine t_nt ?_)
local macro_rules | `(tactic| fail) => `(tactic| with_reducible refine t_bop ?_)
local macro_rules | `(tactic| fail) => `(tactic| with_reducible refine vb_or ?_)
local macro_rules | `(tactic| fail) => `(tactic| with_reducible refine vb_and ?_)
local macro_rules | `(tactic| fail) => `(tactic| with_reducible refine vb_one ?_)
local macro_rules | `(tactic| fail) => `(tactic| with_reducible refine vo_some ?_)
local macro_rules | `(tactic| fail) => `(tactic| with_reducible refine vo_none ?_)
local macro_rules | `(tactic| fail) => `(tactic| with_reducible refine vs_cons ?_)
local macro_rules | `(tactic| fail) => `(tactic| with_reducible refine vs_nil ?_)
local macro_rules | `(tactic| fail) => `(tactic| with_reducible refine s_try ?_)
local macro_rules | `(tactic| fail) => `(tactic| with_reducible refine s_setf ?_)
local macro_rules | `(tactic| fail) => `(tactic| with_reducible refine v_eqo ?_)
local macro_rules | `(tactic| fail) => `(tactic| with_reducible refine t_isc ?_)
local macro_rules | `(tactic| fail) => `(tactic| with_reducible refine v_isc ?_)
local macro_rules | `(tactic| fail) => `(tactic| with_reducible refine t_meth ?_)
local macro_rules | `(tactic| fail) => `(tactic| with_reducible refine v_meth ?_)
local macro_rules | `(tactic| fail) => `(tactic| with_reducible refine v_new ?_)
local macro_rules | `(tactic| fail) => `(tactic| with_reducible refine v_fld ?_)
local macro_rules | `(tactic| fail) => `(tactic| with_reducible refine v_atr ?_)
local macro_rules | `(tactic| fail) => `(tactic| with_reducible refine v_isx ?_)
local macro_rules | `(tactic| fail) => `(tactic| with_reducible refine v_back ?_)
local macro_rules | `(tactic| fail) => `(tactic| with_reducible refine v_lc ?_)
local macro_rules | `(tactic| fail) => `(tactic| with_reducible refine v_mth ?_)
local macro_rules | `(tactic| fail) => `(tactic| with_reducible refine v_lzip ?_)
local macro_rules | `(tactic| fail) => `(tactic| with_reducible refine v_lrev ?_)
local macro_rules | `(tactic| fail) => `(tactic| with_reducible refine v_blt ?_)
local macro_rules | `(tactic| fail) => `(tactic| with_reducible refine v_call ?_)
local macro_rules | `(tactic| fail) => `(tactic| with_reducible refine v_slice ?_)
local macro_rules | `(tactic| fail) => `(tactic| with_reducible refine v_sub ?_)
local macro_rules | `(tactic| fail) => `(tactic| with_reducible refine v_lst ?_)
local macro_rules | `(tactic| fail) => `(tactic| with_reducible refine v_tup ?_)
local macro_rules | `(tactic| fail) => `(tactic| with_reducible refine v_ite ?_)
local macro_rules | `(tactic| fail) => `(tactic| with_reducible refine v_nt ?_)
local macro_rules | `(tactic| fail) => `(tactic| with_reducible refine v_bop ?_)
local macro_rules | `(tactic| fail) => `(tactic| with_reducible refine v_cmp ?_)
local macro_rules | `(tactic| fail) => `(tactic| with_reducible refine v_bin ?_)
local macro_rules | `(tactic| fail) => `(tactic| with_reducible refine v_bty ?_)
local macro_rules | `(tactic| fail) => `(tactic| with_reducible refine v_str ?_)
local macro_rules | `(tactic| fail) => `(tactic| with_reducible refine v_non ?_)
local macro_rules | `(tactic| fail) => `(tactic| with_reducible refine v_bl ?_)
local macro_rules | `(tactic| fail) => `(tactic| with_reducible refine v_int ?_)
local macro_rules | `(tactic| fail) => `(tactic| with_reducible refine s_cont ?_)
local macro_rules | `(tactic| fail) => `(tactic| with_reducible refine s_brk ?_)
local macro_rules | `(tactic| fail) => `(tactic| with_reducible refine s_nil ?_)
local macro_rules | `(tactic| fail) => `(tactic| with_reducible refine s_pass ?_)
local macro_rules | `(tactic| fail) => `(tactic| with_reducible refine s_retN ?_)
local macro_rules | `(tactic| fail) => `(tactic| with_reducible refine s_ret ?_)
local macro_rules | `(tactic| fail) => `(tactic| with_reducible refine s_ife ?_)
local macro_rules | `(tactic| fail) => `(tactic| with_reducible refine s_set ?_)
local macro_rules | `(tactic| fail) => `(tactic| with_reducible refine s_par ?_)
local macro_rules | `(tactic| fail) => `(tactic| with_reducible refine s_asg ?_)
local macro_rules | `(tactic| fail) => `(tactic| with_reducible refine s_ex ?_)

theorem spec_init (hd : defs "Bounds.__init__" = some dBoundsInit) (hd1 : defs "closed" = some dClosed) {n : Nat} {f : Int} {rows : List Row} {b lp : Addr} (hk : 2 ≤ k) (hn : n ≤ 10) (hr : ∀ r ∈ rows, RowOk n f r) (hl : rows.length ≤ 100)
    (hb : S b = none) (hS : S lp = some (.lst (rows.map rowD)))
    (hq : ∀ S' p rs M, S p = none → (∀ r ∈ rs, S r = none) → Bo S' b p rs n rows M → Off [] S S' → Q .non S') : sem defs gl k "Bounds.__init__" [.ref b, .int n, .ref lp] (updS S b (.ins "Bounds" [])) Q E := by
  obtain ⟨k, rfl⟩ : ∃ j, k = j + 1 := ⟨k - 1, by omega⟩
  have e0 : updS S b (.ins "Bounds" []) b = some (.ins "Bounds" []) := updS_same
  have hne : lp ≠ b := fun z => by subst z; rw [hb] at hS; cases hS
  (refine sem_of hd rfl ?_; unfold dBoundsInit; simp only [startD, List.map_cons, List.map_nil, List.length_cons, List.length_nil, List.replicate_succ, List.replicate_zero, List.cons_append, List.nil_append, Nat.reduceAdd, Nat.reduceSub])
  (repeat fail)
  have eL : ∀ o, updS (updS S b (.ins "Bounds" [])) b o lp = some (.lst (rows.map rowD)) := fun o => by rw [updS_ne hne, updS_ne hne]; exact hS
  refine .inr (.inr ⟨_, _, rfl, eL _, ?_⟩)
  have eB : updS (updS S b (.ins "Bounds" [])) b (.ins "Bounds" (putFD "many" (.int n) [])) b = some (.ins "Bounds" [("many", .int n)]) := updS_same
  have oB : Off [b] S (updS (updS S b (.ins "Bounds" [])) b (.ins "Bounds" (putFD "many" (.int n) []))) := (Off.upd (by simp)).trans (Off.upd (by simp))
  have eL' := eL (.ins "Bounds" (putFD "many" (.int n) []))
  generalize updS (updS S b (.ins "Bounds" [])) b (.ins "Bounds" (putFD "many" (.int n) [])) = S1 at eB oB eL' ⊢
  refine lc_ind (fun r acc S' => ∃ dn td, rows = dn ++ td ∧ r = td.map rowD ∧ acc = dn.map rowD ∧ S' = S1) (fun _ _ _ ⟨_, _, _, _, _, z⟩ => by rw [z]; exact eL') ?_ ?_ _ _ _ ⟨[], rows, rfl, rfl, rfl, rfl⟩
  rotate_left
  · rintro d r acc S' K ⟨dn, td, er, e1, rfl, rfl⟩ hK -
    cases td with
    | nil => cases e1
    | cons q td =>
      simp only [List.map_cons, List.cons.injEq] at e1
      obtain ⟨rfl, rfl⟩ := e1
      refine ⟨by rw [List.length_map, sizeLine_eq]; have := congrArg List.length er; simp at this; omega, ?_⟩
      rw [show rowD q = .tup [.int q.1, .int q.2.1, .int q.2.2] from rfl]
      (repeat fail)
      exact hK _ _ ⟨dn ++ [q], td, by rw [er]; simp, rfl, by simp [rowD], rfl⟩
  rintro acc S' ⟨dn, td, er, e1, rfl, rfl⟩ tp htp
  have htd : td = [] := by cases td with | nil => rfl | cons _ _ => cases e1
  subst htd
  rw [List.append_nil] at er
  subst er
  have eB2 : updS S' tp (.lst (rows.map rowD)) b = some (.ins "Bounds" [("many", .int n)]) := upd_at htp eB
  have oB2 : Off [b] S (updS S' tp (.lst (rows.map rowD))) := oB.trans (Off.new htp)
  have eT : updS S' tp (.lst (rows.map rowD)) tp = some (.lst (rows.map rowD)) := updS_same
  generalize updS S' tp (.lst (rows.map rowD)) = S2 at eB2 oB2 eT ⊢
  (repeat fail)
  have eB3 : updS S2 b (.ins "Bounds" (putFD "given" (.tup (rows.map rowD)) [("many", .int n)])) b = some (.ins "Bounds" [("many", .int n), ("given", .tup (rows.map rowD))]) := updS_same
  have oB3 : Off [b] S (updS S2 b (.ins "Bounds" (putFD "given" (.tup (rows.map rowD)) [("many", .int n)]))) := oB2.trans (Off.upd (by simp))
  generalize updS S2 b (.ins "Bounds" (putFD "given" (.tup (rows.map rowD)) [("many", .int n)])) = S3 at eB3 oB3 ⊢
  have n3 : ∀ x, S3 x = none → S x = none := fun x hx => by
    cases q : S x with
    | none => rfl
    | some ob =>
      have := oB3 x ob (fun z => by rw [List.mem_singleton.mp z, hb] at q; cases q) q
      rw [hx] at this; cases this
  refine spec_closed hd1 (by omega) hn hr fun p S4 rs M f1 f2 m o hs hg hl ht => ?_
  have e4 := o b _ (by simp) eB3
  (repeat fail)
  have hbp : ∀ x, S3 x = none → x ≠ b := fun x hx z => by rw [z, eB3] at hx; cases hx
  refine hq _ p rs M (n3 p f1) (fun r hr => n3 r (f2 r hr)) ⟨updS_same, ?_, ⟨hs, hg, hl⟩, ht⟩ ?_
  · exact ⟨m.len, m.nd, m.out, by rw [updS_ne (hbp p f1)]; exact m.top, fun i r e => by rw [updS_ne (hbp r (f2 r (List.mem_of_getElem? e)))]; exact m.row i r e⟩
  · exact Off.drop (p := b) ((oB3.trans (o.mono (by simp))).trans (Off.upd (by simp))) hb
end
end Z

set_option Elab.async false
set_option linter.all false
set_option maxRecDepth 100000
set_option maxHeartbeats 4000000
namespace Z
open PySem PySem.Spec PyProof.Rows L2
def valX (xs : List Int) (a : Nat) : Int := if a = 0 then 0 else xs.getD (a - 1) 0
def keepR (xs : List Int) (r : Row) : Bool := decide (valX xs (r.1 + 1).toNat ≤ valX xs (r.2.1 + 1).toNat + r.2.2)
def keepsB (rows : List Row) (xs : List Int) : Bool := rows.all (keepR xs)
theorem at_val {xs : List Int} {i : Int} (h0 : -1 ≤ i) (h1 : i < xs.length) : atI (xs.map D.int ++ [.int 0]) i = some (.int (valX xs (i + 1).toNat)) := by
  by_cases e : i = -1
  · subst e
    unfold atI ixN
    simp [valX]
    rw [if_pos (by omega)]
    simp only [Option.bind_some]
    have : (-1 + ((xs.length : Int) + 1)).toNat = xs.length := by omega
    rw [this]
    simp
  · obtain ⟨j, rfl⟩ := Int.eq_ofNat_of_zero_le (show 0 ≤ i by omega)
    have hj : j < xs.length := by omega
    refine atI_nat ?_
    rw [List.getElem?_append_left (by simpa using hj), List.getElem?_map, List.getElem?_eq_getElem hj]
    simp only [Option.map_some, valX]
    rw [if_neg (by omega)]
    have : ((j : Int) + 1).toNat - 1 = j := by omega
    rw [this, List.getD_eq_getElem?_getD, List.getElem?_eq_getElem hj]
    rfl
section
variable {defs : Str → Option DefT} {gl : Str → Option D} {k : Nat} {S : Sto} {Q : D → Sto → Prop} {E : Exc → Sto → Prop}
theorem o_addLB {a b : Addr} {xs ys : List D} (e : S a = some (.lst xs)) (e2 : S b = some (.lst ys)) (l : xs.length + ys.length ≤ sizeLine) (h : ∀ p, S p = none → Q (.ref p) (updS S p (.lst (xs ++ ys)))) : wBin .Add (.ref a) (.ref b) S Q := by unfold wBin; simp only [e, e2]; exact ⟨l, h⟩
theorem toPs_rep : ∀ n : Nat, toPs (List.replicate n (D.int 1)) = some (List.replicate n (PyData.int 1))
  | 0 => rfl
  | n + 1 => by simp [List.replicate_succ, toPs, toP, toPs_rep n]
theorem lay_rep : ∀ n : Nat, PyData.canLayAll0 (List.replicate n (PyData.int 1)) = true ∧ PyData.depthAll (List.replicate n (PyData.int 1)) ≤ 1
  | 0 => ⟨rfl, by simp [PyData.depthAll]⟩
  | n + 1 => by
    obtain ⟨h1, h2⟩ := lay_rep n
    constructor
    · simp [List.replicate_succ, PyData.canLayAll0, PyData.canLay0, h1]
    · simp only [List.replicate_succ, PyData.depthAll, PyData.depth]; omega
theorem sh_rep (n : Nat) : SeqAt.shaped (.list (List.replicate n (PyData.int 1))) = true := by
  obtain ⟨h1, h2⟩ := lay_rep n
  unfold SeqAt.shaped
  simp only [PyData.canLay0, h1, Bool.true_and, PyData.depth]
  exact decide_eq_true (by omega)
theorem o_eqE1 {a : Addr} {b : Addr} {n : Nat} (e : S a = some (.lst (List.replicate n (.int 1)))) (e2 : S b = some (.lst [])) (h : Q (.bl (decide (n = 0))) S) : wCmp .Eq (.ref a) (.ref b) S Q := by
  unfold wCmp wEq
  simp only [toPS, e, e2, toPs_rep, Option.map_some, show toPs [] = some [] from rfl]
  refine ⟨sh_rep n, sh_rep 0, ?_⟩
  have : PyData.eqv (.list (List.replicate n (PyData.int 1))) (.list []) = decide (n = 0) := by cases n <;> simp [PyData.eqv, PyData.eqvAll, List.replicate_succ]
  rw [this]
  exact h
local macro_rules | `(tactic| fail) => `(tactic| ((with_reducible refine And.intro ?_ ?_); (focus (exact Nat.le_of_ble_eq_true rfl))))
local macro_rules | `(tactic| fail) => `(tactic| with_reducible refine ⟨_, rfl, ?_⟩)
local macro_rules | `(tactic| fail) => `(tactic| ((with_reducible apply o_sliceT); (focus rfl)))
local macro_rules | `(tactic| fail) => `(tactic| ((with_reducible apply o_inTf); (focus rfl); (focus rfl); (focus (simp [inF, eqF, str_beq]; done))))
local macro_rules | `(tactic| fail) => `(tactic| ((with_reducible apply o_inTt); (focus rfl); (focus rfl); (focus (simp [inF, eqF, str_beq]; done))))
local macro_rules | `(tactic| fail) => `(tactic| ((with_reducible apply o_subC); (focus ((repeat (first | with_reducible exact lk_hit | ((with_reducible apply lk_miss); (focus (exact str_ne (by decide)))))); done))))
local macro_rules | `(tactic| fail) => `(tactic| ((with_reducible apply o_inC); (focus ((repeat (first | with_reducible exact lk_hit | ((with_reducible apply lk_miss); (focus (exact str_ne (by decide)))))); done))))
local macro_rules | `(tactic| fail) => `(tactic| ((with_reducible apply o_ninC); (focus ((repeat (first | with_reducible exact lk_hit | ((with_reducible apply lk_miss); (focus (exact str_ne (by decide)))))); done))))
local macro_rules | `(tactic| fail) => `(tactic| ((with_reducible apply o_isinF); (focus rfl); (focus (decide +kernel))))
local macro_rules | `(tactic| fail) => `(tactic| ((with_reducible apply o_isinT); (focus rfl); (focus (decide +kernel))))
local macro_rules | `(tactic| fail) => `(tactic| with_reducible refine i_enm ?_)
local macro_rules | `(tactic| fail) => `(tactic| ((with_reducible apply g_tup); (focus rfl); (focus rfl)))
local macro_rules | `(tactic| fail) => `(tactic| ((with_reducible apply v_dctN); (focus (decide +kernel))))
local macro_rules | `(tactic| fail) => `(tactic| ((with_reducible apply o_len); (focus (exact len_ref (by (first | assumption | exact updS_same | exact upd_at (by assumption) (by assumption)))))))
local macro_rules | `(tactic| fail) => `(tactic| ((with_reducible apply o_tuple); (focus (first | rfl | exact items_ref (by (first | assumption | exact updS_same | exact upd_at (by assumption) (by assumption)))))))
local macro_rules | `(tactic| fail) => `(tactic| ((with_reducible apply o_get2); (focus (first | assumption | exact updS_same | exact upd_at (by assumption) (by assumption))); (focus rfl); (focus ((repeat (first | with_reducible exact getD_hit | with_reducible exact getD_nil | ((with_reducible apply getD_miss); (focus (exact str_ne (by decide)))))); done))))
local macro_rules | `(tactic| fail) => `(tactic| ((with_reducible apply o_get1); (focus (first | assumption | exact updS_same | exact upd_at (by assumption) (by assumption))); (focus rfl); (focus ((repeat (first | with_reducible exact getD_hit | with_reducible exact getD_nil | ((with_reducible apply getD_miss); (focus (exact str_ne (by decide)))))); done))))
local macro_rules | `(tactic| fail) => `(tactic| ((with_reducible refine And.intro ?_ ?_); (focus (first | exact recvL (by (first | assumption | exact updS_same | exact upd_at (by assumption) (by assumption))) rfl | exact recvD (by (first | assumption | exact updS_same | exact upd_at (by assumption) (by assumption))) rfl))))
local macro_rules | `(tactic| fail) => `(tactic| ((with_reducible apply o_subD); (focus (first | assumption | exact updS_same | exact upd_at (by assumption) (by assumption))); (focus rfl); (focus ((repeat (first | with_reducible exact lookD_hit | ((with_reducible apply look_miss); (focus (exact str_ne (by decide)))))); done))))
local macro_rules | `(tactic| fail) => `(tactic| ((with_reducible apply c_ndF); (focus (((try simp only [List.length_cons, List.length_nil, List.length_append, List.length_map]); omega)))))
local macro_rules | `(tactic| fail) => `(tactic| ((with_reducible apply c_ndT); (focus (((try simp only [List.length_cons, List.length_nil, List.length_append, List.length_map]); omega)))))
local macro_rules | `(tactic| fail) => `(tactic| with_reducible refine o_intB ?_)
local macro_rules | `(tactic| fail) => `(tactic| ((with_reducible apply c_decF); (focus (((try simp only [List.length_cons, List.length_nil, List.length_append, List.length_map]); omega)))))
local macro_rules | `(tactic| fail) => `(tactic| ((with_reducible apply c_decT); (focus (((try simp only [List.length_cons, List.length_nil, List.length_append, List.length_map]); omega)))))
local macro_rules | `(tactic| fail) => `(tactic| with_reducible refine c_notf ?_)
local macro_rules | `(tactic| fail) => `(tactic| with_reducible refine c_nott ?_)
local macro_rules | `(tactic| fail) => `(tactic| with_reducible refine o_eqI ?_)
local macro_rules | `(tactic| fail) => `(tactic| ((with_reducible apply o_eqIf); (focus (((try simp only [List.length_cons, List.length_nil, List.length_append, List.length_map]); omega)))))
local macro_rules | `(tactic| fail) => `(tactic| ((with_reducible apply o_eqIt); (focus (((try simp only [List.length_cons, List.length_nil, List.length_append, List.length_map]); omega)))))
local macro_rules | `(tactic| fail) => `(tactic| with_reducible refine o_isB ?_)
local macro_rules | `(tactic| fail) => `(tactic| with_reducible refine o_isN ?_)
local macro_rules | `(tactic| fail) => `(tactic| with_reducible refine o_isR ?_)
local macro_rules | `(tactic| fail) => `(tactic| with_reducible refine o_eqB ?_)
local macro_rules | `(tactic| fail) => `(tactic| ((with_reducible apply o_neIf); (focus (((try simp only [List.length_cons, List.length_nil, List.length_append, List.length_map]); omega)))))
local macro_rules | `(tactic| fail) => `(tactic| ((with_reducible apply o_neIt); (focus (((try simp only [List.length_cons, List.length_nil, List.length_append, List.length_map]); omega)))))
local macro_rules | `(tactic| fail) => `(tactic| with_reducible refine o_neII ?_)
local macro_rules | `(tactic| fail) => `(tactic| with_reducible refine o_neBB ?_)
local macro_rules | `(tactic| fail) => `(tactic| ((with_reducible apply o_eqSf); (focus decide)))
local macro_rules | `(tactic| fail) => `(tactic| ((with_reducible apply o_atr); (focus rfl)))
local macro_rules | `(tactic| fail) => `(tactic| with_reducible refine o_isx ?_)
local macro_rules | `(tactic| fail) => `(tactic| with_reducible refine o_eqSt ?_)
local macro_rules | `(tactic| fail) => `(tactic| ((with_reducible apply o_len); focus (first | rfl | (simp only [lenD]; simp only [*]; done))))
local macro_rules | `(tactic| fail) => `(tactic| ((with_reducible apply o_setL); (focus (first | assumption | exact updS_same | exact upd_at (by assumption) (by assumption))); (focus rfl)))
local macro_rules | `(tactic| fail) => `(tactic| ((with_reducible refine And.intro ?_ ?_); (focus (first | exact selfOk (by (first | assumption | exact updS_same | exact upd_at (by assumption) (by assumption))) rfl | exact insOk (by (first | assumption | exact updS_same | exact upd_at (by assumption) (by assumption)))))))
local macro_rules | `(tactic| fail) => `(tactic| ((with_reducible apply o_setf); (focus (first | assumption | exact updS_same | exact upd_at (by assumption) (by assumption))); (focus (exact Nat.le_of_ble_eq_true rfl))))
local macro_rules | `(tactic| fail) => `(tactic| ((with_reducible apply o_fld); (focus (first | assumption | exact updS_same | exact upd_at (by assumption) (by assumption))); (focus rfl)))
local macro_rules | `(tactic| fail) => `(tactic| ((with_reducible apply o_subT); focus (rfl)))
local macro_rules | `(tactic| fail) => `(tactic| ((with_reducible apply o_subL); (focus (first | assumption | exact updS_same | exact upd_at (by assumption) (by assumption))); (focus rfl)))
local macro_rules | `(tactic| fail) => `(tactic| ((with_reducible apply o_pow); focus (unfold CPow; omega)))
local macro_rules | `(tactic| fail) => `(tactic| ((with_reducible apply o_mod); focus (omega)))
local macro_rules | `(tactic| fail) => `(tactic| ((with_reducible apply o_div); focus (unfold CDiv; omega)))
local macro_rules | `(tactic| fail) => `(tactic| ((with_reducible apply o_mul); focus (unfold CMul; omega)))
local macro_rules | `(tactic| fail) => `(tactic| ((with_reducible apply v_glob); focus (first | assumption | rfl)))
local macro_rules | `(tactic| fail) => `(tactic| ((with_reducible apply t_var); focus (rfl)))
local macro_rules | `(tactic| fail) => `(tactic| ((with_reducible apply v_var); focus (rfl)))
local macro_rules | `(tactic| fail) => `(tactic| with_reducible refine c_false ?_)
local macro_rules | `(tactic| fail) => `(tactic| with_reducible refine c_true ?_)
local macro_rules | `(tactic| fail) => `(tactic| with_reducible refine o_ge ?_)
local macro_rules | `(tactic| fail) => `(tactic| with_reducible refine o_gt ?_)
local macro_rules | `(tactic| fail) => `(tactic| with_reducible refine o_le ?_)
local macro_rules | `(tactic| fail) => `(tactic| with_reducible refine o_lt ?_)
local macro_rules | `(tactic| fail) => `(tactic| with_reducible refine o_sub ?_)
local macro_rules | `(tactic| fail) => `(tactic| with_reducible refine o_add ?_)
local macro_rules | `(tactic| fail) => `(tactic| with_reducible refine o_sub1 ?_)
local macro_rules | `(tactic| fail) => `(tactic| with_reducible refine o_sub0 ?_)
local macro_rules | `(tactic| fail) => `(tactic| with_reducible refine i_rng1 ?_)
local macro_rules | `(tactic| fail) => `(tactic| with_reducible refine i_seq ?_)
local macro_rules | `(tactic| fail) => `(tactic| with_reducible refine g_cons ?_)
local macro_rules | `(tactic| fail) => `(tactic| with_reducible refine g_nil ?_)
local macro_rules | `(tactic| fail) => `(tactic| with_reducible refine g_nm ?_)
local macro_rules | `(tactic| fail) => `(tactic| with_reducible refine ts_one ?_)
local macro_rules | `(tactic| fail) => `(tactic| with_reducible refine ts_nil ?_)
local macro_rules | `(tactic| fail) => `(tactic| with_reducible refine tr_int ?_)
local macro_rules | `(tactic| fail) => `(tactic| with_reducible refine tr_bl ?_)
local macro_rules | `(tactic| fail) => `(tactic| with_reducible refine tb_or ?_)
local macro_rules | `(tactic| fail) => `(tactic| with_reducible refine tb_and ?_)
local macro_rules | `(tactic| fail) => `(tactic| with_reducible refine tb_one ?_)
local macro_rules | `(tactic| fail) => `(tactic| with_reducible refine t_chain ?_)
local macro_rules | `(tactic| fail) => `(tactic| with_reducible refine t_sub ?_)
local macro_rules | `(tactic| fail) => `(tactic| with_reducible refine t_blt ?_)
local macro_rules | `(tactic| fail) => `(tactic| with_reducible refine t_call ?_)
local macro_rules | `(tactic| fail) => `(tactic| with_reducible refine t_cmp ?_)
local macro_rules | `(tactic| fail) => `(tactic| with_reducible refine t_nt ?_)
local macro_rules | `(tactic| fail) => `(tactic| with_reducible refine t_bop ?_)
local macro_rules | `(tactic| fail) => `(tactic| with_reducible refine vb_or ?_)
local macro_rules | `(tactic| fail) => `(tactic| with_reducible refine vb_and ?_)
local macro_rules | `(tactic| fail) => `(tactic| with_reducible refine vb_one ?_)
local macro_rules | `(tactic| fail) => `(tactic| with_reducible refine vo_some ?_)
local macro_rules | `(tactic| fail) => `(tactic| with_reducible refine vo_none ?_)
local macro_rules | `(tactic| fail) => `(tactic| with_reducible refine vs_cons ?_)
local macro_rules | `(tactic| fail) => `(tactic| with_reducible refine vs_nil ?_)
local macro_rules | `(tactic| fail) => `(tactic| with_reducible refine s_try ?_)
local macro_rules | `(tactic| fail) => `(tactic| with_reducible refine s_setf ?_)
local macro_rules | `(tactic| fail) => `(tactic| with_reducible refine v_eqo ?_)
local macro_rules | `(tactic| fail) => `(tactic| with_reducible refine t_isc ?_)
local macro_rules | `(tactic| fail) => `(tactic| with_reducible refine v_isc ?_)
local macro_rules | `(tactic| fail) => `(tactic| with_reducible refine t_meth ?_)
local macro_rules | `(tactic| fail) => `(tactic| with_reducible refine v_meth ?_)
local macro_rules | `(tactic| fail) => `(tactic| with_reducible refine v_new ?_)
local macro_rules | `(tactic| fail) => `(tactic| with_reducible refine v_fld ?_)
local macro_rules | `(tactic| fail) => `(tactic| with_reducible refine v_atr ?_)
local macro_rules | `(tactic| fail) => `(tactic| with_reducible refine v_isx ?_)
local macro_rules | `(tactic| fail) => `(tactic| with_reducible refine v_back ?_)
local macro_rules | `(tactic| fail) => `(tactic| with_reducible refine v_lc ?_)
local macro_rules | `(tactic| fail) => `(tactic| with_reducible refine v_mth ?_)
local macro_rules | `(tactic| fail) => `(tactic| with_reducible refine v_lzip ?_)
local macro_rules | `(tactic| fail) => `(tactic| with_reducible refine v_lrev ?_)
local macro_rules | `(tactic| fail) => `(tactic| with_reducible refine v_blt ?_)
local macro_rules | `(tactic| fail) => `(tactic| with_reducible refine v_call ?_)
local macro_rules | `(tactic| fail) => `(tactic| with_reducible refine v_slice ?_)
local macro_rules | `(tactic| fail) => `(tactic| with_reducible refine v_sub ?_)
local macro_rules | `(tactic| fail) => `(tactic| with_reducible refine v_lst ?_)
local macro_rules | `(tactic| fail) => `(tactic| with_reducible refine v_tup ?_)
local macro_rules | `(tactic| fail) => `(tactic| with_reducible refine v_ite ?_)
local macro_rules | `(tactic| fail) => `(tactic| with_reducible refine v_nt ?_)
local macro_rules | `(tactic| fail) => `(tactic| with_reducible refine v_bop ?_)
local macro_rules | `(tactic| fail) => `(tactic| with_reducible refine v_cmp ?_)
local macro_rules | `(tactic| fail) => `(tactic| with_reducible refine v_bin ?_)
local macro_rules | `(tactic| fail) => `(tactic| with_reducible refine v_bty ?_)
local macro_rules | `(tactic| fail) => `(tactic| with_reducible refine v_str ?_)
local macro_rules | `(tactic| fail) => `(tactic| with_reducible refine v_non ?_)
local macro_rules | `(tactic| fail) => `(tactic| with_reducible refine v_bl ?_)
local macro_rules | `(tactic| fail) => `(tactic| with_reducible refine v_int ?_)
local macro_rules | `(tactic| fail) => `(tactic| with_reducible refine s_cont ?_)
local macro_rules | `(tactic| fail) => `(tactic| with_reducible refine s_brk ?_)
local macro_rules | `(tactic| fail) => `(tactic| with_reducible refine s_nil ?_)
local macro_rules | `(tactic| fail) => `(tactic| with_reducible refine s_pass ?_)
local macro_rules | `(tactic| fail) => `(tactic| with_reducible refine s_retN ?_)
local macro_rules | `(tactic| fail) => `(tactic| with_reducible refine s_ret ?_)
local macro_rules | `(tactic| fail) => `(tactic| with_reducible refine s_ife ?_)
local macro_rules | `(tactic| fail) => `(tactic| with_reducible refine s_set ?_)
local macro_rules | `(tactic| fail) => `(tactic| with_reducible refine s_par ?_)
local macro_rules | `(tactic| fail) => `(tactic| with_reducible refine s_asg ?_)
local macro_rules | `(tactic| fail) => `(tactic| with_reducible refine s_ex ?_)

end
end Z

set_option Elab.async false
set_option linter.all false
set_option maxRecDepth 100000
set_option maxHeartbeats 4000000
namespace Z
open PySem PySem.Spec PyProof.Rows L2
section
variable {rows : List Row} {n : Nat} {f : Int} {M : Mx}
def Sh (rows : List Row) (i j : Nat) (c : Int) : Prop := (i = j ∧ c = 0) ∨ (i ≠ j ∧ Eg rows i j c) ∨ ∃ k c1 c2, k ≠ i ∧ k ≠ j ∧ i ≠ j ∧ Eg rows i k c1 ∧ Eg rows k j c2 ∧ c = c1 + c2
theorem eg_wk {i j : Nat} {c : Int} (h : Eg rows i j c) : Wk rows i j c := by
  have := Wk.cons h (.nil j)
  simpa using this
end
end Z

set_option Elab.async false
set_option linter.all false
set_option maxRecDepth 100000
set_option maxHeartbeats 4000000
namespace Z
open PySem PySem.Spec PyProof.Rows L2
theorem dep_map {α : Type} {g : α → PyData} {m : Nat} (h : ∀ a, (g a).depth ≤ m) : ∀ xs : List α, PyData.depthAll (xs.map g) ≤ m
  | [] => by simp [PyData.depthAll]
  | x :: xs => by
    have := h x
    have := dep_map h xs
    simp only [List.map_cons, PyData.depthAll]
    omega
theorem toPs_map {α : Type} {g : α → D} {g' : α → PyData} (h : ∀ a, toP (g a) = some (g' a)) : ∀ xs : List α, toPs (xs.map g) = some (xs.map g')
  | [] => rfl
  | x :: xs => by simp [toPs, h x, toPs_map h xs]
section
variable {defs : Str → Option DefT} {gl : Str → Option D} {k : Nat} {S : Sto} {Q : D → Sto → Prop} {E : Exc → Sto → Prop}
theorem o_neBX {a b : Bool} (h : Q (.bl (a != b)) S) : wCmp .NotEq (.bl a) (.bl b) S Q := by
  unfold wCmp wEq
  simp only [toPS, toP]
  refine ⟨shB a, shB b, ?_⟩
  rw [PyData.eqv]
  simpa [bne] using h
theorem o_neIX {a b : Int} (h : Q (.bl (a != b)) S) : wCmp .NotEq (.int a) (.int b) S Q := by
  unfold wCmp wEq
  simp only [toPS, toP]
  refine ⟨shI a, shI b, ?_⟩
  rw [PyData.eqv]
  simpa [bne] using h
local macro_rules | `(tactic| fail) => `(tactic| ((with_reducible refine And.intro ?_ ?_); (focus (exact Nat.le_of_ble_eq_true rfl))))
local macro_rules | `(tactic| fail) => `(tactic| with_reducible refine ⟨_, rfl, ?_⟩)
local macro_rules | `(tactic| fail) => `(tactic| ((with_reducible apply o_sliceT); (focus rfl)))
local macro_rules | `(tactic| fail) => `(tactic| ((with_reducible apply o_inTf); (focus rfl); (focus rfl); (focus (simp [inF, eqF, str_beq]; done))))
local macro_rules | `(tactic| fail) => `(tactic| ((with_reducible apply o_inTt); (focus rfl); (focus rfl); (focus (simp [inF, eqF, str_beq]; done))))
local macro_rules | `(tactic| fail) => `(tactic| ((with_reducible apply o_subC); (focus ((repeat (first | with_reducible exact lk_hit | ((with_reducible apply lk_miss); (focus (exact str_ne (by decide)))))); done))))
local macro_rules | `(tactic| fail) => `(tactic| ((with_reducible apply o_inC); (focus ((repeat (first | with_reducible exact lk_hit | ((with_reducible apply lk_miss); (focus (exact str_ne (by decide)))))); done))))
local macro_rules | `(tactic| fail) => `(tactic| ((with_reducible apply o_ninC); (focus ((repeat (first | with_reducible exact lk_hit | ((with_reducible apply lk_miss); (focus (exact str_ne (by decide)))))); done))))
local macro_rules | `(tactic| fail) => `(tactic| ((with_reducible apply o_isinF); (focus rfl); (focus (decide +kernel))))
local macro_rules | `(tactic| fail) => `(tactic| ((with_reducible apply o_isinT); (focus rfl); (focus (decide +kernel))))
local macro_rules | `(tactic| fail) => `(tactic| with_reducible refine i_enm ?_)
local macro_rules | `(tactic| fail) => `(tactic| ((with_reducible apply g_tup); (focus rfl); (focus rfl)))
local macro_rules | `(tactic| fail) => `(tactic| ((with_reducible apply v_dctN); (focus (decide +kernel))))
local macro_rules | `(tactic| fail) => `(tactic| ((with_reducible apply o_len); (focus (exact len_ref (by (first | assumption | exact updS_same | exact upd_at (by assumption) (by assumption)))))))
local macro_rules | `(tactic| fail) => `(tactic| ((with_reducible apply o_tuple); (focus (first | rfl | exact items_ref (by (first | assumption | exact updS_same | exact upd_at (by assumption) (by assumption)))))))
local macro_rules | `(tactic| fail) => `(tactic| ((with_reducible apply o_get2); (focus (first | assumption | exact updS_same | exact upd_at (by assumption) (by assumption))); (focus rfl); (focus ((repeat (first | with_reducible exact getD_hit | with_reducible exact getD_nil | ((with_reducible apply getD_miss); (focus (exact str_ne (by decide)))))); done))))
local macro_rules | `(tactic| fail) => `(tactic| ((with_reducible apply o_get1); (focus (first | assumption | exact updS_same | exact upd_at (by assumption) (by assumption))); (focus rfl); (focus ((repeat (first | with_reducible exact getD_hit | with_reducible exact getD_nil | ((with_reducible apply getD_miss); (focus (exact str_ne (by decide)))))); done))))
local macro_rules | `(tactic| fail) => `(tactic| ((with_reducible refine And.intro ?_ ?_); (focus (first | exact recvL (by (first | assumption | exact updS_same | exact upd_at (by assumption) (by assumption))) rfl | exact recvD (by (first | assumption | exact updS_same | exact upd_at (by assumption) (by assumption))) rfl))))
local macro_rules | `(tactic| fail) => `(tactic| ((with_reducible apply o_subD); (focus (first | assumption | exact updS_same | exact upd_at (by assumption) (by assumption))); (focus rfl); (focus ((repeat (first | with_reducible exact lookD_hit | ((with_reducible apply look_miss); (focus (exact str_ne (by decide)))))); done))))
local macro_rules | `(tactic| fail) => `(tactic| ((with_reducible apply c_ndF); (focus (((try simp only [List.length_cons, List.length_nil, List.length_append, List.length_map]); omega)))))
local macro_rules | `(tactic| fail) => `(tactic| ((with_reducible apply c_ndT); (focus (((try simp only [List.length_cons, List.length_nil, List.length_append, List.length_map]); omega)))))
local macro_rules | `(tactic| fail) => `(tactic| with_reducible refine o_intB ?_)
local macro_rules | `(tactic| fail) => `(tactic| ((with_reducible apply c_decF); (focus (((try simp only [List.length_cons, List.length_nil, List.length_append, List.length_map]); omega)))))
local macro_rules | `(tactic| fail) => `(tactic| ((with_reducible apply c_decT); (focus (((try simp only [List.length_cons, List.length_nil, List.length_append, List.length_map]); omega)))))
local macro_rules | `(tactic| fail) => `(tactic| with_reducible refine c_notf ?_)
local macro_rules | `(tactic| fail) => `(tactic| with_reducible refine c_nott ?_)
local macro_rules | `(tactic| fail) => `(tactic| with_reducible refine o_eqI ?_)
local macro_rules | `(tactic| fail) => `(tactic| ((with_reducible apply o_eqIf); (focus (((try simp only [List.length_cons, List.length_nil, List.length_append, List.length_map]); omega)))))
local macro_rules | `(tactic| fail) => `(tactic| ((with_reducible apply o_eqIt); (focus (((try simp only [List.length_cons, List.length_nil, List.length_append, List.length_map]); omega)))))
local macro_rules | `(tactic| fail) => `(tactic| with_reducible refine o_isB ?_)
local macro_rules | `(tactic| fail) => `(tactic| with_reducible refine o_isN ?_)
local macro_rules | `(tactic| fail) => `(tactic| with_reducible refine o_isR ?_)
local macro_rules | `(tactic| fail) => `(tactic| with_reducible refine o_eqB ?_)
local macro_rules | `(tactic| fail) => `(tactic| ((with_reducible apply o_neIf); (focus (((try simp only [List.length_cons, List.length_nil, List.length_append, List.length_map]); omega)))))
local macro_rules | `(tactic| fail) => `(tactic| ((with_reducible apply o_neIt); (focus (((try simp only [List.length_cons, List.length_nil, List.length_append, List.length_map]); omega)))))
local macro_rules | `(tactic| fail) => `(tactic| with_reducible refine o_neII ?_)
local macro_rules | `(tactic| fail) => `(tactic| with_reducible refine o_neBB ?_)
local macro_rules | `(tactic| fail) => `(tactic| ((with_reducible apply o_eqSf); (focus decide)))
local macro_rules | `(tactic| fail) => `(tactic| ((with_reducible apply o_atr); (focus rfl)))
local macro_rules | `(tactic| fail) => `(tactic| with_reducible refine o_isx ?_)
local macro_rules | `(tactic| fail) => `(tactic| with_reducible refine o_eqSt ?_)
local macro_rules | `(tactic| fail) => `(tactic| ((with_reducible apply o_len); focus (first | rfl | (simp only [lenD]; simp only [*]; done))))
local macro_rules | `(tactic| fail) => `(tactic| ((with_reducible apply o_setL); (focus (first | assumption | exact updS_same | exact upd_at (by assumption) (by assumption))); (focus rfl)))
local macro_rules | `(tactic| fail) => `(tactic| ((with_reducible refine And.intro ?_ ?_); (focus (first | exact selfOk (by (first | assumption | exact updS_same | exact upd_at (by assumption) (by assumption))) rfl | exact insOk (by (first | assumption | exact updS_same | exact upd_at (by assumption) (by assumption)))))))
local macro_rules | `(tactic| fail) => `(tactic| ((with_reducible apply o_setf); (focus (first | assumption | exact updS_same | exact upd_at (by assumption) (by assumption))); (focus (exact Nat.le_of_ble_eq_true rfl))))
local macro_rules | `(tactic| fail) => `(tactic| ((with_reducible apply o_fld); (focus (first | assumption | exact updS_same | exact upd_at (by assumption) (by assumption))); (focus rfl)))
local macro_rules | `(tactic| fail) => `(tactic| ((with_reducible apply o_subT); focus (rfl)))
local macro_rules | `(tactic| fail) => `(tactic| ((with_reducible apply o_subL); (focus (first | assumption | exact updS_same | exact upd_at (by assumption) (by assumption))); (focus rfl)))
local macro_rules | `(tactic| fail) => `(tactic| ((with_reducible apply o_pow); focus (unfold CPow; omega)))
local macro_rules | `(tactic| fail) => `(tactic| ((with_reducible apply o_mod); focus (omega)))
local macro_rules | `(tactic| fail) => `(tactic| ((with_reducible apply o_div); focus (unfold CDiv; omega)))
local macro_rules | `(tactic| fail) => `(tactic| ((with_reducible apply o_mul); focus (unfold CMul; omega)))
local macro_rules | `(tactic| fail) => `(tactic| ((with_reducible apply v_glob); focus (first | assumption | rfl)))
local macro_rules | `(tactic| fail) => `(tactic| ((with_reducible apply t_var); focus (rfl)))
local macro_rules | `(tactic| fail) => `(tactic| ((with_reducible apply v_var); focus (rfl)))
local macro_rules | `(tactic| fail) => `(tactic| with_reducible refine c_false ?_)
local macro_rules | `(tactic| fail) => `(tactic| with_reducible refine c_true ?_)
local macro_rules | `(tactic| fail) => `(tactic| with_reducible refine o_ge ?_)
local macro_rules | `(tactic| fail) => `(tactic| with_reducible refine o_gt ?_)
local macro_rules | `(tactic| fail) => `(tactic| with_reducible refine o_le ?_)
local macro_rules | `(tactic| fail) => `(tactic| with_reducible refine o_lt ?_)
local macro_rules | `(tactic| fail) => `(tactic| with_reducible refine o_sub ?_)
local macro_rules | `(tactic| fail) => `(tactic| with_reducible refine o_add ?_)
local macro_rules | `(tactic| fail) => `(tactic| with_reducible refine o_sub1 ?_)
local macro_rules | `(tactic| fail) => `(tactic| with_reducible refine o_sub0 ?_)
local macro_rules | `(tactic| fail) => `(tactic| with_reducible refine i_rng1 ?_)
local macro_rules | `(tactic| fail) => `(tactic| with_reducible refine i_seq ?_)
local macro_rules | `(tactic| fail) => `(tactic| with_reducible refine g_cons ?_)
local macro_rules | `(tactic| fail) => `(tactic| with_reducible refine g_nil ?_)
local macro_rules | `(tactic| fail) => `(tactic| with_reducible refine g_nm ?_)
local macro_rules | `(tactic| fail) => `(tactic| with_reducible refine ts_one ?_)
local macro_rules | `(tactic| fail) => `(tactic| with_reducible refine ts_nil ?_)
local macro_rules | `(tactic| fail) => `(tactic| with_reducible refine tr_int ?_)
local macro_rules | `(tactic| fail) => `(tactic| with_reducible refine tr_bl ?_)
local macro_rules | `(tactic| fail) => `(tactic| with_reducible refine tb_or ?_)
local macro_rules | `(tactic| fail) => `(tactic| with_reducible refine tb_and ?_)
local macro_rules | `(tactic| fail) => `(tactic| with_reducible refine tb_one ?_)
local macro_rules | `(tactic| fail) => `(tactic| with_reducible refine t_chain ?_)
local macro_rules | `(tactic| fail) => `(tactic| with_reducible refine t_sub ?_)
local macro_rules | `(tactic| fail) => `(tactic| with_reducible refine t_blt ?_)
local macro_rules | `(tactic| fail) => `(tactic| with_reducible refine t_call ?_)
local macro_rules | `(tactic| fail) => `(tactic| with_reducible refine t_cmp ?_)
local macro_rules | `(tactic| fail) => `(tactic| with_reducible refine t_nt ?_)
local macro_rules | `(tactic| fail) => `(tactic| with_reducible refine t_bop ?_)
local macro_rules | `(tactic| fail) => `(tactic| with_reducible refine vb_or ?_)
local macro_rules | `(tactic| fail) => `(tactic| with_reducible refine vb_and ?_)
local macro_rules | `(tactic| fail) => `(tactic| with_reducible refine vb_one ?_)
local macro_rules | `(tactic| fail) => `(tactic| with_reducible refine vo_some ?_)
local macro_rules | `(tactic| fail) => `(tactic| with_reducible refine vo_none ?_)
local macro_rules | `(tactic| fail) => `(tactic| with_reducible refine vs_cons ?_)
local macro_rules | `(tactic| fail) => `(tactic| with_reducible refine vs_nil ?_)
local macro_rules | `(tactic| fail) => `(tactic| with_reducible refine s_try ?_)
local macro_rules | `(tactic| fail) => `(tactic| with_reducible refine s_setf ?_)
local macro_rules | `(tactic| fail) => `(tactic| with_reducible refine v_eqo ?_)
local macro_rules | `(tactic| fail) => `(tactic| with_reducible refine t_isc ?_)
local macro_rules | `(tactic| fail) => `(tactic| with_reducible refine v_isc ?_)
local macro_rules | `(tactic| fail) => `(tactic| with_reducible refine t_meth ?_)
local macro_rules | `(tactic| fail) => `(tactic| with_reducible refine v_meth ?_)
local macro_rules | `(tactic| fail) => `(tactic| with_reducible refine v_new ?_)
local macro_rules | `(tactic| fail) => `(tactic| with_reducible refine v_fld ?_)
local macro_rules | `(tactic| fail) => `(tactic| with_reducible refine v_atr ?_)
local macro_rules | `(tactic| fail) => `(tactic| with_reducible refine v_isx ?_)
local macro_rules | `(tactic| fail) => `(tactic| with_reducible refine v_back ?_)
local macro_rules | `(tactic| fail) => `(tactic| with_reducible refine v_lc ?_)
local macro_rules | `(tactic| fail) => `(tactic| with_reducible refine v_mth ?_)
local macro_rules | `(tactic| fail) => `(tactic| with_reducible refine v_lzip ?_)
local macro_rules | `(tactic| fail) => `(tactic| with_reducible refine v_lrev ?_)
local macro_rules | `(tactic| fail) => `(tactic| with_reducible refine v_blt ?_)
local macro_rules | `(tactic| fail) => `(tactic| with_reducible refine v_call ?_)
local macro_rules | `(tactic| fail) => `(tactic| with_reducible refine v_slice ?_)
local macro_rules | `(tactic| fail) => `(tactic| with_reducible refine v_sub ?_)
local macro_rules | `(tactic| fail) => `(tactic| with_reducible refine v_lst ?_)
local macro_rules | `(tactic| fail) => `(tactic| with_reducible refine v_tup ?_)
local macro_rules | `(tactic| fail) => `(tactic| with_reducible refine v_ite ?_)
local macro_rules | `(tactic| fail) => `(tactic| with_reducible refine v_nt ?_)
local macro_rules | `(tactic| fail) => `(tactic| with_reducible refine v_bop ?_)
local macro_rules | `(tactic| fail) => `(tactic| with_reducible refine v_cmp ?_)
local macro_rules | `(tactic| fail) => `(tactic| with_reducible refine v_bin ?_)
local macro_rules | `(tactic| fail) => `(tactic| with_reducible refine v_bty ?_)
local macro_rules | `(tactic| fail) => `(tactic| with_reducible refine v_str ?_)
local macro_rules | `(tactic| fail) => `(tactic| with_reducible refine v_non ?_)
local macro_rules | `(tactic| fail) => `(tactic| with_reducible refine v_bl ?_)
local macro_rules | `(tactic| fail) => `(tactic| with_reducible refine v_int ?_)
local macro_rules | `(tactic| fail) => `(tactic| with_reducible refine s_cont ?_)
local macro_rules | `(tactic| fail) => `(tactic| with_reducible refine s_brk ?_)
local macro_rules | `(tactic| fail) => `(tactic| with_reducible refine s_nil ?_)
local macro_rules | `(tactic| fail) => `(tactic| with_reducible refine s_pass ?_)
local macro_rules | `(tactic| fail) => `(tactic| with_reducible refine s_retN ?_)
local macro_rules | `(tactic| fail) => `(tactic| with_reducible refine s_ret ?_)
local macro_rules | `(tactic| fail) => `(tactic| with_reducible refine s_ife ?_)
local macro_rules | `(tactic| fail) => `(tactic| with_reducible refine s_set ?_)
local macro_rules | `(tactic| fail) => `(tactic| with_reducible refine s_par ?_)
local macro_rules | `(tactic| fail) => `(tactic| with_reducible refine s_asg ?_)
local macro_rules | `(tactic| fail) => `(tactic| with_reducible refine s_ex ?_)

end
end Z

set_option Elab.async false
set_option linter.all false
set_option maxRecDepth 100000
set_option maxHeartbeats 4000000
namespace Z
open PySem PySem.Spec PyProof.Rows L2
def updF {α : Type} (f : Nat → α) (i : Nat) (v : α) : Nat → α := fun x => if x = i then v else f x
theorem updF_s {α : Type} {f : Nat → α} {i : Nat} {v : α} : updF f i v i = v := by simp [updF]
theorem updF_n {α : Type} {f : Nat → α} {i j : Nat} {v : α} (h : j ≠ i) : updF f i v j = f j := by simp [updF, h]
abbrev fr (r : Row) : Nat := (r.1 + 1).toNat
abbrev to (r : Row) : Nat := (r.2.1 + 1).toNat
structure Bf (rows : List Row) (n t a : Nat) (num : Nat → Int) (bye : Nat → Option Nat) (last : Option Nat) (ch ta : Nat → Nat) (clk : Nat) : Prop where
  b1 : ∀ i k, bye i = some k → ∃ r, rows[k]? = some r ∧ fr r = i ∧ num (to r) + r.2.2 ≤ num i ∧ (num (to r) + r.2.2 < num i ∨ ta (to r) < ta i) ∧ ch i ≤ ch (to r) + 1
  b2 : ∀ i, 1 ≤ ch i → ∃ k, bye i = some k
  b4 : ∀ k r, rows[k]? = some r → (k < a → num (fr r) ≤ num (to r) + r.2.2 ∨ t + 1 ≤ ch (to r)) ∧ (1 ≤ t → num (fr r) ≤ num (to r) + r.2.2 ∨ t ≤ ch (to r))
  b5 : ∀ i, ta i ≤ clk
  b6 : ∀ i, ch i ≤ t + 1
  b7 : last = none → ∀ i, ch i ≤ t
  b8 : ∀ i, last = some i → ch i = t + 1 ∧ i ≤ n
section
variable {rows : List Row} {n t a v : Nat} {num : Nat → Int} {bye : Nat → Option Nat} {last : Option Nat} {ch ta : Nat → Nat} {clk : Nat} {f : Int}
theorem Bf.init : Bf rows n 0 0 (fun _ => 0) (fun _ => none) none (fun _ => 0) (fun _ => 0) 0 where
  b1 := fun i k h => by cases h
  b2 := fun i h => by omega
  b4 := fun k r _ => ⟨fun h => by omega, fun h => by omega⟩
  b5 := fun i => Nat.le_refl _
  b6 := fun i => by omega
  b7 := fun _ i => Nat.le_refl _
  b8 := fun i h => by cases h
theorem Bf.turn (b : Bf rows n t rows.length num bye last ch ta clk) : Bf rows n (t + 1) 0 num bye none ch ta clk where
  b1 := b.b1
  b2 := b.b2
  b4 := fun k r h => ⟨fun z => by omega, fun _ => (b.b4 k r h).1 (List.getElem?_eq_some_iff.mp h).1⟩
  b5 := b.b5
  b6 := fun i => by have := b.b6 i; omega
  b7 := fun _ i => b.b6 i
  b8 := fun i h => by cases h
theorem Bf.stay (b : Bf rows n t a num bye last ch ta clk) {r : Row} (h : rows[a]? = some r) (hc : ¬ num (to r) + r.2.2 < num (fr r)) : Bf rows n t (a + 1) num bye last ch ta clk where
  b1 := b.b1
  b2 := b.b2
  b4 := fun k r' h' => ⟨fun z => by
    by_cases hk : k = a
    · subst hk
      rw [h] at h'
      cases h'
      exact .inl (by omega)
    · exact (b.b4 k r' h').1 (by omega), (b.b4 k r' h').2⟩
  b5 := b.b5
  b6 := b.b6
  b7 := b.b7
  b8 := b.b8
theorem Bf.keeps (b : Bf rows n t rows.length num bye none ch ta clk) : ∀ r ∈ rows, num (fr r) ≤ num (to r) + r.2.2 := fun r hr => by
  obtain ⟨k, hk⟩ := List.mem_iff_getElem?.mp hr
  rcases (b.b4 k r hk).1 (List.getElem?_eq_some_iff.mp hk).1 with z | z
  · exact z
  · have := b.b7 rfl (to r)
    omega
def nxt (rows : List Row) (bye : Nat → Option Nat) (i : Nat) : Nat := match bye i with
  | some k => to (rows.getD k (0, 0, 0))
  | none => 0
def wgt (rows : List Row) (bye : Nat → Option Nat) (i : Nat) : Int := match bye i with
  | some k => (rows.getD k (0, 0, 0)).2.2
  | none => 0
def itr (g : Nat → Nat) : Nat → Nat → Nat
  | 0, i => i
  | m + 1, i => g (itr g m i)
def sumw (rows : List Row) (bye : Nat → Option Nat) : Nat → Nat → Int
  | 0, _ => 0
  | m + 1, i => sumw rows bye m i + wgt rows bye (itr (nxt rows bye) m i)
theorem Bf.at_ (b : Bf rows n t a num bye last ch ta clk) {i : Nat} (h : bye i ≠ none) : ∃ k r, bye i = some k ∧ rows[k]? = some r ∧ rows.getD k (0, 0, 0) = r ∧ fr r = i ∧ nxt rows bye i = to r ∧ wgt rows bye i = r.2.2 ∧ num (to r) + r.2.2 ≤ num i ∧ (num (to r) + r.2.2 < num i ∨ ta (to r) < ta i) ∧ ch i ≤ ch (to r) + 1 := by
  cases e : bye i with
  | none => exact absurd e h
  | some k =>
    obtain ⟨r, h1, h2, h3⟩ := b.b1 i k e
    have hg : rows.getD k (0, 0, 0) = r := by rw [List.getD_eq_getElem?_getD, h1]; rfl
    exact ⟨k, r, rfl, h1, hg, h2, by unfold nxt; rw [e]; simp only []; rw [hg], by unfold wgt; rw [e]; simp only []; rw [hg], h3⟩
theorem Bf.chain (b : Bf rows n t a num bye last ch ta clk) {v : Nat} : ∀ m, m < ch v → bye (itr (nxt rows bye) m v) ≠ none ∧ ch v ≤ ch (itr (nxt rows bye) m v) + m
  | 0, h => by
    obtain ⟨k, e⟩ := b.b2 v (by omega)
    refine ⟨?_, by show ch v ≤ ch v + 0; omega⟩
    show bye v ≠ none
    rw [e]
    exact fun z => nomatch z
  | m + 1, h => by
    obtain ⟨h1, h2⟩ := b.chain (v := v) m (by omega)
    obtain ⟨k, r, e1, e2, e3, e4, e5, e6, e7, e8, e9⟩ := b.at_ h1
    have e : itr (nxt rows bye) (m + 1) v = to r := e5
    rw [e]
    have hc : ch v ≤ ch (to r) + (m + 1) := by omega
    refine ⟨?_, hc⟩
    obtain ⟨k', e'⟩ := b.b2 (to r) (by omega)
    rw [e']
    exact fun z => nomatch z
theorem Bf.sums (b : Bf rows n t a num bye last ch ta clk) (hr : ∀ r ∈ rows, RowOk n f r) {L : Nat} (h : ∀ m, bye (itr (nxt rows bye) m L) ≠ none) : ∀ p, sumw rows bye p L ≤ num L - num (itr (nxt rows bye) p L) ∧ (1 ≤ p → sumw rows bye p L < num L - num (itr (nxt rows bye) p L) ∨ ta (itr (nxt rows bye) p L) < ta L) ∧ Wk rows L (itr (nxt rows bye) p L) (sumw rows bye p L)
  | 0 => ⟨by show (0 : Int) ≤ num L - num L; omega, fun z => by omega, .nil _⟩
  | p + 1 => by
    obtain ⟨h1, h2, h3⟩ := b.sums hr h p
    obtain ⟨k, r, e1, e2, e3, e4, e5, e6, e7, e8, e9⟩ := b.at_ (h p)
    have ei : itr (nxt rows bye) (p + 1) L = to r := e5
    have es : sumw rows bye (p + 1) L = sumw rows bye p L + r.2.2 := by show _ + wgt rows bye _ = _; rw [e6]
    rw [ei, es]
    have hok := hr r (List.mem_of_getElem? e2)
    unfold RowOk at hok
    refine ⟨by omega, fun _ => ?_, ?_⟩
    · rcases e8 with z | z
      · exact .inl (by omega)
      · by_cases hp : 1 ≤ p
        · rcases h2 hp with q | q
          · exact .inl (by omega)
          · exact .inr (by omega)
        · have : p = 0 := by omega
          subst this
          exact .inr z
    · refine h3.app (eg_wk ⟨r, List.mem_of_getElem? e2, ?_, ?_, rfl⟩)
      · have e4' : fr r = itr (nxt rows bye) p L := e4
        rw [← e4']
        show r.1 + 1 = (((r.1 + 1).toNat : Nat) : Int)
        omega
      · show r.2.1 + 1 = (((r.2.1 + 1).toNat : Nat) : Int)
        omega
end
end Z

set_option Elab.async false
set_option linter.all false
set_option maxRecDepth 100000
set_option maxHeartbeats 4000000
namespace Z
open PySem PySem.Spec PyProof.Rows L2
def nD : Option Nat → D
  | some k => .int k
  | none => .non
section
variable {C : Cw} {ex : EX} {σ : StD} {defs : Str → Option DefT} {gl : Str → Option D} {k : Nat} {S : Sto} {Q : D → Sto → Prop} {E : Exc → Sto → Prop}
local macro_rules | `(tactic| fail) => `(tactic| ((with_reducible refine And.intro ?_ ?_); (focus (exact Nat.le_of_ble_eq_true rfl))))
local macro_rules | `(tactic| fail) => `(tactic| with_reducible refine ⟨_, rfl, ?_⟩)
local macro_rules | `(tactic| fail) => `(tactic| ((with_reducible apply o_sliceT); (focus rfl)))
local macro_rules | `(tactic| fail) => `(tactic| ((with_reducible apply o_inTf); (focus rfl); (focus rfl); (focus (simp [inF, eqF, str_beq]; done))))
local macro_rules | `(tactic| fail) => `(tactic| ((with_reducible apply o_inTt); (focus rfl); (focus rfl); (focus (simp [inF, eqF, str_beq]; done))))
local macro_rules | `(tactic| fail) => `(tactic| ((with_reducible apply o_subC); (focus ((repeat (first | with_reducible exact lk_hit | ((with_reducible apply lk_miss); (focus (exact str_ne (by decide)))))); done))))
local macro_rules | `(tactic| fail) => `(tactic| ((with_reducible apply o_inC); (focus ((repeat (first | with_reducible exact lk_hit | ((with_reducible apply lk_miss); (focus (exact str_ne (by decide)))))); done))))
local macro_rules | `(tactic| fail) => `(tactic| ((with_reducible apply o_ninC); (focus ((repeat (first | with_reducible exact lk_hit | ((with_reducible apply lk_miss); (focus (exact str_ne (by decide)))))); done))))
local macro_rules | `(tactic| fail) => `(tactic| ((with_reducible apply o_isinF); (focus rfl); (focus (decide +kernel))))
local macro_rules | `(tactic| fail) => `(tactic| ((with_reducible apply o_isinT); (focus rfl); (focus (decide +kernel))))
local macro_rules | `(tactic| fail) => `(tactic| with_reducible refine i_enm ?_)
local macro_rules | `(tactic| fail) => `(tactic| ((with_reducible apply g_tup); (focus rfl); (focus rfl)))
local macro_rules | `(tactic| fail) => `(tactic| ((with_reducible apply v_dctN); (focus (decide +kernel))))
local macro_rules | `(tactic| fail) => `(tactic| ((with_reducible apply o_len); (focus (exact len_ref (by (first | assumption | exact updS_same | exact upd_at (by assumption) (by assumption)))))))
local macro_rules | `(tactic| fail) => `(tactic| ((with_reducible apply o_tuple); (focus (first | rfl | exact items_ref (by (first | assumption | exact updS_same | exact upd_at (by assumption) (by assumption)))))))
local macro_rules | `(tactic| fail) => `(tactic| ((with_reducible apply o_get2); (focus (first | assumption | exact updS_same | exact upd_at (by assumption) (by assumption))); (focus rfl); (focus ((repeat (first | with_reducible exact getD_hit | with_reducible exact getD_nil | ((with_reducible apply getD_miss); (focus (exact str_ne (by decide)))))); done))))
local macro_rules | `(tactic| fail) => `(tactic| ((with_reducible apply o_get1); (focus (first | assumption | exact updS_same | exact upd_at (by assumption) (by assumption))); (focus rfl); (focus ((repeat (first | with_reducible exact getD_hit | with_reducible exact getD_nil | ((with_reducible apply getD_miss); (focus (exact str_ne (by decide)))))); done))))
local macro_rules | `(tactic| fail) => `(tactic| ((with_reducible refine And.intro ?_ ?_); (focus (first | exact recvL (by (first | assumption | exact updS_same | exact upd_at (by assumption) (by assumption))) rfl | exact recvD (by (first | assumption | exact updS_same | exact upd_at (by assumption) (by assumption))) rfl))))
local macro_rules | `(tactic| fail) => `(tactic| ((with_reducible apply o_subD); (focus (first | assumption | exact updS_same | exact upd_at (by assumption) (by assumption))); (focus rfl); (focus ((repeat (first | with_reducible exact lookD_hit | ((with_reducible apply look_miss); (focus (exact str_ne (by decide)))))); done))))
local macro_rules | `(tactic| fail) => `(tactic| ((with_reducible apply c_ndF); (focus (((try simp only [List.length_cons, List.length_nil, List.length_append, List.length_map]); omega)))))
local macro_rules | `(tactic| fail) => `(tactic| ((with_reducible apply c_ndT); (focus (((try simp only [List.length_cons, List.length_nil, List.length_append, List.length_map]); omega)))))
local macro_rules | `(tactic| fail) => `(tactic| with_reducible refine o_intB ?_)
local macro_rules | `(tactic| fail) => `(tactic| ((with_reducible apply c_decF); (focus (((try simp only [List.length_cons, List.length_nil, List.length_append, List.length_map]); omega)))))
local macro_rules | `(tactic| fail) => `(tactic| ((with_reducible apply c_decT); (focus (((try simp only [List.length_cons, List.length_nil, List.length_append, List.length_map]); omega)))))
local macro_rules | `(tactic| fail) => `(tactic| with_reducible refine c_notf ?_)
local macro_rules | `(tactic| fail) => `(tactic| with_reducible refine c_nott ?_)
local macro_rules | `(tactic| fail) => `(tactic| with_reducible refine o_eqI ?_)
local macro_rules | `(tactic| fail) => `(tactic| ((with_reducible apply o_eqIf); (focus (((try simp only [List.length_cons, List.length_nil, List.length_append, List.length_map]); omega)))))
local macro_rules | `(tactic| fail) => `(tactic| ((with_reducible apply o_eqIt); (focus (((try simp only [List.length_cons, List.length_nil, List.length_append, List.length_map]); omega)))))
local macro_rules | `(tactic| fail) => `(tactic| with_reducible refine o_isB ?_)
local macro_rules | `(tactic| fail) => `(tactic| with_reducible refine o_isN ?_)
local macro_rules | `(tactic| fail) => `(tactic| with_reducible refine o_isR ?_)
local macro_rules | `(tactic| fail) => `(tactic| with_reducible refine o_eqB ?_)
local macro_rules | `(tactic| fail) => `(tactic| ((with_reducible apply o_neIf); (focus (((try simp only [List.length_cons, List.length_nil, List.length_append, List.length_map]); omega)))))
local macro_rules | `(tactic| fail) => `(tactic| ((with_reducible apply o_neIt); (focus (((try simp only [List.length_cons, List.length_nil, List.length_append, List.length_map]); omega)))))
local macro_rules | `(tactic| fail) => `(tactic| with_reducible refine o_neII ?_)
local macro_rules | `(tactic| fail) => `(tactic| with_reducible refine o_neBB ?_)
local macro_rules | `(tactic| fail) => `(tactic| ((with_reducible apply o_eqSf); (focus decide)))
local macro_rules | `(tactic| fail) => `(tactic| ((with_reducible apply o_atr); (focus rfl)))
local macro_rules | `(tactic| fail) => `(tactic| with_reducible refine o_isx ?_)
local macro_rules | `(tactic| fail) => `(tactic| with_reducible refine o_eqSt ?_)
local macro_rules | `(tactic| fail) => `(tactic| ((with_reducible apply o_len); focus (first | rfl | (simp only [lenD]; simp only [*]; done))))
local macro_rules | `(tactic| fail) => `(tactic| ((with_reducible apply o_setL); (focus (first | assumption | exact updS_same | exact upd_at (by assumption) (by assumption))); (focus rfl)))
local macro_rules | `(tactic| fail) => `(tactic| ((with_reducible refine And.intro ?_ ?_); (focus (first | exact selfOk (by (first | assumption | exact updS_same | exact upd_at (by assumption) (by assumption))) rfl | exact insOk (by (first | assumption | exact updS_same | exact upd_at (by assumption) (by assumption)))))))
local macro_rules | `(tactic| fail) => `(tactic| ((with_reducible apply o_setf); (focus (first | assumption | exact updS_same | exact upd_at (by assumption) (by assumption))); (focus (exact Nat.le_of_ble_eq_true rfl))))
local macro_rules | `(tactic| fail) => `(tactic| ((with_reducible apply o_fld); (focus (first | assumption | exact updS_same | exact upd_at (by assumption) (by assumption))); (focus rfl)))
local macro_rules | `(tactic| fail) => `(tactic| ((with_reducible apply o_subT); focus (rfl)))
local macro_rules | `(tactic| fail) => `(tactic| ((with_reducible apply o_subL); (focus (first | assumption | exact updS_same | exact upd_at (by assumption) (by assumption))); (focus rfl)))
local macro_rules | `(tactic| fail) => `(tactic| ((with_reducible apply o_pow); focus (unfold CPow; omega)))
local macro_rules | `(tactic| fail) => `(tactic| ((with_reducible apply o_mod); focus (omega)))
local macro_rules | `(tactic| fail) => `(tactic| ((with_reducible apply o_div); focus (unfold CDiv; omega)))
local macro_rules | `(tactic| fail) => `(tactic| ((with_reducible apply o_mul); focus (unfold CMul; omega)))
local macro_rules | `(tactic| fail) => `(tactic| ((with_reducible apply v_glob); focus (first | assumption | rfl)))
local macro_rules | `(tactic| fail) => `(tactic| ((with_reducible apply t_var); focus (rfl)))
local macro_rules | `(tactic| fail) => `(tactic| ((with_reducible apply v_var); focus (rfl)))
local macro_rules | `(tactic| fail) => `(tactic| with_reducible refine c_false ?_)
local macro_rules | `(tactic| fail) => `(tactic| with_reducible refine c_true ?_)
local macro_rules | `(tactic| fail) => `(tactic| with_reducible refine o_ge ?_)
local macro_rules | `(tactic| fail) => `(tactic| with_reducible refine o_gt ?_)
local macro_rules | `(tactic| fail) => `(tactic| with_reducible refine o_le ?_)
local macro_rules | `(tactic| fail) => `(tactic| with_reducible refine o_lt ?_)
local macro_rules | `(tactic| fail) => `(tactic| with_reducible refine o_sub ?_)
local macro_rules | `(tactic| fail) => `(tactic| with_reducible refine o_add ?_)
local macro_rules | `(tactic| fail) => `(tactic| with_reducible refine o_sub1 ?_)
local macro_rules | `(tactic| fail) => `(tactic| with_reducible refine o_sub0 ?_)
local macro_rules | `(tactic| fail) => `(tactic| with_reducible refine i_rng1 ?_)
local macro_rules | `(tactic| fail) => `(tactic| with_reducible refine i_seq ?_)
local macro_rules | `(tactic| fail) => `(tactic| with_reducible refine g_cons ?_)
local macro_rules | `(tactic| fail) => `(tactic| with_reducible refine g_nil ?_)
local macro_rules | `(tactic| fail) => `(tactic| with_reducible refine g_nm ?_)
local macro_rules | `(tactic| fail) => `(tactic| with_reducible refine ts_one ?_)
local macro_rules | `(tactic| fail) => `(tactic| with_reducible refine ts_nil ?_)
local macro_rules | `(tactic| fail) => `(tactic| with_reducible refine tr_int ?_)
local macro_rules | `(tactic| fail) => `(tactic| with_reducible refine tr_bl ?_)
local macro_rules | `(tactic| fail) => `(tactic| with_reducible refine tb_or ?_)
local macro_rules | `(tactic| fail) => `(tactic| with_reducible refine tb_and ?_)
local macro_rules | `(tactic| fail) => `(tactic| with_reducible refine tb_one ?_)
local macro_rules | `(tactic| fail) => `(tactic| with_reducible refine t_chain ?_)
local macro_rules | `(tactic| fail) => `(tactic| with_reducible refine t_sub ?_)
local macro_rules | `(tactic| fail) => `(tactic| with_reducible refine t_blt ?_)
local macro_rules | `(tactic| fail) => `(tactic| with_reducible refine t_call ?_)
local macro_rules | `(tactic| fail) => `(tactic| with_reducible refine t_cmp ?_)
local macro_rules | `(tactic| fail) => `(tactic| with_reducible refine t_nt ?_)
local macro_rules | `(tactic| fail) => `(tactic| with_reducible refine t_bop ?_)
local macro_rules | `(tactic| fail) => `(tactic| with_reducible refine vb_or ?_)
local macro_rules | `(tactic| fail) => `(tactic| with_reducible refine vb_and ?_)
local macro_rules | `(tactic| fail) => `(tactic| with_reducible refine vb_one ?_)
local macro_rules | `(tactic| fail) => `(tactic| with_reducible refine vo_some ?_)
local macro_rules | `(tactic| fail) => `(tactic| with_reducible refine vo_none ?_)
local macro_rules | `(tactic| fail) => `(tactic| with_reducible refine vs_cons ?_)
local macro_rules | `(tactic| fail) => `(tactic| with_reducible refine vs_nil ?_)
local macro_rules | `(tactic| fail) => `(tactic| with_reducible refine s_try ?_)
local macro_rules | `(tactic| fail) => `(tactic| with_reducible refine s_setf ?_)
local macro_rules | `(tactic| fail) => `(tactic| with_reducible refine v_eqo ?_)
local macro_rules | `(tactic| fail) => `(tactic| with_reducible refine t_isc ?_)
local macro_rules | `(tactic| fail) => `(tactic| with_reducible refine v_isc ?_)
local macro_rules | `(tactic| fail) => `(tactic| with_reducible refine t_meth ?_)
local macro_rules | `(tactic| fail) => `(tactic| with_reducible refine v_meth ?_)
local macro_rules | `(tactic| fail) => `(tactic| with_reducible refine v_new ?_)
local macro_rules | `(tactic| fail) => `(tactic| with_reducible refine v_fld ?_)
local macro_rules | `(tactic| fail) => `(tactic| with_reducible refine v_atr ?_)
local macro_rules | `(tactic| fail) => `(tactic| with_reducible refine v_isx ?_)
local macro_rules | `(tactic| fail) => `(tactic| with_reducible refine v_back ?_)
local macro_rules | `(tactic| fail) => `(tactic| with_reducible refine v_lc ?_)
local macro_rules | `(tactic| fail) => `(tactic| with_reducible refine v_mth ?_)
local macro_rules | `(tactic| fail) => `(tactic| with_reducible refine v_lzip ?_)
local macro_rules | `(tactic| fail) => `(tactic| with_reducible refine v_lrev ?_)
local macro_rules | `(tactic| fail) => `(tactic| with_reducible refine v_blt ?_)
local macro_rules | `(tactic| fail) => `(tactic| with_reducible refine v_call ?_)
local macro_rules | `(tactic| fail) => `(tactic| with_reducible refine v_slice ?_)
local macro_rules | `(tactic| fail) => `(tactic| with_reducible refine v_sub ?_)
local macro_rules | `(tactic| fail) => `(tactic| with_reducible refine v_lst ?_)
local macro_rules | `(tactic| fail) => `(tactic| with_reducible refine v_tup ?_)
local macro_rules | `(tactic| fail) => `(tactic| with_reducible refine v_ite ?_)
local macro_rules | `(tactic| fail) => `(tactic| with_reducible refine v_nt ?_)
local macro_rules | `(tactic| fail) => `(tactic| with_reducible refine v_bop ?_)
local macro_rules | `(tactic| fail) => `(tactic| with_reducible refine v_cmp ?_)
local macro_rules | `(tactic| fail) => `(tactic| with_reducible refine v_bin ?_)
local macro_rules | `(tactic| fail) => `(tactic| with_reducible refine v_bty ?_)
local macro_rules | `(tactic| fail) => `(tactic| with_reducible refine v_str ?_)
local macro_rules | `(tactic| fail) => `(tactic| with_reducible refine v_non ?_)
local macro_rules | `(tactic| fail) => `(tactic| with_reducible refine v_bl ?_)
local macro_rules | `(tactic| fail) => `(tactic| with_reducible refine v_int ?_)
local macro_rules | `(tactic| fail) => `(tactic| with_reducible refine s_cont ?_)
local macro_rules | `(tactic| fail) => `(tactic| with_reducible refine s_brk ?_)
local macro_rules | `(tactic| fail) => `(tactic| with_reducible refine s_nil ?_)
local macro_rules | `(tactic| fail) => `(tactic| with_reducible refine s_pass ?_)
local macro_rules | `(tactic| fail) => `(tactic| with_reducible refine s_retN ?_)
local macro_rules | `(tactic| fail) => `(tactic| with_reducible refine s_ret ?_)
local macro_rules | `(tactic| fail) => `(tactic| with_reducible refine s_ife ?_)
local macro_rules | `(tactic| fail) => `(tactic| with_reducible refine s_set ?_)
local macro_rules | `(tactic| fail) => `(tactic| with_reducible refine s_par ?_)
local macro_rules | `(tactic| fail) => `(tactic| with_reducible refine s_asg ?_)
local macro_rules | `(tactic| fail) => `(tactic| with_reducible refine s_ex ?_)

end
end Z

set_option Elab.async false
set_option linter.all false
set_option maxRecDepth 100000
set_option maxHeartbeats 4000000
namespace Z
open PySem PySem.Spec PyProof.Rows L2
section
variable {rows : List Row} {n : Nat} {f : Int} {M : Mx}
end
section
variable {C : Cw} {ex : EX} {σ : StD} {D' : EndD} {ss : List TS} {defs : Str → Option DefT} {gl : Str → Option D} {k : Nat} {S : Sto} {Q : D → Sto → Prop} {E : Exc → Sto → Prop}
theorem at_row {rows : List Row} {a : Nat} {r : Row} (h : rows[a]? = some r) : atI (rows.map rowD) (a : Int) = some (rowD r) := atI_nat (by rw [List.getElem?_map, h]; rfl)
local macro_rules | `(tactic| fail) => `(tactic| ((with_reducible refine And.intro ?_ ?_); (focus (exact Nat.le_of_ble_eq_true rfl))))
local macro_rules | `(tactic| fail) => `(tactic| with_reducible refine ⟨_, rfl, ?_⟩)
local macro_rules | `(tactic| fail) => `(tactic| ((with_reducible apply o_sliceT); (focus rfl)))
local macro_rules | `(tactic| fail) => `(tactic| ((with_reducible apply o_inTf); (focus rfl); (focus rfl); (focus (simp [inF, eqF, str_beq]; done))))
local macro_rules | `(tactic| fail) => `(tactic| ((with_reducible apply o_inTt); (focus rfl); (focus rfl); (focus (simp [inF, eqF, str_beq]; done))))
local macro_rules | `(tactic| fail) => `(tactic| ((with_reducible apply o_subC); (focus ((repeat (first | with_reducible exact lk_hit | ((with_reducible apply lk_miss); (focus (exact str_ne (by decide)))))); done))))
local macro_rules | `(tactic| fail) => `(tactic| ((with_reducible apply o_inC); (focus ((repeat (first | with_reducible exact lk_hit | ((with_reducible apply lk_miss); (focus (exact str_ne (by decide)))))); done))))
local macro_rules | `(tactic| fail) => `(tactic| ((with_reducible apply o_ninC); (focus ((repeat (first | with_reducible exact lk_hit | ((with_reducible apply lk_miss); (focus (exact str_ne (by decide)))))); done))))
local macro_rules | `(tactic| fail) => `(tactic| ((with_reducible apply o_isinF); (focus rfl); (focus (decide +kernel))))
local macro_rules | `(tactic| fail) => `(tactic| ((with_reducible apply o_isinT); (focus rfl); (focus (decide +kernel))))
local macro_rules | `(tactic| fail) => `(tactic| with_reducible refine i_enm ?_)
local macro_rules | `(tactic| fail) => `(tactic| ((with_reducible apply g_tup); (focus rfl); (focus rfl)))
local macro_rules | `(tactic| fail) => `(tactic| ((with_reducible apply v_dctN); (focus (decide +kernel))))
local macro_rules | `(tactic| fail) => `(tactic| ((with_reducible apply o_len); (focus (exact len_ref (by (first | assumption | exact updS_same | exact upd_at (by assumption) (by assumption)))))))
local macro_rules | `(tactic| fail) => `(tactic| ((with_reducible apply o_tuple); (focus (first | rfl | exact items_ref (by (first | assumption | exact updS_same | exact upd_at (by assumption) (by assumption)))))))
local macro_rules | `(tactic| fail) => `(tactic| ((with_reducible apply o_get2); (focus (first | assumption | exact updS_same | exact upd_at (by assumption) (by assumption))); (focus rfl); (focus ((repeat (first | with_reducible exact getD_hit | with_reducible exact getD_nil | ((with_reducible apply getD_miss); (focus (exact str_ne (by decide)))))); done))))
local macro_rules | `(tactic| fail) => `(tactic| ((with_reducible apply o_get1); (focus (first | assumption | exact updS_same | exact upd_at (by assumption) (by assumption))); (focus rfl); (focus ((repeat (first | with_reducible exact getD_hit | with_reducible exact getD_nil | ((with_reducible apply getD_miss); (focus (exact str_ne (by decide)))))); done))))
local macro_rules | `(tactic| fail) => `(tactic| ((with_reducible refine And.intro ?_ ?_); (focus (first | exact recvL (by (first | assumption | exact updS_same | exact upd_at (by assumption) (by assumption))) rfl | exact recvD (by (first | assumption | exact updS_same | exact upd_at (by assumption) (by assumption))) rfl))))
local macro_rules | `(tactic| fail) => `(tactic| ((with_reducible apply o_subD); (focus (first | assumption | exact updS_same | exact upd_at (by assumption) (by assumption))); (focus rfl); (focus ((repeat (first | with_reducible exact lookD_hit | ((with_reducible apply look_miss); (focus (exact str_ne (by decide)))))); done))))
local macro_rules | `(tactic| fail) => `(tactic| ((with_reducible apply c_ndF); (focus (((try simp only [List.length_cons, List.length_nil, List.length_append, List.length_map]); omega)))))
local macro_rules | `(tactic| fail) => `(tactic| ((with_reducible apply c_ndT); (focus (((try simp only [List.length_cons, List.length_nil, List.length_append, List.length_map]); omega)))))
local macro_rules | `(tactic| fail) => `(tactic| with_reducible refine o_intB ?_)
local macro_rules | `(tactic| fail) => `(tactic| ((with_reducible apply c_decF); (focus (((try simp only [List.length_cons, List.length_nil, List.length_append, List.length_map]); omega)))))
local macro_rules | `(tactic| fail) => `(tactic| ((with_reducible apply c_decT); (focus (((try simp only [List.length_cons, List.length_nil, List.length_append, List.length_map]); omega)))))
local macro_rules | `(tactic| fail) => `(tactic| with_reducible refine c_notf ?_)
local macro_rules | `(tactic| fail) => `(tactic| with_reducible refine c_nott ?_)
local macro_rules | `(tactic| fail) => `(tactic| with_reducible refine o_eqI ?_)
local macro_rules | `(tactic| fail) => `(tactic| ((with_reducible apply o_eqIf); (focus (((try simp only [List.length_cons, List.length_nil, List.length_append, List.length_map]); omega)))))
local macro_rules | `(tactic| fail) => `(tactic| ((with_reducible apply o_eqIt); (focus (((try simp only [List.length_cons, List.length_nil, List.length_append, List.length_map]); omega)))))
local macro_rules | `(tactic| fail) => `(tactic| with_reducible refine o_isB ?_)
local macro_rules | `(tactic| fail) => `(tactic| with_reducible refine o_isN ?_)
local macro_rules | `(tactic| fail) => `(tactic| with_reducible refine o_isR ?_)
local macro_rules | `(tactic| fail) => `(tactic| with_reducible refine o_eqB ?_)
local macro_rules | `(tactic| fail) => `(tactic| ((with_reducible apply o_neIf); (focus (((try simp only [List.length_cons, List.length_nil, List.length_append, List.length_map]); omega)))))
local macro_rules | `(tactic| fail) => `(tactic| ((with_reducible apply o_neIt); (focus (((try simp only [List.length_cons, List.length_nil, List.length_append, List.length_map]); omega)))))
local macro_rules | `(tactic| fail) => `(tactic| with_reducible refine o_neII ?_)
local macro_rules | `(tactic| fail) => `(tactic| with_reducible refine o_neBB ?_)
local macro_rules | `(tactic| fail) => `(tactic| ((with_reducible apply o_eqSf); (focus decide)))
local macro_rules | `(tactic| fail) => `(tactic| ((with_reducible apply o_atr); (focus rfl)))
local macro_rules | `(tactic| fail) => `(tactic| with_reducible refine o_isx ?_)
local macro_rules | `(tactic| fail) => `(tactic| with_reducible refine o_eqSt ?_)
local macro_rules | `(tactic| fail) => `(tactic| ((with_reducible apply o_len); focus (first | rfl | (simp only [lenD]; simp only [*]; done))))
local macro_rules | `(tactic| fail) => `(tactic| ((with_reducible apply o_setL); (focus (first | assumption | exact updS_same | exact upd_at (by assumption) (by assumption))); (focus rfl)))
local macro_rules | `(tactic| fail) => `(tactic| ((with_reducible refine And.intro ?_ ?_); (focus (first | exact selfOk (by (first | assumption | exact updS_same | exact upd_at (by assumption) (by assumption))) rfl | exact insOk (by (first | assumption | exact updS_same | exact upd_at (by assumption) (by assumption)))))))
local macro_rules | `(tactic| fail) => `(tactic| ((with_reducible apply o_setf); (focus (first | assumption | exact updS_same | exact upd_at (by assumption) (by assumption))); (focus (exact Nat.le_of_ble_eq_true rfl))))
local macro_rules | `(tactic| fail) => `(tactic| ((with_reducible apply o_fld); (focus (first | assumption | exact updS_same | exact upd_at (by assumption) (by assumption))); (focus rfl)))
local macro_rules | `(tactic| fail) => `(tactic| ((with_reducible apply o_subT); focus (rfl)))
local macro_rules | `(tactic| fail) => `(tactic| ((with_reducible apply o_subL); (focus (first | assumption | exact updS_same | exact upd_at (by assumption) (by assumption))); (focus rfl)))
local macro_rules | `(tactic| fail) => `(tactic| ((with_reducible apply o_pow); focus (unfold CPow; omega)))
local macro_rules | `(tactic| fail) => `(tactic| ((with_reducible apply o_mod); focus (omega)))
local macro_rules | `(tactic| fail) => `(tactic| ((with_reducible apply o_div); focus (unfold CDiv; omega)))
local macro_rules | `(tactic| fail) => `(tactic| ((with_reducible apply o_mul); focus (unfold CMul; omega)))
local macro_rules | `(tactic| fail) => `(tactic| ((with_reducible apply v_glob); focus (first | assumption | rfl)))
local macro_rules | `(tactic| fail) => `(tactic| ((with_reducible apply t_var); focus (rfl)))
local macro_rules | `(tactic| fail) => `(tactic| ((with_reducible apply v_var); focus (rfl)))
local macro_rules | `(tactic| fail) => `(tactic| with_reducible refine c_false ?_)
local macro_rules | `(tactic| fail) => `(tactic| with_reducible refine c_true ?_)
local macro_rules | `(tactic| fail) => `(tactic| with_reducible refine o_ge ?_)
local macro_rules | `(tactic| fail) => `(tactic| with_reducible refine o_gt ?_)
local macro_rules | `(tactic| fail) => `(tactic| with_reducible refine o_le ?_)
local macro_rules | `(tactic| fail) => `(tactic| with_reducible refine o_lt ?_)
local macro_rules | `(tactic| fail) => `(tactic| with_reducible refine o_sub ?_)
local macro_rules | `(tactic| fail) => `(tactic| with_reducible refine o_add ?_)
local macro_rules | `(tactic| fail) => `(tactic| with_reducible refine o_sub1 ?_)
local macro_rules | `(tactic| fail) => `(tactic| with_reducible refine o_sub0 ?_)
local macro_rules | `(tactic| fail) => `(tactic| with_reducible refine i_rng1 ?_)
local macro_rules | `(tactic| fail) => `(tactic| with_reducible refine i_seq ?_)
local macro_rules | `(tactic| fail) => `(tactic| with_reducible refine g_cons ?_)
local macro_rules | `(tactic| fail) => `(tactic| with_reducible refine g_nil ?_)
local macro_rules | `(tactic| fail) => `(tactic| with_reducible refine g_nm ?_)
local macro_rules | `(tactic| fail) => `(tactic| with_reducible refine ts_one ?_)
local macro_rules | `(tactic| fail) => `(tactic| with_reducible refine ts_nil ?_)
local macro_rules | `(tactic| fail) => `(tactic| with_reducible refine tr_int ?_)
local macro_rules | `(tactic| fail) => `(tactic| with_reducible refine tr_bl ?_)
local macro_rules | `(tactic| fail) => `(tactic| with_reducible refine tb_or ?_)
local macro_rules | `(tactic| fail) => `(tactic| with_reducible refine tb_and ?_)
local macro_rules | `(tactic| fail) => `(tactic| with_reducible refine tb_one ?_)
local macro_rules | `(tactic| fail) => `(tactic| with_reducible refine t_chain ?_)
local macro_rules | `(tactic| fail) => `(tactic| with_reducible refine t_sub ?_)
local macro_rules | `(tactic| fail) => `(tactic| with_reducible refine t_blt ?_)
local macro_rules | `(tactic| fail) => `(tactic| with_reducible refine t_call ?_)
local macro_rules | `(tactic| fail) => `(tactic| with_reducible refine t_cmp ?_)
local macro_rules | `(tactic| fail) => `(tactic| with_reducible refine t_nt ?_)
local macro_rules | `(tactic| fail) => `(tactic| with_reducible refine t_bop ?_)
local macro_rules | `(tactic| fail) => `(tactic| with_reducible refine vb_or ?_)
local macro_rules | `(tactic| fail) => `(tactic| with_reducible refine vb_and ?_)
local macro_rules | `(tactic| fail) => `(tactic| with_reducible refine vb_one ?_)
local macro_rules | `(tactic| fail) => `(tactic| with_reducible refine vo_some ?_)
local macro_rules | `(tactic| fail) => `(tactic| with_reducible refine vo_none ?_)
local macro_rules | `(tactic| fail) => `(tactic| with_reducible refine vs_cons ?_)
local macro_rules | `(tactic| fail) => `(tactic| with_reducible refine vs_nil ?_)
local macro_rules | `(tactic| fail) => `(tactic| with_reducible refine s_try ?_)
local macro_rules | `(tactic| fail) => `(tactic| with_reducible refine s_setf ?_)
local macro_rules | `(tactic| fail) => `(tactic| with_reducible refine v_eqo ?_)
local macro_rules | `(tactic| fail) => `(tactic| with_reducible refine t_isc ?_)
local macro_rules | `(tactic| fail) => `(tactic| with_reducible refine v_isc ?_)
local macro_rules | `(tactic| fail) => `(tactic| with_reducible refine t_meth ?_)
local macro_rules | `(tactic| fail) => `(tactic| with_reducible refine v_meth ?_)
local macro_rules | `(tactic| fail) => `(tactic| with_reducible refine v_new ?_)
local macro_rules | `(tactic| fail) => `(tactic| with_reducible refine v_fld ?_)
local macro_rules | `(tactic| fail) => `(tactic| with_reducible refine v_atr ?_)
local macro_rules | `(tactic| fail) => `(tactic| with_reducible refine v_isx ?_)
local macro_rules | `(tactic| fail) => `(tactic| with_reducible refine v_back ?_)
local macro_rules | `(tactic| fail) => `(tactic| with_reducible refine v_lc ?_)
local macro_rules | `(tactic| fail) => `(tactic| with_reducible refine v_mth ?_)
local macro_rules | `(tactic| fail) => `(tactic| with_reducible refine v_lzip ?_)
local macro_rules | `(tactic| fail) => `(tactic| with_reducible refine v_lrev ?_)
local macro_rules | `(tactic| fail) => `(tactic| with_reducible refine v_blt ?_)
local macro_rules | `(tactic| fail) => `(tactic| with_reducible refine v_call ?_)
local macro_rules | `(tactic| fail) => `(tactic| with_reducible refine v_slice ?_)
local macro_rules | `(tactic| fail) => `(tactic| with_reducible refine v_sub ?_)
local macro_rules | `(tactic| fail) => `(tactic| with_reducible refine v_lst ?_)
local macro_rules | `(tactic| fail) => `(tactic| with_reducible refine v_tup ?_)
local macro_rules | `(tactic| fail) => `(tactic| with_reducible refine v_ite ?_)
local macro_rules | `(tactic| fail) => `(tactic| with_reducible refine v_nt ?_)
local macro_rules | `(tactic| fail) => `(tactic| with_reducible refine v_bop ?_)
local macro_rules | `(tactic| fail) => `(tactic| with_reducible refine v_cmp ?_)
local macro_rules | `(tactic| fail) => `(tactic| with_reducible refine v_bin ?_)
local macro_rules | `(tactic| fail) => `(tactic| with_reducible refine v_bty ?_)
local macro_rules | `(tactic| fail) => `(tactic| with_reducible refine v_str ?_)
local macro_rules | `(tactic| fail) => `(tactic| with_reducible refine v_non ?_)
local macro_rules | `(tactic| fail) => `(tactic| with_reducible refine v_bl ?_)
local macro_rules | `(tactic| fail) => `(tactic| with_reducible refine v_int ?_)
local macro_rules | `(tactic| fail) => `(tactic| with_reducible refine s_cont ?_)
local macro_rules | `(tactic| fail) => `(tactic| with_reducible refine s_brk ?_)
local macro_rules | `(tactic| fail) => `(tactic| with_reducible refine s_nil ?_)
local macro_rules | `(tactic| fail) => `(tactic| with_reducible refine s_pass ?_)
local macro_rules | `(tactic| fail) => `(tactic| with_reducible refine s_retN ?_)
local macro_rules | `(tactic| fail) => `(tactic| with_reducible refine s_ret ?_)
local macro_rules | `(tactic| fail) => `(tactic| with_reducible refine s_ife ?_)
local macro_rules | `(tactic| fail) => `(tactic| with_reducible refine s_set ?_)
local macro_rules | `(tactic| fail) => `(tactic| with_reducible refine s_par ?_)
local macro_rules | `(tactic| fail) => `(tactic| with_reducible refine s_asg ?_)
local macro_rules | `(tactic| fail) => `(tactic| with_reducible refine s_ex ?_)

end
end Z

set_option Elab.async false
set_option linter.all false
set_option maxRecDepth 100000
set_option maxHeartbeats 4000000
namespace Z
open PySem PySem.Spec PyProof.Rows L2
def rowAt (rows : List Row) (t : Int) : Row := rows.getD t.toNat (0, 0, 0)
structure RingTo (rows : List Row) (ts : List Int) (m : Nat) : Prop where
  nd : ∀ a, a < m → ts.getD a 0 ∉ ts.take a
  lt : ∀ a, a < m → 0 ≤ ts.getD a 0 ∧ ts.getD a 0 < rows.length
  rnd : ∀ a, a < m → (rowAt rows (ts.getD a 0)).2.1 = (rowAt rows (ts.getD ((a + 1) % ts.length) 0)).1
theorem RingTo.nil {rows : List Row} {ts : List Int} : RingTo rows ts 0 := ⟨fun a h => by omega, fun a h => by omega, fun a h => by omega⟩
section
variable {defs : Str → Option DefT} {gl : Str → Option D} {k : Nat} {S : Sto} {Q : D → Sto → Prop} {E : Exc → Sto → Prop}
theorem at_rowI {rows : List Row} {t : Int} (h : 0 ≤ t ∧ t < rows.length) : atI (rows.map rowD) t = some (rowD (rowAt rows t)) := by
  obtain ⟨a, rfl⟩ := Int.eq_ofNat_of_zero_le h.1
  have ha : a < rows.length := by omega
  refine at_row (r := rowAt rows a) ?_
  unfold rowAt
  rw [Int.toNat_natCast, List.getD_eq_getElem?_getD, List.getElem?_eq_getElem ha]; rfl
local macro_rules | `(tactic| fail) => `(tactic| ((with_reducible refine And.intro ?_ ?_); (focus (exact Nat.le_of_ble_eq_true rfl))))
local macro_rules | `(tactic| fail) => `(tactic| with_reducible refine ⟨_, rfl, ?_⟩)
local macro_rules | `(tactic| fail) => `(tactic| ((with_reducible apply o_sliceT); (focus rfl)))
local macro_rules | `(tactic| fail) => `(tactic| ((with_reducible apply o_inTf); (focus rfl); (focus rfl); (focus (simp [inF, eqF, str_beq]; done))))
local macro_rules | `(tactic| fail) => `(tactic| ((with_reducible apply o_inTt); (focus rfl); (focus rfl); (focus (simp [inF, eqF, str_beq]; done))))
local macro_rules | `(tactic| fail) => `(tactic| ((with_reducible apply o_subC); (focus ((repeat (first | with_reducible exact lk_hit | ((with_reducible apply lk_miss); (focus (exact str_ne (by decide)))))); done))))
local macro_rules | `(tactic| fail) => `(tactic| ((with_reducible apply o_inC); (focus ((repeat (first | with_reducible exact lk_hit | ((with_reducible apply lk_miss); (focus (exact str_ne (by decide)))))); done))))
local macro_rules | `(tactic| fail) => `(tactic| ((with_reducible apply o_ninC); (focus ((repeat (first | with_reducible exact lk_hit | ((with_reducible apply lk_miss); (focus (exact str_ne (by decide)))))); done))))
local macro_rules | `(tactic| fail) => `(tactic| ((with_reducible apply o_isinF); (focus rfl); (focus (decide +kernel))))
local macro_rules | `(tactic| fail) => `(tactic| ((with_reducible apply o_isinT); (focus rfl); (focus (decide +kernel))))
local macro_rules | `(tactic| fail) => `(tactic| with_reducible refine i_enm ?_)
local macro_rules | `(tactic| fail) => `(tactic| ((with_reducible apply g_tup); (focus rfl); (focus rfl)))
local macro_rules | `(tactic| fail) => `(tactic| ((with_reducible apply v_dctN); (focus (decide +kernel))))
local macro_rules | `(tactic| fail) => `(tactic| ((with_reducible apply o_len); (focus (exact len_ref (by (first | assumption | exact updS_same | exact upd_at (by assumption) (by assumption)))))))
local macro_rules | `(tactic| fail) => `(tactic| ((with_reducible apply o_tuple); (focus (first | rfl | exact items_ref (by (first | assumption | exact updS_same | exact upd_at (by assumption) (by assumption)))))))
local macro_rules | `(tactic| fail) => `(tactic| ((with_reducible apply o_get2); (focus (first | assumption | exact updS_same | exact upd_at (by assumption) (by assumption))); (focus rfl); (focus ((repeat (first | with_reducible exact getD_hit | with_reducible exact getD_nil | ((with_reducible apply getD_miss); (focus (exact str_ne (by decide)))))); done))))
local macro_rules | `(tactic| fail) => `(tactic| ((with_reducible apply o_get1); (focus (first | assumption | exact updS_same | exact upd_at (by assumption) (by assumption))); (focus rfl); (focus ((repeat (first | with_reducible exact getD_hit | with_reducible exact getD_nil | ((with_reducible apply getD_miss); (focus (exact str_ne (by decide)))))); done))))
local macro_rules | `(tactic| fail) => `(tactic| ((with_reducible refine And.intro ?_ ?_); (focus (first | exact recvL (by (first | assumption | exact updS_same | exact upd_at (by assumption) (by assumption))) rfl | exact recvD (by (first | assumption | exact updS_same | exact upd_at (by assumption) (by assumption))) rfl))))
local macro_rules | `(tactic| fail) => `(tactic| ((with_reducible apply o_subD); (focus (first | assumption | exact updS_same | exact upd_at (by assumption) (by assumption))); (focus rfl); (focus ((repeat (first | with_reducible exact lookD_hit | ((with_reducible apply look_miss); (focus (exact str_ne (by decide)))))); done))))
local macro_rules | `(tactic| fail) => `(tactic| ((with_reducible apply c_ndF); (focus (((try simp only [List.length_cons, List.length_nil, List.length_append, List.length_map]); omega)))))
local macro_rules | `(tactic| fail) => `(tactic| ((with_reducible apply c_ndT); (focus (((try simp only [List.length_cons, List.length_nil, List.length_append, List.length_map]); omega)))))
local macro_rules | `(tactic| fail) => `(tactic| with_reducible refine o_intB ?_)
local macro_rules | `(tactic| fail) => `(tactic| ((with_reducible apply c_decF); (focus (((try simp only [List.length_cons, List.length_nil, List.length_append, List.length_map]); omega)))))
local macro_rules | `(tactic| fail) => `(tactic| ((with_reducible apply c_decT); (focus (((try simp only [List.length_cons, List.length_nil, List.length_append, List.length_map]); omega)))))
local macro_rules | `(tactic| fail) => `(tactic| with_reducible refine c_notf ?_)
local macro_rules | `(tactic| fail) => `(tactic| with_reducible refine c_nott ?_)
local macro_rules | `(tactic| fail) => `(tactic| with_reducible refine o_eqI ?_)
local macro_rules | `(tactic| fail) => `(tactic| ((with_reducible apply o_eqIf); (focus (((try simp only [List.length_cons, List.length_nil, List.length_append, List.length_map]); omega)))))
local macro_rules | `(tactic| fail) => `(tactic| ((with_reducible apply o_eqIt); (focus (((try simp only [List.length_cons, List.length_nil, List.length_append, List.length_map]); omega)))))
local macro_rules | `(tactic| fail) => `(tactic| with_reducible refine o_isB ?_)
local macro_rules | `(tactic| fail) => `(tactic| with_reducible refine o_isN ?_)
local macro_rules | `(tactic| fail) => `(tactic| with_reducible refine o_isR ?_)
local macro_rules | `(tactic| fail) => `(tactic| with_reducible refine o_eqB ?_)
local macro_rules | `(tactic| fail) => `(tactic| ((with_reducible apply o_neIf); (focus (((try simp only [List.length_cons, List.length_nil, List.length_append, List.length_map]); omega)))))
local macro_rules | `(tactic| fail) => `(tactic| ((with_reducible apply o_neIt); (focus (((try simp only [List.length_cons, List.length_nil, List.length_append, List.length_map]); omega)))))
local macro_rules | `(tactic| fail) => `(tactic| with_reducible refine o_neII ?_)
local macro_rules | `(tactic| fail) => `(tactic| with_reducible refine o_neBB ?_)
local macro_rules | `(tactic| fail) => `(tactic| ((with_reducible apply o_eqSf); (focus decide)))
local macro_rules | `(tactic| fail) => `(tactic| ((with_reducible apply o_atr); (focus rfl)))
local macro_rules | `(tactic| fail) => `(tactic| with_reducible refine o_isx ?_)
local macro_rules | `(tactic| fail) => `(tactic| with_reducible refine o_eqSt ?_)
local macro_rules | `(tactic| fail) => `(tactic| ((with_reducible apply o_len); focus (first | rfl | (simp only [lenD]; simp only [*]; done))))
local macro_rules | `(tactic| fail) => `(tactic| ((with_reducible apply o_setL); (focus (first | assumption | exact updS_same | exact upd_at (by assumption) (by assumption))); (focus rfl)))
local macro_rules | `(tactic| fail) => `(tactic| ((with_reducible refine And.intro ?_ ?_); (focus (first | exact selfOk (by (first | assumption | exact updS_same | exact upd_at (by assumption) (by assumption))) rfl | exact insOk (by (first | assumption | exact updS_same | exact upd_at (by assumption) (by assumption)))))))
local macro_rules | `(tactic| fail) => `(tactic| ((with_reducible apply o_setf); (focus (first | assumption | exact updS_same | exact upd_at (by assumption) (by assumption))); (focus (exact Nat.le_of_ble_eq_true rfl))))
local macro_rules | `(tactic| fail) => `(tactic| ((with_reducible apply o_fld); (focus (first | assumption | exact updS_same | exact upd_at (by assumption) (by assumption))); (focus rfl)))
local macro_rules | `(tactic| fail) => `(tactic| ((with_reducible apply o_subT); focus (rfl)))
local macro_rules | `(tactic| fail) => `(tactic| ((with_reducible apply o_subL); (focus (first | assumption | exact updS_same | exact upd_at (by assumption) (by assumption))); (focus rfl)))
local macro_rules | `(tactic| fail) => `(tactic| ((with_reducible apply o_pow); focus (unfold CPow; omega)))
local macro_rules | `(tactic| fail) => `(tactic| ((with_reducible apply o_mod); focus (omega)))
local macro_rules | `(tactic| fail) => `(tactic| ((with_reducible apply o_div); focus (unfold CDiv; omega)))
local macro_rules | `(tactic| fail) => `(tactic| ((with_reducible apply o_mul); focus (unfold CMul; omega)))
local macro_rules | `(tactic| fail) => `(tactic| ((with_reducible apply v_glob); focus (first | assumption | rfl)))
local macro_rules | `(tactic| fail) => `(tactic| ((with_reducible apply t_var); focus (rfl)))
local macro_rules | `(tactic| fail) => `(tactic| ((with_reducible apply v_var); focus (rfl)))
local macro_rules | `(tactic| fail) => `(tactic| with_reducible refine c_false ?_)
local macro_rules | `(tactic| fail) => `(tactic| with_reducible refine c_true ?_)
local macro_rules | `(tactic| fail) => `(tactic| with_reducible refine o_ge ?_)
local macro_rules | `(tactic| fail) => `(tactic| with_reducible refine o_gt ?_)
local macro_rules | `(tactic| fail) => `(tactic| with_reducible refine o_le ?_)
local macro_rules | `(tactic| fail) => `(tactic| with_reducible refine o_lt ?_)
local macro_rules | `(tactic| fail) => `(tactic| with_reducible refine o_sub ?_)
local macro_rules | `(tactic| fail) => `(tactic| with_reducible refine o_add ?_)
local macro_rules | `(tactic| fail) => `(tactic| with_reducible refine o_sub1 ?_)
local macro_rules | `(tactic| fail) => `(tactic| with_reducible refine o_sub0 ?_)
local macro_rules | `(tactic| fail) => `(tactic| with_reducible refine i_rng1 ?_)
local macro_rules | `(tactic| fail) => `(tactic| with_reducible refine i_seq ?_)
local macro_rules | `(tactic| fail) => `(tactic| with_reducible refine g_cons ?_)
local macro_rules | `(tactic| fail) => `(tactic| with_reducible refine g_nil ?_)
local macro_rules | `(tactic| fail) => `(tactic| with_reducible refine g_nm ?_)
local macro_rules | `(tactic| fail) => `(tactic| with_reducible refine ts_one ?_)
local macro_rules | `(tactic| fail) => `(tactic| with_reducible refine ts_nil ?_)
local macro_rules | `(tactic| fail) => `(tactic| with_reducible refine tr_int ?_)
local macro_rules | `(tactic| fail) => `(tactic| with_reducible refine tr_bl ?_)
local macro_rules | `(tactic| fail) => `(tactic| with_reducible refine tb_or ?_)
local macro_rules | `(tactic| fail) => `(tactic| with_reducible refine tb_and ?_)
local macro_rules | `(tactic| fail) => `(tactic| with_reducible refine tb_one ?_)
local macro_rules | `(tactic| fail) => `(tactic| with_reducible refine t_chain ?_)
local macro_rules | `(tactic| fail) => `(tactic| with_reducible refine t_sub ?_)
local macro_rules | `(tactic| fail) => `(tactic| with_reducible refine t_blt ?_)
local macro_rules | `(tactic| fail) => `(tactic| with_reducible refine t_call ?_)
local macro_rules | `(tactic| fail) => `(tactic| with_reducible refine t_cmp ?_)
local macro_rules | `(tactic| fail) => `(tactic| with_reducible refine t_nt ?_)
local macro_rules | `(tactic| fail) => `(tactic| with_reducible refine t_bop ?_)
local macro_rules | `(tactic| fail) => `(tactic| with_reducible refine vb_or ?_)
local macro_rules | `(tactic| fail) => `(tactic| with_reducible refine vb_and ?_)
local macro_rules | `(tactic| fail) => `(tactic| with_reducible refine vb_one ?_)
local macro_rules | `(tactic| fail) => `(tactic| with_reducible refine vo_some ?_)
local macro_rules | `(tactic| fail) => `(tactic| with_reducible refine vo_none ?_)
local macro_rules | `(tactic| fail) => `(tactic| with_reducible refine vs_cons ?_)
local macro_rules | `(tactic| fail) => `(tactic| with_reducible refine vs_nil ?_)
local macro_rules | `(tactic| fail) => `(tactic| with_reducible refine s_try ?_)
local macro_rules | `(tactic| fail) => `(tactic| with_reducible refine s_setf ?_)
local macro_rules | `(tactic| fail) => `(tactic| with_reducible refine v_eqo ?_)
local macro_rules | `(tactic| fail) => `(tactic| with_reducible refine t_isc ?_)
local macro_rules | `(tactic| fail) => `(tactic| with_reducible refine v_isc ?_)
local macro_rules | `(tactic| fail) => `(tactic| with_reducible refine t_meth ?_)
local macro_rules | `(tactic| fail) => `(tactic| with_reducible refine v_meth ?_)
local macro_rules | `(tactic| fail) => `(tactic| with_reducible refine v_new ?_)
local macro_rules | `(tactic| fail) => `(tactic| with_reducible refine v_fld ?_)
local macro_rules | `(tactic| fail) => `(tactic| with_reducible refine v_atr ?_)
local macro_rules | `(tactic| fail) => `(tactic| with_reducible refine v_isx ?_)
local macro_rules | `(tactic| fail) => `(tactic| with_reducible refine v_back ?_)
local macro_rules | `(tactic| fail) => `(tactic| with_reducible refine v_lc ?_)
local macro_rules | `(tactic| fail) => `(tactic| with_reducible refine v_mth ?_)
local macro_rules | `(tactic| fail) => `(tactic| with_reducible refine v_lzip ?_)
local macro_rules | `(tactic| fail) => `(tactic| with_reducible refine v_lrev ?_)
local macro_rules | `(tactic| fail) => `(tactic| with_reducible refine v_blt ?_)
local macro_rules | `(tactic| fail) => `(tactic| with_reducible refine v_call ?_)
local macro_rules | `(tactic| fail) => `(tactic| with_reducible refine v_slice ?_)
local macro_rules | `(tactic| fail) => `(tactic| with_reducible refine v_sub ?_)
local macro_rules | `(tactic| fail) => `(tactic| with_reducible refine v_lst ?_)
local macro_rules | `(tactic| fail) => `(tactic| with_reducible refine v_tup ?_)
local macro_rules | `(tactic| fail) => `(tactic| with_reducible refine v_ite ?_)
local macro_rules | `(tactic| fail) => `(tactic| with_reducible refine v_nt ?_)
local macro_rules | `(tactic| fail) => `(tactic| with_reducible refine v_bop ?_)
local macro_rules | `(tactic| fail) => `(tactic| with_reducible refine v_cmp ?_)
local macro_rules | `(tactic| fail) => `(tactic| with_reducible refine v_bin ?_)
local macro_rules | `(tactic| fail) => `(tactic| with_reducible refine v_bty ?_)
local macro_rules | `(tactic| fail) => `(tactic| with_reducible refine v_str ?_)
local macro_rules | `(tactic| fail) => `(tactic| with_reducible refine v_non ?_)
local macro_rules | `(tactic| fail) => `(tactic| with_reducible refine v_bl ?_)
local macro_rules | `(tactic| fail) => `(tactic| with_reducible refine v_int ?_)
local macro_rules | `(tactic| fail) => `(tactic| with_reducible refine s_cont ?_)
local macro_rules | `(tactic| fail) => `(tactic| with_reducible refine s_brk ?_)
local macro_rules | `(tactic| fail) => `(tactic| with_reducible refine s_nil ?_)
local macro_rules | `(tactic| fail) => `(tactic| with_reducible refine s_pass ?_)
local macro_rules | `(tactic| fail) => `(tactic| with_reducible refine s_retN ?_)
local macro_rules | `(tactic| fail) => `(tactic| with_reducible refine s_ret ?_)
local macro_rules | `(tactic| fail) => `(tactic| with_reducible refine s_ife ?_)
local macro_rules | `(tactic| fail) => `(tactic| with_reducible refine s_set ?_)
local macro_rules | `(tactic| fail) => `(tactic| with_reducible refine s_par ?_)
local macro_rules | `(tactic| fail) => `(tactic| with_reducible refine s_asg ?_)
local macro_rules | `(tactic| fail) => `(tactic| with_reducible refine s_ex ?_)

end
end Z

set_option Elab.async false
set_option linter.all false
set_option maxRecDepth 100000
set_option maxHeartbeats 4000000
namespace Z
open PySem PySem.Spec PyProof.Rows L2
section
variable {defs : Str → Option DefT} {gl : Str → Option D} {k : Nat} {S : Sto} {Q : D → Sto → Prop} {E : Exc → Sto → Prop}
local macro_rules | `(tactic| fail) => `(tactic| ((with_reducible refine And.intro ?_ ?_); (focus (exact Nat.le_of_ble_eq_true rfl))))
local macro_rules | `(tactic| fail) => `(tactic| with_reducible refine ⟨_, rfl, ?_⟩)
local macro_rules | `(tactic| fail) => `(tactic| ((with_reducible apply o_sliceT); (focus rfl)))
local macro_rules | `(tactic| fail) => `(tactic| ((with_reducible apply o_inTf); (focus rfl); (focus rfl); (focus (simp [inF, eqF, str_beq]; done))))
local macro_rules | `(tactic| fail) => `(tactic| ((with_reducible apply o_inTt); (focus rfl); (focus rfl); (focus (simp [inF, eqF, str_beq]; done))))
local macro_rules | `(tactic| fail) => `(tactic| ((with_reducible apply o_subC); (focus ((repeat (first | with_reducible exact lk_hit | ((with_reducible apply lk_miss); (focus (exact str_ne (by decide)))))); done))))
local macro_rules | `(tactic| fail) => `(tactic| ((with_reducible apply o_inC); (focus ((repeat (first | with_reducible exact lk_hit | ((with_reducible apply lk_miss); (focus (exact str_ne (by decide)))))); done))))
local macro_rules | `(tactic| fail) => `(tactic| ((with_reducible apply o_ninC); (focus ((repeat (first | with_reducible exact lk_hit | ((with_reducible apply lk_miss); (focus (exact str_ne (by decide)))))); done))))
local macro_rules | `(tactic| fail) => `(tactic| ((with_reducible apply o_isinF); (focus rfl); (focus (decide +kernel))))
local macro_rules | `(tactic| fail) => `(tactic| ((with_reducible apply o_isinT); (focus rfl); (focus (decide +kernel))))
local macro_rules | `(tactic| fail) => `(tactic| with_reducible refine i_enm ?_)
local macro_rules | `(tactic| fail) => `(tactic| ((with_reducible apply g_tup); (focus rfl); (focus rfl)))
local macro_rules | `(tactic| fail) => `(tactic| ((with_reducible apply v_dctN); (focus (decide +kernel))))
local macro_rules | `(tactic| fail) => `(tactic| ((with_reducible apply o_len); (focus (exact len_ref (by (first | assumption | exact updS_same | exact upd_at (by assumption) (by assumption)))))))
local macro_rules | `(tactic| fail) => `(tactic| ((with_reducible apply o_tuple); (focus (first | rfl | exact items_ref (by (first | assumption | exact updS_same | exact upd_at (by assumption) (by assumption)))))))
local macro_rules | `(tactic| fail) => `(tactic| ((with_reducible apply o_get2); (focus (first | assumption | exact updS_same | exact upd_at (by assumption) (by assumption))); (focus rfl); (focus ((repeat (first | with_reducible exact getD_hit | with_reducible exact getD_nil | ((with_reducible apply getD_miss); (focus (exact str_ne (by decide)))))); done))))
local macro_rules | `(tactic| fail) => `(tactic| ((with_reducible apply o_get1); (focus (first | assumption | exact updS_same | exact upd_at (by assumption) (by assumption))); (focus rfl); (focus ((repeat (first | with_reducible exact getD_hit | with_reducible exact getD_nil | ((with_reducible apply getD_miss); (focus (exact str_ne (by decide)))))); done))))
local macro_rules | `(tactic| fail) => `(tactic| ((with_reducible refine And.intro ?_ ?_); (focus (first | exact recvL (by (first | assumption | exact updS_same | exact upd_at (by assumption) (by assumption))) rfl | exact recvD (by (first | assumption | exact updS_same | exact upd_at (by assumption) (by assumption))) rfl))))
local macro_rules | `(tactic| fail) => `(tactic| ((with_reducible apply o_subD); (focus (first | assumption | exact updS_same | exact upd_at (by assumption) (by assumption))); (focus rfl); (focus ((repeat (first | with_reducible exact lookD_hit | ((with_reducible apply look_miss); (focus (exact str_ne (by decide)))))); done))))
local macro_rules | `(tactic| fail) => `(tactic| ((with_reducible apply c_ndF); (focus (((try simp only [List.length_cons, List.length_nil, List.length_append, List.length_map]); omega)))))
local macro_rules | `(tactic| fail) => `(tactic| ((with_reducible apply c_ndT); (focus (((try simp only [List.length_cons, List.length_nil, List.length_append, List.length_map]); omega)))))
local macro_rules | `(tactic| fail) => `(tactic| with_reducible refine o_intB ?_)
local macro_rules | `(tactic| fail) => `(tactic| ((with_reducible apply c_decF); (focus (((try simp only [List.length_cons, List.length_nil, List.length_append, List.length_map]); omega)))))
local macro_rules | `(tactic| fail) => `(tactic| ((with_reducible apply c_decT); (focus (((try simp only [List.length_cons, List.length_nil, List.length_append, List.length_map]); omega)))))
local macro_rules | `(tactic| fail) => `(tactic| with_reducible refine c_notf ?_)
local macro_rules | `(tactic| fail) => `(tactic| with_reducible refine c_nott ?_)
local macro_rules | `(tactic| fail) => `(tactic| with_reducible refine o_eqI ?_)
local macro_rules | `(tactic| fail) => `(tactic| ((with_reducible apply o_eqIf); (focus (((try simp only [List.length_cons, List.length_nil, List.length_append, List.length_map]); omega)))))
local macro_rules | `(tactic| fail) => `(tactic| ((with_reducible apply o_eqIt); (focus (((try simp only [List.length_cons, List.length_nil, List.length_append, List.length_map]); omega)))))
local macro_rules | `(tactic| fail) => `(tactic| with_reducible refine o_isB ?_)
local macro_rules | `(tactic| fail) => `(tactic| with_reducible refine o_isN ?_)
local macro_rules | `(tactic| fail) => `(tactic| with_reducible refine o_isR ?_)
local macro_rules | `(tactic| fail) => `(tactic| with_reducible refine o_eqB ?_)
local macro_rules | `(tactic| fail) => `(tactic| ((with_reducible apply o_neIf); (focus (((try simp only [List.length_cons, List.length_nil, List.length_append, List.length_map]); omega)))))
local macro_rules | `(tactic| fail) => `(tactic| ((with_reducible apply o_neIt); (focus (((try simp only [List.length_cons, List.length_nil, List.length_append, List.length_map]); omega)))))
local macro_rules | `(tactic| fail) => `(tactic| with_reducible refine o_neII ?_)
local macro_rules | `(tactic| fail) => `(tactic| with_reducible refine o_neBB ?_)
local macro_rules | `(tactic| fail) => `(tactic| ((with_reducible apply o_eqSf); (focus decide)))
local macro_rules | `(tactic| fail) => `(tactic| ((with_reducible apply o_atr); (focus rfl)))
local macro_rules | `(tactic| fail) => `(tactic| with_reducible refine o_isx ?_)
local macro_rules | `(tactic| fail) => `(tactic| with_reducible refine o_eqSt ?_)
local macro_rules | `(tactic| fail) => `(tactic| ((with_reducible apply o_len); focus (first | rfl | (simp only [lenD]; simp only [*]; done))))
local macro_rules | `(tactic| fail) => `(tactic| ((with_reducible apply o_setL); (focus (first | assumption | exact updS_same | exact upd_at (by assumption) (by assumption))); (focus rfl)))
local macro_rules | `(tactic| fail) => `(tactic| ((with_reducible refine And.intro ?_ ?_); (focus (first | exact selfOk (by (first | assumption | exact updS_same | exact upd_at (by assumption) (by assumption))) rfl | exact insOk (by (first | assumption | exact updS_same | exact upd_at (by assumption) (by assumption)))))))
local macro_rules | `(tactic| fail) => `(tactic| ((with_reducible apply o_setf); (focus (first | assumption | exact updS_same | exact upd_at (by assumption) (by assumption))); (focus (exact Nat.le_of_ble_eq_true rfl))))
local macro_rules | `(tactic| fail) => `(tactic| ((with_reducible apply o_fld); (focus (first | assumption | exact updS_same | exact upd_at (by assumption) (by assumption))); (focus rfl)))
local macro_rules | `(tactic| fail) => `(tactic| ((with_reducible apply o_subT); focus (rfl)))
local macro_rules | `(tactic| fail) => `(tactic| ((with_reducible apply o_subL); (focus (first | assumption | exact updS_same | exact upd_at (by assumption) (by assumption))); (focus rfl)))
local macro_rules | `(tactic| fail) => `(tactic| ((with_reducible apply o_pow); focus (unfold CPow; omega)))
local macro_rules | `(tactic| fail) => `(tactic| ((with_reducible apply o_mod); focus (omega)))
local macro_rules | `(tactic| fail) => `(tactic| ((with_reducible apply o_div); focus (unfold CDiv; omega)))
local macro_rules | `(tactic| fail) => `(tactic| ((with_reducible apply o_mul); focus (unfold CMul; omega)))
local macro_rules | `(tactic| fail) => `(tactic| ((with_reducible apply v_glob); focus (first | assumption | rfl)))
local macro_rules | `(tactic| fail) => `(tactic| ((with_reducible apply t_var); focus (rfl)))
local macro_rules | `(tactic| fail) => `(tactic| ((with_reducible apply v_var); focus (rfl)))
local macro_rules | `(tactic| fail) => `(tactic| with_reducible refine c_false ?_)
local macro_rules | `(tactic| fail) => `(tactic| with_reducible refine c_true ?_)
local macro_rules | `(tactic| fail) => `(tactic| with_reducible refine o_ge ?_)
local macro_rules | `(tactic| fail) => `(tactic| with_reducible refine o_gt ?_)
local macro_rules | `(tactic| fail) => `(tactic| with_reducible refine o_le ?_)
local macro_rules | `(tactic| fail) => `(tactic| with_reducible refine o_lt ?_)
local macro_rules | `(tactic| fail) => `(tactic| with_reducible refine o_sub ?_)
local macro_rules | `(tactic| fail) => `(tactic| with_reducible refine o_add ?_)
local macro_rules | `(tactic| fail) => `(tactic| with_reducible refine o_sub1 ?_)
local macro_rules | `(tactic| fail) => `(tactic| with_reducible refine o_sub0 ?_)
local macro_rules | `(tactic| fail) => `(tactic| with_reducible refine i_rng1 ?_)
local macro_rules | `(tactic| fail) => `(tactic| with_reducible refine i_seq ?_)
local macro_rules | `(tactic| fail) => `(tactic| with_reducible refine g_cons ?_)
local macro_rules | `(tactic| fail) => `(tactic| with_reducible refine g_nil ?_)
local macro_rules | `(tactic| fail) => `(tactic| with_reducible refine g_nm ?_)
local macro_rules | `(tactic| fail) => `(tactic| with_reducible refine ts_one ?_)
local macro_rules | `(tactic| fail) => `(tactic| with_reducible refine ts_nil ?_)
local macro_rules | `(tactic| fail) => `(tactic| with_reducible refine tr_int ?_)
local macro_rules | `(tactic| fail) => `(tactic| with_reducible refine tr_bl ?_)
local macro_rules | `(tactic| fail) => `(tactic| with_reducible refine tb_or ?_)
local macro_rules | `(tactic| fail) => `(tactic| with_reducible refine tb_and ?_)
local macro_rules | `(tactic| fail) => `(tactic| with_reducible refine tb_one ?_)
local macro_rules | `(tactic| fail) => `(tactic| with_reducible refine t_chain ?_)
local macro_rules | `(tactic| fail) => `(tactic| with_reducible refine t_sub ?_)
local macro_rules | `(tactic| fail) => `(tactic| with_reducible refine t_blt ?_)
local macro_rules | `(tactic| fail) => `(tactic| with_reducible refine t_call ?_)
local macro_rules | `(tactic| fail) => `(tactic| with_reducible refine t_cmp ?_)
local macro_rules | `(tactic| fail) => `(tactic| with_reducible refine t_nt ?_)
local macro_rules | `(tactic| fail) => `(tactic| with_reducible refine t_bop ?_)
local macro_rules | `(tactic| fail) => `(tactic| with_reducible refine vb_or ?_)
local macro_rules | `(tactic| fail) => `(tactic| with_reducible refine vb_and ?_)
local macro_rules | `(tactic| fail) => `(tactic| with_reducible refine vb_one ?_)
local macro_rules | `(tactic| fail) => `(tactic| with_reducible refine vo_some ?_)
local macro_rules | `(tactic| fail) => `(tactic| with_reducible refine vo_none ?_)
local macro_rules | `(tactic| fail) => `(tactic| with_reducible refine vs_cons ?_)
local macro_rules | `(tactic| fail) => `(tactic| with_reducible refine vs_nil ?_)
local macro_rules | `(tactic| fail) => `(tactic| with_reducible refine s_try ?_)
local macro_rules | `(tactic| fail) => `(tactic| with_reducible refine s_setf ?_)
local macro_rules | `(tactic| fail) => `(tactic| with_reducible refine v_eqo ?_)
local macro_rules | `(tactic| fail) => `(tactic| with_reducible refine t_isc ?_)
local macro_rules | `(tactic| fail) => `(tactic| with_reducible refine v_isc ?_)
local macro_rules | `(tactic| fail) => `(tactic| with_reducible refine t_meth ?_)
local macro_rules | `(tactic| fail) => `(tactic| with_reducible refine v_meth ?_)
local macro_rules | `(tactic| fail) => `(tactic| with_reducible refine v_new ?_)
local macro_rules | `(tactic| fail) => `(tactic| with_reducible refine v_fld ?_)
local macro_rules | `(tactic| fail) => `(tactic| with_reducible refine v_atr ?_)
local macro_rules | `(tactic| fail) => `(tactic| with_reducible refine v_isx ?_)
local macro_rules | `(tactic| fail) => `(tactic| with_reducible refine v_back ?_)
local macro_rules | `(tactic| fail) => `(tactic| with_reducible refine v_lc ?_)
local macro_rules | `(tactic| fail) => `(tactic| with_reducible refine v_mth ?_)
local macro_rules | `(tactic| fail) => `(tactic| with_reducible refine v_lzip ?_)
local macro_rules | `(tactic| fail) => `(tactic| with_reducible refine v_lrev ?_)
local macro_rules | `(tactic| fail) => `(tactic| with_reducible refine v_blt ?_)
local macro_rules | `(tactic| fail) => `(tactic| with_reducible refine v_call ?_)
local macro_rules | `(tactic| fail) => `(tactic| with_reducible refine v_slice ?_)
local macro_rules | `(tactic| fail) => `(tactic| with_reducible refine v_sub ?_)
local macro_rules | `(tactic| fail) => `(tactic| with_reducible refine v_lst ?_)
local macro_rules | `(tactic| fail) => `(tactic| with_reducible refine v_tup ?_)
local macro_rules | `(tactic| fail) => `(tactic| with_reducible refine v_ite ?_)
local macro_rules | `(tactic| fail) => `(tactic| with_reducible refine v_nt ?_)
local macro_rules | `(tactic| fail) => `(tactic| with_reducible refine v_bop ?_)
local macro_rules | `(tactic| fail) => `(tactic| with_reducible refine v_cmp ?_)
local macro_rules | `(tactic| fail) => `(tactic| with_reducible refine v_bin ?_)
local macro_rules | `(tactic| fail) => `(tactic| with_reducible refine v_bty ?_)
local macro_rules | `(tactic| fail) => `(tactic| with_reducible refine v_str ?_)
local macro_rules | `(tactic| fail) => `(tactic| with_reducible refine v_non ?_)
local macro_rules | `(tactic| fail) => `(tactic| with_reducible refine v_bl ?_)
local macro_rules | `(tactic| fail) => `(tactic| with_reducible refine v_int ?_)
local macro_rules | `(tactic| fail) => `(tactic| with_reducible refine s_cont ?_)
local macro_rules | `(tactic| fail) => `(tactic| with_reducible refine s_brk ?_)
local macro_rules | `(tactic| fail) => `(tactic| with_reducible refine s_nil ?_)
local macro_rules | `(tactic| fail) => `(tactic| with_reducible refine s_pass ?_)
local macro_rules | `(tactic| fail) => `(tactic| with_reducible refine s_retN ?_)
local macro_rules | `(tactic| fail) => `(tactic| with_reducible refine s_ret ?_)
local macro_rules | `(tactic| fail) => `(tactic| with_reducible refine s_ife ?_)
local macro_rules | `(tactic| fail) => `(tactic| with_reducible refine s_set ?_)
local macro_rules | `(tactic| fail) => `(tactic| with_reducible refine s_par ?_)
local macro_rules | `(tactic| fail) => `(tactic| with_reducible refine s_asg ?_)
local macro_rules | `(tactic| fail) => `(tactic| with_reducible refine s_ex ?_)

end
end Z

set_option Elab.async false
set_option linter.all false
set_option maxRecDepth 100000
set_option maxHeartbeats 4000000
namespace Z
open PySem PySem.Spec PyProof.Rows L2
structure Rnd (rs : List Row) : Prop where
  ne : rs ≠ []
  rnd : ∀ m, m < rs.length → (rs.getD m (0, 0, 0)).2.1 = (rs.getD ((m + 1) % rs.length) (0, 0, 0)).1
section
variable {rs : List Row} {n : Nat} {f : Int}
theorem Rnd.pos (h : Rnd rs) : 0 < rs.length := List.length_pos_iff.mpr h.ne
end
end Z

set_option Elab.async false
set_option linter.all false
set_option maxRecDepth 100000
set_option maxHeartbeats 4000000
namespace Z
open PySem PySem.Spec PyProof.Rows L2
abbrev Sm := Nat → Option Int
def stepD (s : Sm × Bool) (r : Row) : Sm × Bool := match s.1 (to r) with
  | none => s
  | some d => match s.1 (fr r) with
    | none => (updF s.1 (fr r) (some (d + r.2.2)), true)
    | some e => if d + r.2.2 < e then (updF s.1 (fr r) (some (d + r.2.2)), true) else s
def turnD (rows : List Row) (s : Sm) : Sm × Bool := rows.foldl stepD (s, false)
def itD (rows : List Row) (b : Nat) : Nat → Sm × Bool
  | 0 => (fun x => if x = b then some 0 else none, false)
  | t + 1 => turnD rows (itD rows b t).1
section
variable {rows : List Row} {n b : Nat} {f : Int}
structure SmOk (rows : List Row) (b : Nat) (f : Int) (m : Nat) (s : Sm) : Prop where
  wk : ∀ x c, s x = some c → Wk rows x b c
  bd : ∀ x c, s x = some c → -(f * m) ≤ c ∧ c ≤ f * m
  at_ : ∃ d, s b = some d ∧ d ≤ 0
theorem SmOk.init (hf : 0 ≤ f) : SmOk rows b f 0 (itD rows b 0).1 where
  wk := fun x c h => by
    unfold itD at h
    simp only at h
    split at h
    · rename_i e; cases h; rw [e]; exact .nil _
    · cases h
  bd := fun x c h => by
    unfold itD at h
    simp only at h
    split at h
    · cases h; simp
    · cases h
  at_ := ⟨0, by simp [itD], by omega⟩
theorem SmOk.step {m : Nat} {s : Sm × Bool} {r : Row} (hf : 0 ≤ f) (hr : RowOk n f r) (hm : r ∈ rows) (h : SmOk rows b f m s.1) : SmOk rows b f (m + 1) (stepD s r).1 := by
  have hfm : f * ((m + 1 : Nat) : Int) = f * m + f := by rw [Int.natCast_add, Int.mul_add]; simp
  have same : SmOk rows b f (m + 1) s.1 := ⟨h.wk, fun x c e => by have := h.bd x c e; rw [hfm]; omega, h.at_⟩
  have new : ∀ d, s.1 (to r) = some d → (∀ e, s.1 (fr r) = some e → d + r.2.2 < e) → SmOk rows b f (m + 1) (updF s.1 (fr r) (some (d + r.2.2))) := fun d hd hlt => by
    unfold RowOk at hr
    refine ⟨fun x c e => ?_, fun x c e => ?_, ?_⟩
    · by_cases hx : x = fr r
      · rw [hx, updF_s] at e
        cases e
        have := Wk.cons (rows := rows) (i := fr r) (j := to r) (c := r.2.2) ⟨r, hm, by show r.1 + 1 = (((r.1 + 1).toNat : Nat) : Int); omega, by show r.2.1 + 1 = (((r.2.1 + 1).toNat : Nat) : Int); omega, rfl⟩ (h.wk _ _ hd)
        rw [hx, Int.add_comm]
        exact this
      · rw [updF_n hx] at e
        exact h.wk x c e
    · by_cases hx : x = fr r
      · rw [hx, updF_s] at e
        cases e
        have := h.bd _ _ hd
        rw [hfm]
        omega
      · rw [updF_n hx] at e
        exact same.bd x c e
    · obtain ⟨d0, e0, h0⟩ := h.at_
      by_cases hx : b = fr r
      · rw [hx, updF_s]
        rw [hx] at e0
        exact ⟨_, rfl, by have := hlt d0 e0; omega⟩
      · rw [updF_n hx]
        exact ⟨d0, e0, h0⟩
  unfold stepD
  split
  · exact same
  · rename_i d e
    split
    · rename_i e2
      exact new d e fun e' z => by rw [e2] at z; cases z
    · rename_i e1 e2
      split
      · rename_i hlt
        exact new d e fun e' z => by rw [e2] at z; cases z; exact hlt
      · exact same
theorem SmOk.fold (hf : 0 ≤ f) : ∀ (rs : List Row) {m : Nat} {s : Sm × Bool}, (∀ r ∈ rs, RowOk n f r) → (∀ r ∈ rs, r ∈ rows) → SmOk rows b f m s.1 → SmOk rows b f (m + rs.length) (rs.foldl stepD s).1
  | [], m, s, _, _, h => by simpa using h
  | r :: rs, m, s, h1, h2, h => by
    have := SmOk.fold hf rs (fun x hx => h1 x (by simp [hx])) (fun x hx => h2 x (by simp [hx])) (h.step (s := s) hf (h1 r (by simp)) (h2 r (by simp)))
    rw [List.foldl_cons, List.length_cons, show m + (rs.length + 1) = m + 1 + rs.length by omega]
    exact this
theorem SmOk.it (hf : 0 ≤ f) (hr : ∀ r ∈ rows, RowOk n f r) : ∀ t, SmOk rows b f (t * rows.length) (itD rows b t).1
  | 0 => by simpa using SmOk.init hf
  | t + 1 => by
    have := SmOk.fold (n := n) (s := ((itD rows b t).1, false)) hf rows hr (fun r h => h) (SmOk.it hf hr t)
    rw [Nat.add_mul, Nat.one_mul]
    exact this
end
end Z

set_option Elab.async false
set_option linter.all false
set_option maxRecDepth 100000
set_option maxHeartbeats 4000000
namespace Z
open PySem PySem.Spec PyProof.Rows L2
section
variable {defs : Str → Option DefT} {gl : Str → Option D} {k : Nat} {S : Sto} {Q : D → Sto → Prop} {E : Exc → Sto → Prop}
local macro_rules | `(tactic| fail) => `(tactic| ((with_reducible refine And.intro ?_ ?_); (focus (exact Nat.le_of_ble_eq_true rfl))))
local macro_rules | `(tactic| fail) => `(tactic| with_reducible refine ⟨_, rfl, ?_⟩)
local macro_rules | `(tactic| fail) => `(tactic| ((with_reducible apply o_sliceT); (focus rfl)))
local macro_rules | `(tactic| fail) => `(tactic| ((with_reducible apply o_inTf); (focus rfl); (focus rfl); (focus (simp [inF, eqF, str_beq]; done))))
local macro_rules | `(tactic| fail) => `(tactic| ((with_reducible apply o_inTt); (focus rfl); (focus rfl); (focus (simp [inF, eqF, str_beq]; done))))
local macro_rules | `(tactic| fail) => `(tactic| ((with_reducible apply o_subC); (focus ((repeat (first | with_reducible exact lk_hit | ((with_reducible apply lk_miss); (focus (exact str_ne (by decide)))))); done))))
local macro_rules | `(tactic| fail) => `(tactic| ((with_reducible apply o_inC); (focus ((repeat (first | with_reducible exact lk_hit | ((with_reducible apply lk_miss); (focus (exact str_ne (by decide)))))); done))))
local macro_rules | `(tactic| fail) => `(tactic| ((with_reducible apply o_ninC); (focus ((repeat (first | with_reducible exact lk_hit | ((with_reducible apply lk_miss); (focus (exact str_ne (by decide)))))); done))))
local macro_rules | `(tactic| fail) => `(tactic| ((with_reducible apply o_isinF); (focus rfl); (focus (decide +kernel))))
local macro_rules | `(tactic| fail) => `(tactic| ((with_reducible apply o_isinT); (focus rfl); (focus (decide +kernel))))
local macro_rules | `(tactic| fail) => `(tactic| with_reducible refine i_enm ?_)
local macro_rules | `(tactic| fail) => `(tactic| ((with_reducible apply g_tup); (focus rfl); (focus rfl)))
local macro_rules | `(tactic| fail) => `(tactic| ((with_reducible apply v_dctN); (focus (decide +kernel))))
local macro_rules | `(tactic| fail) => `(tactic| ((with_reducible apply o_len); (focus (exact len_ref (by (first | assumption | exact updS_same | exact upd_at (by assumption) (by assumption)))))))
local macro_rules | `(tactic| fail) => `(tactic| ((with_reducible apply o_tuple); (focus (first | rfl | exact items_ref (by (first | assumption | exact updS_same | exact upd_at (by assumption) (by assumption)))))))
local macro_rules | `(tactic| fail) => `(tactic| ((with_reducible apply o_get2); (focus (first | assumption | exact updS_same | exact upd_at (by assumption) (by assumption))); (focus rfl); (focus ((repeat (first | with_reducible exact getD_hit | with_reducible exact getD_nil | ((with_reducible apply getD_miss); (focus (exact str_ne (by decide)))))); done))))
local macro_rules | `(tactic| fail) => `(tactic| ((with_reducible apply o_get1); (focus (first | assumption | exact updS_same | exact upd_at (by assumption) (by assumption))); (focus rfl); (focus ((repeat (first | with_reducible exact getD_hit | with_reducible exact getD_nil | ((with_reducible apply getD_miss); (focus (exact str_ne (by decide)))))); done))))
local macro_rules | `(tactic| fail) => `(tactic| ((with_reducible refine And.intro ?_ ?_); (focus (first | exact recvL (by (first | assumption | exact updS_same | exact upd_at (by assumption) (by assumption))) rfl | exact recvD (by (first | assumption | exact updS_same | exact upd_at (by assumption) (by assumption))) rfl))))
local macro_rules | `(tactic| fail) => `(tactic| ((with_reducible apply o_subD); (focus (first | assumption | exact updS_same | exact upd_at (by assumption) (by assumption))); (focus rfl); (focus ((repeat (first | with_reducible exact lookD_hit | ((with_reducible apply look_miss); (focus (exact str_ne (by decide)))))); done))))
local macro_rules | `(tactic| fail) => `(tactic| ((with_reducible apply c_ndF); (focus (((try simp only [List.length_cons, List.length_nil, List.length_append, List.length_map]); omega)))))
local macro_rules | `(tactic| fail) => `(tactic| ((with_reducible apply c_ndT); (focus (((try simp only [List.length_cons, List.length_nil, List.length_append, List.length_map]); omega)))))
local macro_rules | `(tactic| fail) => `(tactic| with_reducible refine o_intB ?_)
local macro_rules | `(tactic| fail) => `(tactic| ((with_reducible apply c_decF); (focus (((try simp only [List.length_cons, List.length_nil, List.length_append, List.length_map]); omega)))))
local macro_rules | `(tactic| fail) => `(tactic| ((with_reducible apply c_decT); (focus (((try simp only [List.length_cons, List.length_nil, List.length_append, List.length_map]); omega)))))
local macro_rules | `(tactic| fail) => `(tactic| with_reducible refine c_notf ?_)
local macro_rules | `(tactic| fail) => `(tactic| with_reducible refine c_nott ?_)
local macro_rules | `(tactic| fail) => `(tactic| with_reducible refine o_eqI ?_)
local macro_rules | `(tactic| fail) => `(tactic| ((with_reducible apply o_eqIf); (focus (((try simp only [List.length_cons, List.length_nil, List.length_append, List.length_map]); omega)))))
local macro_rules | `(tactic| fail) => `(tactic| ((with_reducible apply o_eqIt); (focus (((try simp only [List.length_cons, List.length_nil, List.length_append, List.length_map]); omega)))))
local macro_rules | `(tactic| fail) => `(tactic| with_reducible refine o_isB ?_)
local macro_rules | `(tactic| fail) => `(tactic| with_reducible refine o_isN ?_)
local macro_rules | `(tactic| fail) => `(tactic| with_reducible refine o_isR ?_)
local macro_rules | `(tactic| fail) => `(tactic| with_reducible refine o_eqB ?_)
local macro_rules | `(tactic| fail) => `(tactic| ((with_reducible apply o_neIf); (focus (((try simp only [List.length_cons, List.length_nil, List.length_append, List.length_map]); omega)))))
local macro_rules | `(tactic| fail) => `(tactic| ((with_reducible apply o_neIt); (focus (((try simp only [List.length_cons, List.length_nil, List.length_append, List.length_map]); omega)))))
local macro_rules | `(tactic| fail) => `(tactic| with_reducible refine o_neII ?_)
local macro_rules | `(tactic| fail) => `(tactic| with_reducible refine o_neBB ?_)
local macro_rules | `(tactic| fail) => `(tactic| ((with_reducible apply o_eqSf); (focus decide)))
local macro_rules | `(tactic| fail) => `(tactic| ((with_reducible apply o_atr); (focus rfl)))
local macro_rules | `(tactic| fail) => `(tactic| with_reducible refine o_isx ?_)
local macro_rules | `(tactic| fail) => `(tactic| with_reducible refine o_eqSt ?_)
local macro_rules | `(tactic| fail) => `(tactic| ((with_reducible apply o_len); focus (first | rfl | (simp only [lenD]; simp only [*]; done))))
local macro_rules | `(tactic| fail) => `(tactic| ((with_reducible apply o_setL); (focus (first | assumption | exact updS_same | exact upd_at (by assumption) (by assumption))); (focus rfl)))
local macro_rules | `(tactic| fail) => `(tactic| ((with_reducible refine And.intro ?_ ?_); (focus (first | exact selfOk (by (first | assumption | exact updS_same | exact upd_at (by assumption) (by assumption))) rfl | exact insOk (by (first | assumption | exact updS_same | exact upd_at (by assumption) (by assumption)))))))
local macro_rules | `(tactic| fail) => `(tactic| ((with_reducible apply o_setf); (focus (first | assumption | exact updS_same | exact upd_at (by assumption) (by assumption))); (focus (exact Nat.le_of_ble_eq_true rfl))))
local macro_rules | `(tactic| fail) => `(tactic| ((with_reducible apply o_fld); (focus (first | assumption | exact updS_same | exact upd_at (by assumption) (by assumption))); (focus rfl)))
local macro_rules | `(tactic| fail) => `(tactic| ((with_reducible apply o_subT); focus (rfl)))
local macro_rules | `(tactic| fail) => `(tactic| ((with_reducible apply o_subL); (focus (first | assumption | exact updS_same | exact upd_at (by assumption) (by assumption))); (focus rfl)))
local macro_rules | `(tactic| fail) => `(tactic| ((with_reducible apply o_pow); focus (unfold CPow; omega)))
local macro_rules | `(tactic| fail) => `(tactic| ((with_reducible apply o_mod); focus (omega)))
local macro_rules | `(tactic| fail) => `(tactic| ((with_reducible apply o_div); focus (unfold CDiv; omega)))
local macro_rules | `(tactic| fail) => `(tactic| ((with_reducible apply o_mul); focus (unfold CMul; omega)))
local macro_rules | `(tactic| fail) => `(tactic| ((with_reducible apply v_glob); focus (first | assumption | rfl)))
local macro_rules | `(tactic| fail) => `(tactic| ((with_reducible apply t_var); focus (rfl)))
local macro_rules | `(tactic| fail) => `(tactic| ((with_reducible apply v_var); focus (rfl)))
local macro_rules | `(tactic| fail) => `(tactic| with_reducible refine c_false ?_)
local macro_rules | `(tactic| fail) => `(tactic| with_reducible refine c_true ?_)
local macro_rules | `(tactic| fail) => `(tactic| with_reducible refine o_ge ?_)
local macro_rules | `(tactic| fail) => `(tactic| with_reducible refine o_gt ?_)
local macro_rules | `(tactic| fail) => `(tactic| with_reducible refine o_le ?_)
local macro_rules | `(tactic| fail) => `(tactic| with_reducible refine o_lt ?_)
local macro_rules | `(tactic| fail) => `(tactic| with_reducible refine o_sub ?_)
local macro_rules | `(tactic| fail) => `(tactic| with_reducible refine o_add ?_)
local macro_rules | `(tactic| fail) => `(tactic| with_reducible refine o_sub1 ?_)
local macro_rules | `(tactic| fail) => `(tactic| with_reducible refine o_sub0 ?_)
local macro_rules | `(tactic| fail) => `(tactic| with_reducible refine i_rng1 ?_)
local macro_rules | `(tactic| fail) => `(tactic| with_reducible refine i_seq ?_)
local macro_rules | `(tactic| fail) => `(tactic| with_reducible refine g_cons ?_)
local macro_rules | `(tactic| fail) => `(tactic| with_reducible refine g_nil ?_)
local macro_rules | `(tactic| fail) => `(tactic| with_reducible refine g_nm ?_)
local macro_rules | `(tactic| fail) => `(tactic| with_reducible refine ts_one ?_)
local macro_rules | `(tactic| fail) => `(tactic| with_reducible refine ts_nil ?_)
local macro_rules | `(tactic| fail) => `(tactic| with_reducible refine tr_int ?_)
local macro_rules | `(tactic| fail) => `(tactic| with_reducible refine tr_bl ?_)
local macro_rules | `(tactic| fail) => `(tactic| with_reducible refine tb_or ?_)
local macro_rules | `(tactic| fail) => `(tactic| with_reducible refine tb_and ?_)
local macro_rules | `(tactic| fail) => `(tactic| with_reducible refine tb_one ?_)
local macro_rules | `(tactic| fail) => `(tactic| with_reducible refine t_chain ?_)
local macro_rules | `(tactic| fail) => `(tactic| with_reducible refine t_sub ?_)
local macro_rules | `(tactic| fail) => `(tactic| with_reducible refine t_blt ?_)
local macro_rules | `(tactic| fail) => `(tactic| with_reducible refine t_call ?_)
local macro_rules | `(tactic| fail) => `(tactic| with_reducible refine t_cmp ?_)
local macro_rules | `(tactic| fail) => `(tactic| with_reducible refine t_nt ?_)
local macro_rules | `(tactic| fail) => `(tactic| with_reducible refine t_bop ?_)
local macro_rules | `(tactic| fail) => `(tactic| with_reducible refine vb_or ?_)
local macro_rules | `(tactic| fail) => `(tactic| with_reducible refine vb_and ?_)
local macro_rules | `(tactic| fail) => `(tactic| with_reducible refine vb_one ?_)
local macro_rules | `(tactic| fail) => `(tactic| with_reducible refine vo_some ?_)
local macro_rules | `(tactic| fail) => `(tactic| with_reducible refine vo_none ?_)
local macro_rules | `(tactic| fail) => `(tactic| with_reducible refine vs_cons ?_)
local macro_rules | `(tactic| fail) => `(tactic| with_reducible refine vs_nil ?_)
local macro_rules | `(tactic| fail) => `(tactic| with_reducible refine s_try ?_)
local macro_rules | `(tactic| fail) => `(tactic| with_reducible refine s_setf ?_)
local macro_rules | `(tactic| fail) => `(tactic| with_reducible refine v_eqo ?_)
local macro_rules | `(tactic| fail) => `(tactic| with_reducible refine t_isc ?_)
local macro_rules | `(tactic| fail) => `(tactic| with_reducible refine v_isc ?_)
local macro_rules | `(tactic| fail) => `(tactic| with_reducible refine t_meth ?_)
local macro_rules | `(tactic| fail) => `(tactic| with_reducible refine v_meth ?_)
local macro_rules | `(tactic| fail) => `(tactic| with_reducible refine v_new ?_)
local macro_rules | `(tactic| fail) => `(tactic| with_reducible refine v_fld ?_)
local macro_rules | `(tactic| fail) => `(tactic| with_reducible refine v_atr ?_)
local macro_rules | `(tactic| fail) => `(tactic| with_reducible refine v_isx ?_)
local macro_rules | `(tactic| fail) => `(tactic| with_reducible refine v_back ?_)
local macro_rules | `(tactic| fail) => `(tactic| with_reducible refine v_lc ?_)
local macro_rules | `(tactic| fail) => `(tactic| with_reducible refine v_mth ?_)
local macro_rules | `(tactic| fail) => `(tactic| with_reducible refine v_lzip ?_)
local macro_rules | `(tactic| fail) => `(tactic| with_reducible refine v_lrev ?_)
local macro_rules | `(tactic| fail) => `(tactic| with_reducible refine v_blt ?_)
local macro_rules | `(tactic| fail) => `(tactic| with_reducible refine v_call ?_)
local macro_rules | `(tactic| fail) => `(tactic| with_reducible refine v_slice ?_)
local macro_rules | `(tactic| fail) => `(tactic| with_reducible refine v_sub ?_)
local macro_rules | `(tactic| fail) => `(tactic| with_reducible refine v_lst ?_)
local macro_rules | `(tactic| fail) => `(tactic| with_reducible refine v_tup ?_)
local macro_rules | `(tactic| fail) => `(tactic| with_reducible refine v_ite ?_)
local macro_rules | `(tactic| fail) => `(tactic| with_reducible refine v_nt ?_)
local macro_rules | `(tactic| fail) => `(tactic| with_reducible refine v_bop ?_)
local macro_rules | `(tactic| fail) => `(tactic| with_reducible refine v_cmp ?_)
local macro_rules | `(tactic| fail) => `(tactic| with_reducible refine v_bin ?_)
local macro_rules | `(tactic| fail) => `(tactic| with_reducible refine v_bty ?_)
local macro_rules | `(tactic| fail) => `(tactic| with_reducible refine v_str ?_)
local macro_rules | `(tactic| fail) => `(tactic| with_reducible refine v_non ?_)
local macro_rules | `(tactic| fail) => `(tactic| with_reducible refine v_bl ?_)
local macro_rules | `(tactic| fail) => `(tactic| with_reducible refine v_int ?_)
local macro_rules | `(tactic| fail) => `(tactic| with_reducible refine s_cont ?_)
local macro_rules | `(tactic| fail) => `(tactic| with_reducible refine s_brk ?_)
local macro_rules | `(tactic| fail) => `(tactic| with_reducible refine s_nil ?_)
local macro_rules | `(tactic| fail) => `(tactic| with_reducible refine s_pass ?_)
local macro_rules | `(tactic| fail) => `(tactic| with_reducible refine s_retN ?_)
local macro_rules | `(tactic| fail) => `(tactic| with_reducible refine s_ret ?_)
local macro_rules | `(tactic| fail) => `(tactic| with_reducible refine s_ife ?_)
local macro_rules | `(tactic| fail) => `(tactic| with_reducible refine s_set ?_)
local macro_rules | `(tactic| fail) => `(tactic| with_reducible refine s_par ?_)
local macro_rules | `(tactic| fail) => `(tactic| with_reducible refine s_asg ?_)
local macro_rules | `(tactic| fail) => `(tactic| with_reducible refine s_ex ?_)

theorem spec_initT (hd : defs "Bounds.__init__" = some dBoundsInit) (hd1 : defs "closed" = some dClosed) {n : Nat} {f : Int} {rows : List Row} {b : Addr} (hk : 2 ≤ k) (hn : n ≤ 10) (hr : ∀ r ∈ rows, RowOk n f r) (hl : rows.length ≤ 100)
    (hb : S b = none)
    (hq : ∀ S' p rs M, S p = none → (∀ r ∈ rs, S r = none) → Bo S' b p rs n rows M → Off [] S S' → Q .non S') : sem defs gl k "Bounds.__init__" [.ref b, .int n, .tup (rows.map rowD)] (updS S b (.ins "Bounds" [])) Q E := by
  obtain ⟨k, rfl⟩ : ∃ j, k = j + 1 := ⟨k - 1, by omega⟩
  have e0 : updS S b (.ins "Bounds" []) b = some (.ins "Bounds" []) := updS_same
  (refine sem_of hd rfl ?_; unfold dBoundsInit; simp only [startD, List.map_cons, List.map_nil, List.length_cons, List.length_nil, List.replicate_succ, List.replicate_zero, List.cons_append, List.nil_append, Nat.reduceAdd, Nat.reduceSub])
  (repeat fail)
  refine .inl ⟨_, rfl, ?_⟩
  have eB : updS (updS S b (.ins "Bounds" [])) b (.ins "Bounds" (putFD "many" (.int n) [])) b = some (.ins "Bounds" [("many", .int n)]) := updS_same
  have oB : Off [b] S (updS (updS S b (.ins "Bounds" [])) b (.ins "Bounds" (putFD "many" (.int n) []))) := (Off.upd (by simp)).trans (Off.upd (by simp))
  generalize updS (updS S b (.ins "Bounds" [])) b (.ins "Bounds" (putFD "many" (.int n) [])) = S1 at eB oB ⊢
  refine lc_ind (fun r acc S' => ∃ dn td, rows = dn ++ td ∧ r = td.map rowD ∧ acc = dn.map rowD ∧ S' = S1) (fun _ _ _ _ => trivial) ?_ ?_ _ _ _ ⟨[], rows, rfl, rfl, rfl, rfl⟩
  rotate_left
  · rintro d r acc S' K ⟨dn, td, er, e1, rfl, rfl⟩ hK -
    cases td with
    | nil => cases e1
    | cons q td =>
      simp only [List.map_cons, List.cons.injEq] at e1
      obtain ⟨rfl, rfl⟩ := e1
      refine ⟨by rw [List.length_map, sizeLine_eq]; have := congrArg List.length er; simp at this; omega, ?_⟩
      rw [show rowD q = .tup [.int q.1, .int q.2.1, .int q.2.2] from rfl]
      (repeat fail)
      exact hK _ _ ⟨dn ++ [q], td, by rw [er]; simp, rfl, by simp [rowD], rfl⟩
  rintro acc S' ⟨dn, td, er, e1, rfl, rfl⟩ tp htp
  have htd : td = [] := by cases td with | nil => rfl | cons _ _ => cases e1
  subst htd
  rw [List.append_nil] at er
  subst er
  have eB2 : updS S' tp (.lst (rows.map rowD)) b = some (.ins "Bounds" [("many", .int n)]) := upd_at htp eB
  have oB2 : Off [b] S (updS S' tp (.lst (rows.map rowD))) := oB.trans (Off.new htp)
  have eT : updS S' tp (.lst (rows.map rowD)) tp = some (.lst (rows.map rowD)) := updS_same
  generalize updS S' tp (.lst (rows.map rowD)) = S2 at eB2 oB2 eT ⊢
  (repeat fail)
  have eB3 : updS S2 b (.ins "Bounds" (putFD "given" (.tup (rows.map rowD)) [("many", .int n)])) b = some (.ins "Bounds" [("many", .int n), ("given", .tup (rows.map rowD))]) := updS_same
  have oB3 : Off [b] S (updS S2 b (.ins "Bounds" (putFD "given" (.tup (rows.map rowD)) [("many", .int n)]))) := oB2.trans (Off.upd (by simp))
  generalize updS S2 b (.ins "Bounds" (putFD "given" (.tup (rows.map rowD)) [("many", .int n)])) = S3 at eB3 oB3 ⊢
  have n3 : ∀ x, S3 x = none → S x = none := fun x hx => by
    cases q : S x with
    | none => rfl
    | some ob =>
      have := oB3 x ob (fun z => by rw [List.mem_singleton.mp z, hb] at q; cases q) q
      rw [hx] at this; cases this
  refine spec_closed hd1 (by omega) hn hr fun p S4 rs M f1 f2 m o hs hg hl ht => ?_
  have e4 := o b _ (by simp) eB3
  (repeat fail)
  have hbp : ∀ x, S3 x = none → x ≠ b := fun x hx z => by rw [z, eB3] at hx; cases hx
  refine hq _ p rs M (n3 p f1) (fun r hr => n3 r (f2 r hr)) ⟨updS_same, ?_, ⟨hs, hg, hl⟩, ht⟩ ?_
  · exact ⟨m.len, m.nd, m.out, by rw [updS_ne (hbp p f1)]; exact m.top, fun i r e => by rw [updS_ne (hbp r (f2 r (List.mem_of_getElem? e)))]; exact m.row i r e⟩
  · exact Off.drop (p := b) ((oB3.trans (o.mono (by simp))).trans (Off.upd (by simp))) hb
theorem spec_also (hd : defs "Bounds.also" = some dBoundsAlso) (hd1 : defs "Bounds.__init__" = some dBoundsInit) (hd2 : defs "closed" = some dClosed) {n : Nat} {f : Int} {rows : List Row} {b p : Addr} {rs : List Addr} {M : Mx} {i j c : Int} (hk : 3 ≤ k) (hn : n ≤ 10) (hr : ∀ r ∈ rows, RowOk n f r) (hq0 : RowOk n f (i, j, c)) (hl : rows.length < 100) (B : Bo S b p rs n rows M)
    (hq : ∀ S' b' p' rs' M', S b' = none → S p' = none → (∀ r ∈ rs', S r = none) → Bo S' b' p' rs' n (rows ++ [(i, j, c)]) M' → Off [] S S' → Q (.ref b') S') : sem defs gl k "Bounds.also" [.ref b, .int i, .int j, .int c] S Q E := by
  obtain ⟨k, rfl⟩ : ∃ j, k = j + 1 := ⟨k - 1, by omega⟩
  have e0 := B.at_
  (refine sem_of hd rfl ?_; unfold dBoundsAlso; simp only [startD, List.map_cons, List.map_nil, List.length_cons, List.length_nil, List.replicate_succ, List.replicate_zero, List.cons_append, List.nil_append, Nat.reduceAdd, Nat.reduceSub])
  (repeat fail)
  refine ⟨by rw [sizeLine_eq, List.length_map]; simp; omega, ?_⟩
  rw [show rows.map rowD ++ [D.tup [.int i, .int j, .int c]] = (rows ++ [(i, j, c)]).map rowD by rw [List.map_append]; rfl]
  intro b' hb'
  rw [show padT "Bounds.__init__" [T.fld (T.var 0) "many", T.bin .Add (T.fld (T.var 0) "given") (T.tup [T.tup [T.var 1, T.var 2, T.var 3]])].length = [] from padT2]
  refine spec_initT hd1 hd2 (by omega) hn (f := f) (fun r hr' => ?_) (by simp; omega) hb' fun S' p' rs' M' h1 h2 B' o => ⟨rfl, hq S' b' p' rs' M' hb' h1 h2 B' o⟩
  rcases List.mem_append.mp hr' with h | h
  · exact hr r h
  · rw [List.mem_singleton.mp h]; exact hq0
end
end Z

set_option Elab.async false
set_option linter.all false
set_option maxRecDepth 100000
set_option maxHeartbeats 4000000
namespace Z
open PySem PySem.Spec PyProof.Rows L2

def dWall : DefT := ⟨1, 1, [
    .whil (.bl true) [.pass]]⟩


def dLRight : DefT := ⟨4, 12, [
    .ife (.bop .Or [(.cmp .NotEq (.blt .repr [(.meth "Bounds.rows" "Bounds" "rows" (.var 0) [])]) (.blt .repr [(.blt .tuple [(.var 2)])])), (.cmp .NotEq (.lno "Bounds.__len__" "Bounds" (.var 0)) (.blt .len [(.var 2)]))]) [.ret (.bl false)] [],
    .ife (.cmp .NotEq (.rpo "Bounds.__repr__" "Bounds" (.var 0)) (.bin .Add (.bin .Add (.bin .Add (.bin .Add (.str "Bounds(") (.blt .str [(.var 1)])) (.str ", ")) (.blt .str [(.blt .len [(.var 2)])])) (.str ")"))) [.ret (.bl false)] [],
    .asg (.nm 4) (.sub (.lst [(.int 3), (.int 50), (.int 900000)]) (.call "_law_draw" [(.var 3), (.int 3)])),
    .fr (.nm 5) (.rng1 (.int 4)) [.asg (.nm 6) (.lc (.nm 11) (.rng1 (.var 1)) [] [("_law_k", 11)] (.bin .Sub (.call "_law_draw" [(.var 3), (.bin .Add (.bin .Mult (.int 2) (.var 4)) (.int 1))]) (.var 4))), .ife (.bop .And [(.cmp .Gt (.var 5) (.int 1)), (.cmp .Gt (.blt .len [(.var 2)]) (.int 0)), (.cmp .Gt (.var 1) (.int 0))]) [.asg (.tup [(.nm 7), (.nm 8), (.nm 9)]) (.sub (.var 2) (.call "_law_draw" [(.var 3), (.blt .len [(.var 2)])])), .set (.var 6) (.sub (.lst [(.var 7), (.var 8)]) (.blt .int [(.cmp .Lt (.var 7) (.int 0))])) (.bin .Sub (.bin .Add (.bin .Add (.sub (.bin .Add (.var 6) (.lst [(.int 0)])) (.var 8)) (.var 9)) (.call "_law_draw" [(.var 3), (.int 3)])) (.int 1))] [], .asg (.nm 10) (.meth "Bounds.holds" "Bounds" "holds" (.var 0) [(.blt .tuple [(.var 6)])]), .ife (.bop .Or [(.nt (.blt .isinst [(.var 10), (.bty "bool")])), (.cmp .NotEq (.var 10) (.call "_law_keeps" [(.var 2), (.var 6)]))]) [.ret (.bl false)] []],
    .ret (.bl true)]⟩
def dLaw : DefT := ⟨1, 9, [
    .fr (.nm 1) (.rng1 (.blt .max [(.int 1), (.blt .min [(.int 4), (.blt .len [(.var 0)])])])) [.asg (.nm 2) (.call "_law_flow" [(.var 0), (.var 1)]), .asg (.nm 3) (.call "_law_draw" [(.var 2), (.int 6)]), .asg (.nm 4) (.call "_law_rows" [(.var 2), (.var 3), (.int 11), (.sub (.lst [(.int 2), (.int 6), (.int 1000)]) (.call "_law_draw" [(.var 2), (.int 3)]))]), .asg (.nm 5) (.blt .list [(.var 4)]), .asg (.nm 6) (.sub (.lst [(.new "Bounds.__init__" "Bounds" [(.var 3), (.var 5)]), (.newK "Bounds.__init__" "Bounds" [(.var 3)] ["rows"] [(.blt .tuple [(.var 4)])])]) (.call "_law_draw" [(.var 2), (.int 2)])), .ex (.mth .append (.var 5) [(.tup [(.int 0), (.int 0), (.int 0)])]), .ex (.mth .reverse (.var 5) []), .asg (.nm 7) (.sub (.bin .Add (.call "_law_rows" [(.var 2), (.var 3), (.int 1), (.int 9)]) (.lst [(.tup [(.neg (.int 1)), (.neg (.int 1)), (.int 3)])])) (.int 0)), .asg (.nm 8) (.meth "Bounds.also" "Bounds" "also" (.var 6) [(.sub (.var 7) (.int 0)), (.sub (.var 7) (.int 1)), (.sub (.var 7) (.int 2))]), .ife (.bop .Or [(.nt (.call "_law_right" [(.var 6), (.var 3), (.var 4), (.var 2)])), (.nt (.call "_law_right" [(.var 8), (.var 3), (.bin .Add (.var 4) (.lst [(.var 7)])), (.var 2)]))]) [.ret (.bl false)] [], .ife (.bop .Or [(.nt (.call "_law_right" [(.var 6), (.var 3), (.var 4), (.var 2)])), (.nt (.call "_law_right" [(.new "Bounds.__init__" "Bounds" [(.var 3)]), (.var 3), (.lst []), (.var 2)]))]) [.ret (.bl false)] []],
    .ret (.bl true)]⟩
def dBoundsLen : DefT := ⟨1, 1, [
    .ret (.blt .len [(.fld (.var 0) "given")])]⟩
def dBoundsRepr : DefT := ⟨1, 1, [
    .ret (.fs2 "Bounds(" (.fld (.var 0) "many") ", " (.blt .len [(.fld (.var 0) "given")]) ")")]⟩
def dBoundsHolds : DefT := ⟨2, 6, [
    .asg (.nm 2) (.bin .Add (.tup [(.int 0)]) (.blt .tuple [(.var 1)])),
    .ret (.blt .all [(.lc (.tup [(.nm 3), (.nm 4), (.nm 5)]) (.seq (.fld (.var 0) "given")) [] [("i", 3), ("j", 4), ("c", 5)] (.cmp .LtE (.sub (.var 2) (.bin .Add (.var 3) (.int 1))) (.bin .Add (.sub (.var 2) (.bin .Add (.var 4) (.int 1))) (.var 5))))])]⟩
def table : List (Str × DefT) := [("_wall", dWall), ("closed", dClosed), ("_law_cell", dLCell), ("_law_flow", dLFlowB), ("_law_draw", dLDrawB), ("_law_rows", dLRows), ("_law_keeps", dLKeeps), ("_law_right", dLRight), ("law", dLaw), ("Bounds.__init__", dBoundsInit), ("Bounds.__len__", dBoundsLen), ("Bounds.__repr__", dBoundsRepr), ("Bounds.also", dBoundsAlso), ("Bounds.holds", dBoundsHolds), ("Bounds.rows", dBoundsRows)]
def defs (f : Str) : Option DefT := table.lookup f
theorem df_dClosed : defs "closed" = some dClosed := by rfl
theorem df_dLCell : defs "_law_cell" = some dLCell := by rfl
theorem df_dLFlowB : defs "_law_flow" = some dLFlowB := by rfl
theorem df_dLDrawB : defs "_law_draw" = some dLDrawB := by rfl
theorem df_dLRows : defs "_law_rows" = some dLRows := by rfl
theorem df_dLKeeps : defs "_law_keeps" = some dLKeeps := by rfl
theorem df_dLRight : defs "_law_right" = some dLRight := by rfl
theorem df_dLaw : defs "law" = some dLaw := by rfl
theorem df_dBoundsInit : defs "Bounds.__init__" = some dBoundsInit := by rfl
theorem df_dBoundsLen : defs "Bounds.__len__" = some dBoundsLen := by rfl
theorem df_dBoundsRepr : defs "Bounds.__repr__" = some dBoundsRepr := by rfl
theorem df_dBoundsAlso : defs "Bounds.also" = some dBoundsAlso := by rfl
theorem df_dBoundsHolds : defs "Bounds.holds" = some dBoundsHolds := by rfl
theorem df_dBoundsRows : defs "Bounds.rows" = some dBoundsRows := by rfl
end Z

set_option Elab.async false
set_option linter.all false
set_option maxRecDepth 100000
set_option maxHeartbeats 4000000
namespace Z
open PySem PySem.Spec PyProof.Rows L2
def glT : List (Str × D) := []
def gl (x : Str) : Option D := glT.lookup x
section
variable {k : Nat} {S : Sto} {Q : D → Sto → Prop} {E : Exc → Sto → Prop}
theorem v_neg1 {C : Cw} {ex : EX} {σ : StD} {S : Sto} {Q : D → Sto → Prop} {i : Int} (h : Q (.int (-i)) S) : wpE C ex (.neg (.int i)) σ S Q := by unfold wpE; unfold wpE; exact h
theorem o_maxJ {i j : Int} (h : ∀ c, (c = i ∨ c = j) → i ≤ c → j ≤ c → Q (.int c) S) : wBlt .max [.int i, .int j] S Q := by
  show Q (.int (if j > i then j else i)) S
  split
  · exact h _ (.inr rfl) (by omega) (by omega)
  · exact h _ (.inl rfl) (by omega) (by omega)
theorem o_listJ {a : Addr} {xs : List D} (e : S a = some (.lst xs)) (h : ∀ p, S p = none → Q (.ref p) (updS S p (.lst xs))) : wBlt .list [.ref a] S Q := by
  unfold wBlt
  simp only [itemsD, e]
  exact h
def rowPJ (r : Row) : PyData := .tuple [.int r.1, .int r.2.1, .int r.2.2]
theorem rows_sh {n : Nat} (hn : n ≤ 10) : ∀ {rows : List Row}, (∀ r ∈ rows, RowOk n 1000 r) → shOs (rows.map rowPJ)
  | [], _ => trivial
  | r :: rows, h => by
    obtain ⟨h1, h2, h3, h4, h5, h6⟩ := h r (by simp)
    refine ⟨?_, rows_sh hn fun x hx => h x (by simp [hx])⟩
    simp only [rowPJ, shO, shOs]
    exact ⟨⟨by omega, by omega⟩, ⟨by omega, by omega⟩, ⟨by omega, by omega⟩, trivial⟩
theorem rows_nd : ∀ rows : List Row, nodess (rows.map rowPJ) = 4 * rows.length
  | [] => rfl
  | r :: rows => by
    rw [List.map_cons, nodess, rows_nd rows, List.length_cons]
    have : nodes (rowPJ r) = 4 := by simp [rowPJ, nodes, nodess]
    omega
theorem o_reprR {n : Nat} {rows : List Row} (hn : n ≤ 10) (hr : ∀ r ∈ rows, RowOk n 1000 r) (hl : rows.length ≤ 100) (h : Q (.str (PyData.tuple (rows.map rowPJ)).shown) S) : wBlt .repr [.tup (rows.map rowD)] S Q := by
  have e : toPs (rows.map rowD) = some (rows.map rowPJ) := toPs_map (fun _ => rfl) rows
  obtain ⟨a1, a2, a3, a4⟩ := sh_all (.tuple (rows.map rowPJ)) (by simpa only [shO] using rows_sh hn hr)
  have h1 := rows_nd rows
  have h2 := dep_map (g := rowPJ) (m := 3) (fun _ => by simp [rowPJ, PyData.depth, PyData.depthAll]) rows
  simp only [nodes] at a2
  unfold wBlt
  simp only [toPS, toP, e, Option.map_some]
  exact ⟨a4, a3, by simp only [PyData.depth]; omega, .inr (by rw [sizeLine_eq]; omega), h⟩
theorem rows_ok {n : Nat} {rows : List Row} (hn : n ≤ 10) (hr : ∀ r ∈ rows, RowOk n 1000 r) : PyData.strOk (PyData.tuple (rows.map rowPJ)).shown = true :=
  (sh_all (.tuple (rows.map rowPJ)) (by simpa only [shO] using rows_sh hn hr)).1
theorem at_val0 {xs : List Int} {i : Int} (h0 : -1 ≤ i) (h1 : i < xs.length) : atI (.int 0 :: xs.map D.int) (i + 1) = some (.int (valX xs (i + 1).toNat)) := by
  obtain ⟨a, ea⟩ : ∃ a : Nat, i + 1 = a := ⟨(i + 1).toNat, by omega⟩
  rw [ea]
  refine atI_nat ?_
  rw [Int.toNat_natCast]
  cases a with
  | zero => rfl
  | succ a =>
    have ha : a < xs.length := by omega
    rw [List.getElem?_cons_succ, List.getElem?_map, List.getElem?_eq_getElem ha]
    simp [valX, ha]
theorem small_log {n : Nat} (h : n < 1000) : ((n : Int)).natAbs.log2 < 1920 := by
  have := log7 (c := (n : Int)) ⟨by omega, by omega⟩
  exact this
def lbl (n m : Nat) : Str := Str.ofString "Bounds(" ++ Str.ofString (toString (n : Int)) ++ Str.ofString ", " ++ Str.ofString (toString (m : Int)) ++ Str.ofString ")"
theorem lbl_ok {n m : Nat} : PyData.strOk (lbl n m) = true := app_ok (app_ok (app_ok (app_ok (strOk_of _) (strOk_of _)) (strOk_of _)) (strOk_of _)) (strOk_of _)
theorem emp_app (x : Str) : Str.empty ++ x = x := by
  show (⟨#[] ++ x.cps⟩ : Str) = x
  rw [Array.empty_append]
theorem lbl_fs {n m : Nat} : fs2T "Bounds(" (.int n) ", " (.int m) ")" = lbl n m := by
  unfold fs2T lbl
  simp only [emp_app]
theorem at3J {i : Int} (h : 0 ≤ i ∧ i < 3) : ∃ f : Int, atI [D.int 3, D.int 50, D.int 900000] i = some (.int f) ∧ 1 ≤ f ∧ f ≤ 900000 := by
  have : i = 0 ∨ i = 1 ∨ i = 2 := by omega
  rcases this with rfl | rfl | rfl
  · exact ⟨3, rfl, by omega⟩
  · exact ⟨50, rfl, by omega⟩
  · exact ⟨900000, rfl, by omega⟩
theorem at3L {i : Int} (h : 0 ≤ i ∧ i < 3) : ∃ f : Int, atI [D.int 2, D.int 6, D.int 1000] i = some (.int f) ∧ 1 ≤ f ∧ f ≤ 1000 := by
  have : i = 0 ∨ i = 1 ∨ i = 2 := by omega
  rcases this with rfl | rfl | rfl
  · exact ⟨2, rfl, by omega⟩
  · exact ⟨6, rfl, by omega⟩
  · exact ⟨1000, rfl, by omega⟩
theorem set_ints {xs : List Int} {j : Nat} {v : Int} : (xs.map D.int).set j (.int v) = (xs.set j v).map D.int := by rw [List.map_set]
theorem flow_neJ {a p : Addr} (F : Flow S a) (h : S p = none) : p ≠ a := fun z => by subst z; obtain ⟨_, _, _, z, _⟩ := F; rw [h] at z; cases z
theorem Flow.offJ {S S' : Sto} {a : Addr} {A : List Addr} (F : Flow S a) (o : Off A S S') (h : a ∉ A) : Flow S' a := let ⟨x, y, z, e, r⟩ := F; ⟨x, y, z, o a _ h e, r⟩
theorem ix_ok {n : Nat} {z : Int} (h0 : -1 ≤ z) (h1 : z < n) (h2 : 0 < n) : ∃ j, ixN n z = some j := by
  by_cases h : 0 ≤ z
  · obtain ⟨a, rfl⟩ := Int.eq_ofNat_of_zero_le h
    exact ⟨a, ixN_nat (by omega)⟩
  · have : z = -1 := by omega
    subst this
    unfold ixN
    refine ⟨n - 1, ?_⟩
    simp
    omega
theorem rowAt_mem {rows : List Row} {t : Int} (h : 0 ≤ t ∧ t < rows.length) : rowAt rows t ∈ rows := by
  obtain ⟨a, rfl⟩ := Int.eq_ofNat_of_zero_le h.1
  have ha : a < rows.length := by omega
  unfold rowAt
  rw [Int.toNat_natCast, List.getD_eq_getElem?_getD, List.getElem?_eq_getElem ha]
  exact List.getElem_mem ha
theorem o_addS {a b c : Str} (e : a ++ b = c) (l : a.length ≤ 500 ∧ b.length ≤ 100) (h : Q (.str c) S) : wBin .Add (.str a) (.str b) S Q := by
  subst e
  exact ⟨by rw [sizeLine_eq]; omega, h⟩
theorem lenB1 : (Str.ofString "Bounds(").length = 7 := by decide
theorem lenB2 : (Str.ofString ", ").length = 2 := by decide
theorem lenB3 : (Str.ofString ")").length = 1 := by decide
theorem rowok_monoJ {n : Int} {f g : Int} {r : Row} (h : RowOk n f r) (hfg : f ≤ g) : RowOk n g r := by unfold RowOk at *; omega
theorem o_minJ {i j : Int} (h : ∀ c, (c = i ∨ c = j) → c ≤ i → c ≤ j → Q (.int c) S) : wBlt .min [.int i, .int j] S Q := by
  show Q (.int (if j < i then j else i)) S
  split
  · exact h _ (.inr rfl) (by omega) (by omega)
  · exact h _ (.inl rfl) (by omega) (by omega)
theorem o_neBJ {b : Bool} (h : Q (.bl false) S) : wCmp .NotEq (.bl b) (.bl b) S Q := o_neBX (by rw [bne_self_eq_false]; exact h)
local macro_rules | `(tactic| fail) => `(tactic| ((with_reducible refine And.intro ?_ ?_); (focus (exact Nat.le_of_ble_eq_true rfl))))
local macro_rules | `(tactic| fail) => `(tactic| with_reducible refine ⟨_, rfl, ?_⟩)
local macro_rules | `(tactic| fail) => `(tactic| ((with_reducible apply o_sliceT); (focus rfl)))
local macro_rules | `(tactic| fail) => `(tactic| ((with_reducible apply o_inTf); (focus rfl); (focus rfl); (focus (simp [inF, eqF, str_beq]; done))))
local macro_rules | `(tactic| fail) => `(tactic| ((with_reducible apply o_inTt); (focus rfl); (focus rfl); (focus (simp [inF, eqF, str_beq]; done))))
local macro_rules | `(tactic| fail) => `(tactic| ((with_reducible apply o_subC); (focus ((repeat (first | with_reducible exact lk_hit | ((with_reducible apply lk_miss); (focus (exact str_ne (by decide)))))); done))))
local macro_rules | `(tactic| fail) => `(tactic| ((with_reducible apply o_inC); (focus ((repeat (first | with_reducible exact lk_hit | ((with_reducible apply lk_miss); (focus (exact str_ne (by decide)))))); done))))
local macro_rules | `(tactic| fail) => `(tactic| ((with_reducible apply o_ninC); (focus ((repeat (first | with_reducible exact lk_hit | ((with_reducible apply lk_miss); (focus (exact str_ne (by decide)))))); done))))
local macro_rules | `(tactic| fail) => `(tactic| ((with_reducible apply o_isinF); (focus rfl); (focus (decide +kernel))))
local macro_rules | `(tactic| fail) => `(tactic| ((with_reducible apply o_isinT); (focus rfl); (focus (decide +kernel))))
local macro_rules | `(tactic| fail) => `(tactic| with_reducible refine i_enm ?_)
local macro_rules | `(tactic| fail) => `(tactic| ((with_reducible apply g_tup); (focus rfl); (focus rfl)))
local macro_rules | `(tactic| fail) => `(tactic| ((with_reducible apply v_dctN); (focus (decide +kernel))))
local macro_rules | `(tactic| fail) => `(tactic| ((with_reducible apply o_len); (focus (exact len_ref (by (first | assumption | exact updS_same | exact upd_at (by assumption) (by assumption)))))))
local macro_rules | `(tactic| fail) => `(tactic| ((with_reducible apply o_tuple); (focus (first | rfl | exact items_ref (by (first | assumption | exact updS_same | exact upd_at (by assumption) (by assumption)))))))
local macro_rules | `(tactic| fail) => `(tactic| ((with_reducible apply o_get2); (focus (first | assumption | exact updS_same | exact upd_at (by assumption) (by assumption))); (focus rfl); (focus ((repeat (first | with_reducible exact getD_hit | with_reducible exact getD_nil | ((with_reducible apply getD_miss); (focus (exact str_ne (by decide)))))); done))))
local macro_rules | `(tactic| fail) => `(tactic| ((with_reducible apply o_get1); (focus (first | assumption | exact updS_same | exact upd_at (by assumption) (by assumption))); (focus rfl); (focus ((repeat (first | with_reducible exact getD_hit | with_reducible exact getD_nil | ((with_reducible apply getD_miss); (focus (exact str_ne (by decide)))))); done))))
local macro_rules | `(tactic| fail) => `(tactic| ((with_reducible refine And.intro ?_ ?_); (focus (first | exact recvL (by (first | assumption | exact updS_same | exact upd_at (by assumption) (by assumption))) rfl | exact recvD (by (first | assumption | exact updS_same | exact upd_at (by assumption) (by assumption))) rfl))))
local macro_rules | `(tactic| fail) => `(tactic| ((with_reducible apply o_subD); (focus (first | assumption | exact updS_same | exact upd_at (by assumption) (by assumption))); (focus rfl); (focus ((repeat (first | with_reducible exact lookD_hit | ((with_reducible apply look_miss); (focus (exact str_ne (by decide)))))); done))))
local macro_rules | `(tactic| fail) => `(tactic| ((with_reducible apply c_ndF); (focus (((try simp only [List.length_cons, List.length_nil, List.length_append, List.length_map]); omega)))))
local macro_rules | `(tactic| fail) => `(tactic| ((with_reducible apply c_ndT); (focus (((try simp only [List.length_cons, List.length_nil, List.length_append, List.length_map]); omega)))))
local macro_rules | `(tactic| fail) => `(tactic| with_reducible refine o_intB ?_)
local macro_rules | `(tactic| fail) => `(tactic| ((with_reducible apply c_decF); (focus (((try simp only [List.length_cons, List.length_nil, List.length_append, List.length_map]); omega)))))
local macro_rules | `(tactic| fail) => `(tactic| ((with_reducible apply c_decT); (focus (((try simp only [List.length_cons, List.length_nil, List.length_append, List.length_map]); omega)))))
local macro_rules | `(tactic| fail) => `(tactic| with_reducible refine c_notf ?_)
local macro_rules | `(tactic| fail) => `(tactic| with_reducible refine c_nott ?_)
local macro_rules | `(tactic| fail) => `(tactic| with_reducible refine o_eqI ?_)
local macro_rules | `(tactic| fail) => `(tactic| ((with_reducible apply o_eqIf); (focus (((try simp only [List.length_cons, List.length_nil, List.length_append, List.length_map]); omega)))))
local macro_rules | `(tactic| fail) => `(tactic| ((with_reducible apply o_eqIt); (focus (((try simp only [List.length_cons, List.length_nil, List.length_append, List.length_map]); omega)))))
local macro_rules | `(tactic| fail) => `(tactic| with_reducible refine o_isB ?_)
local macro_rules | `(tactic| fail) => `(tactic| with_reducible refine o_isN ?_)
local macro_rules | `(tactic| fail) => `(tactic| with_reducible refine o_isR ?_)
local macro_rules | `(tactic| fail) => `(tactic| with_reducible refine o_eqB ?_)
local macro_rules | `(tactic| fail) => `(tactic| ((with_reducible apply o_neIf); (focus (((try simp only [List.length_cons, List.length_nil, List.length_append, List.length_map]); omega)))))
local macro_rules | `(tactic| fail) => `(tactic| ((with_reducible apply o_neIt); (focus (((try simp only [List.length_cons, List.length_nil, List.length_append, List.length_map]); omega)))))
local macro_rules | `(tactic| fail) => `(tactic| with_reducible refine o_neII ?_)
local macro_rules | `(tactic| fail) => `(tactic| with_reducible refine o_neBB ?_)
local macro_rules | `(tactic| fail) => `(tactic| ((with_reducible apply o_eqSf); (focus decide)))
local macro_rules | `(tactic| fail) => `(tactic| ((with_reducible apply o_atr); (focus rfl)))
local macro_rules | `(tactic| fail) => `(tactic| with_reducible refine o_isx ?_)
local macro_rules | `(tactic| fail) => `(tactic| with_reducible refine o_eqSt ?_)
local macro_rules | `(tactic| fail) => `(tactic| ((with_reducible apply o_len); focus (first | rfl | (simp only [lenD]; simp only [*]; done))))
local macro_rules | `(tactic| fail) => `(tactic| ((with_reducible apply o_setL); (focus (first | assumption | exact updS_same | exact upd_at (by assumption) (by assumption))); (focus rfl)))
local macro_rules | `(tactic| fail) => `(tactic| ((with_reducible refine And.intro ?_ ?_); (focus (first | exact selfOk (by (first | assumption | exact updS_same | exact upd_at (by assumption) (by assumption))) rfl | exact insOk (by (first | assumption | exact updS_same | exact upd_at (by assumption) (by assumption)))))))
local macro_rules | `(tactic| fail) => `(tactic| ((with_reducible apply o_setf); (focus (first | assumption | exact updS_same | exact upd_at (by assumption) (by assumption))); (focus (exact Nat.le_of_ble_eq_true rfl))))
local macro_rules | `(tactic| fail) => `(tactic| ((with_reducible apply o_fld); (focus (first | assumption | exact updS_same | exact upd_at (by assumption) (by assumption))); (focus rfl)))
local macro_rules | `(tactic| fail) => `(tactic| ((with_reducible apply o_subT); focus (rfl)))
local macro_rules | `(tactic| fail) => `(tactic| ((with_reducible apply o_subL); (focus (first | assumption | exact updS_same | exact upd_at (by assumption) (by assumption))); (focus rfl)))
local macro_rules | `(tactic| fail) => `(tactic| ((with_reducible apply o_pow); focus (unfold CPow; omega)))
local macro_rules | `(tactic| fail) => `(tactic| ((with_reducible apply o_mod); focus (omega)))
local macro_rules | `(tactic| fail) => `(tactic| ((with_reducible apply o_div); focus (unfold CDiv; omega)))
local macro_rules | `(tactic| fail) => `(tactic| ((with_reducible apply o_mul); focus (unfold CMul; omega)))
local macro_rules | `(tactic| fail) => `(tactic| ((with_reducible apply v_glob); focus (first | assumption | rfl)))
local macro_rules | `(tactic| fail) => `(tactic| ((with_reducible apply t_var); focus (rfl)))
local macro_rules | `(tactic| fail) => `(tactic| ((with_reducible apply v_var); focus (rfl)))
local macro_rules | `(tactic| fail) => `(tactic| with_reducible refine c_false ?_)
local macro_rules | `(tactic| fail) => `(tactic| with_reducible refine c_true ?_)
local macro_rules | `(tactic| fail) => `(tactic| with_reducible refine o_ge ?_)
local macro_rules | `(tactic| fail) => `(tactic| with_reducible refine o_gt ?_)
local macro_rules | `(tactic| fail) => `(tactic| with_reducible refine o_le ?_)
local macro_rules | `(tactic| fail) => `(tactic| with_reducible refine o_lt ?_)
local macro_rules | `(tactic| fail) => `(tactic| with_reducible refine o_sub ?_)
local macro_rules | `(tactic| fail) => `(tactic| with_reducible refine o_add ?_)
local macro_rules | `(tactic| fail) => `(tactic| with_reducible refine o_sub1 ?_)
local macro_rules | `(tactic| fail) => `(tactic| with_reducible refine o_sub0 ?_)
local macro_rules | `(tactic| fail) => `(tactic| with_reducible refine i_rng1 ?_)
local macro_rules | `(tactic| fail) => `(tactic| with_reducible refine i_seq ?_)
local macro_rules | `(tactic| fail) => `(tactic| with_reducible refine g_cons ?_)
local macro_rules | `(tactic| fail) => `(tactic| with_reducible refine g_nil ?_)
local macro_rules | `(tactic| fail) => `(tactic| with_reducible refine g_nm ?_)
local macro_rules | `(tactic| fail) => `(tactic| with_reducible refine ts_one ?_)
local macro_rules | `(tactic| fail) => `(tactic| with_reducible refine ts_nil ?_)
local macro_rules | `(tactic| fail) => `(tactic| with_reducible refine tr_int ?_)
local macro_rules | `(tactic| fail) => `(tactic| with_reducible refine tr_bl ?_)
local macro_rules | `(tactic| fail) => `(tactic| with_reducible refine tb_or ?_)
local macro_rules | `(tactic| fail) => `(tactic| with_reducible refine tb_and ?_)
local macro_rules | `(tactic| fail) => `(tactic| with_reducible refine tb_one ?_)
local macro_rules | `(tactic| fail) => `(tactic| with_reducible refine t_chain ?_)
local macro_rules | `(tactic| fail) => `(tactic| with_reducible refine t_sub ?_)
local macro_rules | `(tactic| fail) => `(tactic| with_reducible refine t_blt ?_)
local macro_rules | `(tactic| fail) => `(tactic| with_reducible refine t_call ?_)
local macro_rules | `(tactic| fail) => `(tactic| with_reducible refine t_cmp ?_)
local macro_rules | `(tactic| fail) => `(tactic| with_reducible refine t_nt ?_)
local macro_rules | `(tactic| fail) => `(tactic| with_reducible refine t_bop ?_)
local macro_rules | `(tactic| fail) => `(tactic| with_reducible refine vb_or ?_)
local macro_rules | `(tactic| fail) => `(tactic| with_reducible refine vb_and ?_)
local macro_rules | `(tactic| fail) => `(tactic| with_reducible refine vb_one ?_)
local macro_rules | `(tactic| fail) => `(tactic| with_reducible refine vo_some ?_)
local macro_rules | `(tactic| fail) => `(tactic| with_reducible refine vo_none ?_)
local macro_rules | `(tactic| fail) => `(tactic| with_reducible refine vs_cons ?_)
local macro_rules | `(tactic| fail) => `(tactic| with_reducible refine vs_nil ?_)
local macro_rules | `(tactic| fail) => `(tactic| with_reducible refine s_try ?_)
local macro_rules | `(tactic| fail) => `(tactic| with_reducible refine s_setf ?_)
local macro_rules | `(tactic| fail) => `(tactic| with_reducible refine v_newK ?_)
local macro_rules | `(tactic| fail) => `(tactic| with_reducible refine v_fs2 ?_)
local macro_rules | `(tactic| fail) => `(tactic| with_reducible refine v_rpo ?_)
local macro_rules | `(tactic| fail) => `(tactic| with_reducible refine v_lno ?_)
local macro_rules | `(tactic| fail) => `(tactic| with_reducible refine v_eqo ?_)
local macro_rules | `(tactic| fail) => `(tactic| with_reducible refine t_isc ?_)
local macro_rules | `(tactic| fail) => `(tactic| with_reducible refine v_isc ?_)
local macro_rules | `(tactic| fail) => `(tactic| with_reducible refine t_meth ?_)
local macro_rules | `(tactic| fail) => `(tactic| with_reducible refine v_meth ?_)
local macro_rules | `(tactic| fail) => `(tactic| with_reducible refine v_new ?_)
local macro_rules | `(tactic| fail) => `(tactic| with_reducible refine v_fld ?_)
local macro_rules | `(tactic| fail) => `(tactic| with_reducible refine v_atr ?_)
local macro_rules | `(tactic| fail) => `(tactic| with_reducible refine v_isx ?_)
local macro_rules | `(tactic| fail) => `(tactic| with_reducible refine v_back ?_)
local macro_rules | `(tactic| fail) => `(tactic| with_reducible refine v_lc ?_)
local macro_rules | `(tactic| fail) => `(tactic| with_reducible refine v_mth ?_)
local macro_rules | `(tactic| fail) => `(tactic| with_reducible refine v_lzip ?_)
local macro_rules | `(tactic| fail) => `(tactic| with_reducible refine v_lrev ?_)
local macro_rules | `(tactic| fail) => `(tactic| with_reducible refine v_blt ?_)
local macro_rules | `(tactic| fail) => `(tactic| with_reducible refine v_call ?_)
local macro_rules | `(tactic| fail) => `(tactic| with_reducible refine v_slice ?_)
local macro_rules | `(tactic| fail) => `(tactic| with_reducible refine v_sub ?_)
local macro_rules | `(tactic| fail) => `(tactic| with_reducible refine v_lst ?_)
local macro_rules | `(tactic| fail) => `(tactic| with_reducible refine v_tup ?_)
local macro_rules | `(tactic| fail) => `(tactic| with_reducible refine v_ite ?_)
local macro_rules | `(tactic| fail) => `(tactic| with_reducible refine v_nt ?_)
local macro_rules | `(tactic| fail) => `(tactic| with_reducible refine v_bop ?_)
local macro_rules | `(tactic| fail) => `(tactic| with_reducible refine v_cmp ?_)
local macro_rules | `(tactic| fail) => `(tactic| with_reducible refine v_bin ?_)
local macro_rules | `(tactic| fail) => `(tactic| with_reducible refine v_bty ?_)
local macro_rules | `(tactic| fail) => `(tactic| with_reducible refine v_str ?_)
local macro_rules | `(tactic| fail) => `(tactic| with_reducible refine v_non ?_)
local macro_rules | `(tactic| fail) => `(tactic| with_reducible refine v_bl ?_)
local macro_rules | `(tactic| fail) => `(tactic| with_reducible refine v_int ?_)
local macro_rules | `(tactic| fail) => `(tactic| with_reducible refine s_cont ?_)
local macro_rules | `(tactic| fail) => `(tactic| with_reducible refine s_brk ?_)
local macro_rules | `(tactic| fail) => `(tactic| with_reducible refine s_nil ?_)
local macro_rules | `(tactic| fail) => `(tactic| with_reducible refine s_pass ?_)
local macro_rules | `(tactic| fail) => `(tactic| with_reducible refine s_retN ?_)
local macro_rules | `(tactic| fail) => `(tactic| with_reducible refine s_ret ?_)
local macro_rules | `(tactic| fail) => `(tactic| with_reducible refine s_ife ?_)
local macro_rules | `(tactic| fail) => `(tactic| with_reducible refine s_set ?_)
local macro_rules | `(tactic| fail) => `(tactic| with_reducible refine s_par ?_)
local macro_rules | `(tactic| fail) => `(tactic| with_reducible refine s_asg ?_)
local macro_rules | `(tactic| fail) => `(tactic| with_reducible refine s_ex ?_)

theorem spec_rowsB (hd : defs "Bounds.rows" = some dBoundsRows) {n : Nat} {rows : List Row} {b p : Addr} {rs : List Addr} {M : Mx} (hk : 1 ≤ k) (B : Bo S b p rs n rows M) (hq : Q (.tup (rows.map rowD)) S) : sem defs gl k "Bounds.rows" [.ref b] S Q E := by
  obtain ⟨k, rfl⟩ : ∃ j, k = j + 1 := ⟨k - 1, by omega⟩
  have e0 := B.at_
  (refine sem_of hd rfl ?_; unfold dBoundsRows; simp only [startD, List.map_cons, List.map_nil, List.length_cons, List.length_nil, List.replicate_succ, List.replicate_zero, List.cons_append, List.nil_append, Nat.reduceAdd, Nat.reduceSub])
  (repeat fail)
  exact hq
theorem spec_lenO {n : Nat} {rows : List Row} {b p : Addr} {rs : List Addr} {M : Mx} (hk : 1 ≤ k) (B : Bo S b p rs n rows M) (hq : Q (.int (rows.length : Nat)) S) : sem defs gl k "Bounds.__len__" [.ref b] S Q E := by
  obtain ⟨k, rfl⟩ : ∃ j, k = j + 1 := ⟨k - 1, by omega⟩
  have e0 := B.at_
  (refine sem_of df_dBoundsLen rfl ?_; unfold dBoundsLen; simp only [startD, List.map_cons, List.map_nil, List.length_cons, List.length_nil, List.replicate_succ, List.replicate_zero, List.cons_append, List.nil_append, Nat.reduceAdd, Nat.reduceSub])
  (repeat fail)
  rw [List.length_map]
  exact hq
theorem spec_reprO {n : Nat} {rows : List Row} {b p : Addr} {rs : List Addr} {M : Mx} (hk : 1 ≤ k) (hn : n ≤ 10) (hl : rows.length ≤ 100) (B : Bo S b p rs n rows M) (hq : Q (.str (lbl n rows.length)) S) : sem defs gl k "Bounds.__repr__" [.ref b] S Q E := by
  obtain ⟨k, rfl⟩ : ∃ j, k = j + 1 := ⟨k - 1, by omega⟩
  have e0 := B.at_
  (refine sem_of df_dBoundsRepr rfl ?_; unfold dBoundsRepr; simp only [startD, List.map_cons, List.map_nil, List.length_cons, List.length_nil, List.replicate_succ, List.replicate_zero, List.cons_append, List.nil_append, Nat.reduceAdd, Nat.reduceSub])
  (repeat fail)
  refine ⟨small_log (by omega), ?_⟩
  (repeat fail)
  rw [List.length_map]
  refine ⟨small_log (by omega), ?_⟩
  rw [lbl_fs]
  exact hq
theorem spec_holds {n : Nat} {rows : List Row} {b p : Addr} {rs : List Addr} {M : Mx} {xs : List Int} (hk : 1 ≤ k) (hx : xs.length = n) (hn : n ≤ 10) (hr : ∀ r ∈ rows, RowOk n 1000 r) (hl : rows.length ≤ 100) (B : Bo S b p rs n rows M)
    (hq : ∀ S', Off [] S S' → Q (.bl (keepsB rows xs)) S') : sem defs gl k "Bounds.holds" [.ref b, .tup (xs.map D.int)] S Q E := by
  obtain ⟨k, rfl⟩ : ∃ j, k = j + 1 := ⟨k - 1, by omega⟩
  have e0 := B.at_
  (refine sem_of df_dBoundsHolds rfl ?_; unfold dBoundsHolds; simp only [startD, List.map_cons, List.map_nil, List.length_cons, List.length_nil, List.replicate_succ, List.replicate_zero, List.cons_append, List.nil_append, Nat.reduceAdd, Nat.reduceSub])
  (repeat fail)
  refine ⟨by rw [sizeLine_eq]; simp; omega, ?_⟩
  (repeat fail)
  refine .inl ⟨_, rfl, ?_⟩
  refine lc_ind (fun r acc S' => ∃ dn td, rows = dn ++ td ∧ r = td.map rowD ∧ acc = dn.map (fun q => D.bl (keepR xs q)) ∧ S' = S) (fun _ _ _ _ => trivial) ?_ ?_ _ _ _ ⟨[], rows, rfl, rfl, rfl, rfl⟩
  · rintro acc S' ⟨dn, td, er, e1, rfl, rfl⟩ p hp
    have htd : td = [] := by cases td with | nil => rfl | cons _ _ => cases e1
    subst htd
    rw [List.append_nil] at er
    subst er
    (repeat fail)
    unfold wBlt
    simp only [updS_same, blsOf_map]
    have : (rows.map (keepR xs)).all id = keepsB rows xs := by unfold keepsB; rw [List.all_map]; rfl
    rw [this]
    exact hq _ (Off.new hp)
  · rintro d r acc S' K ⟨dn, td, er, e1, rfl, rfl⟩ hK1 -
    cases td with
    | nil => cases e1
    | cons q td =>
      simp only [List.map_cons, List.cons.injEq] at e1
      obtain ⟨rfl, rfl⟩ := e1
      have hq0 : q ∈ rows := by rw [er]; simp
      obtain ⟨q1, q2, q3, q4, q5, q6⟩ := hr q hq0
      refine ⟨by rw [List.length_map, sizeLine_eq]; have := congrArg List.length er; simp at this; omega, ?_⟩
      rw [show rowD q = .tup [.int q.1, .int q.2.1, .int q.2.2] from rfl]
      (repeat fail)
      refine o_subT (at_val0 q1 (by omega)) ?_
      (repeat fail)
      refine o_subT (at_val0 q3 (by omega)) ?_
      (repeat fail)
      exact hK1 _ _ ⟨dn ++ [q], td, by rw [er]; simp, rfl, by simp [keepR], rfl⟩
theorem spec_lkeepsL {n : Nat} {f : Int} {rows : List Row} {lp np : Addr} {xs : List Int} (hk : 1 ≤ k) (hx : xs.length = n) (hn : n ≤ 10) (hr : ∀ r ∈ rows, RowOk n f r) (hl : rows.length ≤ 100) (hS : S lp = some (.lst (rows.map rowD))) (hN : S np = some (.lst (xs.map D.int)))
    (hq : ∀ S', Off [] S S' → Q (.bl (keepsB rows xs)) S') : sem defs gl k "_law_keeps" [.ref lp, .ref np] S Q E := by
  obtain ⟨k, rfl⟩ : ∃ j, k = j + 1 := ⟨k - 1, by omega⟩
  (refine sem_of df_dLKeeps rfl ?_; unfold dLKeeps; simp only [startD, List.map_cons, List.map_nil, List.length_cons, List.length_nil, List.replicate_succ, List.replicate_zero, List.cons_append, List.nil_append, Nat.reduceAdd, Nat.reduceSub])
  (repeat fail)
  refine o_listJ hN fun q1 hq1 => ?_
  (repeat fail)
  intro q2 hq2
  refine o_addLB (upd_at hq2 updS_same) updS_same (by rw [sizeLine_eq]; simp; omega) fun q3 hq3 => ?_
  have eL : updS (updS (updS S q1 (.lst (xs.map D.int))) q2 (.lst [.int 0])) q3 (.lst (xs.map D.int ++ [.int 0])) lp = some (.lst (rows.map rowD)) := upd_at hq3 (upd_at hq2 (upd_at hq1 hS))
  have eW : updS (updS (updS S q1 (.lst (xs.map D.int))) q2 (.lst [.int 0])) q3 (.lst (xs.map D.int ++ [.int 0])) q3 = some (.lst (xs.map D.int ++ [.int 0])) := updS_same
  have o3 : Off [] S (updS (updS (updS S q1 (.lst (xs.map D.int))) q2 (.lst [.int 0])) q3 (.lst (xs.map D.int ++ [.int 0]))) := ((Off.new hq1).trans (Off.new hq2)).trans (Off.new hq3)
  generalize updS (updS (updS S q1 (.lst (xs.map D.int))) q2 (.lst [.int 0])) q3 (.lst (xs.map D.int ++ [.int 0])) = S3 at eL eW o3 ⊢
  (repeat fail)
  refine .inr (.inr ⟨_, _, rfl, eL, ?_⟩)
  refine lc_ind (fun r acc S' => ∃ dn td, rows = dn ++ td ∧ r = td.map rowD ∧ (∃ m, acc = List.replicate m (.int 1) ∧ m ≤ dn.length ∧ (m = 0 ↔ dn.all (keepR xs) = true)) ∧ S' = S3) (fun _ _ _ ⟨_, _, _, _, _, z⟩ => by rw [z]; exact eL) ?_ ?_ _ _ _ ⟨[], rows, rfl, rfl, ⟨0, rfl, by simp, by simp⟩, rfl⟩
  · rintro acc S' ⟨dn, td, er, e1, ⟨m, rfl, hm, hm2⟩, rfl⟩ p hp
    have htd : td = [] := by cases td with | nil => rfl | cons _ _ => cases e1
    subst htd
    rw [List.append_nil] at er
    subst er
    (repeat fail)
    intro p2 hp2
    refine o_eqE1 (upd_at hp2 updS_same) updS_same ?_
    have : decide (m = 0) = keepsB rows xs := by
      unfold keepsB
      by_cases z : m = 0
      · rw [decide_eq_true z, hm2.mp z]
      · rw [decide_eq_false z]
        cases q : rows.all (keepR xs) with
        | false => rfl
        | true => exact absurd (hm2.mpr q) z
    rw [this]
    exact hq _ (o3.trans ((Off.new hp).trans (Off.new hp2)))
  · rintro d r acc S' K ⟨dn, td, er, e1, ⟨m, rfl, hm, hm2⟩, rfl⟩ hK1 hK2
    cases td with
    | nil => cases e1
    | cons q td =>
      simp only [List.map_cons, List.cons.injEq] at e1
      obtain ⟨rfl, rfl⟩ := e1
      have hq0 : q ∈ rows := by rw [er]; simp
      obtain ⟨q1, q2, q3, q4, q5, q6⟩ := hr q hq0
      refine ⟨by rw [List.length_replicate, sizeLine_eq]; have := congrArg List.length er; simp at this; omega, ?_⟩
      rw [show rowD q = .tup [.int q.1, .int q.2.1, .int q.2.2] from rfl]
      (repeat fail)
      refine o_subL eW (at_val q1 (by omega)) ?_
      (repeat fail)
      refine o_subL eW (at_val q3 (by omega)) ?_
      (repeat fail)
      refine c_dec (fun h => ?_) (fun h => ?_)
      · (repeat fail)
        refine hK1 _ _ ⟨dn ++ [q], td, by rw [er]; simp, rfl, ⟨m + 1, by rw [List.replicate_succ'], by simp; omega, ?_⟩, rfl⟩
        have : keepR xs q = false := decide_eq_false (by omega)
        simp [List.all_append, this]
      · refine hK2 _ ⟨dn ++ [q], td, by rw [er]; simp, rfl, ⟨m, rfl, by simp; omega, ?_⟩, rfl⟩
        have : keepR xs q = true := decide_eq_true (by omega)
        rw [hm2]
        simp [List.all_append, this]
theorem right_tail {n : Nat} {rows : List Row} {lp np b p a : Addr} {rs : List Addr} {M : Mx} {xs : List Int} {ex : EX} {N : StD → Sto → Prop} {rt : D → Sto → Prop} {bk : StD → Sto → Prop} {x4 x5 x7 x8 x9 x10 x11 : Option D} (hk : 1 ≤ k) (hx : xs.length = n) (hn : n ≤ 10) (hr : ∀ r ∈ rows, RowOk n 1000 r) (hl : rows.length ≤ 50) (hS : S lp = some (.lst (rows.map rowD))) (hnp : S np = some (.lst (xs.map D.int))) (B : Bo S b p rs n rows M)
    (hN : ∀ S' y10, Off [] S S' → N [some (.ref b), some (.int n), some (.ref lp), some (.ref a), x4, x5, some (.ref np), x7, x8, x9, y10, x11] S') :
    wpSs ⟨sem defs gl k, gl⟩ ex [.asg (.nm 10) (.meth "Bounds.holds" "Bounds" "holds" (.var 0) [(.blt .tuple [(.var 6)])]), .ife (.bop .Or [(.nt (.blt .isinst [(.var 10), (.bty "bool")])), (.cmp .NotEq (.var 10) (.call "_law_keeps" [(.var 2), (.var 6)]))]) [.ret (.bl false)] []] ⟨N, rt, bk, N⟩ [some (.ref b), some (.int n), some (.ref lp), some (.ref a), x4, x5, some (.ref np), x7, x8, x9, x10, x11] S := by
  have e0 := B.at_
  (repeat fail)
  refine spec_holds (by omega) hx hn hr (by omega) B fun S1 o1 => ?_
  have hS1 := o1 lp _ (by simp) hS
  have hn1 := o1 np _ (by simp) hnp
  (repeat fail)
  refine spec_lkeepsL (by omega) hx hn hr (by omega) hS1 hn1 fun S2 o2 => ?_
  refine o_neBJ ?_
  (repeat fail)
  exact hN _ _ (o1.trans o2)
theorem spec_lright {n : Nat} {rows : List Row} {lp b p a : Addr} {rs : List Addr} {M : Mx} (hk : 3 ≤ k) (hn : n ≤ 10) (hr : ∀ r ∈ rows, RowOk n 1000 r) (hl : rows.length ≤ 50) (hS : S lp = some (.lst (rows.map rowD))) (B : Bo S b p rs n rows M) (hF : Flow S a) (hA : ∀ x ∈ b :: p :: rs, x ∉ [a]) (hla : lp ≠ a)
    (hq : ∀ S', Flow S' a → Off [a] S S' → Q (.bl true) S') : sem defs gl k "_law_right" [.ref b, .int n, .ref lp, .ref a] S Q E := by
  obtain ⟨k, rfl⟩ : ∃ j, k = j + 1 := ⟨k - 1, by omega⟩
  have e0 := B.at_
  have ln := int_len (c := (n : Int)) ⟨by omega, by omega⟩
  have lm := int_len (c := (rows.length : Int)) ⟨by omega, by omega⟩
  (refine sem_of df_dLRight rfl ?_; unfold dLRight; simp only [startD, List.map_cons, List.map_nil, List.length_cons, List.length_nil, List.replicate_succ, List.replicate_zero, List.cons_append, List.nil_append, Nat.reduceAdd, Nat.reduceSub])
  (repeat fail)
  refine spec_rowsB df_dBoundsRows (by omega) B ?_
  (repeat fail)
  refine o_reprR hn hr (by omega) ?_
  (repeat fail)
  refine o_reprR hn hr (by omega) ?_
  (repeat fail)
  refine o_neSJ (rows_ok hn hr) ?_
  (repeat fail)
  refine spec_lenO (by omega) B ⟨_, rfl, by omega, ?_⟩
  (repeat fail)
  rw [List.length_map]
  refine o_neIX ?_
  rw [bne_self_eq_false]
  (repeat fail)
  refine spec_reprO (by omega) hn (by omega) B ⟨_, rfl, ?_⟩
  (repeat fail)
  refine ⟨small_log (by omega), ?_⟩
  (repeat fail)
  refine o_addS rfl (by rw [lenB1]; omega) ?_
  (repeat fail)
  refine o_addS rfl (by rw [app_len, lenB1, lenB2]; omega) ?_
  (repeat fail)
  rw [List.length_map]
  refine ⟨small_log (by omega), ?_⟩
  (repeat fail)
  refine o_addS rfl (by rw [app_len, app_len, lenB1, lenB2]; omega) ?_
  (repeat fail)
  refine o_addS rfl (by rw [app_len, app_len, app_len, lenB1, lenB2, lenB3]; omega) ?_
  refine o_neSJ lbl_ok ?_
  (repeat fail)
  intro tp htp
  have et : updS S tp (.lst [.int 3, .int 50, .int 900000]) tp = some (.lst [.int 3, .int 50, .int 900000]) := updS_same
  have nta := flow_neJ hF htp
  have F1 := hF.newB (o := .lst [.int 3, .int 50, .int 900000]) htp
  have o1 : Off [a] S (updS S tp (.lst [.int 3, .int 50, .int 900000])) := Off.new htp
  generalize updS S tp (.lst [.int 3, .int 50, .int 900000]) = S1 at et F1 o1
  (repeat fail)
  refine spec_drawB df_dLDrawB (by omega) F1 (by omega) fun g S2 g0 g1 F2 o2 => ?_
  have et2 := o2 tp _ (by simpa using nta) et
  obtain ⟨far, hf, hf1, hf2⟩ := at3J (i := g) ⟨g0, g1⟩
  refine o_subL et2 hf ?_
  (repeat fail)
  refine s_fr (i_rng1 ?_)
  (repeat fail)
  refine ⟨by omega, by omega, ?_⟩
  refine for_ind (fun r σ S' => (∀ d ∈ r, ∃ i : Nat, d = .int i) ∧ Flow S' a ∧ Off [a] S S' ∧ ∃ x5 x6 x7 x8 x9 x10 x11, σ = [some (.ref b), some (.int n), some (.ref lp), some (.ref a), some (.int far), x5, x6, x7, x8, x9, x10, x11]) (fun _ _ _ _ => trivial) ?_ ?_ _ _ _ ⟨fun d hd => ?_, F2, o1.trans o2, _, _, _, _, _, _, _, rfl⟩
  · rintro σ S3 ⟨_, F3, o3, x5, x6, x7, x8, x9, x10, x11, rfl⟩
    (repeat fail)
    exact hq _ F3 o3
  · rintro d r σ S3 N ⟨hr3, F3, o3, x5, x6, x7, x8, x9, x10, x11, rfl⟩ hN
    obtain ⟨t, rfl⟩ := hr3 d (by simp)
    (repeat fail)
    refine ⟨by omega, by omega, ?_⟩
    rw [Int.toNat_natCast]
    refine lc_ind (fun r acc S' => ∃ xs : List Int, acc = xs.map D.int ∧ xs.length + r.length = n ∧ Flow S' a ∧ Off [a] S S') (fun _ _ _ _ => trivial) ?_ ?_ _ _ _ ⟨[], rfl, by simp, F3, o3⟩
    rotate_left
    · rintro d r acc S' K ⟨xs, rfl, hl4, F4, o4⟩ hK -
      rw [List.length_cons] at hl4
      refine ⟨by rw [List.length_map, sizeLine_eq]; omega, ?_⟩
      (repeat fail)
      refine spec_drawB df_dLDrawB (by omega) F4 (by omega) fun g5 S5 g50 g51 F5 o5 => ?_
      (repeat fail)
      exact hK _ _ ⟨xs ++ [g5 - far], by simp, by rw [List.length_append, List.length_singleton]; omega, F5, o4.trans o5⟩
    rintro acc S4 ⟨xs, rfl, hxs, F4, o4⟩ np hnp
    simp only [List.length_nil, Nat.add_zero] at hxs
    have nnp := flow_neJ F4 hnp
    have eN : updS S4 np (.lst (xs.map D.int)) np = some (.lst (xs.map D.int)) := updS_same
    have F5 := F4.newB (o := .lst (xs.map D.int)) hnp
    have o5 : Off [a] S (updS S4 np (.lst (xs.map D.int))) := o4.trans (Off.new hnp)
    have nlp : np ≠ lp := fun z => by rw [z] at hnp; rw [o4 lp _ (by simpa using hla) hS] at hnp; cases hnp
    have hSn : S np = none := by
      cases z : S np with
      | none => rfl
      | some o => rw [o4 np _ (by simpa using nnp) z] at hnp; cases hnp
    have nB : ∀ x ∈ b :: p :: rs, x ∉ [a, np] := fun x hx => by
      have hx1 := hA x hx
      simp only [List.mem_cons, List.not_mem_nil, or_false] at hx1 ⊢
      rintro (z | rfl)
      · exact hx1 z
      · have B4 := B.offA o4 hA
        simp only [List.mem_cons] at hx
        rcases hx with rfl | rfl | hx
        · rw [B4.at_] at hnp; cases hnp
        · rw [B4.mat.top] at hnp; cases hnp
        · obtain ⟨i, hi⟩ := List.mem_iff_getElem?.mp hx
          rw [B4.mat.row i x hi] at hnp; cases hnp
    generalize updS S4 np (.lst (xs.map D.int)) = S5 at eN F5 o5 ⊢
    have hS5 := o5 lp _ (by simpa using hla) hS
    have B5 := B.offA o5 hA
    have rest : ∀ (S6 : Sto) (ys : List Int) (z7 z8 z9 : Option D), ys.length = n → S6 np = some (.lst (ys.map D.int)) → Flow S6 a → Off [a, np] S S6 → wpSs ⟨sem defs gl k, gl⟩ (fun x _ S' => E x S') [.asg (.nm 10) (.meth "Bounds.holds" "Bounds" "holds" (.var 0) [(.blt .tuple [(.var 6)])]), .ife (.bop .Or [(.nt (.blt .isinst [(.var 10), (.bty "bool")])), (.cmp .NotEq (.var 10) (.call "_law_keeps" [(.var 2), (.var 6)]))]) [.ret (.bl false)] []] ⟨N, Q, fun _ _ => False, N⟩ [some (.ref b), some (.int n), some (.ref lp), some (.ref a), some (.int far), some (.int t), some (.ref np), z7, z8, z9, x10, x11] S6 := fun S6 ys z7 z8 z9 hy1 hy2 F6 o6 => by
      refine right_tail (by omega) hy1 hn hr hl (o6 lp _ (by simp; exact ⟨hla, Ne.symm nlp⟩) hS) hy2 (B.offA o6 nB) fun S7 y10 o7 => ?_
      refine hN _ _ ⟨fun d hd => hr3 d (by simp [hd]), F6.offJ o7 (by simp), ?_, _, _, _, _, _, _, _, rfl⟩
      exact Off.drop (p := np) ((o6.trans (o7.mono (by simp))).mono (by simp)) hSn
    (repeat fail)
    refine c_dec (fun c1 => ?_) (fun c1 => ?_)
    rotate_left
    · rw [if_neg Bool.false_ne_true]; exact s_nil (rest S5 xs _ _ _ hxs eN F5 (o5.mono (by simp)))
    (repeat fail)
    refine c_dec (fun c2 => ?_) (fun c2 => ?_)
    rotate_left
    · rw [if_neg Bool.false_ne_true]; exact s_nil (rest S5 xs _ _ _ hxs eN F5 (o5.mono (by simp)))
    (repeat fail)
    refine c_dec (fun c3 => ?_) (fun c3 => ?_)
    rotate_left
    · exact s_nil (rest S5 xs _ _ _ hxs eN F5 (o5.mono (by simp)))
    rw [List.length_map] at c2
    (repeat fail)
    rw [List.length_map]
    refine spec_drawB df_dLDrawB (by omega) F5 (by omega) fun w S6 w0 w1 F6 o6 => ?_
    have hS6 := o6 lp _ (by simpa using hla) hS5
    have eN6 := o6 np _ (by simpa using nnp) eN
    refine o_subL hS6 (at_rowI ⟨w0, w1⟩) ?_
    have hrw := hr _ (rowAt_mem ⟨w0, w1⟩)
    generalize rowAt rows w = q at hrw ⊢
    obtain ⟨q1, q2, q3⟩ := q
    obtain ⟨h1, h2, h3, h4, h5, h6⟩ := hrw
    simp only at h1 h2 h3 h4 h5 h6
    rw [show rowD (q1, q2, q3) = .tup [.int q1, .int q2, .int q3] from rfl]
    (repeat fail)
    intro zp hzp
    have eN7 := upd_at (u := .lst [.int 0]) hzp eN6
    have ez : updS S6 zp (.lst [.int 0]) zp = some (.lst [.int 0]) := updS_same
    have F7 := F6.newB (o := .lst [.int 0]) hzp
    have O7 : Off [a] S (updS S6 zp (.lst [.int 0])) := (o5.trans o6).trans (Off.new hzp)
    generalize updS S6 zp (.lst [.int 0]) = S7 at eN7 ez F7 O7 ⊢
    refine o_addLB eN7 ez (by rw [sizeLine_eq, List.length_map]; simp; omega) fun yp hyp => ?_
    have eY : updS S7 yp (.lst (xs.map D.int ++ [.int 0])) yp = some (.lst (xs.map D.int ++ [.int 0])) := updS_same
    have eN8 := upd_at (u := .lst (xs.map D.int ++ [.int 0])) hyp eN7
    have F8 := F7.newB (o := .lst (xs.map D.int ++ [.int 0])) hyp
    have O8 : Off [a] S (updS S7 yp (.lst (xs.map D.int ++ [.int 0]))) := O7.trans (Off.new hyp)
    generalize updS S7 yp (.lst (xs.map D.int ++ [.int 0])) = S8 at eY eN8 F8 O8 ⊢
    (repeat fail)
    refine o_subL eY (at_val h3 (by omega)) ?_
    (repeat fail)
    refine spec_drawB df_dLDrawB (by omega) F8 (by omega) fun w9 S9 w90 w91 F9 o9 => ?_
    have eN9 := o9 np _ (by simpa using nnp) eN8
    (repeat fail)
    intro up hup
    have eU : updS S9 up (.lst [.int q1, .int q2]) up = some (.lst [.int q1, .int q2]) := updS_same
    have eNA := upd_at (u := .lst [.int q1, .int q2]) hup eN9
    have FA := F9.newB (o := .lst [.int q1, .int q2]) hup
    have OA : Off [a] S (updS S9 up (.lst [.int q1, .int q2])) := (O8.trans o9).trans (Off.new hup)
    generalize updS S9 up (.lst [.int q1, .int q2]) = SA at eU eNA FA OA ⊢
    have fin : ∀ (i v : Int), -1 ≤ i → i < n → wSet (.ref np) (.int i) (.int v) SA fun S4 => wpSs ⟨sem defs gl k, gl⟩ (fun x _ S' => E x S') [] ⟨wpSs ⟨sem defs gl k, gl⟩ (fun x _ S' => E x S') [.asg (.nm 10) (.meth "Bounds.holds" "Bounds" "holds" (.var 0) [(.blt .tuple [(.var 6)])]), .ife (.bop .Or [(.nt (.blt .isinst [(.var 10), (.bty "bool")])), (.cmp .NotEq (.var 10) (.call "_law_keeps" [(.var 2), (.var 6)]))]) [.ret (.bl false)] []] ⟨N, Q, fun _ _ => False, N⟩, Q, fun _ _ => False, N⟩ [some (.ref b), some (.int n), some (.ref lp), some (.ref a), some (.int far), some (.int t), some (.ref np), some (.int q1), some (.int q2), some (.int q3), x10, x11] S4 := fun i v i0 i1 => by
      obtain ⟨jj, hj⟩ := ix_ok i0 i1 (by omega)
      refine o_setL eNA (by rw [List.length_map, hxs]; exact hj) ?_
      rw [set_ints]
      refine s_nil (rest _ _ _ _ _ (by rw [List.length_set]; exact hxs) updS_same (FA.offJ (Off.upd (A := [np]) (by simp)) (by simpa using Ne.symm nnp)) ((OA.mono (by simp)).trans (Off.upd (by simp))))
    (repeat fail)
    by_cases hi : q1 < 0
    · rw [decide_eq_true hi]
      (repeat fail)
      exact fin _ _ h3 h4
    · rw [decide_eq_false hi]
      (repeat fail)
      exact fin _ _ h1 h2
  · obtain ⟨j, hj, rfl⟩ := List.mem_map.mp hd
    exact ⟨j, rfl⟩
theorem o_revJ {a : Addr} {xs : List D} (e : S a = some (.lst xs)) (h : Q .non (updS S a (.lst xs.reverse))) : wMth .reverse (.ref a) [] S Q := by unfold wMth; simp only [e]; exact h
theorem padT1 : padT "Bounds.__init__" 1 = [.tup []] := if_pos ⟨rfl, rfl⟩
def Away (A : List Addr) (b p : Addr) (rs : List Addr) : Prop := ∀ x ∈ b :: p :: rs, x ∉ A
theorem away_of {A : List Addr} {b p : Addr} {rs : List Addr} {S : Sto} (h : ∀ x ∈ A, S x ≠ none) (hb : S b = none) (hp : S p = none) (hr : ∀ r ∈ rs, S r = none) : Away A b p rs := fun x hx hA => by
  have h1 := h x hA
  simp only [List.mem_cons] at hx
  rcases hx with rfl | rfl | hx
  · exact h1 hb
  · exact h1 hp
  · exact h1 (hr x hx)
theorem flow_some {a : Addr} (F : Flow S a) : S a ≠ none := by obtain ⟨_, _, _, z, _⟩ := F; rw [z]; simp
local macro_rules | `(tactic| fail) => `(tactic| ((with_reducible refine And.intro ?_ ?_); (focus (exact Nat.le_of_ble_eq_true rfl))))
local macro_rules | `(tactic| fail) => `(tactic| with_reducible refine ⟨_, rfl, ?_⟩)
local macro_rules | `(tactic| fail) => `(tactic| ((with_reducible apply o_sliceT); (focus rfl)))
local macro_rules | `(tactic| fail) => `(tactic| ((with_reducible apply o_inTf); (focus rfl); (focus rfl); (focus (simp [inF, eqF, str_beq]; done))))
local macro_rules | `(tactic| fail) => `(tactic| ((with_reducible apply o_inTt); (focus rfl); (focus rfl); (focus (simp [inF, eqF, str_beq]; done))))
local macro_rules | `(tactic| fail) => `(tactic| ((with_reducible apply o_subC); (focus ((repeat (first | with_reducible exact lk_hit | ((with_reducible apply lk_miss); (focus (exact str_ne (by decide)))))); done))))
local macro_rules | `(tactic| fail) => `(tactic| ((with_reducible apply o_inC); (focus ((repeat (first | with_reducible exact lk_hit | ((with_reducible apply lk_miss); (focus (exact str_ne (by decide)))))); done))))
local macro_rules | `(tactic| fail) => `(tactic| ((with_reducible apply o_ninC); (focus ((repeat (first | with_reducible exact lk_hit | ((with_reducible apply lk_miss); (focus (exact str_ne (by decide)))))); done))))
local macro_rules | `(tactic| fail) => `(tactic| ((with_reducible apply o_isinF); (focus rfl); (focus (decide +kernel))))
local macro_rules | `(tactic| fail) => `(tactic| ((with_reducible apply o_isinT); (focus rfl); (focus (decide +kernel))))
local macro_rules | `(tactic| fail) => `(tactic| with_reducible refine i_enm ?_)
local macro_rules | `(tactic| fail) => `(tactic| ((with_reducible apply g_tup); (focus rfl); (focus rfl)))
local macro_rules | `(tactic| fail) => `(tactic| ((with_reducible apply v_dctN); (focus (decide +kernel))))
local macro_rules | `(tactic| fail) => `(tactic| ((with_reducible apply o_len); (focus (exact len_ref (by (first | assumption | exact updS_same | exact upd_at (by assumption) (by assumption)))))))
local macro_rules | `(tactic| fail) => `(tactic| ((with_reducible apply o_tuple); (focus (first | rfl | exact items_ref (by (first | assumption | exact updS_same | exact upd_at (by assumption) (by assumption)))))))
local macro_rules | `(tactic| fail) => `(tactic| ((with_reducible apply o_get2); (focus (first | assumption | exact updS_same | exact upd_at (by assumption) (by assumption))); (focus rfl); (focus ((repeat (first | with_reducible exact getD_hit | with_reducible exact getD_nil | ((with_reducible apply getD_miss); (focus (exact str_ne (by decide)))))); done))))
local macro_rules | `(tactic| fail) => `(tactic| ((with_reducible apply o_get1); (focus (first | assumption | exact updS_same | exact upd_at (by assumption) (by assumption))); (focus rfl); (focus ((repeat (first | with_reducible exact getD_hit | with_reducible exact getD_nil | ((with_reducible apply getD_miss); (focus (exact str_ne (by decide)))))); done))))
local macro_rules | `(tactic| fail) => `(tactic| ((with_reducible refine And.intro ?_ ?_); (focus (first | exact recvL (by (first | assumption | exact updS_same | exact upd_at (by assumption) (by assumption))) rfl | exact recvD (by (first | assumption | exact updS_same | exact upd_at (by assumption) (by assumption))) rfl))))
local macro_rules | `(tactic| fail) => `(tactic| ((with_reducible apply o_subD); (focus (first | assumption | exact updS_same | exact upd_at (by assumption) (by assumption))); (focus rfl); (focus ((repeat (first | with_reducible exact lookD_hit | ((with_reducible apply look_miss); (focus (exact str_ne (by decide)))))); done))))
local macro_rules | `(tactic| fail) => `(tactic| ((with_reducible apply c_ndF); (focus (((try simp only [List.length_cons, List.length_nil, List.length_append, List.length_map]); omega)))))
local macro_rules | `(tactic| fail) => `(tactic| ((with_reducible apply c_ndT); (focus (((try simp only [List.length_cons, List.length_nil, List.length_append, List.length_map]); omega)))))
local macro_rules | `(tactic| fail) => `(tactic| with_reducible refine o_intB ?_)
local macro_rules | `(tactic| fail) => `(tactic| ((with_reducible apply c_decF); (focus (((try simp only [List.length_cons, List.length_nil, List.length_append, List.length_map]); omega)))))
local macro_rules | `(tactic| fail) => `(tactic| ((with_reducible apply c_decT); (focus (((try simp only [List.length_cons, List.length_nil, List.length_append, List.length_map]); omega)))))
local macro_rules | `(tactic| fail) => `(tactic| with_reducible refine c_notf ?_)
local macro_rules | `(tactic| fail) => `(tactic| with_reducible refine c_nott ?_)
local macro_rules | `(tactic| fail) => `(tactic| with_reducible refine o_eqI ?_)
local macro_rules | `(tactic| fail) => `(tactic| ((with_reducible apply o_eqIf); (focus (((try simp only [List.length_cons, List.length_nil, List.length_append, List.length_map]); omega)))))
local macro_rules | `(tactic| fail) => `(tactic| ((with_reducible apply o_eqIt); (focus (((try simp only [List.length_cons, List.length_nil, List.length_append, List.length_map]); omega)))))
local macro_rules | `(tactic| fail) => `(tactic| with_reducible refine o_isB ?_)
local macro_rules | `(tactic| fail) => `(tactic| with_reducible refine o_isN ?_)
local macro_rules | `(tactic| fail) => `(tactic| with_reducible refine o_isR ?_)
local macro_rules | `(tactic| fail) => `(tactic| with_reducible refine o_eqB ?_)
local macro_rules | `(tactic| fail) => `(tactic| ((with_reducible apply o_neIf); (focus (((try simp only [List.length_cons, List.length_nil, List.length_append, List.length_map]); omega)))))
local macro_rules | `(tactic| fail) => `(tactic| ((with_reducible apply o_neIt); (focus (((try simp only [List.length_cons, List.length_nil, List.length_append, List.length_map]); omega)))))
local macro_rules | `(tactic| fail) => `(tactic| with_reducible refine o_neII ?_)
local macro_rules | `(tactic| fail) => `(tactic| with_reducible refine o_neBB ?_)
local macro_rules | `(tactic| fail) => `(tactic| ((with_reducible apply o_eqSf); (focus decide)))
local macro_rules | `(tactic| fail) => `(tactic| ((with_reducible apply o_atr); (focus rfl)))
local macro_rules | `(tactic| fail) => `(tactic| with_reducible refine o_isx ?_)
local macro_rules | `(tactic| fail) => `(tactic| with_reducible refine o_eqSt ?_)
local macro_rules | `(tactic| fail) => `(tactic| ((with_reducible apply o_len); focus (first | rfl | (simp only [lenD]; simp only [*]; done))))
local macro_rules | `(tactic| fail) => `(tactic| ((with_reducible apply o_setL); (focus (first | assumption | exact updS_same | exact upd_at (by assumption) (by assumption))); (focus rfl)))
local macro_rules | `(tactic| fail) => `(tactic| ((with_reducible refine And.intro ?_ ?_); (focus (first | exact selfOk (by (first | assumption | exact updS_same | exact upd_at (by assumption) (by assumption))) rfl | exact insOk (by (first | assumption | exact updS_same | exact upd_at (by assumption) (by assumption)))))))
local macro_rules | `(tactic| fail) => `(tactic| ((with_reducible apply o_setf); (focus (first | assumption | exact updS_same | exact upd_at (by assumption) (by assumption))); (focus (exact Nat.le_of_ble_eq_true rfl))))
local macro_rules | `(tactic| fail) => `(tactic| ((with_reducible apply o_fld); (focus (first | assumption | exact updS_same | exact upd_at (by assumption) (by assumption))); (focus rfl)))
local macro_rules | `(tactic| fail) => `(tactic| ((with_reducible apply o_subT); focus (rfl)))
local macro_rules | `(tactic| fail) => `(tactic| ((with_reducible apply o_subL); (focus (first | assumption | exact updS_same | exact upd_at (by assumption) (by assumption))); (focus rfl)))
local macro_rules | `(tactic| fail) => `(tactic| ((with_reducible apply o_pow); focus (unfold CPow; omega)))
local macro_rules | `(tactic| fail) => `(tactic| ((with_reducible apply o_mod); focus (omega)))
local macro_rules | `(tactic| fail) => `(tactic| ((with_reducible apply o_div); focus (unfold CDiv; omega)))
local macro_rules | `(tactic| fail) => `(tactic| ((with_reducible apply o_mul); focus (unfold CMul; omega)))
local macro_rules | `(tactic| fail) => `(tactic| ((with_reducible apply v_glob); focus (first | assumption | rfl)))
local macro_rules | `(tactic| fail) => `(tactic| ((with_reducible apply t_var); focus (rfl)))
local macro_rules | `(tactic| fail) => `(tactic| ((with_reducible apply v_var); focus (rfl)))
local macro_rules | `(tactic| fail) => `(tactic| with_reducible refine c_false ?_)
local macro_rules | `(tactic| fail) => `(tactic| with_reducible refine c_true ?_)
local macro_rules | `(tactic| fail) => `(tactic| with_reducible refine o_ge ?_)
local macro_rules | `(tactic| fail) => `(tactic| with_reducible refine o_gt ?_)
local macro_rules | `(tactic| fail) => `(tactic| with_reducible refine o_le ?_)
local macro_rules | `(tactic| fail) => `(tactic| with_reducible refine o_lt ?_)
local macro_rules | `(tactic| fail) => `(tactic| with_reducible refine o_sub ?_)
local macro_rules | `(tactic| fail) => `(tactic| with_reducible refine o_add ?_)
local macro_rules | `(tactic| fail) => `(tactic| with_reducible refine o_sub1 ?_)
local macro_rules | `(tactic| fail) => `(tactic| with_reducible refine o_sub0 ?_)
local macro_rules | `(tactic| fail) => `(tactic| with_reducible refine i_rng1 ?_)
local macro_rules | `(tactic| fail) => `(tactic| with_reducible refine i_seq ?_)
local macro_rules | `(tactic| fail) => `(tactic| with_reducible refine g_cons ?_)
local macro_rules | `(tactic| fail) => `(tactic| with_reducible refine g_nil ?_)
local macro_rules | `(tactic| fail) => `(tactic| with_reducible refine g_nm ?_)
local macro_rules | `(tactic| fail) => `(tactic| with_reducible refine ts_one ?_)
local macro_rules | `(tactic| fail) => `(tactic| with_reducible refine ts_nil ?_)
local macro_rules | `(tactic| fail) => `(tactic| with_reducible refine tr_int ?_)
local macro_rules | `(tactic| fail) => `(tactic| with_reducible refine tr_bl ?_)
local macro_rules | `(tactic| fail) => `(tactic| with_reducible refine tb_or ?_)
local macro_rules | `(tactic| fail) => `(tactic| with_reducible refine tb_and ?_)
local macro_rules | `(tactic| fail) => `(tactic| with_reducible refine tb_one ?_)
local macro_rules | `(tactic| fail) => `(tactic| with_reducible refine t_chain ?_)
local macro_rules | `(tactic| fail) => `(tactic| with_reducible refine t_sub ?_)
local macro_rules | `(tactic| fail) => `(tactic| with_reducible refine t_blt ?_)
local macro_rules | `(tactic| fail) => `(tactic| with_reducible refine t_call ?_)
local macro_rules | `(tactic| fail) => `(tactic| with_reducible refine t_cmp ?_)
local macro_rules | `(tactic| fail) => `(tactic| with_reducible refine t_nt ?_)
local macro_rules | `(tactic| fail) => `(tactic| with_reducible refine t_bop ?_)
local macro_rules | `(tactic| fail) => `(tactic| with_reducible refine vb_or ?_)
local macro_rules | `(tactic| fail) => `(tactic| with_reducible refine vb_and ?_)
local macro_rules | `(tactic| fail) => `(tactic| with_reducible refine vb_one ?_)
local macro_rules | `(tactic| fail) => `(tactic| with_reducible refine vo_some ?_)
local macro_rules | `(tactic| fail) => `(tactic| with_reducible refine vo_none ?_)
local macro_rules | `(tactic| fail) => `(tactic| with_reducible refine vs_cons ?_)
local macro_rules | `(tactic| fail) => `(tactic| with_reducible refine vs_nil ?_)
local macro_rules | `(tactic| fail) => `(tactic| with_reducible refine s_try ?_)
local macro_rules | `(tactic| fail) => `(tactic| with_reducible refine s_setf ?_)
local macro_rules | `(tactic| fail) => `(tactic| with_reducible refine v_newK ?_)
local macro_rules | `(tactic| fail) => `(tactic| with_reducible refine v_fs2 ?_)
local macro_rules | `(tactic| fail) => `(tactic| with_reducible refine v_rpo ?_)
local macro_rules | `(tactic| fail) => `(tactic| with_reducible refine v_lno ?_)
local macro_rules | `(tactic| fail) => `(tactic| with_reducible refine v_eqo ?_)
local macro_rules | `(tactic| fail) => `(tactic| with_reducible refine t_isc ?_)
local macro_rules | `(tactic| fail) => `(tactic| with_reducible refine v_isc ?_)
local macro_rules | `(tactic| fail) => `(tactic| with_reducible refine t_meth ?_)
local macro_rules | `(tactic| fail) => `(tactic| with_reducible refine v_meth ?_)
local macro_rules | `(tactic| fail) => `(tactic| with_reducible refine v_new ?_)
local macro_rules | `(tactic| fail) => `(tactic| with_reducible refine v_fld ?_)
local macro_rules | `(tactic| fail) => `(tactic| with_reducible refine v_atr ?_)
local macro_rules | `(tactic| fail) => `(tactic| with_reducible refine v_isx ?_)
local macro_rules | `(tactic| fail) => `(tactic| with_reducible refine v_back ?_)
local macro_rules | `(tactic| fail) => `(tactic| with_reducible refine v_lc ?_)
local macro_rules | `(tactic| fail) => `(tactic| with_reducible refine v_mth ?_)
local macro_rules | `(tactic| fail) => `(tactic| with_reducible refine v_lzip ?_)
local macro_rules | `(tactic| fail) => `(tactic| with_reducible refine v_lrev ?_)
local macro_rules | `(tactic| fail) => `(tactic| with_reducible refine v_blt ?_)
local macro_rules | `(tactic| fail) => `(tactic| with_reducible refine v_call ?_)
local macro_rules | `(tactic| fail) => `(tactic| with_reducible refine v_slice ?_)
local macro_rules | `(tactic| fail) => `(tactic| with_reducible refine v_sub ?_)
local macro_rules | `(tactic| fail) => `(tactic| with_reducible refine v_lst ?_)
local macro_rules | `(tactic| fail) => `(tactic| with_reducible refine v_tup ?_)
local macro_rules | `(tactic| fail) => `(tactic| with_reducible refine v_ite ?_)
local macro_rules | `(tactic| fail) => `(tactic| with_reducible refine v_nt ?_)
local macro_rules | `(tactic| fail) => `(tactic| with_reducible refine v_bop ?_)
local macro_rules | `(tactic| fail) => `(tactic| with_reducible refine v_cmp ?_)
local macro_rules | `(tactic| fail) => `(tactic| with_reducible refine v_bin ?_)
local macro_rules | `(tactic| fail) => `(tactic| with_reducible refine v_bty ?_)
local macro_rules | `(tactic| fail) => `(tactic| with_reducible refine v_str ?_)
local macro_rules | `(tactic| fail) => `(tactic| with_reducible refine v_non ?_)
local macro_rules | `(tactic| fail) => `(tactic| with_reducible refine v_bl ?_)
local macro_rules | `(tactic| fail) => `(tactic| with_reducible refine v_int ?_)
local macro_rules | `(tactic| fail) => `(tactic| with_reducible refine s_cont ?_)
local macro_rules | `(tactic| fail) => `(tactic| with_reducible refine s_brk ?_)
local macro_rules | `(tactic| fail) => `(tactic| with_reducible refine s_nil ?_)
local macro_rules | `(tactic| fail) => `(tactic| with_reducible refine s_pass ?_)
local macro_rules | `(tactic| fail) => `(tactic| with_reducible refine s_retN ?_)
local macro_rules | `(tactic| fail) => `(tactic| with_reducible refine s_ret ?_)
local macro_rules | `(tactic| fail) => `(tactic| with_reducible refine s_ife ?_)
local macro_rules | `(tactic| fail) => `(tactic| with_reducible refine s_set ?_)
local macro_rules | `(tactic| fail) => `(tactic| with_reducible refine s_par ?_)
local macro_rules | `(tactic| fail) => `(tactic| with_reducible refine s_asg ?_)
local macro_rules | `(tactic| fail) => `(tactic| with_reducible refine s_ex ?_)

theorem d_law (ns : List Int) (hl : ns.length ≤ 63) (S : Sto) (hS : ∀ b, S b = none) : sem defs gl 9 "law" [.kl (ns.map D.int)] S (fun d _ => d = .bl true) fun _ _ => False := by
  (refine sem_of df_dLaw rfl ?_; unfold dLaw; simp only [startD, List.map_cons, List.map_nil, List.length_cons, List.length_nil, List.replicate_succ, List.replicate_zero, List.cons_append, List.nil_append, Nat.reduceAdd, Nat.reduceSub])
  (repeat fail)
  refine s_fr (i_rng1 ?_)
  (repeat fail)
  rw [List.length_map]
  refine o_minJ fun c1 hc1 hc2 hc3 => ?_
  (repeat fail)
  refine o_maxJ fun c2 hd1 hd2 hd3 => ?_
  refine ⟨_, rfl, by omega, by omega, ?_⟩
  refine for_ind (fun r σ S' => (∀ d ∈ r, ∃ i : Nat, d = .int i ∧ i < 1000) ∧ ∃ x1 x2 x3 x4 x5 x6 x7 x8, σ = [some (.kl (ns.map D.int)), x1, x2, x3, x4, x5, x6, x7, x8]) (fun _ _ _ _ => trivial) ?_ ?_ _ _ _ ⟨?_, _, _, _, _, _, _, _, _, rfl⟩
  · rintro σ S1 ⟨_, x1, x2, x3, x4, x5, x6, x7, x8, rfl⟩
    (repeat fail)
    rfl
  · rintro d r σ S1 N ⟨hr1, x1, x2, x3, x4, x5, x6, x7, x8, rfl⟩ hN
    obtain ⟨i, rfl, hi⟩ := hr1 d (by simp)
    (repeat fail)
    refine spec_flowB df_dLFlowB df_dLCell (by omega) (by omega) hl fun a S2 ha F2 o2 => ?_
    (repeat fail)
    refine spec_drawB df_dLDrawB (by omega) F2 (by omega) fun m S3 hm0 hm1 F3 o3 => ?_
    obtain ⟨n, rfl⟩ : ∃ n : Nat, m = n := ⟨m.toNat, by omega⟩
    (repeat fail)
    intro tp htp
    have et : updS S3 tp (.lst [.int 2, .int 6, .int 1000]) tp = some (.lst [.int 2, .int 6, .int 1000]) := updS_same
    have nta := flow_neJ F3 htp
    have F3b := F3.newB (o := .lst [.int 2, .int 6, .int 1000]) htp
    generalize updS S3 tp (.lst [.int 2, .int 6, .int 1000]) = S4 at et F3b
    (repeat fail)
    refine spec_drawB df_dLDrawB (by omega) F3b (by omega) fun g S5 hg0 hg1 F5 o5 => ?_
    have et5 := o5 tp _ (by simpa using nta) et
    obtain ⟨f, hf, hf1, hf2⟩ := at3L (i := g) ⟨hg0, hg1⟩
    refine o_subL et5 hf ?_
    (repeat fail)
    refine spec_lrows df_dLRows df_dLDrawB (by omega) F5 (by omega) (by omega) (by omega) fun lp S6 rows hp6 e6 hr6 hl6 F6 o6 => ?_
    have nla := flow_neJ F5 hp6
    have hr : ∀ r ∈ rows, RowOk n 1000 r := fun r h => rowok_monoJ (hr6 r h) (by omega)
    clear hr6 et5 et o5 F3b
    (repeat fail)
    refine o_listJ e6 fun hp hhp => ?_
    have nha := flow_neJ F6 hhp
    have nhl : hp ≠ lp := fun z => by rw [z, e6] at hhp; cases hhp
    have e7 := upd_at (u := .lst (rows.map rowD)) hhp e6
    have eH : updS S6 hp (.lst (rows.map rowD)) hp = some (.lst (rows.map rowD)) := updS_same
    have F7 := F6.newB (o := .lst (rows.map rowD)) hhp
    generalize updS S6 hp (.lst (rows.map rowD)) = S7 at e7 eH F7 ⊢
    have ex7 : ∀ x ∈ [a, hp], S7 x ≠ none := fun x hx => by
      simp only [List.mem_cons, List.not_mem_nil, or_false] at hx
      rcases hx with rfl | rfl
      · exact flow_some F7
      · rw [eH]; simp
    (repeat fail)
    intro b1 hb1
    rw [show padT "Bounds.__init__" [T.var 3, T.var 5].length = [] from padT2]
    refine spec_init df_dBoundsInit df_dClosed (by omega) (by omega) hr (by omega) hb1 eH fun S8 p1 rs1 M1 hp1 hrs1 B1 o8 => ⟨rfl, ?_⟩
    have A1 := away_of ex7 hb1 hp1 hrs1
    have e8 := o8 lp _ (by simp) e7
    have eH8 := o8 hp _ (by simp) eH
    have F8 := F7.offJ o8 (by simp)
    have ex8 : ∀ x ∈ [a, hp], S8 x ≠ none := fun x hx => by
      simp only [List.mem_cons, List.not_mem_nil, or_false] at hx
      rcases hx with rfl | rfl
      · exact flow_some F8
      · rw [eH8]; simp
    (repeat fail)
    refine ⟨rfl, ?_⟩
    (repeat fail)
    refine ⟨rfl, fun b2 hb2 => ?_⟩
    refine spec_initT df_dBoundsInit df_dClosed (by omega) (by omega) hr (by omega) hb2 fun S9 p2 rs2 M2 hp2 hrs2 B2 o9 => ⟨rfl, ?_⟩
    have A2 := away_of ex8 hb2 hp2 hrs2
    have e9 := o9 lp _ (by simp) e8
    have eH9 := o9 hp _ (by simp) eH8
    have F9 := F8.offJ o9 (by simp)
    have B19 := B1.off o9
    (repeat fail)
    intro vp hvp
    have nva := flow_neJ F9 hvp
    have eV : updS S9 vp (.lst [.ref b1, .ref b2]) vp = some (.lst [.ref b1, .ref b2]) := updS_same
    have oA : Off [a] S9 (updS S9 vp (.lst [.ref b1, .ref b2])) := Off.new hvp
    have FA := F9.newB (o := .lst [.ref b1, .ref b2]) hvp
    generalize updS S9 vp (.lst [.ref b1, .ref b2]) = SA at eV oA FA
    (repeat fail)
    refine spec_drawB df_dLDrawB (by omega) FA (by omega) fun w SB w0 w1 FB oB => ?_
    have OB := oA.trans oB
    have a1 : Away [a] b1 p1 rs1 := fun x hx z => A1 x hx (by simp at z ⊢; exact .inl z)
    have a2 : Away [a] b2 p2 rs2 := fun x hx z => A2 x hx (by simp at z ⊢; exact .inl z)
    obtain ⟨b, p, rs, M, eb, A, B⟩ : ∃ b p rs M, atI [D.ref b1, D.ref b2] w = some (.ref b) ∧ Away [a, hp] b p rs ∧ Bo SB b p rs n rows M := by
      have : w = 0 ∨ w = 1 := by omega
      rcases this with rfl | rfl
      · exact ⟨b1, p1, rs1, M1, rfl, A1, B19.offA OB a1⟩
      · exact ⟨b2, p2, rs2, M2, rfl, A2, B2.offA OB a2⟩
    have eHB := OB hp _ (by simpa using nha) eH9
    have eB := OB lp _ (by simpa using nla) e9
    refine o_subL (oB vp _ (by simpa using nva) eV) eb ?_
    clear eb B19 B1 B2 A1 A2 a1 a2 eV oA FA e9 eH9 e8 eH8 ex7 ex8 e7 eH e6
    (repeat fail)
    refine o_append eHB (by rw [sizeLine_eq, List.length_map]; omega) ?_
    (repeat fail)
    refine o_revJ updS_same ?_
    have oC : Off [hp] SB (updS (updS SB hp (Ob.lst (rows.map rowD ++ [D.tup [.int 0, .int 0, .int 0]]))) hp (Ob.lst (rows.map rowD ++ [D.tup [.int 0, .int 0, .int 0]]).reverse)) := (Off.upd (by simp)).trans (Off.upd (by simp))
    generalize updS (updS SB hp (Ob.lst (rows.map rowD ++ [D.tup [.int 0, .int 0, .int 0]]))) hp (Ob.lst (rows.map rowD ++ [D.tup [.int 0, .int 0, .int 0]]).reverse) = SC at oC ⊢
    have ah : Away [hp] b p rs := fun x hx z => A x hx (by simp at z ⊢; exact .inr z)
    have aa : Away [a] b p rs := fun x hx z => A x hx (by simp at z ⊢; exact .inl z)
    have BC := B.offA oC ah
    have eC := oC lp _ (by simpa using Ne.symm nhl) eB
    have FC := FB.offJ oC (by simpa using Ne.symm nha)
    (repeat fail)
    refine spec_lrows df_dLRows df_dLDrawB (by omega) FC (by omega) (by omega) (by omega) fun lp2 SD rows2 hp2 eD2 hr2 hl2 FD oD => ?_
    have BD := BC.offA oD aa
    have eD := oD lp _ (by simpa using nla) eC
    (repeat fail)
    refine v_neg1 ?_
    (repeat fail)
    refine v_neg1 ?_
    (repeat fail)
    intro kp hkp
    have eD2' := upd_at (u := Ob.lst [D.tup [.int (-1), .int (-1), .int 3]]) hkp eD2
    have eK : updS SD kp (Ob.lst [D.tup [.int (-1), .int (-1), .int 3]]) kp = some (Ob.lst [D.tup [.int (-1), .int (-1), .int 3]]) := updS_same
    have oE : Off [] SD (updS SD kp (Ob.lst [D.tup [.int (-1), .int (-1), .int 3]])) := Off.new hkp
    generalize updS SD kp (Ob.lst [D.tup [.int (-1), .int (-1), .int 3]]) = SE at eD2' eK oE ⊢
    refine o_addLB eD2' eK (by rw [sizeLine_eq, List.length_map]; simp; omega) fun jp hjp => ?_
    have eJ : updS SE jp (Ob.lst (rows2.map rowD ++ [D.tup [.int (-1), .int (-1), .int 3]])) jp = some (Ob.lst (rows2.map rowD ++ [D.tup [.int (-1), .int (-1), .int 3]])) := updS_same
    have oF : Off [] SD (updS SE jp (Ob.lst (rows2.map rowD ++ [D.tup [.int (-1), .int (-1), .int 3]]))) := oE.trans (Off.new hjp)
    generalize updS SE jp (Ob.lst (rows2.map rowD ++ [D.tup [.int (-1), .int (-1), .int 3]])) = SF at eJ oF ⊢
    obtain ⟨q1, q2, q3, hq0, hqo⟩ : ∃ q1 q2 q3 : Int, atI (rows2.map rowD ++ [D.tup [.int (-1), .int (-1), .int 3]]) 0 = some (.tup [.int q1, .int q2, .int q3]) ∧ RowOk n 1000 (q1, q2, q3) := by
      cases rows2 with
      | nil => exact ⟨-1, -1, 3, rfl, by unfold RowOk; simp only; omega⟩
      | cons q _ => exact ⟨q.1, q.2.1, q.2.2, atI_nat (i := 0) rfl, rowok_monoJ (hr2 q (by simp)) (by omega)⟩
    (repeat fail)
    refine o_subL eJ hq0 ?_
    have BF := BD.off oF
    have eF := oF lp _ (by simp) eD
    have FF := FD.offJ oF (by simp)
    have e0 := BF.at_
    (repeat fail)
    refine spec_also df_dBoundsAlso df_dBoundsInit df_dClosed (by omega) (by omega) hr hqo (by omega) BF fun SG b' p' rs' M' hb' hp' hrs' BG' oG => ?_
    have exF : ∀ x ∈ [a], SF x ≠ none := fun x hx => by
      simp only [List.mem_cons, List.not_mem_nil, or_false] at hx
      subst hx
      exact flow_some FF
    have aG := away_of exF hb' hp' hrs'
    have BG := BF.off oG
    have eG := oG lp _ (by simp) eF
    have FG := FF.offJ oG (by simp)
    (repeat fail)
    refine spec_lright (by omega) (by omega) hr (by omega) eG BG FG aa nla fun SH FH oH => ?_
    have BH := BG.offA oH aa
    have BH' := BG'.offA oH aG
    have eH := oH lp _ (by simpa using nla) eG
    (repeat fail)
    intro yp hyp
    have eY := upd_at (u := Ob.lst [D.tup [.int q1, .int q2, .int q3]]) hyp eH
    have eY2 : updS SH yp (Ob.lst [D.tup [.int q1, .int q2, .int q3]]) yp = some (Ob.lst [D.tup [.int q1, .int q2, .int q3]]) := updS_same
    have FY := FH.newB (o := Ob.lst [D.tup [.int q1, .int q2, .int q3]]) hyp
    have oY : Off [] SH (updS SH yp (Ob.lst [D.tup [.int q1, .int q2, .int q3]])) := Off.new hyp
    generalize updS SH yp (Ob.lst [D.tup [.int q1, .int q2, .int q3]]) = SY at eY eY2 FY oY ⊢
    refine o_addLB eY eY2 (by rw [sizeLine_eq, List.length_map]; simp; omega) fun zp hzp => ?_
    rw [show rows.map rowD ++ [D.tup [.int q1, .int q2, .int q3]] = (rows ++ [(q1, q2, q3)]).map rowD by rw [List.map_append]; rfl]
    have nza := flow_neJ FY hzp
    have eZ : updS SY zp (.lst ((rows ++ [(q1, q2, q3)]).map rowD)) zp = some (.lst ((rows ++ [(q1, q2, q3)]).map rowD)) := updS_same
    have FZ := FY.newB (o := .lst ((rows ++ [(q1, q2, q3)]).map rowD)) hzp
    have oZ : Off [] SH (updS SY zp (.lst ((rows ++ [(q1, q2, q3)]).map rowD))) := oY.trans (Off.new hzp)
    generalize updS SY zp (.lst ((rows ++ [(q1, q2, q3)]).map rowD)) = SZ at eZ FZ oZ ⊢
    have hr' : ∀ r ∈ rows ++ [(q1, q2, q3)], RowOk n 1000 r := fun r h => by
      rcases List.mem_append.mp h with h | h
      · exact hr r h
      · rw [List.mem_singleton.mp h]; exact hqo
    refine spec_lright (by omega) (by omega) hr' (by simp; omega) eZ (BH'.off oZ) FZ aG nza fun SI FI oI => ?_
    have BI := (BH.off oZ).offA oI aa
    have eI := oI lp _ (by simpa using nla) (oZ lp _ (by simp) eH)
    (repeat fail)
    refine spec_lright (by omega) (by omega) hr (by omega) eI BI FI aa nla fun SJ FJ oJ => ?_
    (repeat fail)
    intro b3 hb3
    rw [show padT "Bounds.__init__" [T.var 3].length = [.tup []] from padT1]
    refine spec_initT (rows := []) (f := 1000) df_dBoundsInit df_dClosed (by omega) (by omega) (fun r h => by simp at h) (by simp) hb3 fun SK p3 rs3 M3 hp3 hrs3 B3 oK => ⟨rfl, ?_⟩
    have exJ : ∀ x ∈ [a], SJ x ≠ none := fun x hx => by
      simp only [List.mem_cons, List.not_mem_nil, or_false] at hx
      subst hx
      exact flow_some FJ
    have a3 := away_of exJ hb3 hp3 hrs3
    have FK := FJ.offJ oK (by simp)
    (repeat fail)
    intro gp hgp
    have nga := flow_neJ FK hgp
    refine spec_lright (rows := []) (by omega) (by omega) (fun r h => by simp at h) (by simp) updS_same (B3.off (Off.new hgp)) (FK.newB hgp) a3 nga fun SL FL oL => ?_
    (repeat fail)
    exact hN _ _ ⟨fun d hd => hr1 d (by simp [hd]), _, _, _, _, _, _, _, _, rfl⟩
  · intro d hd
    obtain ⟨j, hj, rfl⟩ := List.mem_map.mp hd
    rw [List.mem_range] at hj
    exact ⟨j, rfl, by omega⟩
end
end Z

set_option Elab.async false
set_option linter.all false
set_option maxRecDepth 100000
set_option maxHeartbeats 4000000
namespace Z
open PySem PySem.Spec PyProof.Rows L2
def top (i : Nat) : Stmt := PySem.Challenge.pw_leastmaker_k21_rows_of_bounds.main.body.getD i (.Pass ⟨0, 0, 0, 0⟩)
def dfs : List Str := ["_wall", "closed", "_law_cell", "_law_flow", "_law_draw", "_law_rows", "_law_keeps", "_law_right", "law"]
def xsL : List Str := []
def xrL : List Str := []
def hotL : List Str := []
def msL : List (Str × Str × Str) := [("Bounds.__len__", "Bounds", "__len__"), ("Bounds.__repr__", "Bounds", "__repr__"), ("Bounds.also", "Bounds", "also"), ("Bounds.holds", "Bounds", "holds"), ("Bounds.rows", "Bounds", "rows")]
def mksL : List (Str × Str × Nat) := [("Bounds.__init__", "Bounds", 1), ("Bounds.__init__", "Bounds", 2)]
def mt (i j : Nat) : Stmt := match top i with | .ClassDef _ _ _ body _ _ _ _ _ _ _ => body.getD j (.Pass ⟨0, 0, 0, 0⟩) | s => s
def dWallN : List Str := ["k"]

theorem dWall_ck : chkSs ⟨dWallN, defScope (top 0), fun _ => true, dfs, xsL, xrL, hotL, msL, mksL, true⟩ dWall.body (defBody (top 0)) = true := by decide +kernel
theorem dWall_sc : FnScope dWallN ["k"] (defScope (top 0)) := ⟨rfl, rfl, rfl, by decide +kernel, rfl, by decide +kernel, by decide +kernel⟩

def dClosedN : List Str := ["many", "rows", "sums", "i", "j", "c", "here", "k", "through"]

theorem dClosed_ck : chkSs ⟨dClosedN, defScope (top 2), fun _ => true, dfs, xsL, xrL, hotL, msL, mksL, true⟩ dClosed.body (defBody (top 2)) = true := by decide +kernel
theorem dClosed_sc : FnScope dClosedN ["many", "rows"] (defScope (top 2)) := ⟨rfl, rfl, rfl, by decide +kernel, rfl, by decide +kernel, by decide +kernel⟩

def dLCellN : List Str := ["_law_script", "_law_k", "_law_number"]

theorem dLCell_ck : chkSs ⟨dLCellN, defScope (top 5), fun _ => true, dfs, xsL, xrL, hotL, msL, mksL, true⟩ dLCell.body (defBody (top 5)) = true := by decide +kernel
theorem dLCell_sc : FnScope dLCellN ["_law_script", "_law_k"] (defScope (top 5)) := ⟨rfl, rfl, rfl, by decide +kernel, rfl, by decide +kernel, by decide +kernel⟩

def dLFlowBN : List Str := ["_law_script", "_law_k", "_law_cell_here"]

theorem dLFlowB_ck : chkSs ⟨dLFlowBN, defScope (top 6), fun _ => true, dfs, xsL, xrL, hotL, msL, mksL, true⟩ dLFlowB.body (defBody (top 6)) = true := by decide +kernel
theorem dLFlowB_sc : FnScope dLFlowBN ["_law_script", "_law_k"] (defScope (top 6)) := ⟨rfl, rfl, rfl, by decide +kernel, rfl, by decide +kernel, by decide +kernel⟩

def dLDrawBN : List Str := ["_law_flow_here", "_law_many", "_law_digit"]

theorem dLDrawB_ck : chkSs ⟨dLDrawBN, defScope (top 7), fun _ => true, dfs, xsL, xrL, hotL, msL, mksL, true⟩ dLDrawB.body (defBody (top 7)) = true := by decide +kernel
theorem dLDrawB_sc : FnScope dLDrawBN ["_law_flow_here", "_law_many"] (defScope (top 7)) := ⟨rfl, rfl, rfl, by decide +kernel, rfl, by decide +kernel, by decide +kernel⟩

def dLRowsN : List Str := ["_law_flow_here", "_law_many", "_law_most", "_law_far", "_law_found", "_law_k", "_law_i", "_law_j"]

theorem dLRows_ck : chkSs ⟨dLRowsN, defScope (top 8), fun _ => true, dfs, xsL, xrL, hotL, msL, mksL, true⟩ dLRows.body (defBody (top 8)) = true := by decide +kernel
theorem dLRows_sc : FnScope dLRowsN ["_law_flow_here", "_law_many", "_law_most", "_law_far"] (defScope (top 8)) := ⟨rfl, rfl, rfl, by decide +kernel, rfl, by decide +kernel, by decide +kernel⟩

def dLKeepsN : List Str := ["_law_lines", "_law_numbers", "_law_worths", "_law_i", "_law_j", "_law_c"]

theorem dLKeeps_ck : chkSs ⟨dLKeepsN, defScope (top 9), fun _ => true, dfs, xsL, xrL, hotL, msL, mksL, true⟩ dLKeeps.body (defBody (top 9)) = true := by decide +kernel
theorem dLKeeps_sc : FnScope dLKeepsN ["_law_lines", "_law_numbers"] (defScope (top 9)) := ⟨rfl, rfl, rfl, by decide +kernel, rfl, by decide +kernel, by decide +kernel⟩

def dLRightN : List Str := ["_law_bounds", "_law_many", "_law_lines", "_law_flow_here", "_law_far", "_law_turn", "_law_numbers", "_law_i", "_law_j", "_law_c", "_law_found", "_law_k"]

theorem dLRight_ck : chkSs ⟨dLRightN, defScope (top 10), fun _ => true, dfs, xsL, xrL, hotL, msL, mksL, true⟩ dLRight.body (defBody (top 10)) = true := by decide +kernel
theorem dLRight_sc : FnScope dLRightN ["_law_bounds", "_law_many", "_law_lines", "_law_flow_here"] (defScope (top 10)) := ⟨rfl, rfl, rfl, by decide +kernel, rfl, by decide +kernel, by decide +kernel⟩

def dLawN : List Str := ["_law_script", "_law_k", "_law_flow_here", "_law_many", "_law_lines", "_law_handed", "_law_bounds", "_law_row", "_law_more"]

theorem dLaw_ck : chkSs ⟨dLawN, defScope (top 11), fun _ => true, dfs, xsL, xrL, hotL, msL, mksL, true⟩ dLaw.body (defBody (top 11)) = true := by decide +kernel
theorem dLaw_sc : FnScope dLawN ["_law_script"] (defScope (top 11)) := ⟨rfl, rfl, rfl, by decide +kernel, rfl, by decide +kernel, by decide +kernel⟩

def dBoundsInitN : List Str := ["self", "many", "rows", "i", "j", "c"]

theorem dBoundsInit_ck : chkSs ⟨dBoundsInitN, defScope (mt 3 0), fun _ => true, dfs, xsL, xrL, hotL, msL, mksL, true⟩ dBoundsInit.body (defBody (mt 3 0)) = true := by decide +kernel
theorem dBoundsInit_sc : FnScope dBoundsInitN ["self", "many", "rows"] (defScope (mt 3 0)) := ⟨rfl, rfl, rfl, by decide +kernel, rfl, by decide +kernel, by decide +kernel⟩

def dBoundsLenN : List Str := ["self"]

theorem dBoundsLen_ck : chkSs ⟨dBoundsLenN, defScope (mt 3 9), fun _ => true, dfs, xsL, xrL, hotL, msL, mksL, true⟩ dBoundsLen.body (defBody (mt 3 9)) = true := by decide +kernel
theorem dBoundsLen_sc : FnScope dBoundsLenN ["self"] (defScope (mt 3 9)) := ⟨rfl, rfl, rfl, by decide +kernel, rfl, by decide +kernel, by decide +kernel⟩

def dBoundsReprN : List Str := ["self"]

theorem dBoundsRepr_ck : chkSs ⟨dBoundsReprN, defScope (mt 3 10), fun _ => true, dfs, xsL, xrL, hotL, msL, mksL, true⟩ dBoundsRepr.body (defBody (mt 3 10)) = true := by decide +kernel
theorem dBoundsRepr_sc : FnScope dBoundsReprN ["self"] (defScope (mt 3 10)) := ⟨rfl, rfl, rfl, by decide +kernel, rfl, by decide +kernel, by decide +kernel⟩

def dBoundsAlsoN : List Str := ["self", "i", "j", "c"]

theorem dBoundsAlso_ck : chkSs ⟨dBoundsAlsoN, defScope (mt 3 4), fun _ => true, dfs, xsL, xrL, hotL, msL, mksL, true⟩ dBoundsAlso.body (defBody (mt 3 4)) = true := by decide +kernel
theorem dBoundsAlso_sc : FnScope dBoundsAlsoN ["self", "i", "j", "c"] (defScope (mt 3 4)) := ⟨rfl, rfl, rfl, by decide +kernel, rfl, by decide +kernel, by decide +kernel⟩

def dBoundsHoldsN : List Str := ["self", "numbers", "worths", "i", "j", "c"]

theorem dBoundsHolds_ck : chkSs ⟨dBoundsHoldsN, defScope (mt 3 2), fun _ => true, dfs, xsL, xrL, hotL, msL, mksL, true⟩ dBoundsHolds.body (defBody (mt 3 2)) = true := by decide +kernel
theorem dBoundsHolds_sc : FnScope dBoundsHoldsN ["self", "numbers"] (defScope (mt 3 2)) := ⟨rfl, rfl, rfl, by decide +kernel, rfl, by decide +kernel, by decide +kernel⟩

def dBoundsRowsN : List Str := ["self"]

theorem dBoundsRows_ck : chkSs ⟨dBoundsRowsN, defScope (mt 3 1), fun _ => true, dfs, xsL, xrL, hotL, msL, mksL, true⟩ dBoundsRows.body (defBody (mt 3 1)) = true := by decide +kernel
theorem dBoundsRows_sc : FnScope dBoundsRowsN ["self"] (defScope (mt 3 1)) := ⟨rfl, rfl, rfl, by decide +kernel, rfl, by decide +kernel, by decide +kernel⟩

end Z

set_option Elab.async false
set_option linter.all false
set_option maxRecDepth 100000
set_option maxHeartbeats 4000000
namespace Z
open PySem PySem.Spec PyProof.Rows L2
theorem all_mk {P : Program} {w : World} {K : PySem.W.Frag} {h : Heap} {mg : Str → Option Value} {fa : Addr} (X : K.In h) (G : h.Ns mainGlobals mg) (hfa : mg "law" = some (.ref fa))
    {f0 f1 f2 f3 f4 f5 f6 f7 f8 f9 f10 f11 f12 f13 f14 : Addr} {od0 od1 od2 od3 od4 od5 od6 od7 od8 od9 od10 od11 od12 od13 od14 an0 an1 an2 an3 an4 an5 an6 an7 an8 an9 an10 an11 an12 an13 an14 : Option Addr} {sl0 sl1 sl2 sl3 sl4 sl5 sl6 sl7 sl8 sl9 sl10 sl11 sl12 sl13 sl14 : Array (Option Value)} {oc0 oc1 oc2 oc3 oc4 oc5 oc6 oc7 oc8 oc9 oc10 oc11 oc12 oc13 oc14 kV0 kV1 kV2 kV3 kV4 kV5 kV6 kV7 kV8 kV9 kV10 kV11 kV12 kV13 kV14 dc0 dc1 dc2 dc3 dc4 dc5 dc6 dc7 dc8 dc9 dc10 dc11 dc12 dc13 dc14 pm0 pm1 pm2 pm3 pm4 pm5 pm6 pm7 pm8 pm9 pm10 pm11 pm12 pm13 pm14 cd0 cd1 cd2 cd3 cd4 cd5 cd6 cd7 cd8 cd9 cd10 cd11 cd12 cd13 cd14 ct0 ct1 ct2 ct3 ct4 ct5 ct6 ct7 ct8 ct9 ct10 ct11 ct12 ct13 ct14 : Value} {dT9 de9 : Addr} {do9 eo9 : Obj} {dn9 en9 : Nat} {ca0 : Addr}
    (cn0 : PySem.W.nsIn K mainGlobals "Bounds" = some (some (.ref ca0))) (cc0 : Cls K ca0) (cf0 : ∀ f ∈ cflds, PySem.W.findIn K (.ref ca0) f = some none) (ch0 : PySem.W.findIn K (.ref ca0) "__class__" = some (some (.builtin "object.__class__"))) (ci0 : PySem.W.specialIn K (.builtin "object.__class__") "__get__" = some (some (.builtin "getset_descriptor.__get__"))) (cj0 : PySem.W.takesIn K (.builtin "object.__class__") = some true) (co0 : PySem.W.mroIn K ca0 (.type "object") = some true) (cm0 : PySem.W.makesIn K ca0 = true) (ck0 : PySem.W.keepIn K (.ref ca0) = true)
    (a0 : PySem.W.nsIn K mainGlobals "_wall" = some (some (.ref f0)))
    (l0 : K.lookup f0 = some ⟨oc0, od0, .func (PySem.W.fnOf "_wall" "_wall" (defArgs (top 0)) (defBody (top 0)) (defScope (top 0)) .none kV0 dc0 pm0 an0 cd0 ct0), sl0⟩) (c0 : PySem.W.codeIn K cd0 "_wall" = true) (k0 : PySem.W.keepIn K (.ref f0) = true)
    (a1 : PySem.W.nsIn K mainGlobals "closed" = some (some (.ref f1)))
    (l1 : K.lookup f1 = some ⟨oc1, od1, .func (PySem.W.fnOf "closed" "closed" (defArgs (top 2)) (defBody (top 2)) (defScope (top 2)) .none kV1 dc1 pm1 an1 cd1 ct1), sl1⟩) (c1 : PySem.W.codeIn K cd1 "closed" = true) (k1 : PySem.W.keepIn K (.ref f1) = true)
    (a2 : PySem.W.nsIn K mainGlobals "_law_cell" = some (some (.ref f2)))
    (l2 : K.lookup f2 = some ⟨oc2, od2, .func (PySem.W.fnOf "_law_cell" "_law_cell" (defArgs (top 5)) (defBody (top 5)) (defScope (top 5)) .none kV2 dc2 pm2 an2 cd2 ct2), sl2⟩) (c2 : PySem.W.codeIn K cd2 "_law_cell" = true) (k2 : PySem.W.keepIn K (.ref f2) = true)
    (a3 : PySem.W.nsIn K mainGlobals "_law_flow" = some (some (.ref f3)))
    (l3 : K.lookup f3 = some ⟨oc3, od3, .func (PySem.W.fnOf "_law_flow" "_law_flow" (defArgs (top 6)) (defBody (top 6)) (defScope (top 6)) .none kV3 dc3 pm3 an3 cd3 ct3), sl3⟩) (c3 : PySem.W.codeIn K cd3 "_law_flow" = true) (k3 : PySem.W.keepIn K (.ref f3) = true)
    (a4 : PySem.W.nsIn K mainGlobals "_law_draw" = some (some (.ref f4)))
    (l4 : K.lookup f4 = some ⟨oc4, od4, .func (PySem.W.fnOf "_law_draw" "_law_draw" (defArgs (top 7)) (defBody (top 7)) (defScope (top 7)) .none kV4 dc4 pm4 an4 cd4 ct4), sl4⟩) (c4 : PySem.W.codeIn K cd4 "_law_draw" = true) (k4 : PySem.W.keepIn K (.ref f4) = true)
    (a5 : PySem.W.nsIn K mainGlobals "_law_rows" = some (some (.ref f5)))
    (l5 : K.lookup f5 = some ⟨oc5, od5, .func (PySem.W.fnOf "_law_rows" "_law_rows" (defArgs (top 8)) (defBody (top 8)) (defScope (top 8)) .none kV5 dc5 pm5 an5 cd5 ct5), sl5⟩) (c5 : PySem.W.codeIn K cd5 "_law_rows" = true) (k5 : PySem.W.keepIn K (.ref f5) = true)
    (a6 : PySem.W.nsIn K mainGlobals "_law_keeps" = some (some (.ref f6)))
    (l6 : K.lookup f6 = some ⟨oc6, od6, .func (PySem.W.fnOf "_law_keeps" "_law_keeps" (defArgs (top 9)) (defBody (top 9)) (defScope (top 9)) .none kV6 dc6 pm6 an6 cd6 ct6), sl6⟩) (c6 : PySem.W.codeIn K cd6 "_law_keeps" = true) (k6 : PySem.W.keepIn K (.ref f6) = true)
    (a7 : PySem.W.nsIn K mainGlobals "_law_right" = some (some (.ref f7)))
    (l7 : K.lookup f7 = some ⟨oc7, od7, .func (PySem.W.fnOf "_law_right" "_law_right" (defArgs (top 10)) (defBody (top 10)) (defScope (top 10)) .none kV7 dc7 pm7 an7 cd7 ct7), sl7⟩) (c7 : PySem.W.codeIn K cd7 "_law_right" = true) (k7 : PySem.W.keepIn K (.ref f7) = true)
    (a8 : PySem.W.nsIn K mainGlobals "law" = some (some (.ref f8)))
    (l8 : K.lookup f8 = some ⟨oc8, od8, .func (PySem.W.fnOf "law" "law" (defArgs (top 11)) (defBody (top 11)) (defScope (top 11)) .none kV8 dc8 pm8 an8 cd8 ct8), sl8⟩) (c8 : PySem.W.codeIn K cd8 "law" = true) (k8 : PySem.W.keepIn K (.ref f8) = true)
    (mi9 : PySem.W.findIn K (.ref ca0) "__init__" = some (some (.ref f9))) (mq9 : PySem.W.isFn K (.ref f9) = true)
    (l9 : K.lookup f9 = some ⟨oc9, od9, .func (PySem.W.fnOf "__init__" "Bounds.__init__" (defArgs (mt 3 0)) (defBody (mt 3 0)) (defScope (mt 3 0)) (.ref dT9) kV9 dc9 pm9 an9 cd9 ct9), sl9⟩) (c9 : PySem.W.codeIn K cd9 "Bounds.__init__" = true) (k9 : PySem.W.keepIn K (.ref f9) = true)
    (dl9 : K.lookup dT9 = some do9) (dd9 : do9.data = .seq #[.ref de9] dn9) (el9 : K.lookup de9 = some eo9) (ec9 : eo9.cls = .type "tuple") (ed9 : eo9.data = .seq #[] en9)
    (mi10 : PySem.W.findIn K (.ref ca0) "__len__" = some (some (.ref f10))) (mq10 : PySem.W.isFn K (.ref f10) = true)
    (l10 : K.lookup f10 = some ⟨oc10, od10, .func (PySem.W.fnOf "__len__" "Bounds.__len__" (defArgs (mt 3 9)) (defBody (mt 3 9)) (defScope (mt 3 9)) .none kV10 dc10 pm10 an10 cd10 ct10), sl10⟩) (c10 : PySem.W.codeIn K cd10 "Bounds.__len__" = true) (k10 : PySem.W.keepIn K (.ref f10) = true)
    (mi11 : PySem.W.findIn K (.ref ca0) "__repr__" = some (some (.ref f11))) (mq11 : PySem.W.isFn K (.ref f11) = true)
    (l11 : K.lookup f11 = some ⟨oc11, od11, .func (PySem.W.fnOf "__repr__" "Bounds.__repr__" (defArgs (mt 3 10)) (defBody (mt 3 10)) (defScope (mt 3 10)) .none kV11 dc11 pm11 an11 cd11 ct11), sl11⟩) (c11 : PySem.W.codeIn K cd11 "Bounds.__repr__" = true) (k11 : PySem.W.keepIn K (.ref f11) = true)
    (mi12 : PySem.W.findIn K (.ref ca0) "also" = some (some (.ref f12))) (mq12 : PySem.W.isFn K (.ref f12) = true)
    (l12 : K.lookup f12 = some ⟨oc12, od12, .func (PySem.W.fnOf "also" "Bounds.also" (defArgs (mt 3 4)) (defBody (mt 3 4)) (defScope (mt 3 4)) .none kV12 dc12 pm12 an12 cd12 ct12), sl12⟩) (c12 : PySem.W.codeIn K cd12 "Bounds.also" = true) (k12 : PySem.W.keepIn K (.ref f12) = true)
    (mi13 : PySem.W.findIn K (.ref ca0) "holds" = some (some (.ref f13))) (mq13 : PySem.W.isFn K (.ref f13) = true)
    (l13 : K.lookup f13 = some ⟨oc13, od13, .func (PySem.W.fnOf "holds" "Bounds.holds" (defArgs (mt 3 2)) (defBody (mt 3 2)) (defScope (mt 3 2)) .none kV13 dc13 pm13 an13 cd13 ct13), sl13⟩) (c13 : PySem.W.codeIn K cd13 "Bounds.holds" = true) (k13 : PySem.W.keepIn K (.ref f13) = true)
    (mi14 : PySem.W.findIn K (.ref ca0) "rows" = some (some (.ref f14))) (mq14 : PySem.W.isFn K (.ref f14) = true)
    (l14 : K.lookup f14 = some ⟨oc14, od14, .func (PySem.W.fnOf "rows" "Bounds.rows" (defArgs (mt 3 1)) (defBody (mt 3 1)) (defScope (mt 3 1)) .none kV14 dc14 pm14 an14 cd14 ct14), sl14⟩) (c14 : PySem.W.codeIn K cd14 "Bounds.rows" = true) (k14 : PySem.W.keepIn K (.ref f14) = true)
    (z0 : PySem.W.nsIn K mainGlobals "len" = some none)
    (z1 : PySem.W.nsIn K mainGlobals "isinstance" = some none)
    (z2 : PySem.W.nsIn K mainGlobals "max" = some none)
    (z3 : PySem.W.nsIn K mainGlobals "min" = some none)
    (z4 : PySem.W.nsIn K mainGlobals "abs" = some none)
    (z5 : PySem.W.nsIn K mainGlobals "all" = some none)
    (z6 : PySem.W.nsIn K mainGlobals "any" = some none)
    (z7 : PySem.W.nsIn K mainGlobals "sum" = some none)
    (z8 : PySem.W.nsIn K mainGlobals "tuple" = some none)
    (z9 : PySem.W.nsIn K mainGlobals "list" = some none)
    (z10 : PySem.W.nsIn K mainGlobals "int" = some none)
    (z11 : PySem.W.nsIn K mainGlobals "str" = some none)
    (z12 : PySem.W.nsIn K mainGlobals "bool" = some none)
    (z13 : PySem.W.nsIn K mainGlobals "dict" = some none)
    (z14 : PySem.W.nsIn K mainGlobals "range" = some none)
    (z15 : PySem.W.nsIn K mainGlobals "enumerate" = some none)
    (z16 : PySem.W.nsIn K mainGlobals "zip" = some none)
    (z17 : PySem.W.nsIn K mainGlobals "reversed" = some none)
    (z18 : PySem.W.nsIn K mainGlobals "set" = some none)
    (z19 : PySem.W.nsIn K mainGlobals "repr" = some none)
    (z20 : PySem.W.nsIn K mainGlobals "sorted" = some none) :
    ∃ fd : FuncData, (∀ (s : Shared) (u : Value), BindsTo s fd ⟨[u], []⟩ [("_law_script", u)]) ∧ ∀ base : Heap, K.In base → base.Ns mainGlobals mg → FnG P w K mg base (L2.CX P w) 20 fa fd ["_law_script"] (spD K w 1 (sem defs gl 9 "law")) := by
  have CF0 : ClsF K "Bounds" ca0 := ⟨cn0, cc0, cf0, ch0, ci0, cj0, co0, kit_self⟩
  have F0 := fun_mk (st := top 0) l0 c0 k0
  have B0 : Binds K _ ["k"] [] := F0.binds (ps := ["k"]) (fun _ _ _ _ _ _ us hl => match us, hl with | [_], _ => rfl)
  have D0 : DFact K w mg dfs xsL xrL hotL msL mksL "_wall" dWall f0 _ dWallN ["k"] (top 0) := ⟨fun _ => PySem.W.mg_of X G a0, ⟨_, [], [], fun_to F0⟩, fun z => absurd z (by decide +kernel), fun _ => B0, kb_no (by decide +kernel), rfl, rfl, dWall_sc, dWall_ck, fun z => absurd z (by decide +kernel), ms_no (by decide +kernel), mk_no (by decide +kernel), mkk_no (by decide +kernel)⟩
  have F1 := fun_mk (st := top 2) l1 c1 k1
  have B1 : Binds K _ ["many", "rows"] [] := F1.binds (ps := ["many", "rows"]) (fun _ _ _ _ _ _ us hl => match us, hl with | [_, _], _ => rfl)
  have D1 : DFact K w mg dfs xsL xrL hotL msL mksL "closed" dClosed f1 _ dClosedN ["many", "rows"] (top 2) := ⟨fun _ => PySem.W.mg_of X G a1, ⟨_, [], [], fun_to F1⟩, fun z => absurd z (by decide +kernel), fun _ => B1, kb_no (by decide +kernel), rfl, rfl, dClosed_sc, dClosed_ck, fun z => absurd z (by decide +kernel), ms_no (by decide +kernel), mk_no (by decide +kernel), mkk_no (by decide +kernel)⟩
  have F2 := fun_mk (st := top 5) l2 c2 k2
  have B2 : Binds K _ ["_law_script", "_law_k"] [] := F2.binds (ps := ["_law_script", "_law_k"]) (fun _ _ _ _ _ _ us hl => match us, hl with | [_, _], _ => rfl)
  have D2 : DFact K w mg dfs xsL xrL hotL msL mksL "_law_cell" dLCell f2 _ dLCellN ["_law_script", "_law_k"] (top 5) := ⟨fun _ => PySem.W.mg_of X G a2, ⟨_, [], [], fun_to F2⟩, fun z => absurd z (by decide +kernel), fun _ => B2, kb_no (by decide +kernel), rfl, rfl, dLCell_sc, dLCell_ck, fun z => absurd z (by decide +kernel), ms_no (by decide +kernel), mk_no (by decide +kernel), mkk_no (by decide +kernel)⟩
  have F3 := fun_mk (st := top 6) l3 c3 k3
  have B3 : Binds K _ ["_law_script", "_law_k"] [] := F3.binds (ps := ["_law_script", "_law_k"]) (fun _ _ _ _ _ _ us hl => match us, hl with | [_, _], _ => rfl)
  have D3 : DFact K w mg dfs xsL xrL hotL msL mksL "_law_flow" dLFlowB f3 _ dLFlowBN ["_law_script", "_law_k"] (top 6) := ⟨fun _ => PySem.W.mg_of X G a3, ⟨_, [], [], fun_to F3⟩, fun z => absurd z (by decide +kernel), fun _ => B3, kb_no (by decide +kernel), rfl, rfl, dLFlowB_sc, dLFlowB_ck, fun z => absurd z (by decide +kernel), ms_no (by decide +kernel), mk_no (by decide +kernel), mkk_no (by decide +kernel)⟩
  have F4 := fun_mk (st := top 7) l4 c4 k4
  have B4 : Binds K _ ["_law_flow_here", "_law_many"] [] := F4.binds (ps := ["_law_flow_here", "_law_many"]) (fun _ _ _ _ _ _ us hl => match us, hl with | [_, _], _ => rfl)
  have D4 : DFact K w mg dfs xsL xrL hotL msL mksL "_law_draw" dLDrawB f4 _ dLDrawBN ["_law_flow_here", "_law_many"] (top 7) := ⟨fun _ => PySem.W.mg_of X G a4, ⟨_, [], [], fun_to F4⟩, fun z => absurd z (by decide +kernel), fun _ => B4, kb_no (by decide +kernel), rfl, rfl, dLDrawB_sc, dLDrawB_ck, fun z => absurd z (by decide +kernel), ms_no (by decide +kernel), mk_no (by decide +kernel), mkk_no (by decide +kernel)⟩
  have F5 := fun_mk (st := top 8) l5 c5 k5
  have B5 : Binds K _ ["_law_flow_here", "_law_many", "_law_most", "_law_far"] [] := F5.binds (ps := ["_law_flow_here", "_law_many", "_law_most", "_law_far"]) (fun _ _ _ _ _ _ us hl => match us, hl with | [_, _, _, _], _ => rfl)
  have D5 : DFact K w mg dfs xsL xrL hotL msL mksL "_law_rows" dLRows f5 _ dLRowsN ["_law_flow_here", "_law_many", "_law_most", "_law_far"] (top 8) := ⟨fun _ => PySem.W.mg_of X G a5, ⟨_, [], [], fun_to F5⟩, fun z => absurd z (by decide +kernel), fun _ => B5, kb_no (by decide +kernel), rfl, rfl, dLRows_sc, dLRows_ck, fun z => absurd z (by decide +kernel), ms_no (by decide +kernel), mk_no (by decide +kernel), mkk_no (by decide +kernel)⟩
  have F6 := fun_mk (st := top 9) l6 c6 k6
  have B6 : Binds K _ ["_law_lines", "_law_numbers"] [] := F6.binds (ps := ["_law_lines", "_law_numbers"]) (fun _ _ _ _ _ _ us hl => match us, hl with | [_, _], _ => rfl)
  have D6 : DFact K w mg dfs xsL xrL hotL msL mksL "_law_keeps" dLKeeps f6 _ dLKeepsN ["_law_lines", "_law_numbers"] (top 9) := ⟨fun _ => PySem.W.mg_of X G a6, ⟨_, [], [], fun_to F6⟩, fun z => absurd z (by decide +kernel), fun _ => B6, kb_no (by decide +kernel), rfl, rfl, dLKeeps_sc, dLKeeps_ck, fun z => absurd z (by decide +kernel), ms_no (by decide +kernel), mk_no (by decide +kernel), mkk_no (by decide +kernel)⟩
  have F7 := fun_mk (st := top 10) l7 c7 k7
  have B7 : Binds K _ ["_law_bounds", "_law_many", "_law_lines", "_law_flow_here"] [] := F7.binds (ps := ["_law_bounds", "_law_many", "_law_lines", "_law_flow_here"]) (fun _ _ _ _ _ _ us hl => match us, hl with | [_, _, _, _], _ => rfl)
  have D7 : DFact K w mg dfs xsL xrL hotL msL mksL "_law_right" dLRight f7 _ dLRightN ["_law_bounds", "_law_many", "_law_lines", "_law_flow_here"] (top 10) := ⟨fun _ => PySem.W.mg_of X G a7, ⟨_, [], [], fun_to F7⟩, fun z => absurd z (by decide +kernel), fun _ => B7, kb_no (by decide +kernel), rfl, rfl, dLRight_sc, dLRight_ck, fun z => absurd z (by decide +kernel), ms_no (by decide +kernel), mk_no (by decide +kernel), mkk_no (by decide +kernel)⟩
  have F8 := fun_mk (st := top 11) l8 c8 k8
  have B8 : Binds K _ ["_law_script"] [] := F8.binds (ps := ["_law_script"]) (fun _ _ _ _ _ _ us hl => match us, hl with | [_], _ => rfl)
  have D8 : DFact K w mg dfs xsL xrL hotL msL mksL "law" dLaw f8 _ dLawN ["_law_script"] (top 11) := ⟨fun _ => PySem.W.mg_of X G a8, ⟨_, [], [], fun_to F8⟩, fun z => absurd z (by decide +kernel), fun _ => B8, kb_no (by decide +kernel), rfl, rfl, dLaw_sc, dLaw_ck, fun z => absurd z (by decide +kernel), ms_no (by decide +kernel), mk_no (by decide +kernel), mkk_no (by decide +kernel)⟩
  have F9 := fun1_mk (st := mt 3 0) l9 c9 k9 dl9 dd9
  have B9 := binds_full (F9.binds1 (ps := ["self", "many", "rows"]) 3 1 (by simp) rfl (fun _ _ _ _ _ _ _ us its hl hi => match us, hl, its, hi with | [_, _, _], _, [_], _ => ⟨_, rfl, rfl⟩))
  obtain ⟨dz9, hv9, hb9⟩ := F9.binds1 (ps := ["self", "many", "rows"]) 2 0 (by simp) rfl (fun _ _ _ _ _ _ _ us its hl hi => match us, hl, its, hi with | [_, _], _, [_], _ => ⟨_, rfl, rfl⟩)
  obtain ⟨_, KB9⟩ := F9.kbindsD (ps := ["self", "many", "rows"]) 2 ["rows"] (fun us _ ws => us ++ ws) (by simp) (fun r1 _ r2 => r1.append r2) (fun _ _ _ _ _ _ _ us its ws hl hi hk => match us, hl, its, hi, ws, hk with | [_, _], _, [_], _, [_], _ => ⟨_, rfl, rfl⟩)
  have D9 : DFact K w mg dfs xsL xrL hotL msL mksL "Bounds.__init__" dBoundsInit f9 _ dBoundsInitN ["self", "many", "rows"] (mt 3 0) := ⟨fun z => absurd z (by decide +kernel), ⟨_, _, _, F9⟩, fun z => absurd z (by decide +kernel), fun _ => B9, kb_no (by decide +kernel), rfl, rfl, dBoundsInit_sc, dBoundsInit_ck, fun z => absurd z (by decide +kernel), ms_no (by decide +kernel), mk_two (c0 := "Bounds") (m0 := 1) (m1 := 2) (by decide +kernel) ⟨_, dz9, [.ref de9], CF0, PySem.W.mg_of X G cn0, ⟨cm0, mi9, mq9, ck0⟩, hb9, hv9, fun H => relDs_e el9 ec9 ed9 H⟩ ⟨_, [], [], CF0, PySem.W.mg_of X G cn0, ⟨cm0, mi9, mq9, ck0⟩, B9, .nil, fun H => rfl⟩, mkk_yes (m := 1) (js := ["rows"]) (by decide +kernel) KB9⟩
  have F10 := fun_mk (st := mt 3 9) l10 c10 k10
  have B10 : Binds K _ ["self"] [] := F10.binds (ps := ["self"]) (fun _ _ _ _ _ _ us hl => match us, hl with | [_], _ => rfl)
  have D10 : DFact K w mg dfs xsL xrL hotL msL mksL "Bounds.__len__" dBoundsLen f10 _ dBoundsLenN ["self"] (mt 3 9) := ⟨fun z => absurd z (by decide +kernel), ⟨_, [], [], fun_to F10⟩, fun z => absurd z (by decide +kernel), fun _ => B10, kb_no (by decide +kernel), rfl, rfl, dBoundsLen_sc, dBoundsLen_ck, fun z => absurd z (by decide +kernel), ms_one (c0 := "Bounds") (m0 := "__len__") (by decide +kernel) ⟨_, CF0, ⟨mi10, mq10, k10⟩⟩, mk_no (by decide +kernel), mkk_no (by decide +kernel)⟩
  have F11 := fun_mk (st := mt 3 10) l11 c11 k11
  have B11 : Binds K _ ["self"] [] := F11.binds (ps := ["self"]) (fun _ _ _ _ _ _ us hl => match us, hl with | [_], _ => rfl)
  have D11 : DFact K w mg dfs xsL xrL hotL msL mksL "Bounds.__repr__" dBoundsRepr f11 _ dBoundsReprN ["self"] (mt 3 10) := ⟨fun z => absurd z (by decide +kernel), ⟨_, [], [], fun_to F11⟩, fun z => absurd z (by decide +kernel), fun _ => B11, kb_no (by decide +kernel), rfl, rfl, dBoundsRepr_sc, dBoundsRepr_ck, fun z => absurd z (by decide +kernel), ms_one (c0 := "Bounds") (m0 := "__repr__") (by decide +kernel) ⟨_, CF0, ⟨mi11, mq11, k11⟩⟩, mk_no (by decide +kernel), mkk_no (by decide +kernel)⟩
  have F12 := fun_mk (st := mt 3 4) l12 c12 k12
  have B12 : Binds K _ ["self", "i", "j", "c"] [] := F12.binds (ps := ["self", "i", "j", "c"]) (fun _ _ _ _ _ _ us hl => match us, hl with | [_, _, _, _], _ => rfl)
  have D12 : DFact K w mg dfs xsL xrL hotL msL mksL "Bounds.also" dBoundsAlso f12 _ dBoundsAlsoN ["self", "i", "j", "c"] (mt 3 4) := ⟨fun z => absurd z (by decide +kernel), ⟨_, [], [], fun_to F12⟩, fun z => absurd z (by decide +kernel), fun _ => B12, kb_no (by decide +kernel), rfl, rfl, dBoundsAlso_sc, dBoundsAlso_ck, fun z => absurd z (by decide +kernel), ms_one (c0 := "Bounds") (m0 := "also") (by decide +kernel) ⟨_, CF0, ⟨mi12, mq12, k12⟩⟩, mk_no (by decide +kernel), mkk_no (by decide +kernel)⟩
  have F13 := fun_mk (st := mt 3 2) l13 c13 k13
  have B13 : Binds K _ ["self", "numbers"] [] := F13.binds (ps := ["self", "numbers"]) (fun _ _ _ _ _ _ us hl => match us, hl with | [_, _], _ => rfl)
  have D13 : DFact K w mg dfs xsL xrL hotL msL mksL "Bounds.holds" dBoundsHolds f13 _ dBoundsHoldsN ["self", "numbers"] (mt 3 2) := ⟨fun z => absurd z (by decide +kernel), ⟨_, [], [], fun_to F13⟩, fun z => absurd z (by decide +kernel), fun _ => B13, kb_no (by decide +kernel), rfl, rfl, dBoundsHolds_sc, dBoundsHolds_ck, fun z => absurd z (by decide +kernel), ms_one (c0 := "Bounds") (m0 := "holds") (by decide +kernel) ⟨_, CF0, ⟨mi13, mq13, k13⟩⟩, mk_no (by decide +kernel), mkk_no (by decide +kernel)⟩
  have F14 := fun_mk (st := mt 3 1) l14 c14 k14
  have B14 : Binds K _ ["self"] [] := F14.binds (ps := ["self"]) (fun _ _ _ _ _ _ us hl => match us, hl with | [_], _ => rfl)
  have D14 : DFact K w mg dfs xsL xrL hotL msL mksL "Bounds.rows" dBoundsRows f14 _ dBoundsRowsN ["self"] (mt 3 1) := ⟨fun z => absurd z (by decide +kernel), ⟨_, [], [], fun_to F14⟩, fun z => absurd z (by decide +kernel), fun _ => B14, kb_no (by decide +kernel), rfl, rfl, dBoundsRows_sc, dBoundsRows_ck, fun z => absurd z (by decide +kernel), ms_one (c0 := "Bounds") (m0 := "rows") (by decide +kernel) ⟨_, CF0, ⟨mi14, mq14, k14⟩⟩, mk_no (by decide +kernel), mkk_no (by decide +kernel)⟩
  have GF : GFact K w mg dfs xsL xrL hotL msL mksL defs gl := {
    df := fun f d e => by
      have all : ∀ p ∈ table, ∃ fa fd N ps st, DFact K w mg dfs xsL xrL hotL msL mksL p.1 p.2 fa fd N ps st := by
        refine List.forall_mem_cons.mpr ⟨⟨_, _, _, _, _, D0⟩, ?_⟩
        refine List.forall_mem_cons.mpr ⟨⟨_, _, _, _, _, D1⟩, ?_⟩
        refine List.forall_mem_cons.mpr ⟨⟨_, _, _, _, _, D2⟩, ?_⟩
        refine List.forall_mem_cons.mpr ⟨⟨_, _, _, _, _, D3⟩, ?_⟩
        refine List.forall_mem_cons.mpr ⟨⟨_, _, _, _, _, D4⟩, ?_⟩
        refine List.forall_mem_cons.mpr ⟨⟨_, _, _, _, _, D5⟩, ?_⟩
        refine List.forall_mem_cons.mpr ⟨⟨_, _, _, _, _, D6⟩, ?_⟩
        refine List.forall_mem_cons.mpr ⟨⟨_, _, _, _, _, D7⟩, ?_⟩
        refine List.forall_mem_cons.mpr ⟨⟨_, _, _, _, _, D8⟩, ?_⟩
        refine List.forall_mem_cons.mpr ⟨⟨_, _, _, _, _, D9⟩, ?_⟩
        refine List.forall_mem_cons.mpr ⟨⟨_, _, _, _, _, D10⟩, ?_⟩
        refine List.forall_mem_cons.mpr ⟨⟨_, _, _, _, _, D11⟩, ?_⟩
        refine List.forall_mem_cons.mpr ⟨⟨_, _, _, _, _, D12⟩, ?_⟩
        refine List.forall_mem_cons.mpr ⟨⟨_, _, _, _, _, D13⟩, ?_⟩
        refine List.forall_mem_cons.mpr ⟨⟨_, _, _, _, _, D14⟩, ?_⟩
        exact fun p hp => nomatch hp
      exact all _ (mem_of_lookup e)
    hdf := fun f hf => by
      have : dfs.all (fun f => (defs f).isSome) = true := by decide +kernel
      have h2 := List.all_eq_true.mp this f (by simpa using hf)
      cases e : defs f with
      | none => rw [e] at h2; cases h2
      | some d => exact ⟨d, rfl⟩
    hms := hms_of (by decide +kernel)
    hmk := hmk_of (by decide +kernel)
    hotd := hotd_of (by decide +kernel)
    nkw := nkw_of (by decide +kernel)
    gls := fun x d e => by
      have all : ∀ p ∈ glT, ∃ u v, mg p.1 = some u ∧ RelV v u ∧ ∀ H, RelD K w H p.2 v := by
        exact fun p hp => nomatch hp
      exact all _ (mem_of_lookup e)
    blt := fun n hn => by
      simp only [bnames, List.mem_cons, List.not_mem_nil, or_false] at hn
      rcases hn with rfl | rfl | rfl | rfl | rfl | rfl | rfl | rfl | rfl | rfl | rfl | rfl | rfl | rfl | rfl | rfl | rfl | rfl | rfl | rfl | rfl
      · exact PySem.W.mg_none_of X G z0
      · exact PySem.W.mg_none_of X G z1
      · exact PySem.W.mg_none_of X G z2
      · exact PySem.W.mg_none_of X G z3
      · exact PySem.W.mg_none_of X G z4
      · exact PySem.W.mg_none_of X G z5
      · exact PySem.W.mg_none_of X G z6
      · exact PySem.W.mg_none_of X G z7
      · exact PySem.W.mg_none_of X G z8
      · exact PySem.W.mg_none_of X G z9
      · exact PySem.W.mg_none_of X G z10
      · exact PySem.W.mg_none_of X G z11
      · exact PySem.W.mg_none_of X G z12
      · exact PySem.W.mg_none_of X G z13
      · exact PySem.W.mg_none_of X G z14
      · exact PySem.W.mg_none_of X G z15
      · exact PySem.W.mg_none_of X G z16
      · exact PySem.W.mg_none_of X G z17
      · exact PySem.W.mg_none_of X G z18
      · exact PySem.W.mg_none_of X G z19
      · exact PySem.W.mg_none_of X G z20
    xs := fun m hm => by simp [xsL] at hm
    xr := fun m hm => by simp [xrL] at hm
    }
  have e := hfa.symm.trans (PySem.W.mg_of X G a8)
  cases e
  exact ⟨_, fun s v => .of_eq rfl, fun base _ _ => all_ok GF 9 "law" dLaw _ _ _ _ _ rfl D8⟩
theorem walk {l : PySem.W.OpenLaw} {q : Program} {loose : List Str} {XP : (Str → Option Value) → Heap → Prop} {YP : World → Heap → Prop} {d : DefRec} {K : Params → PySem.W.Frag} (hn : l.most = some 63) (hdf : d.params.defaults = [])
    (hY : ∀ (w : World) (h : Heap), YP w h → (K w.params).In h)
    (F : ∀ (w : World) (mg : Str → Option Value) (fa : Addr) (h : Heap), (K w.params).In h → h.Ns mainGlobals mg → mg d.name = some (.ref fa) →
      ∃ fd : FuncData, (∀ (s : Shared) (u : Value), BindsTo s fd ⟨[u], []⟩ [("_law_script", u)]) ∧ ∀ base : Heap, (K w.params).In base → base.Ns mainGlobals mg → FnG l.prog w (K w.params) mg base (L2.CX l.prog w) 20 fa fd ["_law_script"] (spD (K w.params) w 1 (sem defs gl 9 "law"))) :
    PySem.W.WalkO q loose XP YP l.row.toRowW d [] (fun f vs => PySem.call f vs) :=
  walk_ofG (n := 63) (k := 20) (x := "_law_script") (CX := fun w => L2.CX l.prog w) (sp := fun w => spD (K w.params) w 1 (sem defs gl 9 "law")) hn (by decide) hdf ⟨⟨rfl, by decide, by decide⟩, rfl⟩ hY F (fun w H a ns hl hO hS => law_sp hO hS fun S hS0 => d_law ns hl S hS0) fun w H s e s' z => cx_false z
end Z
open PySem PySem.W PyProof.Rows
set_option maxRecDepth 100000 in
set_option maxHeartbeats 0 in
theorem PySem.Challenge.cw_leastmaker_k21_rows_of_bounds_holds : PySem.Challenge.rw_leastmaker_k21_rows_of_bounds.Holds := by
  w_on; o_law; k_head; (case hw => w_witness2)
  k_fill
  refine Z.walk (l := PySem.Challenge.rw_leastmaker_k21_rows_of_bounds) rfl rfl (fun w h Y => PySem.W.kIn_of Y) ?F
  case F =>
    intro w mg fa h KX G hmg
    refine' Z.all_mk KX G hmg ?cn0 ?cc0 ?cf0 ?ch0 ?ci0 ?cj0 ?co0 ?cm0 ?ck0 ?a0 ?l0 ?c0 ?k0 ?a1 ?l1 ?c1 ?k1 ?a2 ?l2 ?c2 ?k2 ?a3 ?l3 ?c3 ?k3 ?a4 ?l4 ?c4 ?k4 ?a5 ?l5 ?c5 ?k5 ?a6 ?l6 ?c6 ?k6 ?a7 ?l7 ?c7 ?k7 ?a8 ?l8 ?c8 ?k8 ?mi9 ?mq9 ?l9 ?c9 ?k9 ?dl9 ?dd9 ?el9 ?ec9 ?ed9 ?mi10 ?mq10 ?l10 ?c10 ?k10 ?mi11 ?mq11 ?l11 ?c11 ?k11 ?mi12 ?mq12 ?l12 ?c12 ?k12 ?mi13 ?mq13 ?l13 ?c13 ?k13 ?mi14 ?mq14 ?l14 ?c14 ?k14 ?z0 ?z1 ?z2 ?z3 ?z4 ?z5 ?z6 ?z7 ?z8 ?z9 ?z10 ?z11 ?z12 ?z13 ?z14 ?z15 ?z16 ?z17 ?z18 ?z19 ?z20
    (case cn0 => k_is)
    (case cc0 => (refine' ⟨?y1, ?y2, ?y3, ?y4⟩); (case y1 => k_is); (case y2 => k_is); (case y3 => k_is); (case y4 => k_is))
    (case cf0 => (simp only [Z.cflds, List.forall_mem_cons]; (refine ⟨?_, ?_, ?_, ?_, ?_, ?_, ?_, ?_, ?_, ?_, fun _ z => nomatch z⟩) <;> k_is))
    (case ch0 => k_is)
    (case ci0 => k_is)
    (case cj0 => k_is)
    (case co0 => k_is)
    (case cm0 => k_is)
    (case ck0 => k_is)
    (case a0 => k_is)
    (case l0 => k_is)
    (case c0 => k_is)
    (case k0 => k_is)
    (case a1 => k_is)
    (case l1 => k_is)
    (case c1 => k_is)
    (case k1 => k_is)
    (case a2 => k_is)
    (case l2 => k_is)
    (case c2 => k_is)
    (case k2 => k_is)
    (case a3 => k_is)
    (case l3 => k_is)
    (case c3 => k_is)
    (case k3 => k_is)
    (case a4 => k_is)
    (case l4 => k_is)
    (case c4 => k_is)
    (case k4 => k_is)
    (case a5 => k_is)
    (case l5 => k_is)
    (case c5 => k_is)
    (case k5 => k_is)
    (case a6 => k_is)
    (case l6 => k_is)
    (case c6 => k_is)
    (case k6 => k_is)
    (case a7 => k_is)
    (case l7 => k_is)
    (case c7 => k_is)
    (case k7 => k_is)
    (case a8 => k_is)
    (case l8 => k_is)
    (case c8 => k_is)
    (case k8 => k_is)
    (case mi9 => k_is)
    (case mq9 => k_is)
    (case l9 => k_is)
    (case c9 => k_is)
    (case k9 => k_is)
    (case dl9 => k_is)
    (case dd9 => rfl)
    (case el9 => k_is)
    (case ec9 => rfl)
    (case ed9 => rfl)
    (case mi10 => k_is)
    (case mq10 => k_is)
    (case l10 => k_is)
    (case c10 => k_is)
    (case k10 => k_is)
    (case mi11 => k_is)
    (case mq11 => k_is)
    (case l11 => k_is)
    (case c11 => k_is)
    (case k11 => k_is)
    (case mi12 => k_is)
    (case mq12 => k_is)
    (case l12 => k_is)
    (case c12 => k_is)
    (case k12 => k_is)
    (case mi13 => k_is)
    (case mq13 => k_is)
    (case l13 => k_is)
    (case c13 => k_is)
    (case k13 => k_is)
    (case mi14 => k_is)
    (case mq14 => k_is)
    (case l14 => k_is)
    (case c14 => k_is)
    (case k14 => k_is)
    (case z0 => k_is)
    (case z1 => k_is)
    (case z2 => k_is)
    (case z3 => k_is)
    (case z4 => k_is)
    (case z5 => k_is)
    (case z6 => k_is)
    (case z7 => k_is)
    (case z8 => k_is)
    (case z9 => k_is)
    (case z10 => k_is)
    (case z11 => k_is)
    (case z12 => k_is)
    (case z13 => k_is)
    (case z14 => k_is)
    (case z15 => k_is)
    (case z16 => k_is)
    (case z17 => k_is)
    (case z18 => k_is)
    (case z19 => k_is)
    (case z20 => k_is)
#print axioms PySem.Challenge.cw_leastmaker_k21_rows_of_bounds_holds


