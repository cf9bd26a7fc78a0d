import PyProof.Rows.All
import Wide.All
import OpenK.AllK
import Wide.FinOn
import HandS.ForMost
import HandS.Exc
import HandS.ExcOwn
import HandS.ExcInit
import HandS.ExcField
import HandS.ExcValue
import HandS.HotCalls
import HandS.Style
import KE.KExcIs
import KE.KIsAll
import HandS.CallSlots
import HandS.TryOnly
import HandS.WordsExc
import HandS.TupAny
import HandS.TupLe
import HandS.TupMul
import HandS.Flow
import HandS.IsInst
import HandS.Rev
import HandS.Zip
import HandS.Deep
import HandS.More
import HandS.Walk
import HandS.Wide
import HandS.Small
import PyProof.P3Eq
import PyProof.ReprRoads
import KE.KDictZip
import HandS.Defaults
import KE.GoesMore
import KE.GoesEnum
import KE.KUnpackStar
import HandS.SetFor
import HandS.Conv
import HandS.RaiseMore
import HandS.CallRecv
import HandS.ExcIs
import PySem.Challenge.RW_leastmaker_k39_wishes_put_in
set_option Elab.async false
set_option linter.all false
set_option maxRecDepth 100000
set_option maxHeartbeats 4000000
namespace Z
open PySem PySem.Spec PyProof.Rows L2

inductive D where
  | non | bl (b : Bool) | int (i : Int) | str (x : Str) | tup (xs : List D) | ref (a : Addr) | ty (n : String) | cd (kvs : List (Str × Int)) | kl (xs : List D) | exn (n : Str) (ns : List Str) (ds : List D)
inductive Ob where
  | lst (xs : List D)
  | dct (kvs : List (Key × D))
  | ins (c : Str) (fs : List (Str × D))
abbrev Sto := Addr → Option Ob
def updS (S : Sto) (a : Addr) (o : Ob) : Sto := fun b => if b = a then some o else S b
theorem updS_same {S : Sto} {a : Addr} {o : Ob} : updS S a o a = some o := by unfold updS; rw [if_pos rfl]
theorem updS_ne {S : Sto} {a b : Addr} {o : Ob} (h : b ≠ a) : updS S a o b = S b := by unfold updS; rw [if_neg h]
def CdAt (K : PySem.W.Frag) (w : World) (a : Addr) (kvs : List (Str × Int)) : Prop :=
  (∃ es n, KDict K w a es n) ∧ ∀ z : Str, ∃ r, PySem.W.nsIn K a z = some r ∧ (match kvs.lookup z with | none => r = none | some i => ∃ t, r = some (Value.int i t))

def FL (K : PySem.W.Frag) (H : Hp) (a : Addr) (vs : List V) : Prop := (∃ o, H a = some (.frz o (.lst vs))) ∨
  ∃ (o : Obj) (its : Array Value) (n : Nat), K.lookup a = some o ∧ o.cls = .type "list" ∧ o.dict = none ∧ o.data = .seq its n ∧ its.size ≤ sizeLine ∧ Vals vs its.toList
theorem FL.sq {K : PySem.W.Frag} {H : Hp} {a : Addr} {vs : List V} (h : FL K H a vs) : SqL K H a vs := h.elim (fun ⟨o, e⟩ => .inl (.inr ⟨o, e⟩)) .inr
def xnames : List Str := ["NoHead", "NoProgram", "NoText", "NoStock", "NoAnswer", "NoInputs", "Clash", "NoRow", "NoQuestion", "NoDoer", "NotKept", "NoName"]
def xflds : List Str := ["word", "at", "answer", "number"]
structure XCls (K : PySem.W.Frag) (n : Str) (C : Addr) : Prop where
  ga : PySem.W.findIn K (.ref C) "__getattribute__" = some (some (.builtin "BaseException.__getattribute__"))
  gt : PySem.W.findIn K (.ref C) "__getattr__" = some none
  be : PySem.W.subIn K (.ref C) (.type "BaseException") = some true
  hd : PySem.W.hasDictIn K C = true
  cl : PySem.W.findIn K (.ref C) "__class__" = some (some (.builtin "object.__class__"))
  sg : PySem.W.specialIn K (.builtin "object.__class__") "__get__" = some (some (.builtin "getset_descriptor.__get__"))
  tk : PySem.W.takesIn K (.builtin "object.__class__") = some true
  mr : PySem.W.mroIn K C (.type "object") = some true
  fl : ∀ f ∈ xflds, PySem.W.findIn K (.ref C) f = some none
  is : ∀ m ∈ xnames, ∀ M, PySem.W.nsIn K mainGlobals m = some (some (.ref M)) → PySem.W.kitOne K (.ref C) (.ref M) = some (decide (n = m)) ∧ PySem.W.exmOne K (.ref C) (.ref M) = some (decide (n = m))
def cflds : List Str := ["many", "given", "sums", "words", "at", "points", "seeds", "makers", "table", "known"]
structure ClsF (K : PySem.W.Frag) (c : Str) (C : Addr) : Prop where
  ns : PySem.W.nsIn K mainGlobals c = some (some (.ref C))
  cl : Cls K C
  na : ∀ f ∈ cflds, NoAttr K C f
  ha : PySem.W.findIn K (.ref C) "__class__" = some (some (.builtin "object.__class__"))
  hn : PySem.W.specialIn K (.builtin "object.__class__") "__get__" = some (some (.builtin "getset_descriptor.__get__"))
  htk : PySem.W.takesIn K (.builtin "object.__class__") = some true
  hm : PySem.W.mroIn K C (.type "object") = some true
  me : PySem.W.kitOne K (.ref C) (.ref C) = some true
abbrev kept (oe : Obj) : HO := .frz oe (.ext fun _ => True)
section
variable (K : PySem.W.Frag) (w : World)
mutual
def RelD (H : Hp) : D → V → Prop
  | .non, v => v = .non
  | .bl b, v => v = .bl b
  | .int i, v => v = .int i
  | .str x, v => v = .str x
  | .ty n, v => v = .ty n
  | .ref a, v => v = .ref a
  | .cd kvs, v => ∃ a, v = .ref a ∧ CdAt K w a kvs
  | .tup ds, v => ∃ a vs, v = .ref a ∧ SqT K H a vs ∧ RelDs H ds vs
  | .kl ds, v => ∃ a vs, v = .ref a ∧ FL K H a vs ∧ RelDs H ds vs
  | .exn n ns ds, v => ∃ a oe C dx vs, v = .ref a ∧ XCls K n C ∧ H a = some (kept oe) ∧ oe.cls = .ref C ∧ oe.dict = some dx ∧ (∃ fv, oe.data = .fields fv) ∧ H dx = some (.xd (ns.zip vs)) ∧ RelDs H ds vs
def RelDs (H : Hp) : List D → List V → Prop
  | [], vs => vs = []
  | d :: ds, vs => ∃ v r, vs = v :: r ∧ RelD H d v ∧ RelDs H ds r
end
def RelKV (H : Hp) : List (Key × D) → List (Key × V) → Prop
  | [], vs => vs = []
  | (k, d) :: ds, vs => ∃ v r, vs = (k, v) :: r ∧ RelD K w H d v ∧ RelKV H ds r
def RelF (H : Hp) : List (Str × D) → List (Str × V) → Prop
  | [], vs => vs = []
  | (k, d) :: ds, vs => ∃ v r, vs = (k, v) :: r ∧ RelD K w H d v ∧ RelF H ds r
def ObR (H : Hp) (a : Addr) : Ob → Prop
  | .lst ds => ∃ vs, H a = some (.lst vs) ∧ RelDs K w H ds vs
  | .dct kvs => ∃ kv, H a = some (.dK kv) ∧ RelKV K w H kvs kv
  | .ins c fs => ∃ C dx fv, ClsF K c C ∧ H a = some (.ins C dx fv) ∧ RelF K w H fs fv
def HR (H : Hp) (S : Sto) : Prop := ∀ a ob, S a = some ob → ObR K w H a ob
end

structure Ext (H H' : Hp) : Prop where
  tp : ∀ a xs, Rd H a (.tup xs) → Rd H' a (.tup xs)
  fz : ∀ a o u, H a = some (.frz o u) → H' a = some (.frz o u)
  xd : ∀ a fs, H a = some (.xd fs) → H' a = some (.xd fs)
theorem Ext.refl (H : Hp) : Ext H H := ⟨fun _ _ h => h, fun _ _ _ h => h, fun _ _ h => h⟩
theorem Ext.trans {H H1 H2 : Hp} (a : Ext H H1) (b : Ext H1 H2) : Ext H H2 := ⟨fun x y h => b.tp x y (a.tp x y h), fun x o y h => b.fz x o y (a.fz x o y h), fun x y h => b.xd x y (a.xd x y h)⟩
def Fm (H : Hp) (S : Sto) (H' : Hp) (S' : Sto) : Prop := ∀ a o, H a = some o → S a = none → H' a = some o ∧ S' a = none
theorem Fm.refl (H : Hp) (S : Sto) : Fm H S H S := fun _ _ h1 h2 => ⟨h1, h2⟩
theorem Fm.trans {H H1 H2 : Hp} {S S1 S2 : Sto} (a : Fm H S H1 S1) (b : Fm H1 S1 H2 S2) : Fm H S H2 S2 := fun x o h1 h2 =>
  let ⟨q1, q2⟩ := a x o h1 h2
  b x o q1 q2

section
variable {K : PySem.W.Frag} {w : World} {H H' : Hp} {S S' : Sto}
theorem Ext.seqT {a : Addr} {xs : List V} (e : Ext H H') (h : SqT K H a xs) : SqT K H' a xs := by
  rcases h with h | h
  · exact .inl (e.tp _ _ h)
  · exact .inr h
theorem Ext.fl {a : Addr} {xs : List V} (e : Ext H H') (h : FL K H a xs) : FL K H' a xs := by
  rcases h with ⟨o, h⟩ | h
  · exact .inl ⟨o, e.fz _ _ _ h⟩
  · exact .inr h
mutual
theorem RelD.mono (e : Ext H H') : ∀ (d : D) (v : V), RelD K w H d v → RelD K w H' d v
  | .non, _, h => h
  | .bl _, _, h => h
  | .int _, _, h => h
  | .str _, _, h => h
  | .ty _, _, h => h
  | .ref _, _, h => h
  | .cd _, _, h => h
  | .tup ds, v, h => by
    simp only [RelD] at h ⊢
    obtain ⟨a, vs, h1, h2, h3⟩ := h
    exact ⟨a, vs, h1, e.seqT h2, RelDs.mono e ds vs h3⟩
  | .kl ds, v, h => by
    simp only [RelD] at h ⊢
    obtain ⟨a, vs, h1, h2, h3⟩ := h
    exact ⟨a, vs, h1, e.fl h2, RelDs.mono e ds vs h3⟩
  | .exn n ns ds, v, h => by
    simp only [RelD] at h ⊢
    obtain ⟨a, oe, C, dx, vs, h1, h2, h3, h4, h5, h6, h7, h8⟩ := h
    exact ⟨a, oe, C, dx, vs, h1, h2, e.fz _ _ _ h3, h4, h5, h6, e.xd _ _ h7, RelDs.mono e ds vs h8⟩
theorem RelDs.mono (e : Ext H H') : ∀ (ds : List D) (vs : List V), RelDs K w H ds vs → RelDs K w H' ds vs
  | [], _, h => h
  | d :: ds, vs, h => by
    simp only [RelDs] at h ⊢
    obtain ⟨v, r, h1, h2, h3⟩ := h
    exact ⟨v, r, h1, RelD.mono e d v h2, RelDs.mono e ds r h3⟩
end
theorem RelKV.mono (e : Ext H H') : ∀ (ds : List (Key × D)) (vs : List (Key × V)), RelKV K w H ds vs → RelKV K w H' ds vs
  | [], _, h => h
  | (k, d) :: ds, vs, h => by
    simp only [RelKV] at h ⊢
    obtain ⟨v, r, h1, h2, h3⟩ := h
    exact ⟨v, r, h1, RelD.mono e d v h2, RelKV.mono e ds r h3⟩
theorem RelF.mono (e : Ext H H') : ∀ (ds : List (Str × D)) (vs : List (Str × V)), RelF K w H ds vs → RelF K w H' ds vs
  | [], _, h => h
  | (k, d) :: ds, vs, h => by
    simp only [RelF] at h ⊢
    obtain ⟨v, r, h1, h2, h3⟩ := h
    exact ⟨v, r, h1, RelD.mono e d v h2, RelF.mono e ds r h3⟩
theorem HR.notup (h : HR K w H S) {a : Addr} {xs : List V} (t : Rd H a (.tup xs)) : S a = none := by
  cases q : S a with
  | none => rfl
  | some ob =>
    have r := h a ob q
    rcases t with t | ⟨o, t⟩
    · cases ob with
      | lst ds => obtain ⟨_, e, _⟩ := r; rw [t] at e; cases e
      | dct ds => obtain ⟨_, e, _⟩ := r; rw [t] at e; cases e
      | ins C ds => obtain ⟨_, _, _, _, e, _⟩ := r; rw [t] at e; cases e
    · cases ob with
      | lst ds => obtain ⟨_, e, _⟩ := r; rw [t] at e; cases e
      | dct ds => obtain ⟨_, e, _⟩ := r; rw [t] at e; cases e
      | ins C ds => obtain ⟨_, _, _, _, e, _⟩ := r; rw [t] at e; cases e
theorem HR.noxd (h : HR K w H S) {a : Addr} {fs : List (Str × V)} (t : H a = some (.xd fs)) : S a = none := by
  cases q : S a with
  | none => rfl
  | some ob =>
    have r := h a ob q
    cases ob with
    | lst ds => obtain ⟨_, e, _⟩ := r; rw [t] at e; cases e
    | dct ds => obtain ⟨_, e, _⟩ := r; rw [t] at e; cases e
    | ins C ds => obtain ⟨_, _, _, _, e, _⟩ := r; rw [t] at e; cases e
theorem HR.nofz (h : HR K w H S) {a : Addr} {o : Obj} {u : HO} (t : H a = some (.frz o u)) : S a = none := by
  cases q : S a with
  | none => rfl
  | some ob =>
    have r := h a ob q
    cases ob with
    | lst ds => obtain ⟨_, e, _⟩ := r; rw [t] at e; cases e
    | dct ds => obtain ⟨_, e, _⟩ := r; rw [t] at e; cases e
    | ins C ds => obtain ⟨_, _, _, _, e, _⟩ := r; rw [t] at e; cases e
theorem Fm.ext (f : Fm H S H' S') (h : HR K w H S) : Ext H H' := ⟨fun a xs t => by
  have n := h.notup t
  rcases t with t | ⟨o, t⟩
  · exact .inl (f a _ t n).1
  · exact .inr ⟨o, (f a _ t n).1⟩, fun a o xs t => (f a _ t (h.nofz t)).1, fun a fs t => (f a _ t (h.noxd t)).1⟩
theorem HR.fresh (h : HR K w H S) {p : Addr} (n : H p = none) : S p = none := by
  cases q : S p with
  | none => rfl
  | some ob =>
    have r := h p ob q
    cases ob with
    | lst ds => obtain ⟨_, e, _⟩ := r; rw [n] at e; cases e
    | dct ds => obtain ⟨_, e, _⟩ := r; rw [n] at e; cases e
    | ins C ds => obtain ⟨_, _, _, _, e, _⟩ := r; rw [n] at e; cases e
theorem ObR.mono {a : Addr} {ob : Ob} (e : Ext H H') (ha : H' a = H a) (h : ObR K w H a ob) : ObR K w H' a ob := by
  cases ob with
  | lst ds => obtain ⟨vs, e1, r⟩ := h; exact ⟨vs, ha.trans e1, RelDs.mono e _ _ r⟩
  | dct ds => obtain ⟨vs, e1, r⟩ := h; exact ⟨vs, ha.trans e1, RelKV.mono e _ _ r⟩
  | ins C ds => obtain ⟨C, dx, vs, cf, e1, r⟩ := h; exact ⟨C, dx, vs, cf, ha.trans e1, RelF.mono e _ _ r⟩
theorem ext_new {p : Addr} {o : HO} (n : H p = none) : Ext H (upd H p o) := ⟨fun a xs t => by
  rcases t with t | ⟨u, t⟩
  · exact .inl (by rw [upd_ne (ne_of_none t n)]; exact t)
  · exact .inr ⟨u, by rw [upd_ne (ne_of_none t n)]; exact t⟩, fun a u xs t => by rw [upd_ne (ne_of_none t n)]; exact t, fun a u t => by rw [upd_ne (ne_of_none t n)]; exact t⟩
theorem HR.tup (h : HR K w H S) {p : Addr} {vs : List V} (n : H p = none) : HR K w (upd H p (.tup vs)) S := fun a ob q => by
  have ne : a ≠ p := fun z => by subst z; rw [h.fresh n] at q; cases q
  exact (h a ob q).mono (ext_new n) (upd_ne ne)
theorem Fm.tup (h : HR K w H S) {p : Addr} {o : HO} (n : H p = none) : Fm H S (upd H p o) S := fun a u e q => ⟨by rw [upd_ne (ne_of_none e n)]; exact e, q⟩
theorem HR.new (h : HR K w H S) {p : Addr} {o : HO} {ob : Ob} (n : H p = none) (r : ObR K w (upd H p o) p ob) : HR K w (upd H p o) (updS S p ob) := fun a u q => by
  by_cases ne : a = p
  · subst ne; rw [updS_same] at q; cases q; exact r
  · rw [updS_ne ne] at q
    exact (h a u q).mono (ext_new n) (upd_ne ne)
theorem Fm.new {p : Addr} {o : HO} {ob : Ob} (n : H p = none) : Fm H S (upd H p o) (updS S p ob) := fun a u e q =>
  ⟨by rw [upd_ne (ne_of_none e n)]; exact e, by rw [updS_ne (ne_of_none e n)]; exact q⟩
theorem ext_mut {p : Addr} {o : HO} {ob : Ob} (h : HR K w H S) (m : S p = some ob) : Ext H (upd H p o) := by
  refine ⟨fun a xs t => ?_, fun a u xs t => ?_, fun a fs t => ?_⟩
  · have ne : a ≠ p := fun z => by
      subst z
      rw [h.notup t] at m
      cases m
    rcases t with t | ⟨u, t⟩
    · exact .inl (by rw [upd_ne ne]; exact t)
    · exact .inr ⟨u, by rw [upd_ne ne]; exact t⟩
  · have ne : a ≠ p := fun z => by
      subst z
      rw [h.nofz t] at m
      cases m
    rw [upd_ne ne]
    exact t
  · have ne : a ≠ p := fun z => by
      subst z
      rw [h.noxd t] at m
      cases m
    rw [upd_ne ne]
    exact t
theorem HR.mut (h : HR K w H S) {p : Addr} {o : HO} {ob ob' : Ob} (m : S p = some ob') (r : ObR K w (upd H p o) p ob) : HR K w (upd H p o) (updS S p ob) := fun a u q => by
  by_cases ne : a = p
  · subst ne; rw [updS_same] at q; cases q; exact r
  · rw [updS_ne ne] at q
    exact (h a u q).mono (ext_mut h m) (upd_ne ne)
theorem Fm.mut {p : Addr} {o : HO} {ob ob' : Ob} (m : S p = some ob') : Fm H S (upd H p o) (updS S p ob) := fun a u e q => by
  have ne : a ≠ p := fun z => by subst z; rw [q] at m; cases m
  exact ⟨by rw [upd_ne ne]; exact e, by rw [updS_ne ne]; exact q⟩
end

abbrev StD := List (Option D)
def RelSt (K : PySem.W.Frag) (w : World) (H : Hp) (σd : StD) (σ : L2.St) : Prop := σd.length = σ.length ∧ ∀ (i : Nat) (d : D), σd[i]? = some (some d) → ∃ v, σ[i]? = some (some v) ∧ RelD K w H d v
section
variable {K : PySem.W.Frag} {w : World} {H H' : Hp} {S S' : Sto} {σd : StD} {σ : L2.St}
theorem RelSt.mono (e : Ext H H') (h : RelSt K w H σd σ) : RelSt K w H' σd σ := ⟨h.1, fun i d q => let ⟨v, h1, h2⟩ := h.2 i d q; ⟨v, h1, RelD.mono e d v h2⟩⟩
theorem RelSt.set {i : Nat} {d : D} {v : V} (h : RelSt K w H σd σ) (r : RelD K w H d v) : RelSt K w H (σd.set i (some d)) (σ.set i (some v)) := by
  refine ⟨by rw [List.length_set, List.length_set]; exact h.1, fun j e q => ?_⟩
  by_cases hj : i = j
  · subst hj
    have hl : i < σd.length := by
      rw [List.getElem?_set] at q
      simp only [if_true] at q
      split at q
      · assumption
      · cases q
    rw [List.getElem?_set_self hl] at q
    cases q
    exact ⟨v, by rw [List.getElem?_set_self (h.1 ▸ hl)], r⟩
  · rw [List.getElem?_set_ne hj] at q
    rw [List.getElem?_set_ne hj]
    exact h.2 j e q
theorem RelSt.unset {i : Nat} (h : RelSt K w H σd σ) : RelSt K w H (σd.set i none) (σ.set i none) := by
  refine ⟨by rw [List.length_set, List.length_set]; exact h.1, fun j e q => ?_⟩
  by_cases hj : i = j
  · subst hj
    rw [List.getElem?_set] at q
    simp only [if_true] at q
    split at q <;> cases q
  · rw [List.getElem?_set_ne hj] at q
    rw [List.getElem?_set_ne hj]
    exact h.2 j e q
theorem RelDs.length : ∀ {ds : List D} {vs : List V}, RelDs K w H ds vs → ds.length = vs.length
  | [], _, h => by simp only [RelDs] at h; subst h; rfl
  | d :: ds, vs, h => by
    simp only [RelDs] at h
    obtain ⟨v, r, rfl, _, h3⟩ := h
    rw [List.length_cons, List.length_cons, RelDs.length h3]
theorem RelDs.get : ∀ {ds : List D} {vs : List V} {i : Nat} {d : D}, RelDs K w H ds vs → ds[i]? = some d → ∃ v, vs[i]? = some v ∧ RelD K w H d v
  | [], _, _, _, _, e => by simp at e
  | d :: ds, vs, 0, x, h, e => by
    simp only [RelDs] at h
    obtain ⟨v, r, rfl, h2, _⟩ := h
    simp at e; subst e
    exact ⟨v, rfl, h2⟩
  | d :: ds, vs, i + 1, x, h, e => by
    simp only [RelDs] at h
    obtain ⟨v, r, rfl, _, h3⟩ := h
    exact RelDs.get (i := i) h3 (by simpa using e)
theorem RelDs.append : ∀ {a b : List D} {x y : List V}, RelDs K w H a x → RelDs K w H b y → RelDs K w H (a ++ b) (x ++ y)
  | [], b, x, y, h, h' => by simp only [RelDs] at h; subst h; exact h'
  | d :: a, b, x, y, h, h' => by
    simp only [RelDs] at h
    obtain ⟨v, r, rfl, h2, h3⟩ := h
    show RelDs K w H (d :: (a ++ b)) (v :: (r ++ y))
    simp only [RelDs]
    exact ⟨v, r ++ y, rfl, h2, RelDs.append h3 h'⟩
theorem RelDs.take : ∀ {a : List D} {x : List V} (n : Nat), RelDs K w H a x → RelDs K w H (a.take n) (x.take n)
  | _, _, 0, _ => by simp [RelDs]
  | [], x, n + 1, h => by simp only [RelDs] at h; subst h; simp [RelDs]
  | d :: a, x, n + 1, h => by
    simp only [RelDs] at h
    obtain ⟨v, r, rfl, h2, h3⟩ := h
    simp only [List.take_succ_cons, RelDs]
    exact ⟨v, _, rfl, h2, RelDs.take n h3⟩
theorem RelDs.drop : ∀ {a : List D} {x : List V} (n : Nat), RelDs K w H a x → RelDs K w H (a.drop n) (x.drop n)
  | _, _, 0, h => by simpa using h
  | [], x, n + 1, h => by simp only [RelDs] at h; subst h; simp [RelDs]
  | d :: a, x, n + 1, h => by
    simp only [RelDs] at h
    obtain ⟨v, r, rfl, h2, h3⟩ := h
    simp only [List.drop_succ_cons]
    exact RelDs.drop n h3
theorem RelDs.set : ∀ {a : List D} {x : List V} (n : Nat) {d : D} {v : V}, RelDs K w H a x → RelD K w H d v → RelDs K w H (a.set n d) (x.set n v)
  | [], x, n, d, v, h, r => by simp only [RelDs] at h; subst h; simp [RelDs]
  | e :: a, x, 0, d, v, h, r => by
    simp only [RelDs] at h
    obtain ⟨v', t, rfl, h2, h3⟩ := h
    simp only [List.set_cons_zero, RelDs]
    exact ⟨v, t, rfl, r, h3⟩
  | e :: a, x, n + 1, d, v, h, r => by
    simp only [RelDs] at h
    obtain ⟨v', t, rfl, h2, h3⟩ := h
    simp only [List.set_cons_succ, RelDs]
    exact ⟨v', _, rfl, h2, RelDs.set n h3 r⟩
theorem RelDs.snoc {a : List D} {x : List V} {d : D} {v : V} (h : RelDs K w H a x) (r : RelD K w H d v) : RelDs K w H (a ++ [d]) (x ++ [v]) :=
  RelDs.append h (by simp only [RelDs]; exact ⟨v, [], rfl, r, rfl⟩)
theorem RelDs.dropLast {a : List D} {x : List V} (h : RelDs K w H a x) : RelDs K w H a.dropLast x.dropLast := by
  rw [List.dropLast_eq_take, List.dropLast_eq_take, ← h.length]
  exact h.take _
theorem RelDs.reverse : ∀ {a : List D} {x : List V}, RelDs K w H a x → RelDs K w H a.reverse x.reverse
  | [], x, h => by simp only [RelDs] at h; subst h; simp [RelDs]
  | d :: a, x, h => by
    simp only [RelDs] at h
    obtain ⟨v, t, rfl, h2, h3⟩ := h
    rw [List.reverse_cons, List.reverse_cons]
    exact (RelDs.reverse h3).snoc h2
theorem RelDs.of_ints : ∀ (ns : List Int), RelDs K w H (ns.map D.int) (ns.map V.int)
  | [] => by simp only [List.map_nil, RelDs]
  | n :: ns => by
    simp only [List.map_cons, RelDs, RelD]
    exact ⟨_, _, rfl, rfl, RelDs.of_ints ns⟩
theorem RelSt.get {i : Nat} {d : D} (h : RelSt K w H σd σ) (e : σd[i]? = some (some d)) : ∃ v, σ[i]? = some (some v) ∧ RelD K w H d v := h.2 i d e
end

def Kont (K : PySem.W.Frag) (w : World) (H : Hp) (S : Sto) (R : D → Sto → Prop) (Q : VK) : Prop := ∀ d S', R d S' → ∀ v H', Fm H S H' S' → RelD K w H' d v → HR K w H' S' → Q v H'
abbrev WE := StD → Sto → (D → Sto → Prop) → Prop
abbrev WT := StD → Sto → (Bool → Sto → Prop) → Prop
abbrev WA := StD → Sto → (List D → Sto → Prop) → Prop
abbrev W2 := D → D → Sto → (D → Sto → Prop) → Prop
abbrev W1 := D → Sto → (D → Sto → Prop) → Prop
abbrev WC := List D → Sto → (D → Sto → Prop) → Prop
def rD2 (K : PySem.W.Frag) (w : World) (f : W2) : R2 := fun x y H Q => ∃ dx dy S R, RelD K w H dx x ∧ RelD K w H dy y ∧ HR K w H S ∧ f dx dy S R ∧ Kont K w H S R Q
def rD1 (K : PySem.W.Frag) (w : World) (f : W1) : V → Hp → VK → Prop := fun x H Q => ∃ dx S R, RelD K w H dx x ∧ HR K w H S ∧ f dx S R ∧ Kont K w H S R Q
def rDC (K : PySem.W.Frag) (w : World) (f : WC) : List V → Hp → VK → Prop := fun xs H Q => ∃ ds S R, RelDs K w H ds xs ∧ HR K w H S ∧ f ds S R ∧ Kont K w H S R Q
def rDM (K : PySem.W.Frag) (w : World) (f : D → WC) : V → List V → Hp → VK → Prop := fun x xs H Q => ∃ dx ds S R, RelD K w H dx x ∧ RelDs K w H ds xs ∧ HR K w H S ∧ f dx ds S R ∧ Kont K w H S R Q
section
variable {K : PySem.W.Frag} {w : World} {H H' : Hp} {S S' : Sto} {R : D → Sto → Prop} {Q : VK}
theorem Kont.same (k : Kont K w H S R Q) {d : D} {v : V} (r : R d S) (rv : RelD K w H d v) (h : HR K w H S) : Q v H := k d S r v H (Fm.refl H S) rv h
theorem Kont.tup (k : Kont K w H S R Q) {ds : List D} {vs : List V} {p : Addr} (r : R (.tup ds) S) (h : HR K w H S) (rv : RelDs K w H ds vs) (n : H p = none) : Q (.ref p) (upd H p (.tup vs)) :=
  k _ S r _ _ (Fm.tup h n) (by simp only [RelD]; exact ⟨p, vs, rfl, SqT.of upd_same, RelDs.mono (ext_new n) _ _ rv⟩) (h.tup n)
theorem Kont.lst (k : Kont K w H S R Q) {ds : List D} {vs : List V} {p : Addr} (r : R (.ref p) (updS S p (.lst ds))) (h : HR K w H S) (rv : RelDs K w H ds vs) (n : H p = none) : Q (.ref p) (upd H p (.lst vs)) :=
  k _ _ r _ _ (Fm.new n) (by simp only [RelD]) (h.new n ⟨vs, upd_same, RelDs.mono (ext_new n) _ _ rv⟩)
theorem Kont.mutl (k : Kont K w H S R Q) {ds : List D} {vs : List V} {p : Addr} {ob : Ob} {d : D} {v : V} (m : S p = some ob) (r : R d (updS S p (.lst ds))) (h : HR K w H S) (rv : RelDs K w H ds vs) (rd : RelD K w H d v) : Q v (upd H p (.lst vs)) :=
  k _ _ r _ _ (Fm.mut m) (RelD.mono (ext_mut h m) _ _ rd) (h.mut m ⟨vs, upd_same, RelDs.mono (ext_mut h m) _ _ rv⟩)
theorem Kont.next {R' : D → Sto → Prop} (k : Kont K w H S R Q) (f : Fm H S H' S') (h : ∀ d S2, R' d S2 → R d S2) : Kont K w H' S' R' Q := fun d S2 r v H2 f2 => k d S2 (h d S2 r) v H2 (f.trans f2)
end
end Z

set_option Elab.async false
set_option linter.all false
set_option maxRecDepth 100000
set_option maxHeartbeats 4000000
namespace Z
open PySem PySem.Spec PyProof.Rows L2

inductive Bi where
  | len | isinst | tuple | list | int | max | min | abs | all | any | sum | str | repr | sorted
inductive Me where
  | append | pop | extend | count | clear | reverse | get | insert
inductive Tg where
  | nm (i : Nat)
  | tup (gs : List Tg)
mutual
inductive T where
  | var (i : Nat) | int (i : Int) | bl (b : Bool) | non | str (x : Str) | glob (x : Str) | bty (x : String)
  | bin (op : Operator) (a b : T) | neg (a : T)
  | cmp (op : CmpOp) (a b : T) | chain (op op2 : CmpOp) (a b c : T)
  | bop (op : BoolOp) (ts : List T) | nt (a : T) | ite (c a b : T)
  | tup (ts : List T) | lst (ts : List T)
  | sub (a i : T) | slice (a : T) (lo hi : Option T)
  | call (f : Str) (ts : List T) | callK (f : Str) (ts : List T) (ks : List Str) (us : List T)
  | blt (f : Bi) (ts : List T)
  | lrev (a : T) | lzip (a b : T) | lset (a : T) | lrng (a : T)
  | mth (m : Me) (a : T) (ts : List T)
  | lc (g : Tg) (it : Ti) (ifs : List T) (own : List (Str × Nat)) (e : T)
  | dct (ks : List Str) (vs : List T)
  | isx (a : T) (m : Str) | atr (a : T) (f : Str) | back (a : T)
  | new (q c : Str) (ts : List T) | fld (a : T) (f : Str) | meth (q c m : Str) (a : T) (ts : List T)
  | eqo (q c : Str) (a b : T) | isc (a : T) (m : Str)
inductive Ti where
  | seq (e : T) | rng1 (a : T) | rng2 (a b : T) | enm (e : T) | zip (a b : T) | rev (e : T)
end
inductive TS where
  | ex (e : T) | asg (g : Tg) (e : T) | par (i j : Nat) (a b : T) | set (a i e : T) | aug (op : Operator) (i : Nat) (e : T)
  | ife (c : T) (a b : List TS) | whil (c : T) (b : List TS) | fr (g : Tg) (it : Ti) (b : List TS)
  | ret (e : T) | retN | pass | brk | cont | never
  | setf (a : T) (f : Str) (e : T)
  | star (is : List Nat) (i : Nat) (js : List Nat) (e : T) | par3 (i j l : Nat) (a b c : T)
  | rais (n : Str) (ts : List T) | tryx (b : List TS) (m : Str) (i : Nat) (h : List TS)

def tru (S : Sto) : D → Option Bool
  | .non => some false
  | .bl b => some b
  | .int i => some (i != 0)
  | .str y => if y.length ≤ sizeLine then some ((y.length : Int) != 0) else none
  | .tup xs => some (!xs.isEmpty)
  | .kl xs => some (!xs.isEmpty)
  | .ref a => match S a with
    | some (.lst xs) => some (!xs.isEmpty)
    | some (.dct kvs) => some (!kvs.isEmpty)
    | _ => none
  | _ => none
def itemsD (S : Sto) : D → Option (List D)
  | .tup xs => some xs
  | .kl xs => some xs
  | .ref a => match S a with
    | some (.lst xs) => some xs
    | _ => none
  | _ => none
def lenD (S : Sto) : D → Option Nat
  | .tup xs => some xs.length
  | .kl xs => some xs.length
  | .str y => if y.length ≤ sizeLine then some y.length else none
  | .ref a => match S a with
    | some (.lst xs) => some xs.length
    | some (.dct kvs) => some kvs.length
    | _ => none
  | _ => none
def tyD (S : Sto) : D → Option String
  | .non => some "NoneType"
  | .bl _ => some "bool"
  | .int _ => some "int"
  | .str _ => some "str"
  | .tup _ => some "tuple"
  | .ref a => match S a with
    | some (.lst _) => some "list"
    | some (.dct _) => some "dict"
    | _ => none
  | _ => none
def cutD (xs : List D) (lo hi : Option Int) : List D := (xs.drop (HT.sIx xs.length 0 lo)).take (HT.sIx xs.length xs.length hi - HT.sIx xs.length 0 lo)
def keyD : D → Option Key
  | .int i => some (.inl i)
  | .str x => some (.inr x)
  | _ => none
def lookD (kvs : List (Key × D)) (k : Key) : Option D := (kvs.find? fun kv => decide (kv.1 = k)).map (·.2)
def putD (kvs : List (Key × D)) (k : Key) (v : D) : List (Key × D) :=
  if kvs.any (fun kv => decide (kv.1 = k)) then kvs.map (fun kv => if kv.1 = k then (kv.1, v) else kv) else kvs ++ [(k, v)]
mutual
/-- as the library's data -/
def toP : D → Option PyData
  | .non => some .none
  | .bl b => some (.bool b)
  | .int i => some (.int i)
  | .str x => some (.str x)
  | .tup xs => (toPs xs).map PyData.tuple
  | _ => none
def toPs : List D → Option (List PyData)
  | [] => some []
  | d :: ds => match toP d, toPs ds with
    | some p, some ps => some (p :: ps)
    | _, _ => none
end
def toP1 (S : Sto) : D → Option PyData
  | .ref a => match S a with
    | some (.lst xs) => (toPs xs).map PyData.list
    | _ => none
  | d => toP d
def toP1s (S : Sto) : List D → Option (List PyData)
  | [] => some []
  | d :: ds => match toP1 S d, toP1s S ds with
    | some p, some ps => some (p :: ps)
    | _, _ => none
def toPS (S : Sto) : D → Option PyData
  | .ref a => match S a with
    | some (.lst xs) => (match toPs xs with
      | some ps => some (PyData.list ps)
      | none => (toP1s S xs).map PyData.list)
    | _ => none
  | d => toP d
def flatD : D → Bool
  | .non => true
  | .bl _ => true
  | .int _ => true
  | .str _ => true
  | _ => false
def eqF : D → D → Bool
  | .non, .non => true
  | .bl a, .bl b => a == b
  | .bl a, .int b => (if a then 1 else 0) == b
  | .int a, .bl b => a == (if b then 1 else 0)
  | .int a, .int b => a == b
  | .str a, .str b => a == b
  | _, _ => false
def inF (x : D) (xs : List D) : Bool := xs.any fun y => eqF y x
def blsOf : List D → Option (List Bool)
  | [] => some []
  | .bl b :: r => (blsOf r).map (b :: ·)
  | _ => none
def intsOf : List D → Option (List Int)
  | [] => some []
  | .int b :: r => (intsOf r).map (b :: ·)
  | _ => none

def wBin (op : Operator) (x y : D) (S : Sto) (Q : D → Sto → Prop) : Prop :=
  match op, x, y with
  | .Add, .int i, .int j => Q (.int (i + j)) S
  | .Add, .tup a, .tup b => a.length + b.length ≤ sizeLine ∧ Q (.tup (a ++ b)) S
  | .Add, .str a, .str b => a.length + b.length ≤ sizeLine ∧ Q (.str (a ++ b)) S
  | .Add, .ref a, .ref b => (match S a, S b with
    | some (.lst xs), some (.lst ys) => xs.length + ys.length ≤ sizeLine ∧ ∀ p, S p = none → Q (.ref p) (updS S p (.lst (xs ++ ys)))
    | _, _ => False)
  | .Sub, .int i, .int j => Q (.int (i - j)) S
  | .Mult, .int i, .int j => CMul i j ∧ Q (.int (i * j)) S
  | .Mult, .tup xs, .int n => xs ≠ [] ∧ xs.length ≤ 1000 ∧ 1 ≤ n ∧ n ≤ 1000 ∧ Q (.tup (List.replicate n.toNat xs).flatten) S
  | .Mult, .ref a, .int n => (match S a with
    | some (.lst xs) => 0 ≤ n ∧ n ≤ 1000 ∧ xs.length ≤ 1000 ∧ ∀ p, S p = none → Q (.ref p) (updS S p (.lst (List.replicate n.toNat xs).flatten))
    | _ => False)
  | .FloorDiv, .int i, .int j => CDiv i j ∧ Q (.int (i / j)) S
  | .Mod, .int i, .int j => 0 < j ∧ Q (.int (i % j)) S
  | .Pow, .int i, .int j => CPow i j ∧ Q (.int (i ^ j.toNat)) S
  | _, _, _ => False
def wEq (neg : Bool) (x y : D) (S : Sto) (Q : D → Sto → Prop) : Prop :=
  match toPS S x, toPS S y with
  | some p, some q => SeqAt.shaped p = true ∧ SeqAt.shaped q = true ∧ Q (.bl (if neg then !PyData.eqv p q else PyData.eqv p q)) S
  | _, _ => False
def wInP (neg : Bool) (x : D) (ys : List D) (S : Sto) (Q : D → Sto → Prop) : Prop :=
  match toP x, toPs ys with
  | some q, some ps => q.canLay0 = true ∧ q.depth ≤ 60 ∧ PyData.canLayAll0 ps = true ∧ Q (.bl (if neg then !(ps.any fun p => PyData.eqv p q) else ps.any fun p => PyData.eqv p q)) S
  | _, _ => False
def wCmp (op : CmpOp) (x y : D) (S : Sto) (Q : D → Sto → Prop) : Prop :=
  match op with
  | .Eq => wEq false x y S Q
  | .NotEq => wEq true x y S Q
  | .Lt => (match x, y with | .int i, .int j => Q (.bl (decide (i < j))) S | _, _ => False)
  | .LtE => (match x, y with | .int i, .int j => Q (.bl (decide (i ≤ j))) S | _, _ => False)
  | .Gt => (match x, y with | .int i, .int j => Q (.bl (decide (j < i))) S | _, _ => False)
  | .GtE => (match x, y with | .int i, .int j => Q (.bl (decide (j ≤ i))) S | _, _ => False)
  | .Is => (match y, x with
    | .non, .ref _ => Q (.bl false) S
    | .non, .non => Q (.bl true) S
    | .non, .bl _ => Q (.bl false) S
    | .non, .int _ => Q (.bl false) S
    | .non, .str _ => Q (.bl false) S
    | .non, .tup _ => Q (.bl false) S
    | .bl b, .bl a => Q (.bl (decide (a = b))) S
    | _, _ => False)
  | .IsNot => (match y, x with
    | .non, .ref _ => Q (.bl true) S
    | .non, .non => Q (.bl false) S
    | .non, .bl _ => Q (.bl true) S
    | .non, .int _ => Q (.bl true) S
    | .non, .str _ => Q (.bl true) S
    | .non, .tup _ => Q (.bl true) S
    | .bl b, .bl a => Q (.bl (!decide (a = b))) S
    | _, _ => False)
  | .In => (match y with
    | .cd kvs => (match x with | .str z => Q (.bl (kvs.lookup z).isSome) S | _ => False)
    | _ => match itemsD S y with
      | some ys => (flatD x = true ∧ ys.all flatD = true ∧ Q (.bl (inF x ys)) S) ∨ wInP false x ys S Q
      | none => False)
  | .NotIn => (match y with
    | .cd kvs => (match x with | .str z => Q (.bl (!(kvs.lookup z).isSome)) S | _ => False)
    | _ => match itemsD S y with
      | some ys => (flatD x = true ∧ ys.all flatD = true ∧ Q (.bl (!inF x ys)) S) ∨ wInP true x ys S Q
      | none => False)
def wSub (x y : D) (S : Sto) (Q : D → Sto → Prop) : Prop :=
  match x with
  | .cd kvs => (match y with
    | .str z => (match kvs.lookup z with | some i => Q (.int i) S | none => False)
    | _ => False)
  | .str z => (match y with
    | .int i => z.length ≤ sizeLine ∧ (match atI z.cps.toList i with | some c => Q (.str ⟨#[c]⟩) S | none => False)
    | _ => False)
  | .tup xs => (match y with
    | .int i => (match atI xs i with | some v => Q v S | none => False)
    | _ => False)
  | .kl xs => (match y with
    | .int i => (match atI xs i with | some v => Q v S | none => False)
    | _ => False)
  | .ref a => (match S a with
    | some (.lst xs) => (match y with
      | .int i => (match atI xs i with | some v => Q v S | none => False)
      | _ => False)
    | some (.dct kvs) => (match keyD y with
      | some k => (match lookD kvs k with | some v => Q v S | none => False)
      | none => False)
    | _ => False)
  | _ => False
def wSlice (x : D) (lo hi : Option Int) (S : Sto) (Q : D → Sto → Prop) : Prop :=
  match x with
  | .tup xs => Q (.tup (cutD xs lo hi)) S
  | .kl xs => ∀ p, S p = none → Q (.ref p) (updS S p (.lst (cutD xs lo hi)))
  | .ref a => (match S a with
    | some (.lst xs) => ∀ p, S p = none → Q (.ref p) (updS S p (.lst (cutD xs lo hi)))
    | _ => False)
  | _ => False
def wSet (o i v : D) (S : Sto) (Q : Sto → Prop) : Prop :=
  match o with
  | .ref a => (match S a with
    | some (.lst xs) => (match i with
      | .int k => (match ixN xs.length k with | some j => Q (updS S a (.lst (xs.set j v))) | none => False)
      | _ => False)
    | some (.dct kvs) => (match keyD i with
      | some k => kvs.length < sizeLine ∧ Q (updS S a (.dct (putD kvs k v)))
      | none => False)
    | _ => False)
  | _ => False
def flatP : PyData → Bool
  | .none => true
  | .bool _ => true
  | .int _ => true
  | _ => false
def wBlt (f : Bi) (ds : List D) (S : Sto) (Q : D → Sto → Prop) : Prop :=
  match f, ds with
  | .len, [d] => (match lenD S d with | some n => Q (.int n) S | none => False)
  | .isinst, [d, .ty n] => (match tyD S d with
    | some t => (match kitB t n with | some b => Q (.bl b) S | none => False)
    | none => False)
  | .tuple, [d] => (match itemsD S d with | some xs => Q (.tup xs) S | none => False)
  | .list, [d] => (match itemsD S d with | some xs => ∀ p, S p = none → Q (.ref p) (updS S p (.lst xs)) | none => False)
  | .int, [.int i] => Q (.int i) S
  | .int, [.bl b] => Q (.int (if b then 1 else 0)) S
  | .max, [.int i, .int j] => Q (.int (if j > i then j else i)) S
  | .min, [.int i, .int j] => Q (.int (if j < i then j else i)) S
  | .max, [.ref a] => (match S a with
    | some (.lst xs) => (match intsOf xs with | some ns => 0 < ns.length ∧ ∀ m, m ∈ ns → (∀ x, x ∈ ns → x ≤ m) → Q (.int m) S | none => False)
    | _ => False)
  | .min, [.ref a] => (match S a with
    | some (.lst xs) => (match intsOf xs with | some ns => 0 < ns.length ∧ ∀ m, m ∈ ns → (∀ x, x ∈ ns → m ≤ x) → Q (.int m) S | none => False)
    | _ => False)
  | .abs, [.int i] => Q (.int (if i < 0 then -i else i)) S
  | .all, [.ref a] => (match S a with
    | some (.lst xs) => (match blsOf xs with | some bs => Q (.bl (bs.all id)) S | none => False)
    | _ => False)
  | .any, [.ref a] => (match S a with
    | some (.lst xs) => (match blsOf xs with | some bs => Q (.bl (bs.any id)) S | none => False)
    | _ => False)
  | .sum, [.ref a] => (match S a with
    | some (.lst xs) => (match intsOf xs with | some bs => Q (.int bs.sum) S | none => False)
    | _ => False)
  | .str, [.int i] => i.natAbs.log2 < 1920 ∧ Q (.str (toString i)) S
  | .sorted, [.ref a] => (match S a with
    | some (.lst xs) => (match intsOf xs with | some ns => ns.length < 64 ∧ ∀ (ns' : List Int) p, ns'.Perm ns → ns'.Pairwise (· ≤ ·) → S p = none → Q (.ref p) (updS S p (.lst (ns'.map D.int))) | none => False)
    | _ => False)
  | .repr, [d] => (match toPS S d with | some p => p.canLay0 = true ∧ p.showable = true ∧ p.depth ≤ 60 ∧ (flatP p = true ∨ p.shown.length ≤ sizeLine) ∧ Q (.str p.shown) S | none => False)
  | _, _ => False
def wLrev (d : D) (S : Sto) (Q : D → Sto → Prop) : Prop :=
  match itemsD S d with | some xs => ∀ p, S p = none → Q (.ref p) (updS S p (.lst xs.reverse)) | none => False
def wLzip (d e : D) (S : Sto) (Q : D → Sto → Prop) : Prop :=
  match d, e with
  | .tup xs, .tup ys => ∀ p, S p = none → Q (.ref p) (updS S p (.lst ((xs.zip ys).map fun z => .tup [z.1, z.2])))
  | _, _ => False
def wMth (m : Me) (o : D) (ds : List D) (S : Sto) (Q : D → Sto → Prop) : Prop :=
  match o with
  | .ref a => (match S a with
    | some (.lst xs) => (match m, ds with
      | .append, [d] => xs.length < sizeLine ∧ Q .non (updS S a (.lst (xs ++ [d])))
      | .pop, [] => (match xs[xs.length - 1]? with | some y => Q y (updS S a (.lst xs.dropLast)) | none => False)
      | .pop, [.int i] => 0 ≤ i ∧ i < 2 ^ 62 ∧ (match xs[i.toNat]? with | some y => Q y (updS S a (.lst (xs.eraseIdx i.toNat))) | none => False)
      | .insert, [.int i, d] => 0 ≤ i ∧ i < 2 ^ 62 ∧ xs.length < sizeLine ∧ Q .non (updS S a (.lst (xs.take i.toNat ++ [d] ++ xs.drop i.toNat)))
      | .extend, [.ref b] => (match S b with
        | some (.lst ys) => xs.length + ys.length ≤ sizeLine ∧ Q .non (updS S a (.lst (xs ++ ys)))
        | _ => False)
      | .clear, [] => Q .non (updS S a (.lst []))
      | .reverse, [] => Q .non (updS S a (.lst xs.reverse))
      | .count, [d] => flatD d = true ∧ xs.all flatD = true ∧ Q (.int (xs.countP fun y => eqF y d : Nat)) S
      | _, _ => False)
    | some (.dct kvs) => (match m, ds with
      | .get, [k] => (match keyD k with | some k => Q ((lookD kvs k).getD .non) S | none => False)
      | .get, [k, d] => (match keyD k with | some k => Q ((lookD kvs k).getD d) S | none => False)
      | _, _ => False)
    | _ => False)
  | _ => False

def Me.ofDict : Me → Bool
  | .get => true
  | _ => false
def okRecv (m : Me) (S : Sto) : D → Bool
  | .ref a => match S a with
    | some (.lst _) => !m.ofDict
    | some (.dct _) => m.ofDict
    | _ => false
  | _ => false

mutual
def wpG : Tg → D → StD → Sto → (StD → Prop) → Prop
  | .nm i, d, σ, _, Q => Q (σ.set i (some d))
  | .tup gs, d, σ, S, Q => match itemsD S d with
    | some ds => ds.length = gs.length ∧ wpGs gs ds σ S Q
    | none => False
def wpGs : List Tg → List D → StD → Sto → (StD → Prop) → Prop
  | [], _, σ, _, Q => Q σ
  | g :: gs, d :: ds, σ, S, Q => wpG g d σ S fun σ' => wpGs gs ds σ' S Q
  | _ :: _, [], _, _, _ => False
end
def wipeD (σ : StD) : List Nat → StD
  | [] => σ
  | v :: vs => (wipeD σ vs).set v none

structure Exc where
  cls : Str
  ns : List Str
  ds : List D
def xclT : List (Str × List Str) := [("NoHead", ["word", "at"]), ("NoProgram", ["word", "at"]), ("NoText", ["at"]), ("NoStock", ["word", "at"]), ("NoAnswer", ["answer"]), ("NoInputs", ["at"]), ("Clash", ["at", "number"])]
def xcl (n : Str) : Option (List Str) := xclT.lookup n
def wBack (d : D) (S : Sto) (Q : D → Sto → Prop) : Prop :=
  match d with | .ref a => (match S a with | some (.lst xs) => ∀ p, S p = none → Q (.ref p) (updS S p (.lst xs.reverse)) | _ => False) | .tup xs => Q (.tup xs.reverse) S | _ => False
def wLset (d : D) (S : Sto) (Q : D → Sto → Prop) : Prop :=
  match d with | .tup xs => (match intsOf xs with | some ns => ns.length ≤ 1000 ∧ ∀ out : List Int, out.Nodup → (∀ k, k ∈ out ↔ k ∈ ns) → Q (.int out.length) S | none => False) | _ => False
def wLrng (d : D) (S : Sto) (Q : D → Sto → Prop) : Prop :=
  match d with | .int n => 0 ≤ n ∧ n ≤ 1000 ∧ ∀ p, S p = none → Q (.ref p) (updS S p (.lst ((List.range n.toNat).map fun i => .int (i : Nat)))) | _ => False
def wIsx (m : Str) (d : D) (S : Sto) (Q : D → Sto → Prop) : Prop :=
  match d with | .exn n _ _ => Q (.bl (decide (n = m))) S | _ => False
def wAtr (f : Str) (d : D) (S : Sto) (Q : D → Sto → Prop) : Prop :=
  match d with | .exn _ ns ds => (match (ns.zip ds).lookup f with | some v => Q v S | none => False) | _ => False
def wFld (f : Str) (d : D) (S : Sto) (Q : D → Sto → Prop) : Prop :=
  match d with | .ref a => (match S a with | some (.ins _ fs) => (match fs.lookup f with | some v => Q v S | none => False) | _ => False) | _ => False
def putFD (f : Str) (v : D) : List (Str × D) → List (Str × D)
  | [] => [(f, v)]
  | (g, x) :: r => if g = f then (g, v) :: r else (g, x) :: putFD f v r
def wSetf (f : Str) (o v : D) (S : Sto) (Q : Sto → Prop) : Prop :=
  match o with | .ref a => (match S a with | some (.ins c fs) => fs.length < 100 ∧ Q (updS S a (.ins c (putFD f v fs))) | _ => False) | _ => False
def okSelf (c m : Str) (S : Sto) : D → Bool
  | .ref a => match S a with
    | some (.ins c' fs) => decide (c' = c) && (fs.lookup m).isNone
    | _ => false
  | _ => false
def isIns (c : Str) (S : Sto) : D → Bool
  | .ref a => match S a with
    | some (.ins c' _) => decide (c' = c)
    | _ => false
  | _ => false
def padT (q : Str) (n : Nat) : List D := if q = "Bounds.__init__" ∧ n = 1 then [.tup []] else []
def kwL : List (Str × (Nat × List Str)) := [("met_by", (2, ["many"]))]
def kwT (f : Str) : Option (Nat × List Str) := kwL.lookup f
abbrev EX := Exc → StD → Sto → Prop
abbrev Cal := Str → List D → Sto → (D → Sto → Prop) → (Exc → Sto → Prop) → Prop
structure Cw where
  cal : Cal
  gl : Str → Option D
structure EndD where
  nx : StD → Sto → Prop
  rt : D → Sto → Prop
  bk : StD → Sto → Prop
  ct : StD → Sto → Prop
def lcL (turn : D → Sto → (Option D → Sto → Prop) → Prop) (G : Sto → Prop) (Q : D → Sto → Prop) : List D → List D → Sto → Prop
  | [], acc, S => G S ∧ ∀ p, S p = none → Q (.ref p) (updS S p (.lst acc))
  | d :: ds, acc, S => G S ∧ acc.length < sizeLine ∧ turn d S fun o S' => match o with
    | some v => lcL turn G Q ds (acc ++ [v]) S'
    | none => lcL turn G Q ds acc S'
def forL (turn : D → (StD → Sto → Prop) → StD → Sto → Prop) (G : Sto → Prop) (E : StD → Sto → Prop) : List D → StD → Sto → Prop
  | [], σ, S => G S ∧ E σ S
  | d :: ds, σ, S => G S ∧ turn d (forL turn G E ds) σ S
def pairD (x y : D) : D := .tup [x, y]
section
variable (C : Cw)
mutual
def wpE (ex : EX) : T → WE
  | .var i => fun σ S Q => match σ[i]? with | some (some d) => Q d S | _ => False
  | .int i => fun _ S Q => Q (.int i) S
  | .bl b => fun _ S Q => Q (.bl b) S
  | .non => fun _ S Q => Q .non S
  | .str x => fun _ S Q => Q (.str x) S
  | .bty x => fun _ S Q => Q (.ty x) S
  | .glob x => fun _ S Q => match C.gl x with | some d => Q d S | none => False
  | .bin op a b => fun σ S Q => wpE ex a σ S fun x S1 => wpE ex b σ S1 fun y S2 => wBin op x y S2 Q
  | .neg a => fun σ S Q => wpE ex a σ S fun x S1 => match x with | .int i => Q (.int (-i)) S1 | _ => False
  | .cmp op a b => fun σ S Q => wpE ex a σ S fun x S1 => wpE ex b σ S1 fun y S2 => wCmp op x y S2 Q
  | .chain op op2 a b c => fun σ S Q => wpE ex a σ S fun x S1 => wpE ex b σ S1 fun y S2 => wCmp op x y S2 fun z S3 => match z with
    | .bl k => if k = true then wpE ex c σ S3 fun u S4 => wCmp op2 y u S4 Q else Q (.bl false) S3
    | _ => False
  | .bop op ts => fun σ S Q => wpB ex op ts σ S Q
  | .nt a => fun σ S Q => wpE ex a σ S fun d S1 => match tru S1 d with | some k => Q (.bl (!k)) S1 | none => False
  | .ite c a b => fun σ S Q => wpT ex c σ S fun k S1 => if k = true then wpE ex a σ S1 Q else wpE ex b σ S1 Q
  | .tup ts => fun σ S Q => wpEs ex ts σ S fun ds S1 => ds.length ≤ 100 ∧ Q (.tup ds) S1
  | .lst ts => fun σ S Q => wpEs ex ts σ S fun ds S1 => ds.length ≤ 100 ∧ ∀ p, S1 p = none → Q (.ref p) (updS S1 p (.lst ds))
  | .sub a i => fun σ S Q => wpE ex a σ S fun x S1 => wpE ex i σ S1 fun y S2 => wSub x y S2 Q
  | .slice a lo hi => fun σ S Q => wpE ex a σ S fun x S1 => wpO ex lo σ S1 fun l S2 => wpO ex hi σ S2 fun h S3 => wSlice x l h S3 Q
  | .call f ts => fun σ S Q => wpEs ex ts σ S fun ds S1 => C.cal f ds S1 Q fun x S2 => ex x σ S2
  | .callK f ts ks us => fun σ S Q => wpEs ex ts σ S fun ds S1 => ds.length = ts.length ∧ wpEs ex us σ S1 fun es S2 => es.length = us.length ∧ C.cal f (ds ++ es) S2 Q fun x S3 => ex x σ S3
  | .blt f ts => fun σ S Q => wpEs ex ts σ S fun ds S1 => wBlt f ds S1 Q
  | .lrev a => fun σ S Q => wpE ex a σ S fun x S1 => wLrev x S1 Q
  | .lzip a b => fun σ S Q => wpE ex a σ S fun x S1 => wpE ex b σ S1 fun y S2 => wLzip x y S2 Q
  | .lset a => fun σ S Q => wpE ex a σ S fun x S1 => wLset x S1 Q
  | .lrng a => fun σ S Q => wpE ex a σ S fun x S1 => wLrng x S1 Q
  | .mth m a ts => fun σ S Q => wpE ex a σ S fun x S1 => okRecv m S1 x = true ∧ wpEs ex ts σ S1 fun ds S2 => wMth m x ds S2 Q
  | .lc g it ifs own e => fun σ S Q => wpI ex it σ S fun ds G S1 =>
      lcL (fun d S2 k => wpG g d (wipeD σ (own.map (·.2))) S2 fun σ2 => wpTs ifs σ2 S2 fun b S3 => if b = true then wpE (fun _ _ _ => False) e σ2 S3 fun v S4 => k (some v) S4 else k none S3) G Q ds [] S1
  | .dct ks vs => fun σ S Q => wpEs ex vs σ S fun ds S1 => ds.length = ks.length ∧ 
      ∀ p, S1 p = none → Q (.ref p) (updS S1 p (.dct ((ks.zip ds).foldl (fun acc kv => putD acc (.inr kv.1) kv.2) [])))
  | .isx a m => fun σ S Q => wpE ex a σ S fun x S1 => wIsx m x S1 Q
  | .atr a f => fun σ S Q => wpE ex a σ S fun x S1 => wAtr f x S1 Q
  | .back a => fun σ S Q => wpE ex a σ S fun x S1 => wBack x S1 Q
  | .new q c ts => fun σ S Q => wpEs ex ts σ S fun ds S1 => ∀ x, S1 x = none → C.cal q (.ref x :: (ds ++ padT q ts.length)) (updS S1 x (.ins c [])) (fun v S2 => v = .non ∧ Q (.ref x) S2) fun xx S2 => ex xx σ S2
  | .fld a f => fun σ S Q => wpE ex a σ S fun x S1 => wFld f x S1 Q
  | .meth q c m a ts => fun σ S Q => wpE ex a σ S fun x S1 => okSelf c m S1 x = true ∧ wpEs ex ts σ S1 fun ds S2 => C.cal q (x :: ds) S2 Q fun xx S3 => ex xx σ S3
  | .eqo q c a b => fun σ S Q => wpE ex a σ S fun x S1 => wpE ex b σ S1 fun y S2 => isIns c S2 x = true ∧ isIns c S2 y = true ∧ C.cal q [x, y] S2 (fun d S3 => ∃ k, d = .bl k ∧ Q (.bl k) S3) fun xx S3 => ex xx σ S3
  | .isc a m => fun σ S Q => wpE ex a σ S fun x S1 => isIns m S1 x = true ∧ Q (.bl true) S1
def wpEs (ex : EX) : List T → WA
  | [] => fun _ S Q => Q [] S
  | t :: ts => fun σ S Q => wpE ex t σ S fun d S1 => wpEs ex ts σ S1 fun ds S2 => Q (d :: ds) S2
def wpO (ex : EX) : Option T → StD → Sto → (Option Int → Sto → Prop) → Prop
  | none => fun _ S Q => Q none S
  | some t => fun σ S Q => wpE ex t σ S fun d S1 => match d with | .int i => Q (some i) S1 | _ => False
def wpB (ex : EX) (op : BoolOp) : List T → WE
  | [] => fun _ _ _ => False
  | [t] => fun σ S Q => wpE ex t σ S Q
  | t :: ts => fun σ S Q => wpE ex t σ S fun d S1 => match tru S1 d with
    | some k => (match op with
      | .And => if k = true then wpB ex op ts σ S1 Q else Q d S1
      | .Or => if k = true then Q d S1 else wpB ex op ts σ S1 Q)
    | none => False
def wpT (ex : EX) : T → WT
  | .bop op ts => fun σ S Q => wpTB ex op ts σ S Q
  | .nt a => fun σ S Q => wpT ex a σ S fun k S1 => Q (!k) S1
  | .var i => fun σ S Q => match σ[i]? with
    | some (some d) => (match tru S d with | some k => Q k S | none => False)
    | _ => False
  | .cmp op a b => fun σ S Q => wpE ex a σ S fun x S1 => wpE ex b σ S1 fun y S2 => wCmp op x y S2 fun z S3 => match z with
    | .bl k => Q k S3
    | _ => False
  | .chain op op2 a b c => fun σ S Q => wpE ex a σ S fun x S1 => wpE ex b σ S1 fun y S2 => wCmp op x y S2 fun z S3 => match z with
    | .bl k => if k = true then wpE ex c σ S3 fun u S4 => wCmp op2 y u S4 fun z S5 => (match z with | .bl k => Q k S5 | _ => False) else Q false S3
    | _ => False
  | .call f ts => fun σ S Q => wpEs ex ts σ S fun ds S1 => C.cal f ds S1 (fun d S2 => match tru S2 d with | some k => Q k S2 | none => False) fun x S2 => ex x σ S2
  | .meth q c m a ts => fun σ S Q => wpE ex a σ S fun x S1 => okSelf c m S1 x = true ∧ wpEs ex ts σ S1 fun ds S2 => C.cal q (x :: ds) S2 (fun d S3 => match tru S3 d with | some k => Q k S3 | none => False) fun xx S3 => ex xx σ S3
  | .isc a m => fun σ S Q => wpE ex a σ S fun x S1 => isIns m S1 x = true ∧ Q true S1
  | .sub a i => fun σ S Q => wpE ex a σ S fun x S1 => wpE ex i σ S1 fun y S2 => wSub x y S2 fun d S3 => match tru S3 d with | some k => Q k S3 | none => False
  | .blt f ts => fun σ S Q => wpEs ex ts σ S fun ds S1 => wBlt f ds S1 fun d S2 => match tru S2 d with | some k => Q k S2 | none => False
  | _ => fun _ _ _ => False
def wpTB (ex : EX) (op : BoolOp) : List T → WT
  | [] => fun _ _ _ => False
  | [t] => fun σ S Q => wpT ex t σ S Q
  | t :: ts => fun σ S Q => wpT ex t σ S fun k S1 => match op with
    | .And => if k = true then wpTB ex op ts σ S1 Q else Q false S1
    | .Or => if k = true then Q true S1 else wpTB ex op ts σ S1 Q
def wpTs : List T → WT
  | [] => fun _ S Q => Q true S
  | [t] => fun σ S Q => wpT (fun _ _ _ => False) t σ S Q
  | _ => fun _ _ _ => False
def wpI (ex : EX) : Ti → StD → Sto → (List D → (Sto → Prop) → Sto → Prop) → Prop
  | .seq e => fun σ S Q => wpE ex e σ S fun d S1 => match d with
    | .tup ds => Q ds (fun _ => True) S1
    | .kl ds => Q ds (fun _ => True) S1
    | .ref a => (match S1 a with
      | some (.lst ds) => Q ds (fun S => S a = some (.lst ds)) S1
      | _ => False)
    | _ => False
  | .rng1 a => fun σ S Q => wpE ex a σ S fun d S1 => match d with
    | .int n => -(2 ^ 62) ≤ n ∧ n < 2 ^ 62 ∧ Q ((List.range n.toNat).map fun i => .int (i : Nat)) (fun _ => True) S1
    | _ => False
  | .rng2 a b => fun σ S Q => wpE ex a σ S fun x S1 => wpE ex b σ S1 fun y S2 => match x, y with
    | .int i, .int j => (-(2 ^ 62) ≤ i ∧ i < 2 ^ 62 ∧ -(2 ^ 62) ≤ j ∧ j < 2 ^ 62) ∧ Q ((List.range (j - i).toNat).map fun k => .int (i + (k : Nat))) (fun _ => True) S2
    | _, _ => False
  | .enm e => fun σ S Q => wpE ex e σ S fun d S1 => match d with
    | .ref a => (match S1 a with
      | some (.lst ds) => Q ((List.range ds.length).zipWith (fun i d => pairD (.int (i : Nat)) d) ds) (fun S => S a = some (.lst ds)) S1
      | _ => False)
    | .tup ds => Q ((List.range ds.length).zipWith (fun i d => pairD (.int (i : Nat)) d) ds) (fun _ => True) S1
    | _ => False
  | .zip a b => fun σ S Q => wpE ex a σ S fun x S1 => wpE ex b σ S1 fun y S2 => match x, y with
    | .tup xs, .tup ys => Q ((xs.zip ys).map fun z => pairD z.1 z.2) (fun _ => True) S2
    | .ref a, .ref b => (match S2 a, S2 b with
      | some (.lst xs), some (.lst ys) => Q ((xs.zip ys).map fun z => pairD z.1 z.2) (fun S => S a = some (.lst xs) ∧ S b = some (.lst ys)) S2
      | _, _ => False)
    | _, _ => False
  | .rev e => fun σ S Q => wpE ex e σ S fun d S1 => match d with
    | .tup ds => Q ds.reverse (fun _ => True) S1
    | .ref a => (match S1 a with
      | some (.lst ds) => Q ds.reverse (fun S => S a = some (.lst ds)) S1
      | _ => False)
    | _ => False
end
mutual
def wpS (ex : EX) : TS → EndD → StD → Sto → Prop
  | .ex e => fun D σ S => wpE C ex e σ S fun _ S1 => D.nx σ S1
  | .asg g e => fun D σ S => wpE C ex e σ S fun d S1 => wpG g d σ S1 fun σ' => D.nx σ' S1
  | .par i j a b => fun D σ S => wpE C ex a σ S fun x S1 => wpE C ex b σ S1 fun y S2 => D.nx ((σ.set i (some x)).set j (some y)) S2
  | .par3 i j l a b c => fun D σ S => wpE C ex a σ S fun x S1 => wpE C ex b σ S1 fun y S2 => wpE C ex c σ S2 fun z S3 => D.nx (((σ.set i (some x)).set j (some y)).set l (some z)) S3
  | .star is i js e => fun D σ S => wpE C ex e σ S fun d S1 => match itemsD S1 d with
    | some ds => is.length + js.length ≤ ds.length ∧ ds.length ≤ 16384 ∧ ∀ p, S1 p = none → wpGs ((is ++ [i] ++ js).map Tg.nm) (ds.take is.length ++ [.ref p] ++ ds.drop (ds.length - js.length)) σ
        (updS S1 p (.lst ((ds.drop is.length).take (ds.length - is.length - js.length)))) fun σ' => D.nx σ' (updS S1 p (.lst ((ds.drop is.length).take (ds.length - is.length - js.length))))
    | none => False
  | .set a i e => fun D σ S => wpE C ex e σ S fun v S1 => wpE C ex a σ S1 fun o S2 => wpE C ex i σ S2 fun k S3 => wSet o k v S3 fun S4 => D.nx σ S4
  | .setf a f e => fun D σ S => wpE C ex e σ S fun v S1 => wpE C ex a σ S1 fun o S2 => wSetf f o v S2 fun S3 => D.nx σ S3
  | .aug op i e => fun D σ S => match σ[i]? with
    | some (some (.int x)) => wpE C ex e σ S fun d S1 => (match op, d with
      | .Add, .int y => D.nx (σ.set i (some (.int (x + y)))) S1
      | .Sub, .int y => D.nx (σ.set i (some (.int (x - y)))) S1
      | _, _ => False)
    | _ => False
  | .ife c a b => fun D σ S => wpT C ex c σ S fun k S1 => if k = true then wpSs ex a D σ S1 else wpSs ex b D σ S1
  | .whil c b => fun D σ S => ∃ W : Nat → StD → Sto → Prop, (∃ m, W m σ S) ∧ ∀ m σ S, W m σ S → wpT C ex c σ S fun k S1 =>
      if k = true then wpSs ex b { D with nx := fun σ' S' => ∃ m', m' < m ∧ W m' σ' S', ct := fun σ' S' => ∃ m', m' < m ∧ W m' σ' S', bk := D.nx } σ S1 else D.nx σ S1
  | .fr g it b => fun D σ S => wpI C ex it σ S fun ds G S1 => forL (fun d N σ S => wpG g d σ S fun σ' => wpSs ex b { D with nx := N, ct := N, bk := D.nx } σ' S) G D.nx ds σ S1
  | .ret e => fun D σ S => wpE C ex e σ S D.rt
  | .retN => fun D _ S => D.rt .non S
  | .pass => fun D σ S => D.nx σ S
  | .brk => fun D σ S => D.bk σ S
  | .cont => fun D σ S => D.ct σ S
  | .never => fun _ _ _ => False
  | .rais n ts => fun _ σ S => wpEs C ex ts σ S fun ds S1 => match xcl n with
    | some ns => ds.length = ns.length ∧ ex ⟨n, ns.reverse, ds.reverse⟩ σ S1
    | none => False
  | .tryx b m i h => fun D σ S => wpSs (fun x σ' S' => if x.cls = m then
      wpSs (fun _ _ _ => False) h ⟨fun σ2 S2 => D.nx (σ2.set i none) S2, D.rt, fun σ2 S2 => D.bk (σ2.set i none) S2, fun σ2 S2 => D.ct (σ2.set i none) S2⟩ (σ'.set i (some (.exn x.cls x.ns x.ds))) S'
      else ex x σ' S') b D σ S
def wpSs (ex : EX) : List TS → EndD → StD → Sto → Prop
  | [] => fun D σ S => D.nx σ S
  | s :: ss => fun D σ S => wpS ex s { D with nx := wpSs ex ss D } σ S
end
end
structure DefT where
  np : Nat
  ns : Nat
  body : List TS
def startD (ns : Nat) (ds : List D) : StD := ds.map some ++ List.replicate (ns - ds.length) none
def sem (defs : Str → Option DefT) (gl : Str → Option D) : Nat → Cal
  | 0 => fun _ _ _ _ _ => False
  | k + 1 => fun f ds S Q E => match defs f with
    | some d => ds.length = d.np ∧ wpSs ⟨sem defs gl k, gl⟩ (fun x _ S' => E x S') d.body ⟨fun _ S' => Q .non S', Q, fun _ _ => False, fun _ _ => False⟩ (startD d.ns ds) S
    | none => False
end Z

set_option Elab.async false
set_option linter.all false
set_option maxRecDepth 100000
set_option maxHeartbeats 4000000
namespace Z
open PySem PySem.Spec PyProof.Rows L2
section
variable {K : PySem.W.Frag} {w : World} {H H' : Hp} {S S' : Sto} {R : D → Sto → Prop} {Q : VK} {X : Cx}

theorem relds_nil : RelDs K w H [] [] := by simp only [RelDs]
theorem relds_cons {d : D} {ds : List D} {v : V} {vs : List V} (a : RelD K w H d v) (b : RelDs K w H ds vs) : RelDs K w H (d :: ds) (v :: vs) := by
  simp only [RelDs]; exact ⟨v, vs, rfl, a, b⟩
theorem relds_one {d : D} {vs : List V} (h : RelDs K w H [d] vs) : ∃ v, vs = [v] ∧ RelD K w H d v := by
  simp only [RelDs] at h
  obtain ⟨v, r, rfl, h1, rfl⟩ := h
  exact ⟨v, rfl, h1⟩
theorem relds_two {d e : D} {vs : List V} (h : RelDs K w H [d, e] vs) : ∃ v u, vs = [v, u] ∧ RelD K w H d v ∧ RelD K w H e u := by
  simp only [RelDs] at h
  obtain ⟨v, r, rfl, h1, u, r', rfl, h2, rfl⟩ := h
  exact ⟨v, u, rfl, h1, h2⟩
theorem HR.lst (h : HR K w H S) {a : Addr} {ds : List D} (e : S a = some (.lst ds)) : ∃ vs, H a = some (.lst vs) ∧ RelDs K w H ds vs := h a _ e
theorem HR.sql (h : HR K w H S) {a : Addr} {ds : List D} (e : S a = some (.lst ds)) : ∃ vs, SqL K H a vs ∧ RelDs K w H ds vs := by
  obtain ⟨vs, h1, h2⟩ := h a _ e
  exact ⟨vs, SqL.of h1, h2⟩
theorem items_of (h : HR K w H S) {d : D} {v : V} {ds : List D} (e : itemsD S d = some ds) (r : RelD K w H d v) : ∃ a vs, v = .ref a ∧ RelDs K w H ds vs ∧ (SqL K H a vs ∨ SqT K H a vs) ∧ (d = .tup ds → SqT K H a vs) := by
  unfold itemsD at e
  split at e
  · cases e
    simp only [RelD] at r
    obtain ⟨a, vs, r1, r2, r3⟩ := r
    exact ⟨a, vs, r1, r3, .inr r2, fun _ => r2⟩
  · cases e
    simp only [RelD] at r
    obtain ⟨a, vs, r1, r2, r3⟩ := r
    exact ⟨a, vs, r1, r3, .inl r2.sq, fun z => nomatch z⟩
  · rename_i a
    simp only [RelD] at r
    subst r
    split at e
    · cases e
      rename_i q
      obtain ⟨vs, h1, h2⟩ := h.sql q
      exact ⟨a, vs, rfl, h2, .inl h1, fun z => nomatch z⟩
    · cases e
  · cases e

theorem tup_once (l : Addr) (items : Array Value) (n : Nat) (dd : Option Addr) (sl : Array (Option Value)) (u : Tok) :
    Meets (Builtin.«tuple.__mul__» ⟨[.ref l, .int 1 u], []⟩) (fun _ R s => s.heap.get? l = some { cls := .type "tuple", dict := dd, data := .seq items n, slots := sl } ∧ R (.ok (.ret (Value.ref l))) s) :=
  .of_wp fun prog w A R s h => by
    obtain ⟨hp, g, d, tk, os⟩ := s
    obtain ⟨hl, h⟩ := h
    have f1 := AutoSeq1.idx_int
    wp_walk using wpAny_loadPart' hl
    repeat (first
      | (refine wpAny_ite_false (decide_eq_false (by decide)) ?_; wp_walk using wpAny_loadPart' hl)
      | (refine wpAny_ite_true (decide_eq_true (by simp)) ?_; wp_walk using wpAny_loadPart' hl))
    exact ⟨_, rfl, h⟩
def rOnce (K : PySem.W.Frag) : R2 := fun x y H Q => ∃ l xs, x = .ref l ∧ y = .int 1 ∧ SqT K H l xs ∧ Q (.ref l) H
theorem op_once : OpR X (binaryOp .Mult) (rOnce X.K) := by
  intro pins s σ H x y v u Q I rx ry h
  obtain ⟨l, xs, rfl, rfl, hT, q⟩ := h
  cases rx
  obtain ⟨t, rfl⟩ := ry
  obtain ⟨its, r, ⟨⟨cls, dd, data, sl⟩, ho, hc, n, hd⟩, hs⟩ := I.tuple hT
  simp only at hc hd
  subst hc hd
  refine wpAny_binaryOp_repeat_ref (T := "tuple") (U := "int") (by decide) ⟨_, ho, rfl⟩ (fun s' => typeIs_int s' 1 t) noFill_tuple_mul F.fills_int_mul F.slot_int_rmul repeat_tuple F.slot_int_index.lookup
    (call_meets F.slot_int_rmul (typeIs_int s 1 t) F.entry_int_rmul (F.args_int_rmul_2 _ _) (int_rmul_tuple 1 t l its.toArray n dd sl)
      ⟨ho, rfl, ⟨_, ho, rfl⟩, call_meets F.slot_tuple_mul ⟨_, ho, rfl⟩ F.entry_tuple_mul (F.args_tuple_mul_2 _ _) (tup_once l its.toArray n dd sl t) ⟨ho, ?_⟩⟩)
  exact ⟨.ref l, H, I, rfl, q⟩
theorem RelDs.rep {ds : List D} {vs : List V} (h : RelDs K w H ds vs) : ∀ n : Nat, RelDs K w H (List.replicate n ds).flatten (List.replicate n vs).flatten
  | 0 => by simp only [List.replicate_zero, List.flatten_nil, RelDs]
  | n + 1 => by
    simp only [List.replicate_succ, List.flatten_cons]
    exact RelDs.append h (RelDs.rep h n)
theorem bin_ok (op : Operator) : OpR X (binaryOp op) (rD2 X.K X.w (wBin op)) := by
  intro pins s σ H x y v u Q I rx ry hh
  obtain ⟨dx, dy, S, R, r1, r2, h, f, k⟩ := hh
  unfold wBin at f
  split at f
  · simp only [RelD] at r1 r2
    exact op_add pins s σ H x y v u Q I rx ry ⟨_, _, r1, r2, k.same f (by simp only [RelD]) h⟩
  · rename_i a b
    simp only [RelD] at r1 r2
    obtain ⟨p, vs, rfl, t1, q1⟩ := r1
    obtain ⟨p', vs', rfl, t2, q2⟩ := r2
    obtain ⟨f0, f⟩ := f
    refine op_catA pins s σ H _ _ v u Q I rx ry ⟨p, p', vs, vs', rfl, rfl, t1, t2, by rw [← q1.length, ← q2.length]; exact f0, fun e => ?_, fun e1 e2 => ?_, fun e1 e2 q nq => ?_⟩
    · subst e
      have e0 : a = [] := List.eq_nil_of_length_eq_zero (by rw [q1.length]; rfl)
      subst e0
      exact k.same f (by simp only [RelD, List.nil_append]; exact ⟨_, _, rfl, t2, q2⟩) h
    · subst e2
      have e0 : b = [] := List.eq_nil_of_length_eq_zero (by rw [q2.length]; rfl)
      subst e0
      exact k.same f (by simp only [RelD, List.append_nil]; exact ⟨_, _, rfl, t1, q1⟩) h
    · exact k.tup f h (RelDs.append q1 q2) nq
  · simp only [RelD] at r1 r2
    obtain ⟨f0, f⟩ := f
    exact op_add_str pins s σ H x y v u Q I rx ry ⟨_, _, r1, r2, f0, k.same f (by simp only [RelD]) h⟩
  · simp only [RelD] at r1 r2
    split at f
    · rename_i e1 e2
      obtain ⟨f0, f⟩ := f
      obtain ⟨vs, h1, q1⟩ := h.lst e1
      obtain ⟨vs', h2, q2⟩ := h.lst e2
      exact op_cat pins s σ H x y v u Q I rx ry ⟨_, _, _, _, r1, r2, h1, h2, by rw [← q1.length, ← q2.length]; exact f0, fun p np => k.lst (f p (h.fresh np)) h (RelDs.append q1 q2) np⟩
    · exact f.elim
  · simp only [RelD] at r1 r2
    exact op_sub pins s σ H x y v u Q I rx ry ⟨_, _, r1, r2, k.same f (by simp only [RelD]) h⟩
  · simp only [RelD] at r1 r2
    exact op_mul pins s σ H x y v u Q I rx ry ⟨_, _, r1, r2, f.1, k.same f.2 (by simp only [RelD]) h⟩
  · simp only [RelD] at r1 r2
    obtain ⟨a, vs, e1, e2, e3⟩ := r1
    obtain ⟨f1, f2, f3, f4, f⟩ := f
    rename_i xs n
    by_cases h1 : n = 1
    · subst h1
      refine op_once pins s σ H x y v u Q I rx ry ⟨a, vs, e1, r2, e2, k.same f ?_ h⟩
      simp only [RelD]
      exact ⟨a, vs, e1 ▸ rfl, e2, by simpa using e3⟩
    · refine op_repT pins s σ H x y v u Q I rx ry ⟨a, n, vs, e1, r2, e2, fun z => f1 ?_, by omega, f4, by rw [← e3.length]; exact f2, fun p np => k.tup f h (e3.rep _) np⟩
      subst z
      exact List.eq_nil_of_length_eq_zero (by rw [e3.length]; rfl)
  · simp only [RelD] at r1 r2
    split at f
    · rename_i n _ xs e1
      obtain ⟨f1, f2, f3, f⟩ := f
      obtain ⟨vs, h1, q1⟩ := h.lst e1
      refine op_rep pins s σ H x y v u Q I rx ry ⟨_, _, vs, r1, r2, h1, by omega, by omega, ?_, fun p np => k.lst (f p (h.fresh np)) h (q1.rep _) np⟩
      have hl := q1.length
      rw [sizeLine_eq, ← hl]
      have : ∀ a b : Nat, a ≤ 1000 → b ≤ 1000 → a * b ≤ 1000 * 1000 := fun a b => Nat.mul_le_mul
      have := this _ _ f3 (by omega : n.toNat ≤ 1000)
      omega
    · exact f.elim
  · simp only [RelD] at r1 r2
    exact op_fdiv pins s σ H x y v u Q I rx ry ⟨_, _, r1, r2, f.1, k.same f.2 (by simp only [RelD]) h⟩
  · simp only [RelD] at r1 r2
    exact op_mod pins s σ H x y v u Q I rx ry ⟨_, _, r1, r2, f.1, k.same f.2 (by simp only [RelD]) h⟩
  · simp only [RelD] at r1 r2
    exact op_pow pins s σ H x y v u Q I rx ry ⟨_, _, r1, r2, f.1, k.same f.2 (by simp only [RelD]) h⟩
  · exact f.elim

mutual
theorem dp_of : ∀ (d : D) (v : V) (p : PyData), RelD K w H d v → toP d = some p → Dp K H v p
  | .non, v, p, r, e => by simp only [RelD] at r; subst r; simp only [toP] at e; cases e; exact .non
  | .bl b, v, p, r, e => by simp only [RelD] at r; subst r; simp only [toP] at e; cases e; exact .bl b
  | .int b, v, p, r, e => by simp only [RelD] at r; subst r; simp only [toP] at e; cases e; exact .int b
  | .str b, v, p, r, e => by simp only [RelD] at r; subst r; simp only [toP] at e; cases e; exact .str b
  | .tup ds, v, p, r, e => by
    simp only [RelD] at r
    obtain ⟨a, vs, rfl, t, q⟩ := r
    simp only [toP] at e
    cases e2 : toPs ds with
    | none => rw [e2] at e; cases e
    | some ps =>
      rw [e2] at e
      cases e
      exact .tup t (dps_of ds vs ps q e2)
  | .ref _, v, p, r, e => by simp only [toP] at e; cases e
  | .ty _, v, p, r, e => by simp only [toP] at e; cases e
  | .cd _, v, p, r, e => by simp only [toP] at e; cases e
  | .kl _, v, p, r, e => by simp only [toP] at e; cases e
  | .exn _ _ _, v, p, r, e => by simp only [toP] at e; cases e
theorem dps_of : ∀ (ds : List D) (vs : List V) (ps : List PyData), RelDs K w H ds vs → toPs ds = some ps → DpAll K H vs ps
  | [], vs, ps, r, e => by simp only [RelDs] at r; subst r; simp only [toPs] at e; cases e; exact .nil
  | d :: ds, vs, ps, r, e => by
    simp only [RelDs] at r
    obtain ⟨v, t, rfl, r1, r2⟩ := r
    simp only [toPs] at e
    split at e
    · rename_i e1 e2
      cases e
      exact .cons (dp_of d v _ r1 e1) (dps_of ds t _ r2 e2)
    · cases e
end
theorem dp1_of (h : HR K w H S) {d : D} {v : V} {p : PyData} (r : RelD K w H d v) (e : toP1 S d = some p) : Dp K H v p := by
  unfold toP1 at e
  split at e
  · rename_i a
    simp only [RelD] at r
    subst r
    split at e
    · rename_i q
      obtain ⟨vs, h1, h2⟩ := h.sql q
      cases e2 : toPs _ with
      | none => rw [e2] at e; cases e
      | some ps => rw [e2] at e; cases e; exact .lst h1 (dps_of _ _ _ h2 e2)
    · cases e
  · exact dp_of _ _ _ r e
theorem dp1s_of (h : HR K w H S) : ∀ (ds : List D) (vs : List V) (ps : List PyData), RelDs K w H ds vs → toP1s S ds = some ps → DpAll K H vs ps
  | [], vs, ps, r, e => by simp only [RelDs] at r; subst r; simp only [toP1s] at e; cases e; exact .nil
  | d :: ds, vs, ps, r, e => by
    simp only [RelDs] at r
    obtain ⟨v, t, rfl, r1, r2⟩ := r
    simp only [toP1s] at e
    split at e
    · rename_i e1 e2
      cases e
      exact .cons (dp1_of h r1 e1) (dp1s_of h ds t _ r2 e2)
    · cases e
theorem dpS_of (h : HR K w H S) {d : D} {v : V} {p : PyData} (r : RelD K w H d v) (e : toPS S d = some p) : Dp K H v p := by
  unfold toPS at e
  split at e
  · rename_i a
    simp only [RelD] at r
    subst r
    split at e
    · rename_i q
      obtain ⟨vs, h1, h2⟩ := h.sql q
      split at e
      · rename_i e2
        cases e
        exact .lst h1 (dps_of _ _ _ h2 e2)
      · cases e2 : toP1s S _ with
        | none => rw [e2] at e; cases e
        | some ps => rw [e2] at e; cases e; exact .lst h1 (dp1s_of h _ _ _ h2 e2)
    · cases e
  · exact dp_of _ _ _ r e
theorem flat_of {d : D} {v : V} (r : RelD K w H d v) (f : flatD d = true) : flatV v = true := by
  cases d <;> simp only [RelD, flatD] at r f <;> first | (subst r; rfl) | cases f
theorem flats_of : ∀ {ds : List D} {vs : List V}, RelDs K w H ds vs → ds.all flatD = true → vs.all flatV = true
  | [], vs, r, f => by simp only [RelDs] at r; subst r; rfl
  | d :: ds, vs, r, f => by
    simp only [RelDs] at r
    obtain ⟨v, t, rfl, r1, r2⟩ := r
    rw [List.all_cons, Bool.and_eq_true] at f ⊢
    exact ⟨flat_of r1 f.1, flats_of r2 f.2⟩
theorem eqF_of {d e : D} {v u : V} (r1 : RelD K w H d v) (r2 : RelD K w H e u) (f1 : flatD d = true) (f2 : flatD e = true) : eqV v u = eqF d e := by
  cases d <;> first | exact absurd (show false = true from f1) Bool.false_ne_true | (simp only [RelD] at r1; subst r1; cases e <;> first | exact absurd (show false = true from f2) Bool.false_ne_true | (simp only [RelD] at r2; subst r2; rfl))
theorem inF_of {x : D} {v : V} (r1 : RelD K w H x v) (f1 : flatD x = true) : ∀ {ds : List D} {vs : List V}, RelDs K w H ds vs → ds.all flatD = true → inV v vs = inF x ds
  | [], vs, r, f => by simp only [RelDs] at r; subst r; rfl
  | d :: ds, vs, r, f => by
    simp only [RelDs] at r
    obtain ⟨u, t, rfl, q1, q2⟩ := r
    rw [List.all_cons, Bool.and_eq_true] at f
    have ih := inF_of r1 f1 q2 f.2
    unfold inV inF at ih ⊢
    rw [List.any_cons, List.any_cons, ih, eqF_of q1 r1 f.1 f1]
theorem readsAll_at {h : Heap} : ∀ {vs : List Value} {ps : List PyData} {as : List Addr}, ReadsAll h vs ps as → ∀ y ∈ vs, ∃ p bs, p ∈ ps ∧ Reads h y p bs
  | _, _, _, .nil, y, hy => nomatch hy
  | _, _, _, .cons r rs, y, hy => by
    rcases List.mem_cons.mp hy with rfl | hy
    · exact ⟨_, _, List.mem_cons_self, r⟩
    · obtain ⟨p, bs, hp, q⟩ := readsAll_at rs y hy
      exact ⟨p, bs, List.mem_cons_of_mem _ hp, q⟩
theorem canLay_mem : ∀ {ps : List PyData}, PyData.canLayAll0 ps = true → ∀ p ∈ ps, p.canLay0 = true
  | [], _, p, hp => nomatch hp
  | q :: ps, h, p, hp => by
    have h' : q.canLay0 = true ∧ PyData.canLayAll0 ps = true := by simpa [PyData.canLayAll0] using h
    rcases List.mem_cons.mp hp with rfl | hp
    · exact h'.1
    · exact canLay_mem h'.2 p hp
noncomputable def eqBy (h : Heap) (q : PyData) (y : Value) : Bool := by
  classical exact if z : ∃ p as, Reads h y p as ∧ p.canLay0 = true then PyData.eqv z.choose q else false
theorem eqBy_of {h : Heap} {q p : PyData} {y : Value} {as : List Addr} (r : Reads h y p as) (hp : p.canLay0 = true) : eqBy h q y = PyData.eqv p q := by
  classical
  have z : ∃ p as, Reads h y p as ∧ p.canLay0 = true := ⟨p, as, r, hp⟩
  unfold eqBy
  rw [dif_pos z]
  obtain ⟨bs, r2, hc⟩ := z.choose_spec
  rw [PySem.SeqAt.Reads.unique _ _ _ _ _ hc r2 r]
theorem any_eqBy {h : Heap} {q : PyData} : ∀ {vs : List Value} {ps : List PyData} {as : List Addr}, ReadsAll h vs ps as → PyData.canLayAll0 ps = true → vs.any (eqBy h q) = ps.any fun p => PyData.eqv p q
  | _, _, _, .nil, _ => rfl
  | _, _, _, .cons (d := p) (ds := ps) r rs, hc => by
    have h' : p.canLay0 = true ∧ PyData.canLayAll0 ps = true := by simpa [PyData.canLayAll0] using hc
    rw [List.any_cons, List.any_cons, eqBy_of r h'.1, any_eqBy rs h'.2]
def rInD (K : PySem.W.Frag) (neg : Bool) : R2 := fun x y H Q => ∃ a xs q ps, y = .ref a ∧ (SqL K H a xs ∨ SqT K H a xs) ∧ Dp K H x q ∧ DpAll K H xs ps ∧ q.canLay0 = true ∧ q.depth ≤ 60 ∧ PyData.canLayAll0 ps = true ∧ Q (.bl (if neg then !(ps.any fun p => PyData.eqv p q) else ps.any fun p => PyData.eqv p q)) H
theorem op_inD (hu : X.A.units + 64 < cLine) (neg : Bool) : OpR X (compareOp (if neg then .NotIn else .In)) (rInD X.K neg) := by
  intro pins s σ H x y v u Q I rx ry h
  obtain ⟨a, xs, q, ps, rfl, hq, hx, hp, c1, c2, c3, qq⟩ := h
  cases ry
  obtain ⟨as, r1⟩ := Dp.reads I q x v hx rx
  rcases hq with hq | hq
  · obtain ⟨its, r, pl, hz⟩ := I.list hq
    obtain ⟨bs, r2⟩ := Dp.readsAll I ps _ its hp r
    have he : ∀ y, y ∈ its.toArray → SeqAt.EqAt X.A.in1 s y v (eqBy s.heap q y) := fun y hy => by
      obtain ⟨p, cs, h1, h2⟩ := readsAll_at r2 y (by simpa using hy)
      rw [eqBy_of h2 (canLay_mem c3 p h1)]
      exact SeqAt.eqAt_reads p q X.A.in1 s y v cs as h2 r1 (canLay_mem c3 p h1) c1 (by have : min p.depth q.depth ≤ q.depth := Nat.min_le_right _ _; show X.A.units + 1 + _ < cLine; omega)
    have ea : its.toArray.any (eqBy s.heap q) = ps.any fun p => PyData.eqv p q := by rw [show its.toArray.any (eqBy s.heap q) = its.any (eqBy s.heap q) by simp, any_eqBy r2 c3]
    cases neg
    · exact SeqAt.in_listAt (eqBy s.heap q) pl.isList he ⟨.bl _, H, I, rfl, by rw [ea]; exact qq⟩
    · exact SeqAt.notIn_listAt (eqBy s.heap q) pl.isList he ⟨.bl _, H, I, rfl, by rw [ea]; exact qq⟩
  · obtain ⟨its, r, pl, hz⟩ := I.tuple hq
    obtain ⟨bs, r2⟩ := Dp.readsAll I ps _ its hp r
    have he : ∀ y, y ∈ its.toArray → SeqAt.EqAt X.A.in1 s y v (eqBy s.heap q y) := fun y hy => by
      obtain ⟨p, cs, h1, h2⟩ := readsAll_at r2 y (by simpa using hy)
      rw [eqBy_of h2 (canLay_mem c3 p h1)]
      exact SeqAt.eqAt_reads p q X.A.in1 s y v cs as h2 r1 (canLay_mem c3 p h1) c1 (by have : min p.depth q.depth ≤ q.depth := Nat.min_le_right _ _; show X.A.units + 1 + _ < cLine; omega)
    have ea : its.toArray.any (eqBy s.heap q) = ps.any fun p => PyData.eqv p q := by rw [show its.toArray.any (eqBy s.heap q) = its.any (eqBy s.heap q) by simp, any_eqBy r2 c3]
    cases neg
    · exact SeqAt.in_tupleAt (eqBy s.heap q) pl he ⟨.bl _, H, I, rfl, by rw [ea]; exact qq⟩
    · exact SeqAt.notIn_tupleAt (eqBy s.heap q) pl he ⟨.bl _, H, I, rfl, by rw [ea]; exact qq⟩
theorem rInD_of {K : PySem.W.Frag} {w : World} {H : Hp} {S : Sto} {neg : Bool} {dx : D} {ys : List D} {x : V} {a : Addr} {vs : List V} {R : D → Sto → Prop} {Q : VK} (h : HR K w H S) (r1 : RelD K w H dx x) (q1 : RelDs K w H ys vs) (q2 : SqL K H a vs ∨ SqT K H a vs) (f : wInP neg dx ys S R) (k : Kont K w H S R Q) : rInD K neg x (.ref a) H Q := by
  unfold wInP at f
  split at f
  · rename_i q ps e1 e2
    exact ⟨a, vs, q, ps, rfl, q2, dp_of _ _ _ r1 e1, dps_of _ _ _ q1 e2, f.1, f.2.1, f.2.2.1, k.same f.2.2.2 (by simp only [RelD]) h⟩
  · exact f.elim
theorem cmp_ok (hu : X.A.units + 64 < cLine) (op : CmpOp) : OpR X (compareOp op) (rD2 X.K X.w (wCmp op)) := by
  intro pins s σ H x y v u Q I rx ry hh
  obtain ⟨dx, dy, S, R, r1, r2, h, f, k⟩ := hh
  have eqs : ∀ neg, wEq neg dx dy S R → ∃ d e, Dp X.K H x d ∧ Dp X.K H y e ∧ SeqAt.shaped d = true ∧ SeqAt.shaped e = true ∧ Q (.bl (if neg then !PyData.eqv d e else PyData.eqv d e)) H := fun neg f => by
    unfold wEq at f
    split at f
    · rename_i e1 e2
      exact ⟨_, _, dpS_of h r1 e1, dpS_of h r2 e2, f.1, f.2.1, k.same f.2.2 (by simp only [RelD]) h⟩
    · exact f.elim
  cases op with
  | Eq => exact op_eqD hu pins s σ H x y v u Q I rx ry (eqs false f)
  | NotEq => exact op_neD hu pins s σ H x y v u Q I rx ry (eqs true f)
  | Lt =>
    simp only [wCmp] at f
    split at f
    · simp only [RelD] at r1 r2
      exact op_lt pins s σ H x y v u Q I rx ry ⟨_, _, r1, r2, k.same f (by simp only [RelD]) h⟩
    · exact f.elim
  | LtE =>
    simp only [wCmp] at f
    split at f
    · simp only [RelD] at r1 r2
      exact op_le pins s σ H x y v u Q I rx ry ⟨_, _, r1, r2, k.same f (by simp only [RelD]) h⟩
    · exact f.elim
  | Gt =>
    simp only [wCmp] at f
    split at f
    · simp only [RelD] at r1 r2
      exact op_gt pins s σ H x y v u Q I rx ry ⟨_, _, r1, r2, k.same f (by simp only [RelD]) h⟩
    · exact f.elim
  | GtE =>
    simp only [wCmp] at f
    split at f
    · simp only [RelD] at r1 r2
      exact op_ge pins s σ H x y v u Q I rx ry ⟨_, _, r1, r2, k.same f (by simp only [RelD]) h⟩
    · exact f.elim
  | Is =>
    simp only [wCmp] at f
    split at f
    case h_8 => exact f.elim
    case h_7 =>
      simp only [RelD] at r1 r2
      exact op_is_bl pins s σ H x y v u Q I rx ry ⟨_, _, r1, r2, k.same f (by simp only [RelD]) h⟩
    all_goals (refine op_isN pins s σ H x y v u Q I rx ry ⟨by simpa only [RelD] using r2, k.same f ?_ h⟩; simp only [RelD] at r1 ⊢; first | (obtain ⟨a, vs, rfl, _⟩ := r1; simp) | (subst r1; simp))
  | IsNot =>
    simp only [wCmp] at f
    split at f
    case h_8 => exact f.elim
    case h_7 =>
      simp only [RelD] at r1 r2
      exact op_isnot_bl pins s σ H x y v u Q I rx ry ⟨_, _, r1, r2, k.same f (by simp only [RelD]) h⟩
    all_goals (refine op_notN pins s σ H x y v u Q I rx ry ⟨by simpa only [RelD] using r2, k.same f ?_ h⟩; simp only [RelD] at r1 ⊢; first | (obtain ⟨a, vs, rfl, _⟩ := r1; simp) | (subst r1; simp))
  | In =>
    simp only [wCmp] at f
    split at f
    · split at f
      · simp only [RelD] at r1 r2
        obtain ⟨a, rfl, ⟨es, n, kd⟩, hz⟩ := r2
        rename_i kvs _ z
        obtain ⟨r, e1, e2⟩ := hz z
        refine op_in_kd kd pins s σ H x _ v u Q I rx ry ⟨z, r, r1, rfl, e1, k.same f ?_ h⟩
        simp only [RelD]
        cases e3 : kvs.lookup z with
        | none => rw [e3] at e2; subst e2; rfl
        | some i => rw [e3] at e2; obtain ⟨t, rfl⟩ := e2; rfl
      · exact f.elim
    · split at f
      · rename_i ys e
        obtain ⟨a, vs, rfl, q1, q2, _⟩ := items_of h e r2
        rcases f with f | f
        rotate_left
        · exact op_inD hu false pins s σ H x _ v u Q I rx ry (rInD_of h r1 q1 q2 f k)
        refine op_in_seq pins s σ H x _ v u Q I rx ry ⟨a, vs, rfl, q2, flat_of r1 f.1, flats_of q1 f.2.1, k.same f.2.2 ?_ h⟩
        simp only [RelD]
        rw [if_neg Bool.false_ne_true, inF_of r1 f.1 q1 f.2.1]
      · exact f.elim
  | NotIn =>
    simp only [wCmp] at f
    split at f
    · split at f
      · simp only [RelD] at r1 r2
        obtain ⟨a, rfl, ⟨es, n, kd⟩, hz⟩ := r2
        rename_i kvs _ z
        obtain ⟨r, e1, e2⟩ := hz z
        refine op_notIn_kd kd pins s σ H x _ v u Q I rx ry ⟨z, r, r1, rfl, e1, k.same f ?_ h⟩
        simp only [RelD]
        cases e3 : kvs.lookup z with
        | none => rw [e3] at e2; subst e2; rfl
        | some i => rw [e3] at e2; obtain ⟨t, rfl⟩ := e2; rfl
      · exact f.elim
    · split at f
      · rename_i ys e
        obtain ⟨a, vs, rfl, q1, q2, _⟩ := items_of h e r2
        rcases f with f | f
        rotate_left
        · exact op_inD hu true pins s σ H x _ v u Q I rx ry (rInD_of h r1 q1 q2 f k)
        refine op_notIn_seq pins s σ H x _ v u Q I rx ry ⟨a, vs, rfl, q2, flat_of r1 f.1, flats_of q1 f.2.1, k.same f.2.2 ?_ h⟩
        simp only [RelD, if_true, inF_of r1 f.1 q1 f.2.1]
      · exact f.elim
end
end Z

set_option Elab.async false
set_option linter.all false
set_option maxRecDepth 100000
set_option maxHeartbeats 4000000
namespace Z
open PySem PySem.Spec PyProof.Rows L2
section
variable {K : PySem.W.Frag} {w : World} {H H' : Hp} {S S' : Sto} {R : D → Sto → Prop} {Q : VK} {X : Cx}
theorem relkv_val : ∀ {kvs : List (Key × D)} {kv : List (Key × V)} (k : Key), RelKV K w H kvs kv → (match lookD kvs k with | none => valV kv k = none | some d => ∃ v, valV kv k = some v ∧ RelD K w H d v)
  | [], kv, k, r => by simp only [RelKV] at r; subst r; rfl
  | (k', d) :: kvs, kv, k, r => by
    simp only [RelKV] at r
    obtain ⟨v, t, rfl, r1, r2⟩ := r
    by_cases e : k' = k
    · have e1 : lookD ((k', d) :: kvs) k = some d := by simp [lookD, List.find?_cons, e]
      rw [e1]
      exact ⟨v, valV_pos e, r1⟩
    · have e1 : lookD ((k', d) :: kvs) k = lookD kvs k := by simp [lookD, List.find?_cons, e]
      rw [e1, valV_neg (p := (k', v)) e]
      exact relkv_val k r2
theorem relkv_any : ∀ {kvs : List (Key × D)} {kv : List (Key × V)} (k : Key), RelKV K w H kvs kv → (kvs.any fun p => decide (p.1 = k)) = kv.any fun p => decide (p.1 = k)
  | [], kv, k, r => by simp only [RelKV] at r; subst r; rfl
  | (k', d) :: kvs, kv, k, r => by
    simp only [RelKV] at r
    obtain ⟨v, t, rfl, r1, r2⟩ := r
    rw [List.any_cons, List.any_cons, relkv_any k r2]
theorem relkv_repl : ∀ {kvs : List (Key × D)} {kv : List (Key × V)} (k : Key) {d : D} {v : V}, RelD K w H d v → RelKV K w H kvs kv → RelKV K w H (kvs.map fun p => if p.1 = k then (p.1, d) else p) (kv.map fun p => if p.1 = k then (p.1, v) else p)
  | [], kv, k, d, v, rd, r => by simp only [RelKV] at r; subst r; simp [RelKV]
  | (k', e) :: kvs, kv, k, d, v, rd, r => by
    simp only [RelKV] at r
    obtain ⟨u, t, rfl, r1, r2⟩ := r
    have ih := relkv_repl k rd r2
    rw [List.map_cons, List.map_cons]
    by_cases e1 : k' = k
    · simp only [e1, if_true, RelKV]
      exact ⟨v, _, rfl, rd, ih⟩
    · simp only [e1, if_false, RelKV]
      exact ⟨u, _, rfl, r1, ih⟩
theorem relkv_snoc : ∀ {kvs : List (Key × D)} {kv : List (Key × V)} (k : Key) {d : D} {v : V}, RelD K w H d v → RelKV K w H kvs kv → RelKV K w H (kvs ++ [(k, d)]) (kv ++ [(k, v)])
  | [], kv, k, d, v, rd, r => by simp only [RelKV] at r; subst r; simp only [List.nil_append, RelKV]; exact ⟨v, [], rfl, rd, rfl⟩
  | (k', e) :: kvs, kv, k, d, v, rd, r => by
    simp only [RelKV] at r
    obtain ⟨u, t, rfl, r1, r2⟩ := r
    simp only [List.cons_append, RelKV]
    exact ⟨u, _, rfl, r1, relkv_snoc k rd r2⟩
theorem relkv_put {kvs : List (Key × D)} {kv : List (Key × V)} (k : Key) {d : D} {v : V} (rd : RelD K w H d v) (r : RelKV K w H kvs kv) : RelKV K w H (putD kvs k d) (putK kv k v) := by
  unfold putD putK
  rw [relkv_any k r]
  split
  · exact relkv_repl k rd r
  · exact relkv_snoc k rd r
theorem relkv_len : ∀ {kvs : List (Key × D)} {kv : List (Key × V)}, RelKV K w H kvs kv → kvs.length = kv.length
  | [], kv, r => by simp only [RelKV] at r; subst r; rfl
  | (k', e) :: kvs, kv, r => by
    simp only [RelKV] at r
    obtain ⟨u, t, rfl, r1, r2⟩ := r
    rw [List.length_cons, List.length_cons, relkv_len r2]
theorem key_rel {d : D} {v : V} {k : Key} (r : RelD K w H d v) (e : keyD d = some k) : v = kV k := by
  cases d <;> simp only [keyD] at e <;> cases e <;> simpa only [RelD, kV] using r
theorem HR.dct (h : HR K w H S) {a : Addr} {kvs : List (Key × D)} (e : S a = some (.dct kvs)) : ∃ kv, H a = some (.dK kv) ∧ RelKV K w H kvs kv := h a _ e
theorem atI_len {α β : Type} (xs : List α) (ys : List β) (i : Int) (h : xs.length = ys.length) {v : α} (e : atI xs i = some v) : ∃ j : Nat, xs[j]? = some v ∧ ∀ u, ys[j]? = some u → atI ys i = some u := by
  unfold atI at e ⊢
  rw [← h]
  cases q : ixN xs.length i with
  | none => rw [q] at e; cases e
  | some j => rw [q] at e; exact ⟨j, e, fun u hu => hu⟩
theorem relds_at {ds : List D} {vs : List V} {i : Int} {d : D} (r : RelDs K w H ds vs) (e : atI ds i = some d) : ∃ v, atI vs i = some v ∧ RelD K w H d v := by
  obtain ⟨j, h1, h2⟩ := atI_len ds vs i r.length e
  obtain ⟨v, q1, q2⟩ := r.get h1
  exact ⟨v, h2 v q1, q2⟩

theorem ix_dict (hu : X.A.units + 1 < cLine) : IxR X (fun x y H Q => ∃ a v, x = .ref a ∧ DGet H a y (some v) ∧ Q v H) := by
  intro value slice pins s σ H x y v u Q I rx ry hh hs
  obtain ⟨a, r, rfl, g, q⟩ := hh
  obtain rfl : v = Value.ref a := rx
  exact tail_any (dict_typeIs I g) slot_dict_getitem.lookup (d_getItem hu I g ry fun w' s' I' r' => ⟨r, H, I', r', q⟩) hs
theorem sub_ok (hu : X.A.units + 1 < cLine) : IxR X (rD2 X.K X.w wSub) := by
  intro value slice pins s σ H x y v u Q I rx ry hh hs
  obtain ⟨dx, dy, S, R, r1, r2, h, f, k⟩ := hh
  have seqs : ∀ {a : Addr} {xs : List D} {i : Int}, x = .ref a → y = .int i → S a = some (.lst xs) → (match atI xs i with | some v => R v S | none => False) → wpAny (model X.prog X.w) X.A (subscriptTail value slice v u) (EP X pins σ Q) X.xe s := fun {a xs i} ex ey e f => by
    subst ex ey
    split at f
    · rename_i d ea
      obtain ⟨vs, h1, h2⟩ := h.sql e
      obtain ⟨z, q1, q2⟩ := relds_at h2 ea
      exact ix_list value slice pins s σ H _ _ v u Q I rx ry ⟨a, vs, i, z, rfl, rfl, h1, q1, k.same f q2 h⟩ hs
    · exact f.elim
  unfold wSub at f
  split at f
  · split at f
    · simp only [RelD] at r1 r2
      obtain ⟨a, rfl, ⟨es, n, kd⟩, hz⟩ := r1
      rename_i kvs _ z
      obtain ⟨r, e1, e2⟩ := hz z
      split at f
      · rename_i i e3
        rw [e3] at e2
        obtain ⟨t, rfl⟩ := e2
        exact ix_kdict value slice pins s σ H _ y v u Q I rx ry ⟨a, z, .int i, rfl, r2, ⟨es, n, _, kd.at_, kd.lit, e1, ⟨t, rfl⟩⟩, k.same f (by simp only [RelD]) h⟩ hs
      · exact f.elim
    · exact f.elim
  · split at f
    · simp only [RelD] at r1 r2
      obtain ⟨f0, f⟩ := f
      split at f
      · rename_i c ea
        exact ix_str value slice pins s σ H x y v u Q I rx ry ⟨_, _, c, r1, r2, f0, ea, k.same f (by simp only [RelD]) h⟩ hs
      · exact f.elim
    · exact f.elim
  · split at f
    · simp only [RelD] at r1 r2
      obtain ⟨a, vs, rfl, t, q⟩ := r1
      split at f
      · rename_i d ea
        obtain ⟨z, q1, q2⟩ := relds_at q ea
        exact ix_tup value slice pins s σ H _ y v u Q I rx ry ⟨a, vs, _, z, rfl, r2, t, q1, k.same f q2 h⟩ hs
      · exact f.elim
    · exact f.elim
  · split at f
    · simp only [RelD] at r1 r2
      obtain ⟨a, vs, rfl, t, q⟩ := r1
      split at f
      · rename_i d ea
        obtain ⟨z, q1, q2⟩ := relds_at q ea
        exact ix_list value slice pins s σ H _ y v u Q I rx ry ⟨a, vs, _, z, rfl, r2, t.sq, q1, k.same f q2 h⟩ hs
      · exact f.elim
    · exact f.elim
  · simp only [RelD] at r1
    split at f
    · split at f
      · simp only [RelD] at r2
        rename_i e _ _
        exact seqs r1 r2 e f
      · exact f.elim
    · rename_i e
      split at f
      · rename_i key ek
        have ey := key_rel r2 ek
        subst r1 ey
        obtain ⟨kv, h1, h2⟩ := h.dct e
        split at f
        · rename_i d el
          have q := relkv_val key h2
          rw [el] at q
          obtain ⟨z, q1, q2⟩ := q
          exact ix_dict hu value slice pins s σ H _ _ v u Q I rx ry ⟨_, z, rfl, by rw [← q1]; exact DGet.k h1, k.same f q2 h⟩ hs
        · exact f.elim
      · exact f.elim
    · exact f.elim
  · exact f.elim

theorem cut_len {α β : Type} (xs : List α) (ys : List β) (h : xs.length = ys.length) (lo hi : Option Int) : HT.sIx xs.length 0 lo = HT.sIx ys.length 0 lo ∧ HT.sIx xs.length xs.length hi = HT.sIx ys.length ys.length hi := by rw [h]; exact ⟨rfl, rfl⟩
theorem relds_cut {ds : List D} {vs : List V} (r : RelDs K w H ds vs) (lo hi : Option Int) : RelDs K w H (cutD ds lo hi) (cutV vs lo hi) := by
  unfold cutD cutV
  obtain ⟨e1, e2⟩ := cut_len ds vs r.length lo hi
  rw [e1, e2]
  exact (r.drop _).take _
def rDSl (K : PySem.W.Frag) (w : World) : V → Option Int → Option Int → Hp → VK → Prop := fun x lo hi H Q => ∃ dx S R, RelD K w H dx x ∧ HR K w H S ∧ wSlice dx lo hi S R ∧ Kont K w H S R Q
theorem cutD_whole {xs : List D} {lo hi : Option Int} (e : HT.sIx xs.length 0 lo = 0 ∧ HT.sIx xs.length xs.length hi = xs.length) : cutD xs lo hi = xs := by
  unfold cutD
  rw [e.1, e.2]
  simp
theorem slice_ok : SlR X (rDSl X.K X.w) := by
  intro pins s σ H x v vl vu lo hi sl Q I rx hs pl pu hh
  obtain ⟨dx, S, R, r1, h, f, k⟩ := hh
  unfold wSlice at f
  split at f
  · rename_i xs
    simp only [RelD] at r1
    obtain ⟨a, vs, rfl, t, q⟩ := r1
    refine sl_tupA pins s σ H _ v vl vu lo hi sl Q I rx hs pl pu ⟨a, vs, rfl, t, fun e => ?_, fun _ p np => ?_⟩
    · obtain ⟨e1, e2⟩ := cut_len xs vs q.length lo hi
      rw [cutD_whole (by rw [e1, e2, q.length]; exact e)] at f
      exact k.same f (by simp only [RelD]; exact ⟨a, vs, rfl, t, q⟩) h
    · exact k.tup f h (relds_cut q lo hi) np
  · simp only [RelD] at r1
    obtain ⟨a, vs, rfl, t, q⟩ := r1
    exact sl_list pins s σ H _ v vl vu lo hi sl Q I rx hs pl pu ⟨_, vs, rfl, t.sq, fun p np => k.lst (f p (h.fresh np)) h (relds_cut q lo hi) np⟩
  · simp only [RelD] at r1
    split at f
    · rename_i e
      obtain ⟨vs, h1, h2⟩ := h.sql e
      exact sl_list pins s σ H x v vl vu lo hi sl Q I rx hs pl pu ⟨_, vs, r1, h1, fun p np => k.lst (f p (h.fresh np)) h (relds_cut h2 lo hi) np⟩
    · exact f.elim
  · exact f.elim

def rDSet (K : PySem.W.Frag) (w : World) : TSet := fun o i v H Q => ∃ d1 d2 d3 S R, RelD K w H d1 o ∧ RelD K w H d2 i ∧ RelD K w H d3 v ∧ HR K w H S ∧ wSet d1 d2 d3 S R ∧ ∀ S', R S' → ∀ H', Fm H S H' S' → HR K w H' S' → Q H'
theorem set_ok (hu : X.A.units + 1 < cLine) : PSet X (rDSet X.K X.w) := by
  intro pins s σ H o i v ov iv u Q I ro ri rv hh
  obtain ⟨d1, d2, d3, S, R, r1, r2, r3, h, f, k⟩ := hh
  unfold wSet at f
  split at f
  · simp only [RelD] at r1
    split at f
    · rename_i e
      split at f
      · simp only [RelD] at r2
        split at f
        · rename_i j ej
          obtain ⟨vs, h1, h2⟩ := h.lst e
          rw [h2.length] at ej
          exact set_list pins s σ H o i v ov iv u Q I ro ri rv ⟨_, vs, _, j, r1, r2, h1, ej, k _ f _ (Fm.mut e) (h.mut e ⟨_, upd_same, RelDs.mono (ext_mut h e) _ _ (h2.set j r3)⟩)⟩
        · exact f.elim
      · exact f.elim
    · rename_i e
      split at f
      · rename_i key ek
        obtain ⟨f0, f⟩ := f
        have ei := key_rel r2 ek
        subst r1 ei
        obtain ⟨kv, h1, h2⟩ := h.dct e
        refine set_dict hu pins s σ H _ _ v ov iv u Q I ro ri rv ⟨_, _, rfl, DPut.k h1 (by rw [← relkv_len h2]; exact f0), k _ f _ (Fm.mut e) (h.mut e ⟨_, upd_same, ?_⟩)⟩
        exact RelKV.mono (ext_mut h e) _ _ (relkv_put key r3 h2)
      · exact f.elim
    · exact f.elim
  · exact f.elim

theorem tru_of (h : HR K w H S) {d : D} {v : V} {b : Bool} (r : RelD K w H d v) (e : tru S d = some b) : TruV K v H b := by
  unfold tru at e
  split at e
  · simp only [RelD] at r; subst r; cases e; rfl
  · simp only [RelD] at r; subst r; cases e; rfl
  · simp only [RelD] at r; subst r; cases e; rfl
  · simp only [RelD] at r; subst r
    split at e
    · rename_i hl
      cases e
      exact ⟨hl, rfl⟩
    · cases e
  · rename_i xs
    simp only [RelD] at r
    obtain ⟨a, vs, rfl, t, q⟩ := r
    cases e
    refine .inr (.inl ⟨vs, t, ?_⟩)
    have hl := q.length
    cases xs <;> cases vs <;> simp_all
  · rename_i xs
    simp only [RelD] at r
    obtain ⟨a, vs, rfl, t, q⟩ := r
    cases e
    refine .inl ⟨vs, t.sq, ?_⟩
    have hl := q.length
    cases xs <;> cases vs <;> simp_all
  · simp only [RelD] at r; subst r
    split at e
    · rename_i xs q
      cases e
      obtain ⟨vs, h1, h2⟩ := h.sql q
      refine .inl ⟨vs, h1, ?_⟩
      have hl := h2.length
      cases xs <;> cases vs <;> simp_all
    · rename_i xs q
      cases e
      obtain ⟨vs, h1, h2⟩ := h.dct q
      refine .inr (.inr ⟨vs, h1, ?_⟩)
      have hl := relkv_len h2
      cases xs <;> cases vs <;> simp_all
    · cases e
  · cases e
end
end Z

set_option Elab.async false
set_option linter.all false
set_option maxRecDepth 100000
set_option maxHeartbeats 4000000
namespace Z
open PySem PySem.Spec PyProof.Rows L2
section
variable {K : PySem.W.Frag} {w : World} {H H' : Hp} {S S' : Sto} {R : D → Sto → Prop} {Q : VK} {X : Cx}
theorem HR.len (h : HR K w H S) {d : D} {v : V} {n : Nat} (r : RelD K w H d v) (e : lenD S d = some n) : LenV K v H n ∨ ∃ a kv, v = .ref a ∧ H a = some (.dK kv) ∧ n = kv.length := by
  unfold lenD at e
  split at e
  · simp only [RelD] at r
    obtain ⟨a, vs, rfl, t, q⟩ := r
    cases e
    exact .inl (.inr ⟨vs, t, q.length⟩)
  · simp only [RelD] at r
    obtain ⟨a, vs, rfl, t, q⟩ := r
    cases e
    exact .inl (.inl ⟨vs, t.sq, q.length⟩)
  · simp only [RelD] at r; subst r
    split at e
    · rename_i hl
      cases e
      exact .inl ⟨hl, rfl⟩
    · cases e
  · simp only [RelD] at r; subst r
    split at e
    · rename_i q
      cases e
      obtain ⟨vs, h1, h2⟩ := h.sql q
      exact .inl (.inl ⟨vs, h1, h2.length⟩)
    · rename_i q
      cases e
      obtain ⟨kv, h1, h2⟩ := h.dct q
      exact .inr ⟨_, kv, rfl, h1, relkv_len h2⟩
    · cases e
  · cases e
theorem HR.ty (h : HR K w H S) {d : D} {v : V} {t : String} (r : RelD K w H d v) (e : tyD S d = some t) : TyX K H v (.type t) := by
  unfold tyD at e
  split at e
  · simp only [RelD] at r; subst r; cases e; exact .base .non
  · simp only [RelD] at r; subst r; cases e; exact .base (.bl _)
  · simp only [RelD] at r; subst r; cases e; exact .base (.int _)
  · simp only [RelD] at r; subst r; cases e; exact .base (.str _)
  · simp only [RelD] at r
    obtain ⟨a, vs, rfl, t, q⟩ := r
    cases e
    rcases t with (t | ⟨o, t⟩) | ⟨o, its, n, hk, hc, _⟩
    · exact .base (.tup t)
    · exact .fTuple t
    · exact .kTuple hk hc
  · simp only [RelD] at r; subst r
    split at e
    · rename_i q
      cases e
      obtain ⟨vs, h1, h2⟩ := h.lst q
      exact .base (.lst h1)
    · rename_i q
      cases e
      obtain ⟨vs, h1, h2⟩ := h.dct q
      exact .base (.dK h1)
    · cases e
  · cases e
theorem bls_of : ∀ {ds : List D} {vs : List V} {bs : List Bool}, RelDs K w H ds vs → blsOf ds = some bs → vs = bs.map V.bl
  | [], vs, bs, r, e => by simp only [RelDs] at r; subst r; simp only [blsOf] at e; cases e; rfl
  | .bl b :: ds, vs, bs, r, e => by
    simp only [RelDs, RelD] at r
    obtain ⟨v, t, rfl, rfl, r2⟩ := r
    simp only [blsOf] at e
    cases e2 : blsOf ds with
    | none => rw [e2] at e; cases e
    | some cs =>
      rw [e2] at e
      cases e
      rw [List.map_cons, bls_of r2 e2]
  | .non :: _, _, _, _, e => by simp only [blsOf] at e; cases e
  | .int _ :: _, _, _, _, e => by simp only [blsOf] at e; cases e
  | .str _ :: _, _, _, _, e => by simp only [blsOf] at e; cases e
  | .tup _ :: _, _, _, _, e => by simp only [blsOf] at e; cases e
  | .ref _ :: _, _, _, _, e => by simp only [blsOf] at e; cases e
  | .ty _ :: _, _, _, _, e => by simp only [blsOf] at e; cases e
  | .cd _ :: _, _, _, _, e => by simp only [blsOf] at e; cases e
  | .kl _ :: _, _, _, _, e => by simp only [blsOf] at e; cases e
  | .exn _ _ _ :: _, _, _, _, e => by simp only [blsOf] at e; cases e
theorem ints_of : ∀ {ds : List D} {vs : List V} {bs : List Int}, RelDs K w H ds vs → intsOf ds = some bs → vs = bs.map V.int
  | [], vs, bs, r, e => by simp only [RelDs] at r; subst r; simp only [intsOf] at e; cases e; rfl
  | .int b :: ds, vs, bs, r, e => by
    simp only [RelDs, RelD] at r
    obtain ⟨v, t, rfl, rfl, r2⟩ := r
    simp only [intsOf] at e
    cases e2 : intsOf ds with
    | none => rw [e2] at e; cases e
    | some cs =>
      rw [e2] at e
      cases e
      rw [List.map_cons, ints_of r2 e2]
  | .non :: _, _, _, _, e => by simp only [intsOf] at e; cases e
  | .bl _ :: _, _, _, _, e => by simp only [intsOf] at e; cases e
  | .str _ :: _, _, _, _, e => by simp only [intsOf] at e; cases e
  | .tup _ :: _, _, _, _, e => by simp only [intsOf] at e; cases e
  | .ref _ :: _, _, _, _, e => by simp only [intsOf] at e; cases e
  | .ty _ :: _, _, _, _, e => by simp only [intsOf] at e; cases e
  | .cd _ :: _, _, _, _, e => by simp only [intsOf] at e; cases e
  | .kl _ :: _, _, _, _, e => by simp only [intsOf] at e; cases e
  | .exn _ _ _ :: _, _, _, _, e => by simp only [intsOf] at e; cases e

theorem call_lenD2 : CallR X (.builtin "len") (fun xs H Q => ∃ a kv, xs = [.ref a] ∧ H a = some (.dK kv) ∧ Q (.int kv.length) H) := by
  intro pins s σ H xs us Q I r hh
  obtain ⟨a, kv, rfl, e, q⟩ := hh
  obtain ⟨u, rfl, ru⟩ := vals1 r
  cases (show u = Value.ref a from ru)
  exact d_len I (.inl e) fun t s' I' => ⟨.int kv.length, H, I', ⟨t, rfl⟩, q⟩
def Bi.fn : Bi → Option String
  | .len => some "len"
  | .isinst => some "isinstance"
  | .max => some "max"
  | .min => some "min"
  | .abs => some "abs"
  | .all => some "all"
  | .any => some "any"
  | .sum => some "sum"
  | .repr => some "repr"
  | .sorted => some "sorted"
  | _ => none
def Bi.tyn : Bi → Option String
  | .tuple => some "tuple"
  | .list => some "list"
  | .int => some "int"
  | .str => some "str"
  | _ => none
theorem call_reprD (hgd : X.A.guards = some []) (hu : X.A.units + 64 < cLine) : CallR X (.builtin "repr") (fun xs H Q => ∃ x p, xs = [x] ∧ Dp X.K H x p ∧ p.canLay0 = true ∧ p.showable = true ∧ p.depth ≤ 60 ∧ (flatP p = true ∨ p.shown.length ≤ sizeLine) ∧ Q (.str p.shown) H) := by
  intro pins s σ H xs us Q I r h
  obtain ⟨x, p, rfl, hd, hc, hs, hdp, hz, q⟩ := h
  obtain ⟨u, rfl, ru⟩ := vals1 r
  obtain ⟨as, rd⟩ := Dp.reads I p x u hd ru
  have big : ∀ a, u = .ref a → p.shown.length ≤ sizeLine → wpAny (model X.prog X.w) X.A (call (.builtin "repr") [u]) (EP X pins σ Q) X.xe s := fun a e hz => by
    subst e
    exact repr_of_reads' rd hs (PyData.noDict_hsm (PyData.hasDict_of_canLay p hc)) hgd (by omega) (fun _ _ z => z) (fun h' u tk k => ⟨.str p.shown, H, I.kept (t' := tk) k, ⟨_, rfl⟩, q⟩) hz
  cases rd with
  | none => exact PySem.P.repr_of_none ⟨.str _, H, I.tok _, ⟨_, rfl⟩, q⟩
  | bool b => exact PySem.P.repr_of_bool ⟨.str _, H, I.tok _, ⟨_, rfl⟩, q⟩
  | int i t => exact PySem.P.repr_of_int (of_decide_eq_true hs) ⟨.str _, H, I.tok _, ⟨_, rfl⟩, q⟩
  | str x t => exact PySem.P.repr_of_str ⟨.str _, H, I.tok _, ⟨_, rfl⟩, q⟩ (hz.resolve_left (fun z => Bool.noConfusion z))
  | list _ _ _ _ => exact big _ rfl (hz.resolve_left (fun z => Bool.noConfusion z))
  | tuple _ _ _ _ => exact big _ rfl (hz.resolve_left (fun z => Bool.noConfusion z))
  | dict _ _ _ _ _ => exact big _ rfl (hz.resolve_left (fun z => Bool.noConfusion z))
theorem bfn_ok (hc : X.calm = true) (hgd : X.A.guards = some []) (hu : X.A.units + 64 < cLine) (b : Bi) {n : String} (hb : b.fn = some n) : CallR X (.builtin n) (rDC X.K X.w (wBlt b)) := by
  intro pins s σ H xs us Q I r hh
  obtain ⟨ds, S, R, r1, h, f, k⟩ := hh
  unfold wBlt at f
  cases b <;> simp only [Bi.fn] at hb <;> cases hb
  · -- len
    split at f <;> try exact f.elim
    all_goals first | (rename_i e; cases e; done) | skip
    rename_i d _
    obtain ⟨v, rfl, rv⟩ := relds_one r1
    split at f
    · rename_i n e
      rcases h.len rv e with hl | ⟨a, kv, rfl, hl, rfl⟩
      · exact call_len pins s σ H _ us Q I r ⟨v, n, rfl, hl, k.same f (by simp only [RelD]) h⟩
      · exact call_lenD2 pins s σ H _ us Q I r ⟨a, kv, rfl, hl, k.same f (by simp only [RelD]) h⟩
    · exact f.elim
  · -- isinstance
    split at f <;> try exact f.elim
    all_goals first | (rename_i e; cases e; done) | skip
    obtain ⟨v, u, rfl, rv, ru⟩ := relds_two r1
    simp only [RelD] at ru
    subst ru
    split at f
    · rename_i t e
      split at f
      · rename_i b eb
        exact call_isi pins s σ H _ us Q I r ⟨v, _, .type t, _, b, rfl, .ty _, h.ty rv e, kit_ty eb, k.same f (by simp only [RelD]) h⟩
      · exact f.elim
    · exact f.elim
  · -- max
    split at f <;> try exact f.elim
    all_goals first | (rename_i e; cases e; done) | skip
    · obtain ⟨v, u, rfl, rv, ru⟩ := relds_two r1
      simp only [RelD] at rv ru
      subst rv ru
      exact call_max2 hc pins s σ H _ us Q I r ⟨_, _, rfl, k.same f (by simp only [RelD]) h⟩
    · obtain ⟨v, rfl, rv⟩ := relds_one r1
      simp only [RelD] at rv
      subst rv
      split at f
      · rename_i e
        obtain ⟨vs, h1, h2⟩ := h.sql e
        split at f
        · rename_i bs eb
          have ev := ints_of h2 eb
          subst ev
          exact cr_max hc pins s σ H _ us Q I r ⟨_, bs, rfl, h1, f.1, fun m m1 m2 => k.same (f.2 m m1 m2) (by simp only [RelD]) h⟩
        · exact f.elim
      · exact f.elim
  · split at f <;> try exact f.elim
    all_goals first | (rename_i e; cases e; done) | skip
    · obtain ⟨v, u, rfl, rv, ru⟩ := relds_two r1
      simp only [RelD] at rv ru
      subst rv ru
      exact call_min2 hc pins s σ H _ us Q I r ⟨_, _, rfl, k.same f (by simp only [RelD]) h⟩
    · obtain ⟨v, rfl, rv⟩ := relds_one r1
      simp only [RelD] at rv
      subst rv
      split at f
      · rename_i e
        obtain ⟨vs, h1, h2⟩ := h.sql e
        split at f
        · rename_i bs eb
          have ev := ints_of h2 eb
          subst ev
          exact cr_min hc pins s σ H _ us Q I r ⟨_, bs, rfl, h1, f.1, fun m m1 m2 => k.same (f.2 m m1 m2) (by simp only [RelD]) h⟩
        · exact f.elim
      · exact f.elim
  · split at f <;> try exact f.elim
    all_goals first | (rename_i e; cases e; done) | skip
    obtain ⟨v, rfl, rv⟩ := relds_one r1
    simp only [RelD] at rv
    subst rv
    exact call_abs pins s σ H _ us Q I r ⟨_, rfl, k.same f (by simp only [RelD]) h⟩
  · split at f <;> try exact f.elim
    all_goals first | (rename_i e; cases e; done) | skip
    obtain ⟨v, rfl, rv⟩ := relds_one r1
    simp only [RelD] at rv
    subst rv
    split at f
    · rename_i e
      obtain ⟨vs, h1, h2⟩ := h.sql e
      split at f
      · rename_i bs eb
        have ev := bls_of h2 eb
        subst ev
        exact cr_all hc pins s σ H _ us Q I r ⟨_, bs, rfl, h1, k.same f (by simp only [RelD]) h⟩
      · exact f.elim
    · exact f.elim
  · split at f <;> try exact f.elim
    all_goals first | (rename_i e; cases e; done) | skip
    obtain ⟨v, rfl, rv⟩ := relds_one r1
    simp only [RelD] at rv
    subst rv
    split at f
    · rename_i e
      obtain ⟨vs, h1, h2⟩ := h.sql e
      split at f
      · rename_i bs eb
        have ev := bls_of h2 eb
        subst ev
        exact cr_any hc pins s σ H _ us Q I r ⟨_, bs, rfl, h1, k.same f (by simp only [RelD]) h⟩
      · exact f.elim
    · exact f.elim
  · split at f <;> try exact f.elim
    all_goals first | (rename_i e; cases e; done) | skip
    obtain ⟨v, rfl, rv⟩ := relds_one r1
    simp only [RelD] at rv
    subst rv
    split at f
    · rename_i e
      obtain ⟨vs, h1, h2⟩ := h.sql e
      split at f
      · rename_i bs eb
        have ev := ints_of h2 eb
        subst ev
        exact cr_sum hc pins s σ H _ us Q I r ⟨_, bs, rfl, h1, k.same f (by simp only [RelD]) h⟩
      · exact f.elim
    · exact f.elim
  · -- repr
    split at f <;> try exact f.elim
    all_goals first | (rename_i e; cases e; done) | skip
    obtain ⟨v, rfl, rv⟩ := relds_one r1
    split at f
    · rename_i p e
      exact call_reprD hgd hu pins s σ H _ us Q I r ⟨v, p, rfl, dpS_of h rv e, f.1, f.2.1, f.2.2.1, f.2.2.2.1, k.same f.2.2.2.2 (by simp only [RelD]) h⟩
    · exact f.elim
  · -- sorted
    split at f <;> try exact f.elim
    all_goals first | (rename_i e; cases e; done) | skip
    obtain ⟨v, rfl, rv⟩ := relds_one r1
    simp only [RelD] at rv
    subst rv
    split at f
    · rename_i e
      obtain ⟨vs, h1, h2⟩ := h.sql e
      split at f
      · rename_i ns eb
        have ev := ints_of h2 eb
        subst ev
        exact cr_sorted pins s σ H _ us Q I r ⟨_, ns, rfl, h1, f.1, fun ns' p hp hs np => k.lst (f.2 ns' p hp hs (h.fresh np)) h (RelDs.of_ints ns') np⟩
      · exact f.elim
    · exact f.elim
theorem bty_ok (b : Bi) {n : String} (hb : b.tyn = some n) : CallR X (.type n) (rDC X.K X.w (wBlt b)) := by
  intro pins s σ H xs us Q I r hh
  obtain ⟨ds, S, R, r1, h, f, k⟩ := hh
  unfold wBlt at f
  cases b <;> simp only [Bi.tyn] at hb <;> cases hb
  · split at f <;> try exact f.elim
    all_goals first | (rename_i e; cases e; done) | skip
    obtain ⟨v, rfl, rv⟩ := relds_one r1
    split at f
    · rename_i e
      obtain ⟨a, vs, rfl, q1, q2, _⟩ := items_of h e rv
      refine call_tuple_of pins s σ H _ us Q I r ⟨a, vs, rfl, ?_⟩
      rcases q2 with q2 | q2
      · exact .inl ⟨q2, fun p np => k.tup f h q1 np⟩
      · exact .inr ⟨q2, k.same f (by simp only [RelD]; exact ⟨a, vs, rfl, q2, q1⟩) h⟩
    · exact f.elim
  · split at f <;> try exact f.elim
    all_goals first | (rename_i e; cases e; done) | skip
    obtain ⟨v, rfl, rv⟩ := relds_one r1
    split at f
    · rename_i e
      obtain ⟨a, vs, rfl, q1, q2, _⟩ := items_of h e rv
      exact call_list_of pins s σ H _ us Q I r ⟨a, vs, rfl, q2, fun p np => k.lst (f p (h.fresh np)) h q1 np⟩
    · exact f.elim
  · split at f <;> try exact f.elim
    all_goals first | (rename_i e; cases e; done) | skip
    · obtain ⟨v, rfl, rv⟩ := relds_one r1
      simp only [RelD] at rv
      subst rv
      exact call_int1 pins s σ H _ us Q I r (.inl ⟨_, rfl, k.same f (by simp only [RelD]) h⟩)
    · obtain ⟨v, rfl, rv⟩ := relds_one r1
      simp only [RelD] at rv
      subst rv
      exact call_int1 pins s σ H _ us Q I r (.inr ⟨_, rfl, k.same f (by simp only [RelD]) h⟩)
  · split at f <;> try exact f.elim
    all_goals first | (rename_i e; cases e; done) | skip
    obtain ⟨v, rfl, rv⟩ := relds_one r1
    simp only [RelD] at rv
    subst rv
    exact call_str_int pins s σ H _ us Q I r ⟨_, rfl, f.1, k.same f.2 (by simp only [RelD]) h⟩
end
end Z

set_option Elab.async false
set_option linter.all false
set_option maxRecDepth 100000
set_option maxHeartbeats 4000000
namespace Z
open PySem PySem.Spec PyProof.Rows L2

theorem inv_many {X : Cx} {pins : List (Addr × Obj)} {σ : L2.St} {H H' : Hp} {s : Shared} {h' : Heap} {t' : Nat} (I : Inv X pins σ H s)
    (k : ∀ b u, s.heap.get? b = some u → h'.get? b = some u) (up : ∀ b o, H b = some o → H' b = some o)
    (new : ∀ b o, H' b = some o → H b = none → s.heap.get? b = none ∧ ObjOk X.prog X.w H' h' b o) : Inv X pins σ H' { s with heap := h', toks := t' } := by
  refine I.un ⟨fun b u q _ _ _ => k b u q, fun b u q _ _ _ => ⟨u.slots, k b u q⟩, fun b u q n _ => ?_, fun b u q _ => ⟨u, k b u q⟩, fun b xs q => up b _ q, fun b u xs q => up b _ q, fun b ps q => ⟨#[], by rw [up b _ q]; simp⟩⟩ fun b o e => ?_
  · cases e : H' b with
    | none => rfl
    | some o =>
      have := (new b o e n).1
      rw [this] at q
      cases q
  · cases e1 : H b with
    | none => exact (new b o e e1).2
    | some o1 =>
      have := up b o1 e1
      rw [e] at this
      cases this
      exact (I.hok b o e1).stay (fun c v _ q => k c v q) (fun c q => up c _ q) fun c xs q => up c _ q

section
variable {prog : Program} {w : World} {A : Around} {E : Value → Shared → Prop} {s : Shared}
def KeepZ (s s' : Shared) : Prop := ∃ h tk, s' = { s with heap := h, toks := tk } ∧ s.toks ≤ tk ∧ ∀ b o, s.heap.get? b = some o → h.get? b = some o
theorem KeepZ.refl (s : Shared) : KeepZ s s := ⟨s.heap, s.toks, rfl, Nat.le_refl _, fun _ _ e => e⟩
theorem KeepZ.heap {s s' : Shared} (k : KeepZ s s') {b : Addr} {o : Obj} (e : s.heap.get? b = some o) : s'.heap.get? b = some o := by
  obtain ⟨h, tk, rfl, _, hk⟩ := k
  exact hk b o e
theorem KeepZ.type {s s' : Shared} {a : Addr} {T : String} (k : KeepZ s s') (h : s.TypeIs (.ref a) T) : s'.TypeIs (.ref a) T := by
  obtain ⟨o, e, c⟩ := h
  exact ⟨o, k.heap e, c⟩
theorem KeepZ.trans {s s' s'' : Shared} (a : KeepZ s s') (b : KeepZ s' s'') : KeepZ s s'' := by
  obtain ⟨h, tk, rfl, t1, hk⟩ := a
  obtain ⟨h2, tk2, rfl, t2, hk2⟩ := b
  exact ⟨h2, tk2, rfl, Nat.le_trans t1 t2, fun b o e => hk2 b o (hk b o e)⟩

theorem list_any {I : Addr} {T : String} {Q : Value → Shared → Prop} (hT : s.TypeIs (.ref I) T) (hT1 : (Value.type T == Value.type "list") = false) (hT2 : (Value.type T == Value.type "tuple") = false)
    (hit : ∀ (A : Around) (E : Value → Shared → Prop) (s' : Shared) (Q : Value → Shared → Prop), KeepZ s s' → Q (.ref I) s' → wpAny (model prog w) A (pyIter (.ref I)) Q E s')
    (hint : ∀ (A : Around) (E : Value → Shared → Prop) (s' : Shared) (Q : Bool → Shared → Prop), KeepZ s s' → (∀ b tk, s'.toks ≤ tk → Q b { s' with toks := tk }) → wpAny (model prog w) A (Builtin.List.listLengthHint (.ref I)) Q E s')
    (loop : ∀ (R : Result → Shared → Prop) (s' : Shared) (c : Nat), KeepZ s s' → s'.heap.get? s.heap.objs.size = some { cls := .type "list", data := .seq #[] c } →
      (∀ s'', Q (.ref s.heap.objs.size) s'' → R (.ok (.ret .none)) s'') → codeAny (model prog w) A.in1 (.builtin "list.extend.loop" ⟨[.ref s.heap.objs.size, .ref I, .none], []⟩) R s') :
    wpAny (model prog w) A (call (.type "list") [.ref I]) Q E s := by
  refine callType_codes (Q₁ := fun obj s₁ => obj = .ref s.heap.objs.size ∧ s₁ = { s with heap := s.heap.push { cls := .type "list", data := .seq #[] } }) F.called_list (F.typeCall_list_1 _) F.entry_list_init
    (code_list_new _ ⟨rfl, rfl⟩) fun obj s₁ h₁ => ?_
  obtain ⟨rfl, rfl⟩ := h₁
  have hS : (s.heap.push { cls := .type "list", data := .seq #[] }).get? s.heap.objs.size = some { cls := .type "list", data := .seq #[] } := Heap.get?_push_size _ rfl
  have hI : s.heap.objs.size ≠ I := fun e => by
    obtain ⟨o, ho, _⟩ := hT
    exact absurd (Heap.lt_size ho) (by rw [e]; exact Nat.lt_irrefl _)
  have hSn : ∀ b o, s.heap.get? b = some o → b ≠ s.heap.objs.size := fun b o e => Nat.ne_of_lt (Heap.lt_size e)
  refine ⟨⟨_, hS, rfl⟩, F.args_list_init_2 _ _, ?_⟩
  show wpAny _ A.in1.in1 (do let old ← Builtin.List.listItems (.ref s.heap.objs.size); Builtin.List.listUpdate (.ref s.heap.objs.size) (fun _ => #[]); letGo old.toList.reverse; Builtin.List.listExtendWith (.ref s.heap.objs.size) (.ref I) .none) _ _ _
  refine wpAny_bind ?_
  unfold Builtin.List.listItems
  refine wpAny_bind (wpAny_seqItems hS rfl (wpAny_pure ?_))
  show wpAny _ A.in1.in1 (updateSeq s.heap.objs.size (fun _ => #[]) >>= fun _ => letGo (#[] : Array Value).toList.reverse >>= fun _ => Builtin.List.listExtendWith (.ref s.heap.objs.size) (.ref I) .none) _ _ _
  refine wpAny_bind (wpAny_updateSeq hS rfl ?_)
  have hS₂ := Heap.get?_update_self (Obj.mapSeq (fun _ => (#[] : Array Value))) hS rfl
  refine wpAny_bind (wpAny_letGo ?_)
  generalize es2 : ((s.heap.push { cls := .type "list", data := .seq #[] }).update s.heap.objs.size (Obj.mapSeq (fun _ => (#[] : Array Value)))) = h2 at hS₂
  have k2 : KeepZ s { s with heap := h2 } := ⟨h2, s.toks, rfl, Nat.le_refl _, fun b o e => by
    rw [← es2]
    exact (Heap.get?_update_other _ _ (Ne.symm (hSn b o e))).trans (Heap.get?_push_of_some _ e)⟩
  unfold Builtin.List.listExtendWith
  refine wpAny_bind (wpAny_typeOf (k2.type hT) ?_)
  have h1 : Builtin.List.listSameRef (.ref s.heap.objs.size) (.ref I) = false := by simp [Builtin.List.listSameRef, hI]
  simp only [h1, hT1, hT2, Bool.or_false, Bool.false_eq_true, if_false]
  refine wpAny_bind (hit _ _ _ _ k2 ?_)
  refine wpAny_bind (wpAny_holding ?_)
  refine hint _ _ _ _ k2 fun b tk htk => ?_
  have k3 : KeepZ s { s with heap := h2, toks := tk } := ⟨h2, tk, rfl, htk, fun c o e => k2.heap e⟩
  refine wpAny_ite_split (fun _ => ?_) fun _ => ?_
  · refine wpAny_bind (wpAny_rule ?_)
    refine wpAny_bind ?_
    show wpAny _ A.in1.in1 (updateSeq s.heap.objs.size (·.push .none) >>= fun _ => updateSeq s.heap.objs.size (·.pop)) _ _ _
    refine wpAny_bind (wpAny_updateSeq hS₂ rfl ?_)
    have hS₄ := Heap.get?_update_self (Obj.mapSeq (·.push Value.none)) hS₂ rfl
    refine wpAny_updateSeq (hz := by seq_fits) hS₄ rfl ?_
    have hS₅ := Heap.get?_update_self (Obj.mapSeq (·.pop)) hS₄ rfl
    refine wpAny_pure ⟨plainId_quiet F.plain_extend_loop _, loop _ _ _ ?_ hS₅ fun s'' q => ⟨rfl, q⟩⟩
    exact ⟨_, _, rfl, htk, fun c o e => (Heap.get?_update_other _ _ (Ne.symm (hSn c o e))).trans ((Heap.get?_update_other _ _ (Ne.symm (hSn c o e))).trans (k2.heap e))⟩
  · exact wpAny_pure ⟨plainId_quiet F.plain_extend_loop _, loop _ _ _ k3 hS₂ fun s'' q => ⟨rfl, q⟩⟩
end
end Z

set_option Elab.async false
set_option linter.all false
set_option maxRecDepth 100000
set_option maxHeartbeats 4000000
namespace Z
open PySem PySem.Spec PyProof.Rows L2 RT

theorem rt_nolen : typeLookup (.type "reversed") "__len__" = pure none := by rw [typeLookup_type, builtinLookup_eq_fast]; kernel_rfl
theorem slot_rt_hint : Slot "reversed" "__length_hint__" "reversed.__length_hint__" :=
  .of (owner := "reversed") (n := "__length_hint__") (by rw [typeLookup_type, builtinLookup_eq_fast]; kernel_rfl) (by decide +kernel) (by decide +kernel) (by decide +kernel)
    (by first | exact .inl (by decide +kernel) | exact .inr (by decide +kernel)) (by rw [isSubtype_type]; kernel_rfl)
theorem entry_rt_hint : entryFor table "reversed.__length_hint__" = some Builtin.«reversed.__length_hint__» := entryFor_of_tree (by kernel_rfl)
theorem args_rt_hint (a : Value) : argsOk "reversed.__length_hint__" ⟨[a], []⟩ := by
  unfold argsOk; rw [signature?_of (id := "reversed.__length_hint__") (n := ['_', '_', 't', 'n', 'i', 'h', '_', 'h', 't', 'g', 'n', 'e', 'l', '_', '_']) (o := ['d', 'e', 's', 'r', 'e', 'v', 'e', 'r']) (by kernel_rfl) owner_rt]; kernel_rfl
section
variable {prog : Program} {w : World} {A : Around} {E : Value → Shared → Prop} {s : Shared}
theorem hint_rt {it t : Addr} {items : Array Value} {Q : Bool → Shared → Prop} (hit : IsRt s.heap it t ((items.size : Int) - 1)) (ht : IsTup s.heap t items) (hsz : items.size ≤ sizeLine)
    (hQ : ∀ b tk, s.toks ≤ tk → Q b { s with toks := tk }) : wpAny (model prog w) A (Builtin.List.listLengthHint (.ref it)) Q E s := by
  obtain ⟨o, ho, hc, hd⟩ := id hit
  have hT := hit.typeIs
  have hz := hsz
  rw [sizeLine_eq] at hsz
  unfold Builtin.List.listLengthHint
  refine wpAny_bind (wpAny_specialOf hT rt_nolen ?_)
  show wpAny _ A (specialOf (Value.ref it) (Str.ofString "__length_hint__") >>= _) _ _ _
  refine wpAny_bind (wpAny_specialOf hT slot_rt_hint.lookup ?_)
  generalize hid : ("reversed.__length_hint__" : String) = id0
  wp_delta
  rw [show splitId id0 = some ("reversed", "__length_hint__") from by subst hid; decide +kernel]
  subst hid
  refine wpAny_bind (wpAny_isInstance (b := true) hT (by rw [isSubtype_type]; kernel_rfl) ?_)
  refine wpAny_ite_split (fun hab => absurd hab (by decide)) (fun _ => ?_)
  refine wpAny_ite_split (fun hab => absurd hab (by decide +kernel)) (fun _ => ?_)
  refine wpAny_bind (wpAny_rule ?_)
  rw [slot_rt_hint.bind]
  refine wpAny_bind (wpAny_pure ?_)
  dsimp only
  refine wpAny_bind (wpAny_attempt (wpAny_call_entry slot_rt_hint hT entry_rt_hint ?_ (args_rt_hint _)))
  unfold Builtin.«reversed.__length_hint__»
  refine wpAny_bind (wpAny_of_eq (a := Value.ref it) rfl ?_)
  refine wpAny_bind (wpAny_field ho hd (x := .ref t) rfl ?_)
  rw [if_neg (show ¬ ((Value.ref t == Value.none) = true) from Bool.false_ne_true)]
  refine wpAny_bind (len_tuple ht (by omega) ?_)
  refine wpAny_bind (wpAny_of_eq (a := some ((items.size : Nat) : Int)) rfl ?_)
  dsimp only
  refine wpAny_bind (wpAny_field (s := { s with toks := s.toks + 1 + 1 }) ho hd (x := rawInt ((items.size : Int) - 1)) rfl ?_)
  show wpAny _ _ (if ((items.size : Nat) : Int) < ((items.size : Int) - 1) + 1 then _ else _) _ _ _
  rw [if_neg (by omega)]
  unfold retInt
  refine wpAny_bind (wpAny_mkInt ?_)
  refine wpAny_pure ⟨_, rfl, ?_⟩
  dsimp only
  refine wpAny_bind (wpAny_of_eq (a := some (((items.size : Nat) : Int) - 1 + 1)) rfl ?_)
  dsimp only
  have e1 : ((items.size : Nat) : Int) - 1 + 1 = (items.size : Int) := by omega
  rw [e1]
  have f1 : Builtin.List.listFitsIndex ((items.size : Nat) : Int) = true := by
    unfold Builtin.List.listFitsIndex
    rw [Bool.and_eq_true, decide_eq_true_eq, decide_eq_true_eq]
    omega
  have f2 : Builtin.List.listTooLong ((items.size : Nat) : Int).toNat = false := by
    unfold Builtin.List.listTooLong
    rw [decide_eq_false_iff_not, Int.toNat_natCast]
    exact Nat.not_lt.mpr hz
  rw [f1, f2, if_neg (by decide), if_neg (by omega), if_neg (by decide)]
  exact wpAny_pure (hQ _ _ (by show s.toks ≤ s.toks + 1 + 1 + 1; omega))
theorem walks_tupRev (hh : A.handled = none) (I t : Addr) (hne : t ≠ I) (items : Array Value) (hsz : items.size ≤ sizeLine) :
    Walks prog w A I [I, t] [I] items.size (fun i v => items[items.size - 1 - i]? = some v) (fun i h => i ≤ items.size ∧ IsRt h I t ((items.size : Int) - 1 - (i : Int)) ∧ IsTup h t items) where
  sub := fun b hb => by simp at hb; simp [hb]
  frame := fun _ _ _ x hk => ⟨x.1, x.2.1.at fun o e => hk I (by simp) o e, let ⟨o, ho, r⟩ := x.2.2; ⟨o, hk t (by simp) o ho, r⟩⟩
  item := fun i s Q E hi x hQ => by
    have e : (items.size : Int) - 1 - (i : Int) = ((items.size - 1 - i : Nat) : Int) := by omega
    have hit := x.2.1
    rw [e] at hit
    have hx : items[items.size - 1 - i]? = some (items[items.size - 1 - i]'(by omega)) := Array.getElem?_eq_getElem (by omega)
    refine next_rt_item hit x.2.2 hx hsz fun h' hit' hs' => ?_
    have e2 : ((items.size - 1 - i : Nat) : Int) - 1 = (items.size : Int) - 1 - ((i + 1 : Nat) : Int) := by omega
    rw [e2] at hit'
    exact hQ _ h' _ hx ⟨hi, hit', let ⟨o, ho, r⟩ := x.2.2; ⟨o, (hs'.2 t hne).trans ho, r⟩⟩ fun b o hb eo => hs'.extBut b o (fun h => hb (by simp [h])) eo
  done := fun s Q E x hQ => by
    have e : (items.size : Int) - 1 - (items.size : Int) = -1 := by omega
    have hit := x.2.1
    rw [e] at hit
    exact next_rt_end hh hit fun h' he' => hQ h' s.toks fun b o hb eo => he' b o (fun h => hb (by simp [h])) eo
  self := fun _ _ _ _ x hQ => iter_rt x.2.1 hQ
theorem call_list_rt {it t : Addr} {items : Array Value} {Q : Value → Shared → Prop} (hh : A.handled = none) (hit : IsRt s.heap it t ((items.size : Int) - 1)) (ht : IsTup s.heap t items) (hne : t ≠ it) (hn : items.size ≤ sizeLine)
    (hQ : ∀ (h' : Heap) (tk : Nat) (acc : Array Value) (c : Nat), (∀ b o, b ≠ it → s.heap.get? b = some o → h'.get? b = some o) → h'.get? s.heap.objs.size = some { cls := .type "list", data := .seq acc c } →
      ItemsOf (fun i v => items[items.size - 1 - i]? = some v) acc items.size → Q (.ref s.heap.objs.size) { s with heap := h', toks := tk }) :
    wpAny (model prog w) A (call (.type "list") [.ref it]) Q E s := by
  have kt : ∀ s', KeepZ s s' → IsTup s'.heap t items := fun s' k => let ⟨o, ho, r⟩ := ht; ⟨o, k.heap ho, r⟩
  obtain ⟨oi, hoi, _⟩ := id hit
  obtain ⟨ot, hot, _⟩ := id ht
  have hSf : s.heap.objs.size ∉ [it, t] := by
    simp only [List.mem_cons, List.not_mem_nil, or_false, not_or]
    exact ⟨Nat.ne_of_gt (Heap.lt_size hoi), Nat.ne_of_gt (Heap.lt_size hot)⟩
  refine list_any hit.typeIs (by decide) (by decide) (fun A E s' Q k q => iter_rt (hit.at fun o e => k.heap e) q) (fun A E s' Q k q => hint_rt (hit.at fun o e => k.heap e) (kt s' k) hn q) fun R s' c k hS hR => ?_
  have W := (walks_tupRev (prog := prog) (w := w) (A := A.in1.in1) hh it t hne items hn).toS
  have e0 : ((items.size : Nat) : Int) - 1 - ((0 : Nat) : Int) = (items.size : Int) - 1 := by omega
  refine codeAny_extend_loopS W hn _ hSf _ items.size 0 _ _ _ rfl (Nat.zero_le _) ⟨Nat.zero_le _, by rw [e0]; exact hit.at fun o e => k.heap e, kt s' k⟩ hS (ItemsOf.nil _) fun s'' acc' c' hm hS' hacc => hR _ ?_
  obtain ⟨h1, t1, rfl, ht1, hk1⟩ := k
  rw [Moved.eq_with hm]
  refine hQ s''.heap s''.toks acc' c' (fun b o hb e => hm.heap b o (fun hmem => ?_) (hk1 b o e)) hS' hacc
  rcases List.mem_cons.mp hmem with e' | hmem
  · exact absurd (Heap.lt_size e) (by rw [e']; exact Nat.lt_irrefl _)
  · exact hb (List.mem_singleton.mp hmem)
theorem hint_rl {it l : Addr} {i : Int} {Q : Bool → Shared → Prop} (hit : s.heap.IsRevIter it l i)
    (hQ : ∀ b tk, s.toks ≤ tk → Q b { s with toks := tk }) : wpAny (model prog w) A (Builtin.List.listLengthHint (.ref it)) Q E s := by
  have hT := hit.typeIs
  unfold Builtin.List.listLengthHint
  refine wpAny_bind (wpAny_specialOf hT nolen_lri ?_)
  show wpAny _ A (specialOf (Value.ref it) (Str.ofString "__length_hint__") >>= _) _ _ _
  refine wpAny_bind (wpAny_specialOf hT hint_lri ?_)
  generalize hid : ("list_reverseiterator.__length_hint__" : String) = id0
  wp_delta
  rw [show splitId id0 = some ("list_reverseiterator", "__length_hint__") from by subst hid; decide +kernel]
  subst hid
  refine wpAny_bind (wpAny_isInstance (b := true) hT (by rw [isSubtype_type]; kernel_rfl) ?_)
  exact wpAny_pure (hQ _ _ (Nat.le_refl _))
theorem call_list_rl {it l : Addr} {items : Array Value} {Q : Value → Shared → Prop} (hh : A.handled = none) (hit : s.heap.IsRevIter it l ((items.size : Int) - 1)) (hl : s.heap.IsList l items) (hne : l ≠ it) (hn : items.size ≤ sizeLine)
    (hQ : ∀ (h' : Heap) (tk : Nat) (acc : Array Value) (c : Nat), (∀ b o, b ≠ it → s.heap.get? b = some o → h'.get? b = some o) → h'.get? s.heap.objs.size = some { cls := .type "list", data := .seq acc c } →
      ItemsOf (fun i v => items[items.size - 1 - i]? = some v) acc items.size → Q (.ref s.heap.objs.size) { s with heap := h', toks := tk }) :
    wpAny (model prog w) A (call (.type "list") [.ref it]) Q E s := by
  have kt : ∀ s', KeepZ s s' → s'.heap.IsList l items := fun s' k => hl.at fun o e => k.heap e
  obtain ⟨oi, hoi, _⟩ := id hit
  obtain ⟨ot, hot, _⟩ := id hl
  have hSf : s.heap.objs.size ∉ [it, l] := by
    simp only [List.mem_cons, List.not_mem_nil, or_false, not_or]
    exact ⟨Nat.ne_of_gt (Heap.lt_size hoi), Nat.ne_of_gt (Heap.lt_size hot)⟩
  refine list_any hit.typeIs (by decide) (by decide) (fun A E s' Q k q => wpAny_pyIter_revIter (hit.at fun o e => k.heap e) q) (fun A E s' Q k q => hint_rl (hit.at fun o e => k.heap e) q) fun R s' c k hS hR => ?_
  have W := (Walks.listRev (prog := prog) (w := w) (A := A.in1.in1) hh it l hne items).toS
  have e0 : ((items.size : Nat) : Int) - 1 - ((0 : Nat) : Int) = (items.size : Int) - 1 := by omega
  refine codeAny_extend_loopS W hn _ hSf _ items.size 0 _ _ _ rfl (Nat.zero_le _) ⟨Nat.zero_le _, by rw [e0]; exact hit.at fun o e => k.heap e, kt s' k⟩ hS (ItemsOf.nil _) fun s'' acc' c' hm hS' hacc => hR _ ?_
  obtain ⟨h1, t1, rfl, ht1, hk1⟩ := k
  rw [Moved.eq_with hm]
  refine hQ s''.heap s''.toks acc' c' (fun b o hb e => hm.heap b o (fun hmem => ?_) (hk1 b o e)) hS' hacc
  rcases List.mem_cons.mp hmem with e' | hmem
  · exact absurd (Heap.lt_size e) (by rw [e']; exact Nat.lt_irrefl _)
  · exact hb (List.mem_singleton.mp hmem)
end
end Z

set_option Elab.async false
set_option linter.all false
set_option maxRecDepth 100000
set_option maxHeartbeats 4000000
namespace Z
open PySem PySem.Spec PyProof.Rows L2 RZ

theorem zip_nolen : typeLookup (.type "zip") "__len__" = pure none := by rw [typeLookup_type, builtinLookup_eq_fast]; kernel_rfl
theorem zip_nohint : typeLookup (.type "zip") "__length_hint__" = pure none := by rw [typeLookup_type, builtinLookup_eq_fast]; kernel_rfl
section
variable {prog : Program} {w : World} {A : Around} {E : Value → Shared → Prop} {s : Shared}
theorem hint_zip {z : Addr} {Q : Bool → Shared → Prop} (hT : s.TypeIs (.ref z) "zip") (hQ : ∀ b tk, s.toks ≤ tk → Q b { s with toks := tk }) : wpAny (model prog w) A (Builtin.List.listLengthHint (.ref z)) Q E s := by
  unfold Builtin.List.listLengthHint
  refine wpAny_bind (wpAny_specialOf hT zip_nolen ?_)
  show wpAny _ A (specialOf (Value.ref z) (Str.ofString "__length_hint__") >>= _) _ _ _
  refine wpAny_bind (wpAny_specialOf hT zip_nohint ?_)
  exact wpAny_pure (hQ _ _ (Nat.le_refl _))
theorem zipT_next_item_held {z TI TO T i1 i2 l1 l2 : Addr} {f : Bool} {oT : Obj} {k1 k2 : Nat} {xs ys : Array Value} {x y : Value} {Q : Value → Shared → Prop} (D : ZipApart z TI TO i1 i2 l1 l2)
    (hz : IsZipHeld s.heap z TI TO T f) (hT : s.heap.get? T = some oT) (hTI : IsPair s.heap TI (.ref i1) (.ref i2))
    (h1 : s.heap.IsTupleIter i1 l1 k1) (h2 : s.heap.IsTupleIter i2 l2 k2) (hl1 : s.heap.IsTuple l1 xs) (hl2 : s.heap.IsTuple l2 ys) (hx : xs[k1]? = some x) (hy : ys[k2]? = some y)
    (hQ : ∀ h', IsZipHeld h' z TI TO T true → h'.IsTupleIter i1 l1 (k1 + 1) → h'.IsTupleIter i2 l2 (k2 + 1) → IsPair h' s.heap.objs.size x y → h'.objs.size = s.heap.objs.size + 1 →
      (∀ c o, c ≠ z → c ≠ i1 → c ≠ i2 → s.heap.get? c = some o → h'.get? c = some o) → Q (.ref s.heap.objs.size) { s with heap := h' }) :
    wpAny (model prog w) A (Builtin.«zip.__next__» ⟨[.ref z], []⟩) (fun fin s' => ∃ v, fin = .done (.ret v) ∧ Q v s') E s := by
  show wpAny _ _ (field (.ref z) 2 >>= _) _ _ _
  refine wpAny_bind (wpAny_field hz rfl (x := .bool false) rfl ?_)
  show wpAny _ _ (field (.ref z) 3 >>= _) _ _ _
  refine wpAny_bind (wpAny_field hz rfl (x := .ref TI) rfl ?_)
  refine wpAny_bind (wpAny_seqItems hTI rfl ?_)
  show wpAny _ _ (Builtin.SmallTypes.ownedTupleIsFree (.ref z) >>= _) _ _ _
  refine wpAny_bind (wpAny_tupleHeld_zip hz hT fun h₁ hz₁ hs₁ => ?_)
  simp only [Bool.false_eq_true, if_false]
  refine wpAny_bind ?_
  rw [← Array.forIn_toList]
  simp only [List.forIn_cons, List.forIn_nil]
  refine wpAny_bind (wpAny_bind (wpAny_holding ?_))
  show wpAny _ _ (Builtin.SmallTypes.nextOf (.ref i1) >>= _) _ _ _
  refine wpAny_bind (nextOf_tuple_item (s := { s with heap := h₁ }) (h1.extBut hs₁.extBut D.i1z) (hl1.extBut hs₁.extBut D.l1z) hx fun h₂ h1₂ hs₂ => wpAny_pure ?_)
  refine wpAny_pure ?_
  refine wpAny_bind (wpAny_bind (wpAny_holding ?_))
  show wpAny _ _ (Builtin.SmallTypes.nextOf (.ref i2) >>= _) _ _ _
  refine wpAny_bind (nextOf_tuple_item (s := { s with heap := h₂ }) ((h2.extBut hs₁.extBut D.i2z).extBut hs₂.extBut D.i12.symm) ((hl2.extBut hs₁.extBut D.l2z).extBut hs₂.extBut D.l2i1) hy fun h₃ h2₃ hs₃ => wpAny_pure ?_)
  refine wpAny_pure (wpAny_pure ?_)
  show wpAny _ _ (newTuple [x, y] >>= _) _ _ _
  refine wpAny_bind (wpAny_newTuple ?_)
  have hsz : h₃.objs.size = s.heap.objs.size := by rw [hs₃.1, hs₂.1, hs₁.1]
  have hz₃ : IsZipHeld h₃ z TI TO T true := hs₃.extBut _ _ D.i2z.symm (hs₂.extBut _ _ D.i1z.symm hz₁)
  have hk : ∀ c o, c ≠ z → c ≠ i1 → c ≠ i2 → s.heap.get? c = some o → h₃.get? c = some o := fun c o c1 c2 c3 e => hs₃.extBut _ _ c3 (hs₂.extBut _ _ c2 (hs₁.extBut _ _ c1 e))
  have h1₃ : h₃.IsTupleIter i1 l1 (k1 + 1) := h1₂.extBut hs₃.extBut D.i12
  refine wpAny_pure ⟨_, rfl, ?_⟩
  show Q (.ref h₃.objs.size) _
  have hp : IsPair (h₃.push { cls := .type "tuple", data := .seq #[x, y] }) h₃.objs.size x y := Heap.get?_push_size _ rfl
  have hz4 : (h₃.push { cls := .type "tuple", data := .seq #[x, y] }).objs.size = h₃.objs.size + 1 := Heap.size_push ..
  rw [hsz] at hp hz4 ⊢
  exact hQ _ (Heap.get?_push_of_some _ hz₃) (h1₃.at fun o e => Heap.get?_push_of_some _ e) (h2₃.at fun o e => Heap.get?_push_of_some _ e) hp hz4 fun c o c1 c2 c3 e => Heap.get?_push_of_some _ (hk c o c1 c2 c3 e)

theorem zipT_next_end_held {z TI TO T i1 i2 l1 l2 : Addr} {f : Bool} {oT : Obj} {k1 k2 : Nat} {xs ys : Array Value} {Q : Fin → Shared → Prop} (hh : A.handled = none) (D : ZipApart z TI TO i1 i2 l1 l2)
    (hz : IsZipHeld s.heap z TI TO T f) (hT : s.heap.get? T = some oT) (hTI : IsPair s.heap TI (.ref i1) (.ref i2))
    (h1 : s.heap.IsTupleIter i1 l1 k1) (h2 : s.heap.IsTupleIter i2 l2 k2) (hl1 : s.heap.IsTuple l1 xs) (hl2 : s.heap.IsTuple l2 ys) (hend : xs[k1]? = none ∨ ys[k2]? = none)
    (hE : ∀ h' e, (∀ c o, c ≠ z → c ≠ i1 → c ≠ i2 → s.heap.get? c = some o → h'.get? c = some o) → (∃ o, h'.get? e = some o ∧ o.cls = .type "StopIteration") → E (.ref e) { s with heap := h' }) :
    wpAny (model prog w) A (Builtin.«zip.__next__» ⟨[.ref z], []⟩) Q E s := by
  show wpAny _ _ (field (.ref z) 2 >>= _) _ _ _
  refine wpAny_bind (wpAny_field hz rfl (x := .bool false) rfl ?_)
  show wpAny _ _ (field (.ref z) 3 >>= _) _ _ _
  refine wpAny_bind (wpAny_field hz rfl (x := .ref TI) rfl ?_)
  refine wpAny_bind (wpAny_seqItems hTI rfl ?_)
  show wpAny _ _ (Builtin.SmallTypes.ownedTupleIsFree (.ref z) >>= _) _ _ _
  refine wpAny_bind (wpAny_tupleHeld_zip hz hT fun h₁ hz₁ hs₁ => ?_)
  simp only [Bool.false_eq_true, if_false]
  refine wpAny_bind ?_
  rw [← Array.forIn_toList]
  simp only [List.forIn_cons, List.forIn_nil]
  refine wpAny_bind (wpAny_bind (wpAny_holding ?_))
  show wpAny _ _ (Builtin.SmallTypes.nextOf (.ref i1) >>= _) _ _ _
  cases hx : xs[k1]? with
  | none =>
    refine wpAny_bind (nextOf_tuple_end (s := { s with heap := h₁ }) hh (h1.extBut hs₁.extBut D.i1z) (hl1.extBut hs₁.extBut D.l1z) hx fun h₂ e hs₂ he => ?_)
    exact hE h₂ e (fun c o c1 c2 _ x => hs₂ _ _ c2 (hs₁.extBut _ _ c1 x)) he
  | some x =>
    have hy : ys[k2]? = none := by rcases hend with h | h; rw [hx] at h; cases h; exact h
    refine wpAny_bind (nextOf_tuple_item (s := { s with heap := h₁ }) (h1.extBut hs₁.extBut D.i1z) (hl1.extBut hs₁.extBut D.l1z) hx fun h₂ h1₂ hs₂ => wpAny_pure ?_)
    refine wpAny_pure ?_
    refine wpAny_bind (wpAny_bind (wpAny_holding ?_))
    show wpAny _ _ (Builtin.SmallTypes.nextOf (.ref i2) >>= _) _ _ _
    refine wpAny_bind (nextOf_tuple_end (s := { s with heap := h₂ }) hh ((h2.extBut hs₁.extBut D.i2z).extBut hs₂.extBut D.i12.symm) ((hl2.extBut hs₁.extBut D.l2z).extBut hs₂.extBut D.l2i1) hy fun h₃ e hs₃ he => ?_)
    exact hE h₃ e (fun c o c1 c2 c3 x => hs₃ _ _ c3 (hs₂.extBut _ _ c2 (hs₁.extBut _ _ c1 x))) he

theorem pyNext_zipT_item_held {z TI TO T i1 i2 l1 l2 : Addr} {f : Bool} {oT : Obj} {k1 k2 : Nat} {xs ys : Array Value} {x y : Value} {Q : Option Value → Shared → Prop} (D : ZipApart z TI TO i1 i2 l1 l2)
    (hz : IsZipHeld s.heap z TI TO T f) (hT : s.heap.get? T = some oT) (hTI : IsPair s.heap TI (.ref i1) (.ref i2))
    (h1 : s.heap.IsTupleIter i1 l1 k1) (h2 : s.heap.IsTupleIter i2 l2 k2) (hl1 : s.heap.IsTuple l1 xs) (hl2 : s.heap.IsTuple l2 ys) (hx : xs[k1]? = some x) (hy : ys[k2]? = some y)
    (hQ : ∀ h', IsZipHeld h' z TI TO T true → h'.IsTupleIter i1 l1 (k1 + 1) → h'.IsTupleIter i2 l2 (k2 + 1) → IsPair h' s.heap.objs.size x y → h'.objs.size = s.heap.objs.size + 1 →
      (∀ c o, c ≠ z → c ≠ i1 → c ≠ i2 → s.heap.get? c = some o → h'.get? c = some o) → Q (some (.ref s.heap.objs.size)) { s with heap := h' }) :
    wpAny (model prog w) A (pyNext (.ref z)) Q E s := by
  have hTy : s.TypeIs (.ref z) "zip" := ⟨_, hz, rfl⟩
  unfold pyNext
  exact wpAny_bind (wpAny_attempt (wpAny_callSpecial?_slot (name := Str.ofString "__next__") hTy F.slot_zip_next
    (wpAny_call_entry F.slot_zip_next hTy F.entry_zip_next
      (zipT_next_item_held D hz hT hTI h1 h2 hl1 hl2 hx hy fun h' a1 a3 a4 a5 a6 a7 => wpAny_pure (hQ h' a1 a3 a4 a5 a6 a7)) (F.args_zip_next_1 _))))
theorem pyNext_zipT_end_held {z TI TO T i1 i2 l1 l2 : Addr} {f : Bool} {oT : Obj} {k1 k2 : Nat} {xs ys : Array Value} {Q : Option Value → Shared → Prop} (hh : A.handled = none) (D : ZipApart z TI TO i1 i2 l1 l2)
    (hz : IsZipHeld s.heap z TI TO T f) (hT : s.heap.get? T = some oT) (hTI : IsPair s.heap TI (.ref i1) (.ref i2))
    (h1 : s.heap.IsTupleIter i1 l1 k1) (h2 : s.heap.IsTupleIter i2 l2 k2) (hl1 : s.heap.IsTuple l1 xs) (hl2 : s.heap.IsTuple l2 ys) (hend : xs[k1]? = none ∨ ys[k2]? = none)
    (hQ : ∀ h', (∀ c o, c ≠ z → c ≠ i1 → c ≠ i2 → s.heap.get? c = some o → h'.get? c = some o) → Q none { s with heap := h' }) : wpAny (model prog w) A (pyNext (.ref z)) Q E s := by
  have hTy : s.TypeIs (.ref z) "zip" := ⟨_, hz, rfl⟩
  unfold pyNext
  refine wpAny_bind (wpAny_attempt (wpAny_callSpecial?_slot (name := Str.ofString "__next__") hTy F.slot_zip_next
    (wpAny_call_entry F.slot_zip_next hTy F.entry_zip_next (zipT_next_end_held hh D hz hT hTI h1 h2 hl1 hl2 hend fun h' e hk he => ?_) (F.args_zip_next_1 _))))
  obtain ⟨o, ho, hc⟩ := he
  refine wpAny_bind (wpAny_isInstance (T := "StopIteration") (b := true) ⟨o, ho, hc⟩ isSubtype_stop ?_)
  exact wpAny_pure (hQ _ hk)

structure ZJ (P : Program) (w : World) (H0 : Hp) (s0 : Shared) (z TI TO i1 i2 l1 l2 S : Addr) (xs ys : Array Value) (Xs Ys : List V) (i : Nat) (acc : Array Value) (s : Shared) : Prop where
  eq : s = { s0 with heap := s.heap, toks := s.toks }
  keep : ∀ b o, s0.heap.get? b = some o → s.heap.get? b = some o
  lst : ∃ c, s.heap.get? S = some { cls := .type "list", data := .seq acc c }
  ti : IsPair s.heap TI (.ref i1) (.ref i2)
  it1 : s.heap.IsTupleIter i1 l1 i
  it2 : s.heap.IsTupleIter i2 l2 i
  zs : (IsZip s.heap z TI TO .none ∧ ∃ a b, IsPair s.heap TO a b) ∨ ∃ T f oT, IsZipHeld s.heap z TI TO T f ∧ s.heap.get? T = some oT ∧ T ≠ z ∧ T ≠ i1 ∧ T ≠ i2 ∧ T ≠ S
  tolt : TO < s.heap.objs.size
  len : acc.size = i
  got : ∃ (H : Hp) (vs : List V), (∀ b o, H0 b = some o → H b = some o) ∧ Vals vs acc.toList ∧
    (∀ b o, H b = some o → H0 b = none → s0.heap.objs.size ≤ b ∧ b ≠ S ∧ b ≠ z ∧ b ≠ TO ∧ b ≠ i1 ∧ b ≠ i2 ∧ ∃ x y u v, o = .tup [x, y] ∧ RelV x u ∧ RelV y v ∧ IsPair s.heap b u v) ∧
    ∀ (j : Nat) v, vs[j]? = some v → ∃ t x y, v = .ref t ∧ H t = some (.tup [x, y]) ∧ Xs[j]? = some x ∧ Ys[j]? = some y
end
end Z

set_option Elab.async false
set_option linter.all false
set_option maxRecDepth 100000
set_option maxHeartbeats 4000000
namespace Z
open PySem PySem.Spec PyProof.Rows L2 RZ
section
variable {prog : Program} {w : World} {A : Around} {E : Value → Shared → Prop} {s0 : Shared} {R : Result → Shared → Prop}
variable {H0 : Hp} {z TI TO i1 i2 l1 l2 S : Addr} {xs ys : Array Value} {Xs Ys : List V}

theorem vals_back : ∀ {xs : List V} {us : List Value} {i : Nat} {u : Value}, Vals xs us → us[i]? = some u → ∃ x, xs[i]? = some x ∧ RelV x u := fun {xs us i u} r e => by
  have hi : i < us.length := by
    by_cases h : i < us.length
    · exact h
    · rw [List.getElem?_eq_none (by omega)] at e; cases e
  have e1 : xs[i]? = some (xs[i]'(by rw [r.length]; exact hi)) := List.getElem?_eq_getElem _
  obtain ⟨u', e2, r2⟩ := r.get e1
  rw [e] at e2
  cases e2
  exact ⟨_, e1, r2⟩
theorem zj_push {i : Nat} {acc : Array Value} {s s' : Shared} {x y : Value} {c : Nat} (D : ZipApart z TI TO i1 i2 l1 l2) (hSz : S ≠ z) (hSTI : S ≠ TI) (hSTO : S ≠ TO) (hS1 : S ≠ i1) (hS2 : S ≠ i2)
    (f0 : s0.heap.objs.size ≤ S) (f1 : s0.heap.objs.size ≤ z) (f2 : s0.heap.objs.size ≤ TO) (f3 : s0.heap.objs.size ≤ i1) (f4 : s0.heap.objs.size ≤ i2)
    (hb0 : ∀ b o, H0 b = some o → b < s0.heap.objs.size) (hTO : s.heap.objs.size ≠ TO) (hsz' : TO < (s'.heap.update S (Obj.mapSeq (·.push (.ref s.heap.objs.size)))).objs.size) (r1 : Vals Xs xs.toList) (r2 : Vals Ys ys.toList) (hx : xs[i]? = some x) (hy : ys[i]? = some y) (J : ZJ prog w H0 s0 z TI TO i1 i2 l1 l2 S xs ys Xs Ys i acc s)
    (hk : ∀ c o, c ≠ z → c ≠ TO → c ≠ i1 → c ≠ i2 → s.heap.get? c = some o → s'.heap.get? c = some o) (hS : s'.heap.get? S = some { cls := .type "list", data := .seq acc c })
    (heq : s' = { s with heap := s'.heap, toks := s'.toks }) (a3 : s'.heap.IsTupleIter i1 l1 (i + 1)) (a4 : s'.heap.IsTupleIter i2 l2 (i + 1)) (hp : IsPair s'.heap s.heap.objs.size x y)
    (hz : ∃ T f oT, IsZipHeld s'.heap z TI TO T f ∧ s'.heap.get? T = some oT ∧ T ≠ z ∧ T ≠ i1 ∧ T ≠ i2 ∧ T ≠ S) {t' : Nat} :
    ZJ prog w H0 s0 z TI TO i1 i2 l1 l2 S xs ys Xs Ys (i + 1) (acc.push (.ref s.heap.objs.size)) { s' with heap := s'.heap.update S (Obj.mapSeq (·.push (.ref s.heap.objs.size))), toks := t' } := by
  have up : ∀ b o, b ≠ S → s'.heap.get? b = some o → (s'.heap.update S (Obj.mapSeq (·.push (.ref s.heap.objs.size)))).get? b = some o := fun b o hb e => (Heap.get?_update_other _ _ (Ne.symm hb)).trans e
  have lt : ∀ {c o}, s.heap.get? c = some o → c < s.heap.objs.size := fun e => Heap.lt_size e
  obtain ⟨cS, hS0⟩ := J.lst
  have n0 : ∀ b o, s0.heap.get? b = some o → b < s0.heap.objs.size := fun b o e => Heap.lt_size e
  have hs0 : s0.heap.objs.size ≤ s.heap.objs.size := Nat.le_trans f0 (Nat.le_of_lt (lt hS0))
  have nz : z < s.heap.objs.size := by
    rcases J.zs with ⟨h, _⟩ | ⟨_, _, _, h, _⟩ <;> exact lt h
  have n1 : i1 < s.heap.objs.size := by obtain ⟨_, e, _⟩ := J.it1; exact lt e
  have n2 : i2 < s.heap.objs.size := by obtain ⟨_, e, _⟩ := J.it2; exact lt e
  have nS : S < s.heap.objs.size := lt hS0
  refine { eq := ?_, keep := ?_, lst := ⟨_, Heap.get?_update_self _ hS rfl⟩, ti := ?_, it1 := ?_, it2 := ?_, zs := ?_, tolt := ?_, len := ?_, got := ?_ }
  · have e1 := J.eq
    have e2 : s'.gens = s0.gens ∧ s'.drawn = s0.drawn ∧ s'.os = s0.os := by
      rw [heq]
      show s.gens = _ ∧ s.drawn = _ ∧ s.os = _
      rw [e1]
      exact ⟨rfl, rfl, rfl⟩
    show ({ heap := _, gens := s'.gens, drawn := s'.drawn, toks := _, os := s'.os } : Shared) = _
    rw [e2.1, e2.2.1, e2.2.2]
  · intro b o e
    have hb := n0 b o e
    have hb' : ∀ {c : Addr}, s0.heap.objs.size ≤ c → b ≠ c := fun q => Nat.ne_of_lt (Nat.lt_of_lt_of_le hb q)
    exact up b o (hb' f0) (hk b o (hb' f1) (hb' f2) (hb' f3) (hb' f4) (J.keep b o e))
  · exact up _ _ hSTI.symm (hk _ _ D.TIz D.TITO D.TIi1 D.TIi2 J.ti)
  · exact a3.at fun o e => up _ o hS1.symm e
  · exact a4.at fun o e => up _ o hS2.symm e
  · obtain ⟨T, f, oT, q1, q2, q3, q4, q5, q6⟩ := hz
    exact .inr ⟨T, f, oT, up _ _ hSz.symm q1, up _ _ q6 q2, q3, q4, q5, q6⟩
  · exact hsz'
  · rw [Array.size_push, J.len]
  · obtain ⟨H, vs, hup, hv, hnew, hat⟩ := J.got
    have hx' : xs.toList[i]? = some x := by rw [Array.getElem?_toList]; exact hx
    have hy' : ys.toList[i]? = some y := by rw [Array.getElem?_toList]; exact hy
    obtain ⟨X, hX, rX⟩ := vals_back r1 hx'
    obtain ⟨Y, hY, rY⟩ := vals_back r2 hy'
    have hTn : H0 s.heap.objs.size = none ∨ True := .inr trivial
    have hfr : H s.heap.objs.size = none := by
      cases e : H s.heap.objs.size with
      | none => rfl
      | some o =>
        cases e0 : H0 s.heap.objs.size with
        | some o0 => exact absurd (hb0 _ _ e0) (Nat.not_lt.mpr hs0)
        | none =>
          obtain ⟨_, _, _, _, _, _, _, _, _, _, _, _, _, hp⟩ := hnew _ _ e e0
          exact absurd (lt hp) (Nat.lt_irrefl _)
    refine ⟨upd H s.heap.objs.size (.tup [X, Y]), vs ++ [.ref s.heap.objs.size], fun b o e => ?_, ?_, fun b o e e0 => ?_, fun j v e => ?_⟩
    · rw [upd_ne (ne_of_none (hup b o e) hfr)]
      exact hup b o e
    · rw [Array.toList_push]
      exact hv.append (.cons rfl .nil)
    · by_cases hb : b = s.heap.objs.size
      · subst hb
        rw [upd_same] at e
        cases e
        refine ⟨hs0, Nat.ne_of_gt nS, Nat.ne_of_gt nz, ?_, Nat.ne_of_gt n1, Nat.ne_of_gt n2, X, Y, x, y, rfl, rX, rY, up _ _ (Nat.ne_of_gt nS) hp⟩
        exact hTO
      · rw [upd_ne hb] at e
        obtain ⟨q0, q1, q2, q3, q4, q5, X', Y', u, v, rfl, q6, q7, q8⟩ := hnew b o e e0
        exact ⟨q0, q1, q2, q3, q4, q5, X', Y', u, v, rfl, q6, q7, up _ _ q1 (hk _ _ q2 q3 q4 q5 q8)⟩
    · have hl : vs.length = i := by rw [hv.length, Array.length_toList]; exact J.len
      rcases Nat.lt_trichotomy j vs.length with h | h | h
      · rw [List.getElem?_append_left h] at e
        obtain ⟨t, x', y', rfl, q1, q2, q3⟩ := hat j v e
        exact ⟨t, x', y', rfl, by rw [upd_ne (ne_of_none q1 hfr)]; exact q1, q2, q3⟩
      · subst h
        rw [List.getElem?_append_right (Nat.le_refl _), Nat.sub_self] at e
        simp at e
        subst e
        exact ⟨_, X, Y, rfl, upd_same, by rw [hl]; exact hX, by rw [hl]; exact hY⟩
      · rw [List.getElem?_eq_none (by rw [List.length_append, List.length_singleton]; omega)] at e
        cases e

theorem zip_loop (hh : A.handled = none) (D : ZipApart z TI TO i1 i2 l1 l2) (hSz : S ≠ z) (hSTI : S ≠ TI) (hSTO : S ≠ TO) (hS1 : S ≠ i1) (hS2 : S ≠ i2)
    (f0 : s0.heap.objs.size ≤ S) (f1 : s0.heap.objs.size ≤ z) (f2 : s0.heap.objs.size ≤ TO) (f3 : s0.heap.objs.size ≤ i1) (f4 : s0.heap.objs.size ≤ i2)
    (hb0 : ∀ b o, H0 b = some o → b < s0.heap.objs.size) (hl1 : s0.heap.IsTuple l1 xs) (hl2 : s0.heap.IsTuple l2 ys) (hn : xs.size ≤ sizeLine)
    (r1 : Vals Xs xs.toList) (r2 : Vals Ys ys.toList)
    (hR : ∀ acc s, s = { s0 with heap := s.heap, toks := s.toks } → (∀ b o, s0.heap.get? b = some o → s.heap.get? b = some o) → (∃ c, s.heap.get? S = some { cls := .type "list", data := .seq acc c }) → acc.size = min xs.size ys.size →
      (∃ (H : Hp) (vs : List V), (∀ b o, H0 b = some o → H b = some o) ∧ Vals vs acc.toList ∧
        (∀ b o, H b = some o → H0 b = none → s0.heap.objs.size ≤ b ∧ b ≠ S ∧ ∃ x y u v, o = .tup [x, y] ∧ RelV x u ∧ RelV y v ∧ IsPair s.heap b u v) ∧
        ∀ (j : Nat) v, vs[j]? = some v → ∃ t x y, v = .ref t ∧ H t = some (.tup [x, y]) ∧ Xs[j]? = some x ∧ Ys[j]? = some y) → R (.ok (.ret .none)) s) :
    ∀ (k i : Nat) (acc : Array Value) (s : Shared), min xs.size ys.size - i = k → i ≤ min xs.size ys.size → ZJ prog w H0 s0 z TI TO i1 i2 l1 l2 S xs ys Xs Ys i acc s →
    codeAny (model prog w) A (.builtin "list.extend.loop" ⟨[.ref S, .ref z, .none], []⟩) R s := by
  have n0 : ∀ b o, s0.heap.get? b = some o → b < s0.heap.objs.size := fun b o e => Heap.lt_size e
  intro k
  induction k with
  | zero =>
    intro i acc s hk hi J
    have hin : i = min xs.size ys.size := by omega
    have hend : xs[i]? = none ∨ ys[i]? = none := by
      rw [hin]
      rcases Nat.le_total xs.size ys.size with h | h
      · exact .inl (Array.getElem?_eq_none (by rw [Nat.min_eq_left h]; exact Nat.le_refl _))
      · exact .inr (Array.getElem?_eq_none (by rw [Nat.min_eq_right h]; exact Nat.le_refl _))
    refine codeAny_builtin F.entry_extend_loop ?_
    rw [Around.under_plainId F.plain_extend_loop _]
    show wpAny _ A.in1 (pyNext (.ref z) >>= _) _ _ s
    have fin : ∀ h', (∀ c o, c ≠ z → c ≠ TO → c ≠ i1 → c ≠ i2 → s.heap.get? c = some o → h'.get? c = some o) → R (.ok (.ret .none)) { s with heap := h' } := fun h' hk => by
      obtain ⟨cS, hS0⟩ := J.lst
      refine hR acc _ ?_ (fun b o e => ?_) ⟨cS, hk _ _ hSz hSTO hS1 hS2 hS0⟩ (J.len.trans hin) ?_
      · rw [J.eq]
      · have hb := n0 b o e
        have hb' : ∀ {c : Addr}, s0.heap.objs.size ≤ c → b ≠ c := fun q => Nat.ne_of_lt (Nat.lt_of_lt_of_le hb q)
        exact hk b o (hb' f1) (hb' f2) (hb' f3) (hb' f4) (J.keep b o e)
      · obtain ⟨H, vs, hup, hv, hnew, hat⟩ := J.got
        refine ⟨H, vs, hup, hv, fun b o e e0 => ?_, hat⟩
        obtain ⟨q0, q1, q2, q3, q4, q5, X', Y', u, v, rfl, q6, q7, q8⟩ := hnew b o e e0
        exact ⟨q0, q1, X', Y', u, v, rfl, q6, q7, hk _ _ q2 q3 q4 q5 q8⟩
    rcases J.zs with ⟨hz, a, b, hTO⟩ | ⟨T, f, oT, hz, hT, q3, q4, q5, q6⟩
    · exact wpAny_bind (pyNext_zipT_end hh D hz J.ti hTO J.it1 J.it2 (hl1.at fun o e => J.keep _ o e) (hl2.at fun o e => J.keep _ o e) hend fun h' hk => wpAny_pure (fin h' hk))
    · exact wpAny_bind (pyNext_zipT_end_held hh D hz hT J.ti J.it1 J.it2 (hl1.at fun o e => J.keep _ o e) (hl2.at fun o e => J.keep _ o e) hend fun h' hk => wpAny_pure (fin h' fun c o c1 _ c3 c4 e => hk c o c1 c3 c4 e))
  | succ k ih =>
    intro i acc s hk hi J
    have hix : i < xs.size := by omega
    have hiy : i < ys.size := by omega
    have ex := Array.getElem?_eq_getElem hix
    have ey := Array.getElem?_eq_getElem hiy
    refine codeAny_builtin F.entry_extend_loop ?_
    rw [Around.under_plainId F.plain_extend_loop _]
    show wpAny _ A.in1 (pyNext (.ref z) >>= _) _ _ s
    obtain ⟨cS, hS0⟩ := J.lst
    have hTO0 : TO < s.heap.objs.size := J.tolt
    have n1 : s.heap.objs.size ≠ i1 := by obtain ⟨_, e, _⟩ := J.it1; exact Nat.ne_of_gt (Heap.lt_size e)
    have n2 : s.heap.objs.size ≠ i2 := by obtain ⟨_, e, _⟩ := J.it2; exact Nat.ne_of_gt (Heap.lt_size e)
    have nS : s.heap.objs.size ≠ S := Nat.ne_of_gt (Heap.lt_size hS0)
    have step : ∀ h', h'.objs.size = s.heap.objs.size + 1 → (∀ c o, c ≠ z → c ≠ TO → c ≠ i1 → c ≠ i2 → s.heap.get? c = some o → h'.get? c = some o) → h'.IsTupleIter i1 l1 (i + 1) → h'.IsTupleIter i2 l2 (i + 1) → IsPair h' s.heap.objs.size xs[i] ys[i] →
        (∃ T f oT, IsZipHeld h' z TI TO T f ∧ h'.get? T = some oT ∧ T ≠ z ∧ T ≠ i1 ∧ T ≠ i2 ∧ T ≠ S) →
        wpAny (model prog w) A.in1 (updateSeq S (·.push (.ref s.heap.objs.size)) >>= fun _ => again (.builtin "list.extend.loop" ⟨[.ref S, .ref z, .none], []⟩))
          (fun fin s' => match fin with | .done f => R (.ok f) s' | .again c' => c'.quiet = true ∧ codeAny (model prog w) A c' R s') (fun e s' => R (.error e) s') { s with heap := h' } := fun h' hsz hk a3 a4 hp hz => by
      have hS' : h'.get? S = some { cls := .type "list", data := .seq acc cS } := hk _ _ hSz hSTO hS1 hS2 hS0
      refine wpAny_bind ?_
      refine wpAny_updateSeq (s := { s with heap := h' }) hS' rfl (wpAny_pure ⟨plainId_quiet F.plain_extend_loop _, ih (i + 1) (acc.push (.ref s.heap.objs.size)) _ (by omega) (by omega) (zj_push (s' := { s with heap := h' }) D hSz hSTI hSTO hS1 hS2 f0 f1 f2 f3 f4 hb0 (Nat.ne_of_gt hTO0) (by rw [(Heap.SameBut.update (h := h') (a := S) (f := Obj.mapSeq (·.push (.ref s.heap.objs.size)))).1, hsz]; exact Nat.lt_succ_of_lt hTO0) r1 r2 ex ey J hk hS' rfl a3 a4 hp hz)⟩)
        (by rw [J.len]; omega) (by show (acc.push _).size ≤ sizeLine + 1; rw [Array.size_push, J.len]; omega)
    rcases J.zs with ⟨hz, a, b, hTO⟩ | ⟨T, f, oT, hz, hT, q3, q4, q5, q6⟩
    · refine wpAny_bind (pyNext_zipT_item D hz J.ti hTO J.it1 J.it2 (hl1.at fun o e => J.keep _ o e) (hl2.at fun o e => J.keep _ o e) ex ey fun h' a1 a2 a3 a4 a5 a6 hk => ?_)
      exact step h' a6 hk a3 a4 a5 ⟨_, false, _, a1, a5, Nat.ne_of_gt (Heap.lt_size hz), n1, n2, nS⟩
    · refine wpAny_bind (pyNext_zipT_item_held D hz hT J.ti J.it1 J.it2 (hl1.at fun o e => J.keep _ o e) (hl2.at fun o e => J.keep _ o e) ex ey fun h' a1 a3 a4 a5 a6 hk => ?_)
      exact step h' a6 (fun c o c1 _ c3 c4 e => hk c o c1 c3 c4 e) a3 a4 a5 ⟨T, true, oT, a1, hk _ _ q3 q4 q5 hT, q3, q4, q5, q6⟩
end
end Z

set_option Elab.async false
set_option linter.all false
set_option maxRecDepth 100000
set_option maxHeartbeats 4000000
namespace Z
open PySem PySem.Spec PyProof.Rows L2
section
variable {X : Cx}
def tLrev (K : PySem.W.Frag) (te : TE) : TE := fun σ H Q => te σ H fun v H1 => ∃ (a : Addr) (xs : List V), v = .ref a ∧ (SqL K H1 a xs ∨ SqT K H1 a xs) ∧ ∀ q, H1 q = none → Q (.ref q) (upd H1 q (.lst xs.reverse))
theorem boot_list0 : bootBuiltins "list" = some (.type "list") := by decide +kernel
theorem pe_listRev {e : Expr} {te : TE} {p p2 pos pos2 : Pos} (hc : X.calm = true) (hg : Gl X "list") (hm : X.mg "list" = none) (hg2 : Gl X "reversed") (hm2 : X.mg "reversed" = none) (he : PE X e te)
    (hs : starEach [e] X.env = (false, eval e X.env) :: starEach [] X.env)
    (hs2 : starEach [.Call (.Name "reversed" p2) [e] [] pos2] X.env = (false, eval (.Call (.Name "reversed" p2) [e] [] pos2) X.env) :: starEach [] X.env := by rfl) :
    PE X (.Call (.Name "list" p) [.Call (.Name "reversed" p2) [e] [] pos2] [] pos) (tLrev X.K te) := by
  refine ⟨fun pins s σ H Q I h => ?_⟩
  refine Call_ (ld_blt I hg hm boot_list0 (PyProof.Rows.callWith_type1 (args_cons (Call_ (ld_blt I hg2 hm2 PyProof.Rows.boot_reversed (PyProof.Rows.callWith_type1 (args_cons (thn (he.run pins s σ H _ I h) fun u s1 ⟨v, H1, I1, r1, q1⟩ => args_nil ?_) hs) hs rfl))) hs2) hs2 rfl))
  obtain ⟨a, xs, ev, hq, q⟩ := q1
  subst ev
  obtain rfl : u = Value.ref a := r1
  rcases hq with hq | hq
  · obtain ⟨its, rv, p', hz⟩ := I1.list hq
    refine call_reversed_list p'.isList (args_nil ?_)
    have hl := p'.isList
    obtain ⟨ol, hol, _⟩ := id hl
    have hne : a ≠ s1.heap.objs.size := Nat.ne_of_lt (Heap.lt_size hol)
    have hn : its.toArray.size ≤ sizeLine := by rw [List.size_toArray, ← rv.length]; exact hz
    have k0 : ∀ b o, s1.heap.get? b = some o → (s1.heap.push (revObj a ((its.toArray.size : Int) - 1))).get? b = some o := fun b o e => Heap.get?_push_of_some _ e
    refine call_list_rl (s := { s1 with heap := s1.heap.push (revObj a ((its.toArray.size : Int) - 1)) }) (I1.ok.hd hc) ⟨_, Heap.get?_push_size _ rfl, rfl, rfl⟩ (hl.push _) hne hn fun h' tk acc c hk hS hi => ?_
    have hsz : (s1.heap.push (revObj a ((its.toArray.size : Int) - 1))).objs.size = s1.heap.objs.size + 1 := Heap.size_push ..
    have hS2 := hS
    rw [show ({ s1 with heap := s1.heap.push (revObj a ((its.toArray.size : Int) - 1)) } : Shared).heap.objs.size = s1.heap.objs.size + 1 from hsz] at hS ⊢
    refine ⟨.ref (s1.heap.objs.size + 1), upd H1 (s1.heap.objs.size + 1) (.lst xs.reverse), I1.laid (t' := tk) (fun b o e => hk b o (Nat.ne_of_lt (Heap.lt_size e)) (k0 b o e)) (Nat.le_succ _) (show ObjOk X.prog X.w _ _ _ (.lst xs.reverse) from ⟨by rw [List.length_reverse]; exact hz, acc.toList, c, RT.vals_rev rv hi, ?_⟩), rfl, q _ (I1.hok.fresh (Nat.le_succ _))⟩
    rw [Array.toArray_toList]
    exact hS
  · obtain ⟨its, rv, p', hz⟩ := I1.tuple hq
    have hl := rv.length
    have hn : its.toArray.size ≤ sizeLine := by rw [List.size_toArray, ← rv.length]; exact hz
    have hn' := hn
    rw [sizeLine_eq] at hn'
    obtain ⟨ol, hol, _⟩ := id p'
    have hne : a ≠ s1.heap.objs.size := Nat.ne_of_lt (Heap.lt_size hol)
    refine RT.call_reversed_tup p' (fun A E Q k => len_tuple p' (by omega) k) (args_nil ?_)
    have k0 : ∀ b o, s1.heap.get? b = some o → (s1.heap.push (RT.rtObj a ((its.toArray.size : Int) - 1))).get? b = some o := fun b o e => Heap.get?_push_of_some _ e
    refine call_list_rt (s := { s1 with heap := s1.heap.push (RT.rtObj a ((its.toArray.size : Int) - 1)), toks := s1.toks + 1 + 1 }) (I1.ok.hd hc) ⟨_, Heap.get?_push_size _ rfl, rfl, rfl⟩ (let ⟨o, ho, r⟩ := p'; ⟨o, k0 _ _ ho, r⟩) hne hn fun h' tk acc c hk hS hi => ?_
    have hsz : (s1.heap.push (RT.rtObj a ((its.toArray.size : Int) - 1))).objs.size = s1.heap.objs.size + 1 := Heap.size_push ..
    rw [show ({ s1 with heap := s1.heap.push (RT.rtObj a ((its.toArray.size : Int) - 1)), toks := s1.toks + 1 + 1 } : Shared).heap.objs.size = s1.heap.objs.size + 1 from hsz] at hS ⊢
    refine ⟨.ref (s1.heap.objs.size + 1), upd H1 (s1.heap.objs.size + 1) (.lst xs.reverse), I1.laid (t' := tk) (fun b o e => hk b o (Nat.ne_of_lt (Heap.lt_size e)) (k0 b o e)) (Nat.le_succ _) (show ObjOk X.prog X.w _ _ _ (.lst xs.reverse) from ⟨by rw [List.length_reverse]; exact hz, acc.toList, c, RT.vals_rev rv hi, ?_⟩), rfl, q _ (I1.hok.fresh (Nat.le_succ _))⟩
    rw [Array.toArray_toList]
    exact hS
def tLzip (K : PySem.W.Frag) (ta : TA) : TE := fun σ H Q => ta σ H fun vs H1 => ∃ (a b : Addr) (xs ys : List V), vs = [.ref a, .ref b] ∧ SqT K H1 a xs ∧ SqT K H1 b ys ∧ ∀ (q : Addr) (H' : Hp) (us : List V),
  H1 q = none → (∀ c o, H1 c = some o → H' c = some o) → H' q = some (.lst us) → us.length = min xs.length ys.length →
  (∀ (j : Nat) v, us[j]? = some v → ∃ t x y, v = .ref t ∧ H' t = some (.tup [x, y]) ∧ xs[j]? = some x ∧ ys[j]? = some y) → Q (.ref q) H'
theorem pe_listZip {e e2 : Expr} {ta : TA} {p p2 pos pos2 : Pos} (hc : X.calm = true) (hg : Gl X "list") (hm : X.mg "list" = none) (hg2 : Gl X "zip") (hm2 : X.mg "zip" = none) (ha : PA X [e, e2] ta)
    (hs : starEach [e, e2] X.env = (false, eval e X.env) :: starEach [e2] X.env) (hpl : (backTo pos2 (starEach [e2] X.env)).any (·.1) = false)
    (hs2 : starEach [.Call (.Name "zip" p2) [e, e2] [] pos2] X.env = (false, eval (.Call (.Name "zip" p2) [e, e2] [] pos2) X.env) :: starEach [] X.env := by rfl) :
    PE X (.Call (.Name "list" p) [.Call (.Name "zip" p2) [e, e2] [] pos2] [] pos) (tLzip X.K ta) := by
  refine ⟨fun pins s σ H Q I h => ?_⟩
  refine Call_ (ld_blt I hg hm boot_list0 (PyProof.Rows.callWith_type1 (args_cons (Call_ (ld_blt I hg2 hm2 PyProof.Rows.boot_zip (PyProof.Rows.callWith_type1 (thn (ha.run pos2 pins s σ H _ I h) fun us s1 ⟨vs, H1, I1, r1, q1⟩ => ?_) hs hpl))) hs2) hs2 rfl))
  obtain ⟨a, b, xs, ys, ex, hqx, hqy, q⟩ := q1
  subst ex
  cases r1 with
  | cons r rr =>
  cases rr with
  | cons r' rr =>
  cases rr
  cases r
  cases r'
  obtain ⟨its, rv, p1, z1⟩ := I1.tuple hqx
  obtain ⟨its2, rv2, p2', z2⟩ := I1.tuple hqy
  obtain ⟨o1, ho1, _⟩ := id p1
  obtain ⟨o2, ho2, _⟩ := id p2'
  have D := PySem.W.ktu_apart s1.heap.objs.size a b (Heap.lt_size ho1) (Heap.lt_size ho2)
  have t1 : s1.heap.IsTuple a its.toArray := p1
  have t2 : s1.heap.IsTuple b its2.toArray := p2'
  have hb0 : ∀ b o, H1 b = some o → b < s1.heap.objs.size := fun b o e => (I1.hok b o e).lt
  refine RZ.call_zipT t1 t2 fun h' hz hTI hTO h1 h2 hsz hk => args_nil ?_
  have hTy : ({ s1 with heap := h' } : Shared).TypeIs (.ref (s1.heap.objs.size + 4)) "zip" := ⟨_, hz, rfl⟩
  refine list_any (s := { s1 with heap := h' }) hTy (by decide) (by decide) (fun A E s' Q k q => wpAny_pyIter_zip (k.heap hz) q) (fun A E s' Q k q => hint_zip (k.type hTy) q) fun R s' c k hS hR => ?_
  have eS : ({ s1 with heap := h' } : Shared).heap.objs.size = s1.heap.objs.size + 5 := hsz
  rw [eS] at hS hR ⊢
  have ne : ∀ {m n : Nat}, m ≠ n → s1.heap.objs.size + m ≠ s1.heap.objs.size + n := fun h e => h (by omega)
  have hn1 : its.toArray.size ≤ sizeLine := by rw [List.size_toArray, ← rv.length]; exact z1
  refine zip_loop (A := X.A.in1) (s0 := s1) (H0 := H1) (Xs := xs) (Ys := ys) (xs := its.toArray) (ys := its2.toArray) (I1.ok.hd hc) D (ne (by decide)) (ne (by decide)) (ne (by decide)) (Nat.ne_of_gt (by omega)) (ne (by decide)) (Nat.le_add_right _ _) (Nat.le_add_right _ _) (Nat.le_add_right _ _) (Nat.le_refl _) (Nat.le_add_right _ _) hb0 t1 t2 hn1
    (by simpa using rv) (by simpa using rv2) (fun acc s' he hkp hl hln hg => hR s' ?_) (min its.toArray.size its2.toArray.size) 0 #[] s' rfl (Nat.zero_le _) ?_
  · obtain ⟨Hn, us, hup, hv, hnew, hat⟩ := hg
    obtain ⟨cl, hl⟩ := hl
    have hSn : Hn (s1.heap.objs.size + 5) = none := by
      cases e : Hn (s1.heap.objs.size + 5) with
      | none => rfl
      | some o =>
        cases e0 : H1 (s1.heap.objs.size + 5) with
        | some o0 => exact absurd (hb0 _ _ e0) (Nat.not_lt.mpr (Nat.le_add_right _ _))
        | none => exact absurd rfl (hnew _ _ e e0).2.1
    have hfr : H1 (s1.heap.objs.size + 5) = none := I1.hok.fresh (Nat.le_add_right _ _)
    have hlen : us.length = min xs.length ys.length := by
      have l1 := rv.length
      have l2 := rv2.length
      rw [hv.length, Array.length_toList, hln, List.size_toArray, List.size_toArray, ← l1, ← l2]
    have hup' : ∀ c o, H1 c = some o → upd Hn (s1.heap.objs.size + 5) (.lst us) c = some o := fun c o e => by
      rw [upd_ne (ne_of_none (hup c o e) hSn)]
      exact hup c o e
    refine ⟨.ref (s1.heap.objs.size + 5), upd Hn (s1.heap.objs.size + 5) (.lst us), ?_, rfl, q _ _ us hfr hup' upd_same hlen fun j v e => ?_⟩
    · rw [he]
      refine inv_many I1 hkp hup' fun b' o e e0 => ?_
      by_cases hb : b' = s1.heap.objs.size + 5
      · subst hb
        rw [upd_same] at e
        cases e
        refine ⟨?_, show ObjOk X.prog X.w _ _ _ (.lst us) from ⟨by rw [hlen]; exact Nat.le_trans (Nat.min_le_left _ _) z1, acc.toList, cl, hv, ?_⟩⟩
        · cases e5 : s1.heap.get? (s1.heap.objs.size + 5) with
          | none => rfl
          | some o5 => exact absurd (Heap.lt_size e5) (Nat.not_lt.mpr (Nat.le_add_right _ _))
        · rw [Array.toArray_toList]; exact hl
      · rw [upd_ne hb] at e
        obtain ⟨q0, _, x, y, u, v, rfl, q1, q2, q3⟩ := hnew b' o e e0
        refine ⟨?_, show ObjOk X.prog X.w _ _ _ (.tup [x, y]) from ⟨by show 2 ≤ sizeLine; rw [sizeLine_eq]; decide, [u, v], .cons q1 (.cons q2 .nil), ⟨_, q3, rfl, _, rfl⟩⟩⟩
        cases e5 : s1.heap.get? b' with
        | none => rfl
        | some o5 => exact absurd (Heap.lt_size e5) (Nat.not_lt.mpr q0)
    · obtain ⟨t, x, y, rfl, a1, a2, a3⟩ := hat j v e
      exact ⟨t, x, y, rfl, by rw [upd_ne (ne_of_none a1 hSn)]; exact a1, a2, a3⟩
  · obtain ⟨h2', tk2, rfl, htk, hk2⟩ := k
    refine { eq := rfl, keep := fun b o e => hk2 b o (hk b o e), lst := ⟨c, hS⟩, ti := hk2 _ _ hTI, it1 := h1.at fun o e => hk2 _ o e, it2 := h2.at fun o e => hk2 _ o e, zs := .inl ⟨hk2 _ _ hz, _, _, hk2 _ _ hTO⟩, tolt := Heap.lt_size (hk2 _ _ hTO), len := rfl, got := ⟨H1, [], fun _ _ e => e, .nil, fun b o e e0 => ?_, fun j v e => ?_⟩ }
    · rw [e] at e0; cases e0
    · cases j <;> cases e
end
end Z

set_option Elab.async false
set_option linter.all false
set_option maxRecDepth 100000
set_option maxHeartbeats 4000000
namespace Z
open PySem PySem.Spec PyProof.Rows L2
section
variable {K : PySem.W.Frag} {w : World} {H H' : Hp} {S S' : Sto} {R : D → Sto → Prop} {Q : VK} {X : Cx}
def Me.nm : Me → String
  | .append => "append"
  | .pop => "pop"
  | .extend => "extend"
  | .count => "count"
  | .clear => "clear"
  | .reverse => "reverse"
  | .get => "get"
  | .insert => "insert"
def Me.id : Me → String
  | .append => "list.append"
  | .pop => "list.pop"
  | .extend => "list.extend"
  | .count => "list.count"
  | .clear => "list.clear"
  | .reverse => "list.reverse"
  | .get => "dict.get"
  | .insert => "list.insert"
def Me.T : Me → String
  | .get => "dict"
  | _ => "list"
theorem Me.slot (m : Me) : Slot m.T (Str.ofString m.nm) m.id := by
  cases m
  · exact PySem.F.slot_list_append
  · exact PySem.F.slot_list_pop
  · exact PySem.F.slot_list_extend
  · exact PySem.F.slot_list_count
  · exact PySem.F.slot_list_clear
  · exact PySem.F.slot_list_reverse
  · exact PySem.F.slot_dict_get
  · exact PySem.F.slot_list_insert
theorem Me.typ (m : Me) : typeOf (.builtin m.id) = pure (.type "method_descriptor") := by
  cases m
  · exact PySem.F.type_list_append
  · exact PySem.F.type_list_pop
  · exact PySem.F.type_list_extend
  · exact PySem.F.type_list_count
  · exact PySem.F.type_list_clear
  · exact PySem.F.type_list_reverse
  · exact PySem.F.type_dict_get
  · exact PySem.F.type_list_insert
theorem Me.plain (m : Me) : PlainAttrs m.T := by
  cases m <;> first | exact PySem.F.plainAttrs_list | exact PySem.F.plainAttrs_dict
theorem count_of : ∀ {x : V} {xs : List V} {us : List Value}, Vals xs us → xs.all flatV = true → us.countP (eqU x) = xs.countP fun y => eqV y x
  | _, _, _, .nil, _ => rfl
  | x, y :: xs, u :: us, .cons r t, f => by
    rw [List.all_cons, Bool.and_eq_true] at f
    rw [List.countP_cons, List.countP_cons, eqU_of r f.1, count_of t f.2]
theorem mt_countF : MtR X "list.count" (fun x xs H Q => ∃ (p : Addr) (ys : List V) (y : V), x = .ref p ∧ xs = [y] ∧ SqL X.K H p ys ∧ flatV y = true ∧ ys.all flatV = true ∧ Q (.int (ys.countP fun z => eqV z y : Nat)) H) := by
  intro pins s σ H x xs v us Q I rx rs hh
  obtain ⟨p, ys, y, rfl, rfl, hq, fy, fs, q⟩ := hh
  obtain ⟨u, rfl, ru⟩ := vals1 rs
  cases (show v = Value.ref p from rx)
  obtain ⟨its, r, ⟨o, n, ho, hc, hd, hs⟩, hz⟩ := I.list hq
  obtain ⟨cls, dd, data, sl⟩ := o
  simp only at hc hd hs
  subst hc hd hs
  refine call_meets PySem.F.slot_list_count ⟨_, ho, rfl⟩ PySem.F.entry_list_count (PySem.F.args_list_count_2 _ _)
    (SeqAt.list_countAt p its.toArray n _ sl u (eqU y)) ⟨ho, fun z hz => mem_eqAt ru fy r fs z (by simpa using hz), ?_⟩
  have ec : its.toArray.toList.countP (eqU y) = ys.countP fun z => eqV z y := count_of r fs
  refine ⟨.int (ys.countP fun z => eqV z y : Nat), H, I.tok _, ⟨s.toks, ?_⟩, q⟩
  show Value.int ((its.toArray.toList.countP (eqU y) : Nat) : Int) s.toks = Value.int _ s.toks
  rw [ec]
theorem countF_of {x : D} {v : V} (r1 : RelD K w H x v) (f1 : flatD x = true) : ∀ {ds : List D} {vs : List V}, RelDs K w H ds vs → ds.all flatD = true → (vs.countP fun z => eqV z v) = ds.countP fun y => eqF y x
  | [], vs, r, f => by simp only [RelDs] at r; subst r; rfl
  | d :: ds, vs, r, f => by
    simp only [RelDs] at r
    obtain ⟨u, t, rfl, q1, q2⟩ := r
    rw [List.all_cons, Bool.and_eq_true] at f
    rw [List.countP_cons, List.countP_cons, countF_of r1 f1 q2 f.2, eqF_of q1 r1 f.1 f1]
theorem relds_erase {ds : List D} {vs : List V} (r : RelDs K w H ds vs) (i : Nat) : RelDs K w H (ds.eraseIdx i) (vs.eraseIdx i) := by
  rw [List.eraseIdx_eq_take_drop_succ, List.eraseIdx_eq_take_drop_succ]
  exact (r.take i).append (r.drop _)
theorem relds_ins {ds : List D} {vs : List V} {d : D} {v : V} (r : RelDs K w H ds vs) (rd : RelD K w H d v) (i : Nat) : RelDs K w H (ds.take i ++ [d] ++ ds.drop i) (vs.take i ++ [v] ++ vs.drop i) :=
  ((r.take i).append (by simp only [RelDs]; exact ⟨v, [], rfl, rd, rfl⟩)).append (r.drop i)
theorem mth_ok (hu : X.A.units + 1 < cLine) (m : Me) : MtR X m.id (rDM X.K X.w (wMth m)) := by
  intro pins s σ H x xs v us Q I rx rs hh
  obtain ⟨dx, ds, S, R, r1, r2, h, f, k⟩ := hh
  unfold wMth at f
  split at f
  case h_2 => exact f.elim
  rename_i a
  simp only [RelD] at r1
  subst r1
  split at f
  · rename_i ys e
    obtain ⟨vs, h1, h2⟩ := h.lst e
    split at f
    · obtain ⟨z, rfl, rz⟩ := relds_one r2
      exact mt_append pins s σ H _ _ v us Q I rx rs ⟨a, vs, z, rfl, rfl, h1, by rw [← h2.length]; exact f.1, k.mutl e f.2 h (h2.snoc rz) (by simp only [RelD])⟩
    · simp only [RelDs] at r2
      subst r2
      split at f
      · rename_i y ey
        obtain ⟨z, q1, q2⟩ := h2.get ey
        rw [h2.length] at q1
        exact mt_pop pins s σ H _ _ v us Q I rx rs ⟨a, vs, z, rfl, rfl, h1, q1, k.mutl e f h h2.dropLast q2⟩
      · exact f.elim
    · obtain ⟨z, rfl, rz⟩ := relds_one r2
      simp only [RelD] at rz
      subst rz
      rename_i i
      obtain ⟨f0, f1, f⟩ := f
      split at f
      · rename_i y ey
        obtain ⟨z, q1, q2⟩ := h2.get ey
        have hlt : i.toNat < vs.length := (List.getElem?_eq_some_iff.mp q1).1
        refine mt_popAt pins s σ H _ _ v us Q I rx rs ⟨a, vs, i, i.toNat, z, rfl, rfl, h1, by omega, by omega, ?_, q1, k.mutl e f h (relds_erase h2 i.toNat) q2⟩
        unfold seqIndex?
        simp only []
        split <;> first | omega | (congr 1; done) | (simp; omega)
      · exact f.elim
    · obtain ⟨z, y, rfl, rz, ry⟩ := relds_two r2
      simp only [RelD] at rz
      subst rz
      exact mt_insert pins s σ H _ _ v us Q I rx rs ⟨a, vs, _, y, rfl, rfl, h1, by rw [← h2.length]; exact f.2.2.1, f.1, by omega, k.mutl e f.2.2.2 h (relds_ins h2 ry _) (by simp only [RelD])⟩
    · obtain ⟨z, rfl, rz⟩ := relds_one r2
      simp only [RelD] at rz
      subst rz
      split at f
      · rename_i e2
        obtain ⟨vs2, h3, h4⟩ := h.lst e2
        exact mt_extend pins s σ H _ _ v us Q I rx rs ⟨a, _, vs, vs2, rfl, rfl, h1, h3, by rw [← h2.length, ← h4.length]; exact f.1, k.mutl e f.2 h (h2.append h4) (by simp only [RelD])⟩
      · exact f.elim
    · simp only [RelDs] at r2
      subst r2
      exact mt_clear pins s σ H _ _ v us Q I rx rs ⟨a, vs, rfl, rfl, h1, k.mutl e f h relds_nil (by simp only [RelD])⟩
    · simp only [RelDs] at r2
      subst r2
      exact mt_reverse pins s σ H _ _ v us Q I rx rs ⟨a, vs, rfl, rfl, h1, k.mutl e f h h2.reverse (by simp only [RelD])⟩
    · obtain ⟨z, rfl, rz⟩ := relds_one r2
      exact mt_countF pins s σ H _ _ v us Q I rx rs ⟨a, vs, z, rfl, rfl, SqL.of h1, flat_of rz f.1, flats_of h2 f.2.1, k.same f.2.2 (by simp only [RelD]; rw [countF_of rz f.1 h2 f.2.1]) h⟩
    · exact f.elim
  · rename_i kvs e
    obtain ⟨kv, h1, h2⟩ := h.dct e
    split at f
    · obtain ⟨z, rfl, rz⟩ := relds_one r2
      split at f
      · rename_i key ek
        have ez := key_rel rz ek
        subst ez
        obtain ⟨u, rfl, ru⟩ := vals1 rs
        cases (show v = Value.ref a from rx)
        refine d_get1 hu I (DGet.k h1) ru fun w' s' I' r' => ⟨_, H, I', r', k.same f ?_ h⟩
        have q := relkv_val key h2
        cases el : lookD kvs key with
        | none => rw [el] at q; rw [q]; simp only [Option.getD_none, RelD]
        | some d => rw [el] at q; obtain ⟨z, q1, q2⟩ := q; rw [q1]; exact q2
      · exact f.elim
    · obtain ⟨z, y, rfl, rz, ry⟩ := relds_two r2
      split at f
      · rename_i key ek
        have ez := key_rel rz ek
        subst ez
        obtain ⟨u, u2, rfl, ru, ru2⟩ := vals2 rs
        cases (show v = Value.ref a from rx)
        refine d_get2 hu I (DGet.k h1) ru ru2 fun w' s' I' r' => ⟨_, H, I', r', k.same f ?_ h⟩
        have q := relkv_val key h2
        cases el : lookD kvs key with
        | none => rw [el] at q; rw [q]; simp only [Option.getD_none]; exact ry
        | some d => rw [el] at q; obtain ⟨z, q1, q2⟩ := q; rw [q1]; exact q2
      · exact f.elim
    · exact f.elim
  · exact f.elim
theorem recv_ok (h : HR K w H S) {m : Me} {d : D} {v : V} (r : RelD K w H d v) (e : okRecv m S d = true) : tyV K m.T v H := by
  unfold okRecv at e
  split at e
  · simp only [RelD] at r
    subst r
    split at e
    · rename_i q
      obtain ⟨vs, h1, h2⟩ := h.sql q
      refine .inl ⟨?_, vs, h1⟩
      cases m <;> first | rfl | (simp only [Me.ofDict] at e; cases e)
    · rename_i q
      obtain ⟨kv, h1, h2⟩ := h.dct q
      refine .inr (.inr (.inl ⟨?_, .inl ⟨kv, h1⟩⟩))
      cases m <;> first | rfl | (simp only [Me.ofDict] at e; cases e)
    · cases e
  · cases e
end
end Z

set_option Elab.async false
set_option linter.all false
set_option maxRecDepth 100000
set_option maxHeartbeats 4000000
namespace Z
open PySem PySem.Spec PyProof.Rows L2
structure RoomG (k : Nat) (A : Around) : Prop where
  rm : Room k A
  gd : A.guards = some []
theorem RoomG.mono {j k : Nat} {A : Around} (r : RoomG k A) (h : j ≤ k) : RoomG j A := ⟨r.rm.mono h, r.gd⟩
theorem RoomG.deeper {k : Nat} {A : Around} (r : RoomG (k + 1) A) (env : Env) : RoomG k (A.deeper env) := ⟨r.rm.deeper env, r.gd⟩
structure RoomHG (k : Nat) (A : Around) : Prop where
  rm : L2H.RoomH k A
  gd : A.guards = some []
theorem RoomHG.mono {j k : Nat} {A : Around} (r : RoomHG k A) (h : j ≤ k) : RoomHG j A := ⟨r.rm.mono h, r.gd⟩
theorem RoomHG.deeper {k : Nat} {A : Around} (r : RoomHG (k + 1) A) (env : Env) : RoomHG k (A.deeper env) := ⟨r.rm.deeper env, r.gd⟩
structure FnG (P : Program) (w : World) (K : PySem.W.Frag) (mg : Str → Option Value) (base : Heap) (CX : CXT) (k : Nat) (f : Addr) (fd : FuncData) (ps : List Str) (sp : Sp) : Prop where
  len : ∀ vs H Q E, sp vs H Q E → vs.length = ps.length
  run : ∀ (A : Around) (outer : List Env) (s : Shared) (H : Hp) (args : Args) (us : List Value) (vs : List V) (Q : VK) (E : XK), RoomG k A → Env0 P w K mg base A outer s H → BindsTo s fd args (ps.zip us) → Vals vs us → sp vs H Q E → codeAny (model P w) A (.call (.ref f) args) (CR CX outer P w H s Q E) s
theorem FnG.mono {P : Program} {w : World} {K : PySem.W.Frag} {mg : Str → Option Value} {base : Heap} {CX : CXT} {j k : Nat} {f : Addr} {fd : FuncData} {ps : List Str} {sp : Sp} (F : FnG P w K mg base CX j f fd ps sp) (h : j ≤ k) : FnG P w K mg base CX k f fd ps sp :=
  ⟨F.len, fun A outer s H args us vs Q E hr => F.run A outer s H args us vs Q E (hr.mono h)⟩
theorem fng_of {CX : CXT} {P : Program} {w : World} {K : PySem.W.Frag} {mg : Str → Option Value} {base : Heap} {k : Nat} {x qual : Str} {params : Arguments} {body : List Stmt} {scope : Scope} {dvs : List V} {kws : List (Str × V)} {f : Addr} {fd : FuncData} {N ps : List Str} {sp : Sp}
    (F : FunD K x qual params body scope dvs kws f fd) (Sc : FnScope N ps scope) (hln : ∀ vs H Q E, sp vs H Q E → vs.length = ps.length)
    (hbody : ∀ (cdv : Value) (A : Around) (outer : List Env) (s : Shared) (H : Hp) (vs : List V) (Q : VK) (E : XK), RoomG k (A.deeper (envOfC qual scope s.heap.objs.size f cdv)) → sp vs H Q E → ∃ t, PSs (cxOf CX P w K mg base N qual scope f cdv A outer s H E) body t ∧ t { nx := fun _ H' => Q .non H', rt := Q } (L2.start N vs) H) :
    FnG P w K mg base CX (k + 1) f fd ps sp := by
  obtain ⟨oc, od, dV, kV, doc, pm, an, cdv, ct, osl, rfl, lk, hcd, _, _⟩ := F.ex
  refine ⟨hln, fun A outer s H args us vs Q E hr e0 hb r hsp => ?_⟩
  have hlv := hln _ _ _ _ hsp
  have KX : K.In s.heap := e0.mod.kin.keeps fun b o z => (e0.bs b o z).1
  have limN : s.heap.NoLimit := e0.mod.nolimit.keeps fun b o z => (e0.bs b o z).1
  have hkd : ∀ y ∈ ps.zip us, scope.names.lookup y.1 = some .local ∨ (scope.names.lookup y.1 = some .cell ∧ ((cellsFrom (s.heap.objs.size + 1) scope.names []).lookup y.1).isSome = true) := fun ⟨n, v⟩ hy =>
    (Sc.par n (List.of_mem_zip hy).1).elim (fun q => .inl q) fun q => .inr ⟨q, PySem.W.cellsFrom_some _ _ _ (.inl q)⟩
  refine codeAny_call_function hr.rm.depth (KX _ _ lk) rfl Sc.co Sc.gen rfl (PySem.W.codeRec_of KX hcd) (hb _ _ _ _ ?_)
  refine wpAny_newFunctionEnv_cells Sc.kind hkd fun env he s1 x1 => ?_
  subst he
  refine ⟨limN.keeps x1.toInCall.keep, codeAny_func ?_⟩
  obtain ⟨t, ht, hq⟩ := hbody cdv A outer s H vs Q E (hr.deeper _) hsp
  have I : Inv (cxOf CX P w K mg base N qual scope f cdv A outer s H E) [] (L2.start N vs) H s1 := inv_start Sc hr.rm.hd e0 hlv r x1
  refine wpAny_mono (ht.run [] s1 (L2.start N vs) H _ I hq) (fun fl s' hs => ?_) fun e s' hs => hs
  cases fl with
  | ret u => obtain ⟨v, σ', H', J, rv, q⟩ := hs; exact ⟨v, H', J.os, J.bare, J.base, J.hok, rv, q⟩
  | next => obtain ⟨σ', H', J, q⟩ := hs; exact ⟨V.non, H', J.os, J.bare, J.base, J.hok, rfl, q⟩
  | brk => obtain ⟨_, _, _, q⟩ := hs; exact q.elim
  | cont => obtain ⟨_, _, _, q⟩ := hs; exact q.elim
structure FnQ (P : Program) (w : World) (K : PySem.W.Frag) (mg : Str → Option Value) (base : Heap) (CX : CXT) (k : Nat) (f : Addr) (fd : FuncData) (ps : List Str) (sp : Sp) : Prop where
  len : ∀ vs H Q E, sp vs H Q E → vs.length = ps.length
  run : ∀ (A : Around) (outer : List Env) (s : Shared) (H : Hp) (args : Args) (us : List Value) (vs : List V) (Q : VK) (E : XK), RoomHG k A → Env0 P w K mg base A outer s H → BindsTo s fd args (ps.zip us) → Vals vs us → sp vs H Q E → codeAny (model P w) A (.call (.ref f) args) (CR CX outer P w H s Q E) s
theorem fnq_of {CX : CXT} {P : Program} {w : World} {K : PySem.W.Frag} {mg : Str → Option Value} {base : Heap} {k : Nat} {x qual : Str} {st : Stmt} {f : Addr} {fd : FuncData} {N ps : List Str} {sp : Sp} (F : Fun K x qual st f fd) (Sc : FnScope N ps (defScope st)) (hln : ∀ vs H Q E, sp vs H Q E → vs.length = ps.length)
    (hbody : ∀ (cdv : Value) (A : Around) (outer : List Env) (s : Shared) (H : Hp) (vs : List V) (Q : VK) (E : XK) (p : Addr × Obj), RoomHG k (A.deeper (envOfC qual (defScope st) s.heap.objs.size f cdv)) → sp vs H Q E →
      ∃ t, PSs (L2H.cxH CX P w K mg base N qual (defScope st) f cdv A outer s H E p) (defBody st) t ∧ t { nx := fun _ H' => Q .non H', rt := Q } (L2.start N vs) H) : FnQ P w K mg base CX (k + 1) f fd ps sp := by
  obtain ⟨oc, od, kV, doc, pm, an, cdv, ct, osl, rfl, lk, hcd⟩ := F.ex
  refine ⟨hln, fun A outer s H args us vs Q E hr e0 hb r hsp => ?_⟩
  have hlv := hln _ _ _ _ hsp
  have KX : K.In s.heap := e0.mod.kin.keeps fun b o z => (e0.bs b o z).1
  have limN : s.heap.NoLimit := e0.mod.nolimit.keeps fun b o z => (e0.bs b o z).1
  have fb := e0.mod.kin _ _ lk
  have hpin : L2H.PinOk outer H s (f, ⟨oc, od, .func (PySem.W.fnOf x qual (defArgs st) (defBody st) (defScope st) .none kV doc pm an cdv ct), osl⟩) :=
    ⟨KX _ _ lk, (e0.bs _ _ fb).2, (fun z => by have q := (e0.funs.mem z).1; rw [fb] at q; cases q), fun v z => by cases z⟩
  have hkd : ∀ y ∈ ps.zip us, (defScope st).names.lookup y.1 = some .local ∨ ((defScope st).names.lookup y.1 = some .cell ∧ ((cellsFrom (s.heap.objs.size + 1) (defScope st).names []).lookup y.1).isSome = true) := fun ⟨n, v⟩ hy =>
    (Sc.par n (List.of_mem_zip hy).1).elim (fun q => .inl q) fun q => .inr ⟨q, PySem.W.cellsFrom_some _ _ _ (.inl q)⟩
  refine codeAny_call_function hr.rm.depth (KX _ _ lk) rfl Sc.co Sc.gen rfl (PySem.W.codeRec_of KX hcd) (hb _ _ _ _ ?_)
  refine wpAny_newFunctionEnv_cells Sc.kind hkd fun env he s1 x1 => ?_
  subst he
  refine ⟨limN.keeps x1.toInCall.keep, codeAny_func ?_⟩
  obtain ⟨t, ht, hq⟩ := hbody cdv A outer s H vs Q E _ (hr.deeper _) hsp
  have I := L2H.inv_startH (CX := CX) (E := E) Sc hpin e0 hlv r x1
  refine wpAny_mono (ht.run [] s1 (L2.start N vs) H _ I hq) (fun fl s' hs => ?_) fun e s' hs => hs
  cases fl with
  | ret u => obtain ⟨v, σ', H', J, rv, q⟩ := hs; exact ⟨v, H', J.os, J.bare, J.base, J.hok, rv, q⟩
  | next => obtain ⟨σ', H', J, q⟩ := hs; exact ⟨V.non, H', J.os, J.bare, J.base, J.hok, rfl, q⟩
  | brk => obtain ⟨_, _, _, q⟩ := hs; exact q.elim
  | cont => obtain ⟨_, _, _, q⟩ := hs; exact q.elim
section
variable {X : Cx} {CX : CXT} {k : Nat} {f : Addr} {fd : FuncData} {ps : List Str} {sp : Sp} {E : L2.St → XK} {x : Str} {p pos : Pos} {e : Expr} {es : List Expr} {t : TA}
theorem run_fnq {pins : List (Addr × Obj)} {σ : L2.St} {H : Hp} {s : Shared} {Q : VK} {us : List Value} {vs : List V} (F : FnQ X.prog X.w X.K X.mg X.base CX k f fd ps sp) (hr : RoomHG k X.A) (hb : Binds X.K fd ps []) (hx : PassesAt CX X σ (E σ))
    (I : Inv X pins σ H s) (r : Vals vs us) (h : sp vs H Q (E σ)) : wpAny (model X.prog X.w) X.A (call (.ref f) us) (EP X pins σ Q) X.xe s := by
  have hl : us.length = ps.length := by rw [← r.length]; exact F.len _ _ _ _ h
  have b0 := hb s us I.kIn (by rw [List.append_nil]; exact hl)
  rw [List.append_nil] at b0
  refine wpAny_call (codeAny_mono (F.run X.A X.stack s H ⟨us, []⟩ us vs Q (E σ) hr I.env0 b0 r h) fun q s' hq => ?_)
  cases q with
  | error e => exact hx pins H s e s' I hq
  | ok fl => cases fl <;> first | exact I.after hq | exact False.elim hq
theorem run_fng {dvs : List V} {ds : List Value} {pins : List (Addr × Obj)} {σ : L2.St} {H : Hp} {s : Shared} {Q : VK} {us : List Value} {vs : List V} (F : FnG X.prog X.w X.K X.mg X.base CX k f fd ps sp) (hr : RoomG k X.A) (hb : Binds X.K fd ps ds) (hd : Vals dvs ds) (hx : PassesAt CX X σ (E σ))
    (I : Inv X pins σ H s) (r : Vals vs us) (h : sp (vs ++ dvs) H Q (E σ)) : wpAny (model X.prog X.w) X.A (call (.ref f) us) (EP X pins σ Q) X.xe s := by
  have hl : (us ++ ds).length = ps.length := by rw [← (r.append hd).length]; exact F.len _ _ _ _ h
  refine wpAny_call (codeAny_mono (F.run X.A X.stack s H ⟨us, []⟩ (us ++ ds) (vs ++ dvs) Q (E σ) hr I.env0 (hb s us I.kIn hl) (r.append hd) h) fun q s' hq => ?_)
  cases q with
  | error e => exact hx pins H s e s' I hq
  | ok fl => cases fl <;> first | exact I.after hq | exact False.elim hq
theorem pe_callG (F : FnG X.prog X.w X.K X.mg X.base CX k f fd ps sp) (hr : RoomG k X.A) (hg : Gl X x) (hm : X.mg x = some (.ref f)) (hk : PySem.W.keepIn X.K (.ref f) = true) (hb : Binds X.K fd ps []) (hx : ∀ σ, PassesAt CX X σ (E σ))
    (ha : PA X (e :: es) t) (hdb : (x == ("__debug__" : Str)) = false) (he : starEach (e :: es) X.env = (false, eval e X.env) :: starEach es X.env) (hpl : (backTo pos (starEach es X.env)).any (·.1) = false) :
    PE X (.Call (.Name x p) (e :: es) [] pos) (fun σ H Q => t σ H fun vs H1 => sp vs H1 Q (E σ)) := by
  refine ⟨fun pins s σ H Q I h => wpAny_Call_Name_kw (ld_glob I hg hm ?_ hdb)⟩
  exact PySem.W.callWith_K (h₀ := X.base) I.ok.mod.kin hk (thn (ha.run pos pins s σ H _ I h) fun us s1 ⟨vs, H1, I1, r, q⟩ => ⟨I1.kIn, run_fng (dvs := []) (ds := []) (E := E) F hr hb .nil (hx σ) I1 r (by simpa using q)⟩) he hpl
theorem pe_callQ (F : FnQ X.prog X.w X.K X.mg X.base CX k f fd ps sp) (hr : RoomHG k X.A) (hg : Gl X x) (hm : X.mg x = some (.ref f)) (hk : PySem.W.keepIn X.K (.ref f) = true) (hb : Binds X.K fd ps []) (hx : ∀ σ, PassesAt CX X σ (E σ))
    (ha : PA X (e :: es) t) (hdb : (x == ("__debug__" : Str)) = false) (he : starEach (e :: es) X.env = (false, eval e X.env) :: starEach es X.env) (hpl : (backTo pos (starEach es X.env)).any (·.1) = false) :
    PE X (.Call (.Name x p) (e :: es) [] pos) (fun σ H Q => t σ H fun vs H1 => sp vs H1 Q (E σ)) := by
  refine ⟨fun pins s σ H Q I h => wpAny_Call_Name_kw (ld_glob I hg hm ?_ hdb)⟩
  exact PySem.W.callWith_K (h₀ := X.base) I.ok.mod.kin hk (thn (ha.run pos pins s σ H _ I h) fun us s1 ⟨vs, H1, I1, r, q⟩ => ⟨I1.kIn, run_fnq F hr hb (hx σ) I1 r q⟩) he hpl
end
theorem kept_at {P : Program} {w : World} {H : Hp} {h : Heap} {a : Addr} {oe : Obj} (x : HOk P w H h) (ha : H a = some (kept oe)) : h.get? a = some oe := by
  have z := x a _ ha
  unfold kept ObjOk at z
  exact z.1
section
variable {X : Cx}
theorem call_isx {M : Addr} {m : Str} (hm : m ∈ xnames) (hM : PySem.W.nsIn X.K mainGlobals m = some (some (.ref M))) : CallR X (.builtin "isinstance") (fun xs H Q => ∃ n C a oe dx, XCls X.K n C ∧ xs = [.ref a, .ref M] ∧ H a = some (kept oe) ∧ oe.cls = .ref C ∧ oe.dict = some dx ∧ (∃ fv, oe.data = .fields fv) ∧ (∃ fs, H dx = some (.xd fs)) ∧ Q (.bl (decide (n = m))) H) := by
  intro pins s σ H xs us Q I r h
  obtain ⟨n, C, a, oe, dx, xc, rfl, ha, hc, hd, ⟨fv, hf⟩, ⟨fs, hx⟩, q⟩ := h
  cases r with
  | cons rx rr =>
    cases rr with
    | cons rt rr =>
      cases rr
      cases rx
      cases rt
      have hget := kept_at I.hok ha
      obtain ⟨mA, hns, hr⟩ : ∃ mA, s.heap.Ns1 dx mA ∧ _ := I.hok dx _ hx
      obtain ⟨od, ho, hl⟩ := lookIn_ns hns
      have J : PySem.W.InstAt s.heap a oe C (some od) := ⟨hget, hc, by unfold PySem.W.notCls; rw [hf] <;> rfl, by rw [hd]; exact ho⟩
      have hcl : (PySem.W.clsIn X.K C).isSome = true := by obtain ⟨cd, z, _⟩ := PySem.W.any_some xc.hd; rw [z]; rfl
      exact PySem.W.kia_one (PySem.W.kitx_exc (od := some od) (ox := oe) (x := a) hcl xc.ga xc.gt xc.be xc.cl xc.sg xc.tk xc.mr) I.kIn J (xc.is m hm M hM).1 (fun z => nomatch z) fun tk => ⟨.bl _, H, I.kept (t' := tk) fun _ _ z => z, rfl, q⟩
theorem pe_atr {e : Expr} {te : TE} {pos : Pos} {f : Str} (he : PE X e te) (hf : f ∈ xflds) (hb : attributeBase e f X.env (eval e X.env) = eval e X.env) :
    PE X (.Attribute e f pos) (fun σ H Q => te σ H fun x H1 => ∃ a oe dx n C fs v, x = .ref a ∧ XCls X.K n C ∧ H1 a = some (kept oe) ∧ oe.cls = .ref C ∧ oe.dict = some dx ∧ (∃ fv, oe.data = .fields fv) ∧ H1 dx = some (.xd fs) ∧ fs.lookup f = some v ∧ Q v H1) := by
  refine ⟨fun pins s σ H Q I h => attr_of hb (thn (he.run pins s σ H _ I h) fun u s1 hh => ?_)⟩
  obtain ⟨x, H1, I1, rx, a, oe, dx, n, C, fs, v, rfl, xc, ha, hc, hd, ⟨fv, hdt⟩, hx, l, q⟩ := hh
  obtain rfl : u = Value.ref a := rx
  have hget := kept_at I1.hok ha
  obtain ⟨mA, hns, hr⟩ : ∃ mA, s1.heap.Ns1 dx mA ∧ ∀ g, RelO (fs.lookup g) (mA g) := I1.hok dx _ hx
  obtain ⟨od, ho, hl⟩ := lookIn_ns hns
  obtain ⟨u, hu, ru⟩ := RelO.some_of (v := v) (o := mA f) (by rw [← l]; exact hr f)
  have J : PySem.W.InstAt s1.heap a oe C (some od) := ⟨hget, hc, by unfold PySem.W.notCls; rw [hdt] <;> rfl, by rw [hd]; exact ho⟩
  exact PySem.HandSPX.exc_get I1.kIn J xc.ga xc.gt xc.be (PySem.W.findObj_own xc.hd (xc.fl f hf) rfl (by rw [hl, hu])) (handed_of ru) ⟨v, H1, I1.tok _, ru, q⟩
end
end Z

set_option Elab.async false
set_option linter.all false
set_option maxRecDepth 100000
set_option maxHeartbeats 4000000
namespace Z
open PySem PySem.Spec PyProof.Rows L2
section
variable {X : Cx} {pins : List (Addr × Obj)} {σ : L2.St} {H : Hp} {s : Shared} {a : Addr} {oe : Obj}
theorem inv_keep (J : Inv X pins σ H s) {fv : Array Value} (ha : s.heap.get? a = some oe) (hd : oe.data = .fields fv) (na : H a = none) (nL : a ≠ X.env.locals) (h0 : a ∉ X.ex → X.s_0.heap.get? a = none) (np : ∀ p ∈ X.pn ++ pins, p.1 ≠ a) : Inv X pins σ (upd H a (kept oe)) s := by
  have old : ∀ {b : Addr} {o : HO}, H b = some o → upd H a (kept oe) b = some o := fun {b o} e => by rw [upd_ne (ne_of_none e na)]; exact e
  refine ⟨J.ok, J.os, J.bare, ⟨J.base.keep, J.base.slot, fun b o e n hx => ?_, J.base.there, fun b xs e => old (J.base.tups b xs e), fun b o u e => old (J.base.frzs b o u e), fun b ps e => let ⟨more, q⟩ := J.base.tbls b ps e; ⟨more, old q⟩⟩, J.loc, J.cell, by rw [upd_ne (Ne.symm nL)]; exact J.free, fun x c e => ?_, fun p hp => ?_, HOk.laidN J.hok (fun _ _ z => z) na ?_, J.len⟩
  · by_cases hb : b = a
    · subst hb; rw [h0 hx] at e; cases e
    · rw [upd_ne hb]; exact J.base.free b o e n hx
  · have hc : c ≠ a := fun z => by
      subst z
      obtain ⟨v, o', e1, e2⟩ := J.cell x c e
      rw [ha] at e1
      cases e1
      first | (rw [hd] at e2; cases e2) | (rw [hd] at e2; simp at e2)
    rw [upd_ne hc]; exact J.freeC x c e
  · obtain ⟨q1, q2, q3⟩ := J.pin p hp
    exact ⟨q1, by rw [upd_ne (np p hp)]; exact q2, q3⟩
  · unfold kept ObjOk ObjOk
    exact ⟨ha, trivial, ⟨oe, ha⟩, fun _ _ _ _ => trivial⟩
theorem inv_suite (I : Inv X pins σ H s) (a : Addr) : Inv (X.suite a (X.pn ++ pins)) [] σ H s := ⟨I.ok.suite _ _, I.os, I.bare, I.base, I.loc, I.cell, I.free, I.freeC, fun p hp => I.pin p (by simpa using hp), I.hok, I.len⟩
theorem inv_unsuite {pn' : List (Addr × Obj)} (I : Inv (X.suite a (X.pn ++ pins)) pn' σ H s) (ok : X.Ok) : Inv X pins σ H s := ⟨ok, I.os, I.bare, I.base, I.loc, I.cell, I.free, I.freeC, fun p hp => I.pin p (List.mem_append_left _ hp), I.hok, I.len⟩
end
def wKeep (K : PySem.W.Frag) (c : Value) (i : Nat) (ts : Addr → Obj → L2.TS) (Wout : WX) (D : Ends) : WX := fun cls d σ H =>
  ∃ b, PySem.W.exmOne K cls c = some b ∧ (b = true → ∀ a oe, H a = none → Zc cls d oe → (∃ fv, oe.data = .fields fv) → ts a oe { nx := fun σ' H' => D.nx (σ'.set i none) H', rt := D.rt, bk := fun σ' H' => D.bk (σ'.set i none) H', ct := fun σ' H' => D.ct (σ'.set i none) H' } (σ.set i (some (.ref a))) (upd H a (kept oe))) ∧ (b = false → Wout cls d σ H)
section
variable {X : Cx} {x n : Str} {c : Value} {i : Nat} {body suite : List Stmt} {b₀ : Stmt} {np pos pos' : Pos} {tb : WX → L2.TS} {ts : Addr → Obj → L2.TS} {Wout : WX}
theorem ps_tryK (hs : X.stack = X.env :: X.outer) (hf : X.env.frame = some X.env.locals) (hN : X.N.Nodup) (hi : X.N[i]? = some n) (hln : X.env.kindOf n = some .local) (hc : Names X x c) (tk : Takes X Wout)
    (hb : ∀ (W : WX) (pn : List (Addr × Obj)) (xe : Value → Shared → Prop), Takes (X.tr pn xe) W → PassesOwn (model X.prog X.w) X.A X.env xe → PSs (X.tr pn xe) body (tb W)) (hsu : ∀ (a : Addr) (oe : Obj) (pn : List (Addr × Obj)), PSs (X.suite a pn) (b₀ :: suite) (ts a oe)) :
    PS X (.Try body [.ExceptHandler (some (.Name x np)) (some n) (b₀ :: suite) pos'] [] [] pos) (fun D σ H => tb (wKeep X.K c i ts Wout D) D σ H) := by
  refine ⟨fun pins s σ H D I h => ?_⟩
  have ok := I.ok
  have hfr : X.A.frames = some (X.env :: X.outer) := by rw [ok.frames, hs]
  refine wpAny_Try_except ?_
  refine wpAny_mono ((hb (wKeep X.K c i ts Wout D) (X.pn ++ pins) (fun e s₁ => wpAny (model X.prog X.w) X.A (noteFrame e X.env) (fun _ s₂ => wpAny (model X.prog X.w) X.A (setFlight e none) (fun _ s₃ => wpAny (model X.prog X.w) X.A (handleBy e X.env [.ExceptHandler (some (.Name x np)) (some n) (b₀ :: suite) pos']) (SP X pins D) X.xe s₃) X.xe s₂) X.xe s₁) (fun u s' xx => ?_) PassesOwn.looking).run [] s σ H D (I.toTry _) h) (fun f s1 hsp => ?_) (fun e s1 he => he)
  · obtain ⟨a, B, sI, pins', σ', H', cls, d, rfl, J', nb, up, sky, na, os, ag, b, hb1, hyes, hno⟩ := xx
    have J : Inv X pins σ' H' sI := Inv.ofTry J' ok
    have sky2 : Sky B (X.env :: X.outer) a (Zc cls d) X.env.locals s'.heap := hs ▸ sky
    show wpAny (model X.prog X.w) X.A (noteFrame (.ref a) X.env) _ _ _
    refine Sky.land Zc.steady hfr hf sky2 fun h3 fl3 up3 => ?_
    have J3 : Inv X pins σ' H' { s' with heap := h3 } := Inv.landed J nb fl3.1 (up.trans up3) os ag
    obtain ⟨oe3, vs3, he3, hz3, hd3⟩ := HandSPX.FlyingZ.there fl3
    have nfr : a ∉ frs (X.env :: X.outer) := fun hm => by
      obtain ⟨_, o', e', hnf⟩ := fl3.2.2.1.mem hm
      rw [he3] at e'; cases e'; exact hnf _ hd3
    have nL : a ≠ X.env.locals := fun z => nfr (List.mem_filterMap.mpr ⟨X.env, List.mem_cons_self, by rw [hf, z]⟩)
    have nF : a ∉ X.fs := fun hm => let ⟨e, he, q⟩ := List.mem_filterMap.mp hm; nfr (List.mem_filterMap.mpr ⟨e, List.mem_cons_of_mem _ he, q⟩)
    have nB : B.get? a = none := fl3.2.1
    have nO : ∀ o, sI.heap.get? a ≠ some o := fun o e => by
      have q := nb a o e (by rw [hs]; exact nfr)
      rw [nB] at q; cases q
    have h0 : a ∉ X.ex → X.s_0.heap.get? a = none := fun hx => by
      cases e : X.s_0.heap.get? a with
      | none => rfl
      | some o => obtain ⟨o', e'⟩ := J.base.there a o e hx; exact absurd e' (nO o')
    have hnp : ∀ p ∈ X.pn ++ pins, p.1 ≠ a := fun p hp z => nO p.2 (z ▸ (J.pin p hp).1)
    have S3 := inv_suite J3 a
    refine wpAny_handleBy_cons (codeAny_handlers_test ?_) (by intro q; cases q)
    have LT : PySem.W.Looks (model X.prog X.w) h3 (typeOf (.ref a)) cls := fun A Q E s k q => wpAny_typeOf_ref (k _ _ he3) (hz3.1.symm ▸ q)
    have LM := PySem.W.exm_one (M := model X.prog X.w) J3.kIn LT hb1
    have test : ∀ {Q : Value → Shared → Prop} {E : Value → Shared → Prop}, Q c { s' with heap := h3 } → wpAny (model X.prog X.w) (X.A.mark (some (.ref a))) (eval (.Name x np) X.env) Q E { s' with heap := h3 } := fun {Q E} q => by
      obtain ⟨hg, hdbg, hm | ⟨hm, hv, hnn⟩⟩ := hc
      · exact ld_glob (X := X.suite a (X.pn ++ pins)) S3 hg hm q hdbg
      · exact ld_blt (X := X.suite a (X.pn ++ pins)) S3 hg hm hv q hnn hdbg
    refine test (LM.here ?_)
    cases b with
    | true =>
      refine codeAny_handlers_suite_as ?_
      refine HandSPX.lands_againZ fl3 fun h4 fl4 up4 => ?_
      have J4 : Inv X pins σ' H' { s' with heap := h4 } := Inv.landed J nb fl4.1 ((up.trans up3).trans up4) os ag
      obtain ⟨oe4, vs4, he4, hz4, hd4⟩ := HandSPX.FlyingZ.there fl4
      have S4 := inv_suite (inv_keep J4 he4 hd4 na nL h0 hnp) a
      refine store_ok (X := X.suite a (X.pn ++ pins)) (v := .ref a) S4 hN hi (.inl hln) rfl (fun s5 S5 => ?_) (.inr hln)
      refine wpAny_mono ((hsu a oe4 (X.pn ++ pins)).run [] s5 _ _ _ S5 (hyes rfl a oe4 na hz4 ⟨_, hd4⟩)) (fun f s6 hsp => ?_) (fun _ _ z => z.elim)
      have fin : ∀ {σ6 : L2.St} {H6 : Hp} {Q : Shared → Prop}, Inv (X.suite a (X.pn ++ pins)) [] σ6 H6 s6 → (∀ s7, Inv X pins (σ6.set i none) H6 s7 → Q s7) → wpAny (model X.prog X.w) X.A (do bindName X.env n .none; unbindBehindTheSuite X.env n pos') (fun _ s7 => Q s7) X.xe s6 := fun {σ6 H6 Q} S6 hq => gone_ok (inv_unsuite S6 ok) hN hi hln hq
      cases f with
      | next => obtain ⟨σ6, H6, S6, q6⟩ := hsp; exact fin S6 fun s7 J7 => ⟨_, _, J7, q6⟩
      | brk => obtain ⟨σ6, H6, S6, q6⟩ := hsp; exact fin S6 fun s7 J7 => ⟨_, _, J7, q6⟩
      | cont => obtain ⟨σ6, H6, S6, q6⟩ := hsp; exact fin S6 fun s7 J7 => ⟨_, _, J7, q6⟩
      | ret u => obtain ⟨v6, σ6, H6, S6, r6, q6⟩ := hsp; exact fin S6 fun s7 J7 => ⟨_, _, _, J7, r6, q6⟩
    | false =>
      show wpAny _ X.A (handleBy (.ref a) X.env []) _ _ _
      refine wpAny_handleBy_nil ?_
      obtain ⟨k1, k2, k3, oe, vs, T, oT, ts', he, hz, hd, h1, hr⟩ := id fl3
      unfold PySem.passOn
      refine wpAny_bind (wpAny_field he hd h1 ?_)
      rw [if_neg (show ¬ ((Value.ref T == Value.none) = true) from by simp)]
      have last : wpAny (model X.prog X.w) X.A (setFlight (.ref a) X.env.frame) (fun _ s4 => wpAny (model X.prog X.w) X.A (throw (.ref a) : Sem Flow) (SP X pins D) X.xe s4) X.xe { s' with heap := h3 } := by
        rw [hf]
        exact HandSPX.setFlight_upZ fl3 fun h4 hh4 up4 => wpAny_throw (tk _ _ ⟨a, B, sI, pins, σ', H', cls, d, rfl, J, nb, (up.trans up3).trans up4, .inr (.inr (by rw [hs]; exact hh4)), na, os, ag, hno rfl⟩)
      first | exact wpAny_bind (wpAny_pure (wpAny_bind last)) | exact wpAny_bind last
  · cases f with
    | next => obtain ⟨σ', H', J', q⟩ := hsp; exact wpAny_execs_nil ⟨σ', H', J'.ofTry ok, q⟩
    | brk => obtain ⟨σ', H', J', q⟩ := hsp; exact ⟨σ', H', J'.ofTry ok, q⟩
    | cont => obtain ⟨σ', H', J', q⟩ := hsp; exact ⟨σ', H', J'.ofTry ok, q⟩
    | ret u => obtain ⟨v, σ', H', J', r, q⟩ := hsp; exact ⟨v, σ', H', J'.ofTry ok, r, q⟩
end
end Z

set_option Elab.async false
set_option linter.all false
set_option maxRecDepth 100000
set_option maxHeartbeats 4000000
namespace Z
open PySem PySem.Spec PyProof.Rows L2
theorem pe_binit {X : Cx} {M : Addr} {x : Str} {e : Expr} {es : List Expr} {ta : TA} {p1 p2 pos : Pos} (hg : Gl X x) (hdb : (x == ("__debug__" : Str)) = false) (hm : X.mg x = some (.ref M)) (sg : PySem.W.specialIn X.K (.ref M) "__getattribute__" = some (some (.builtin "type.__getattribute__"))) (rd : PySem.W.readsIn X.K M (.type "type") = true)
    (vV : PySem.W.findCls X.K (.ref M) (.type "type") "__init__" = some (.val (.builtin "ValueError.__init__"))) (ha : PA X (e :: es) ta)
    (hfew : ((backTo pos (starEach (e :: es) X.env)).all (fun x => !x.1) && (backToKw pos (keywordEach [] X.env)).all (fun x => x.1.isSome) && decide ((e :: es).length + ([] : List Keyword).length + (if ([] : List Keyword).isEmpty then 0 else 1) < 30)) = true) (hline : (p2.endLine == pos.line) = true)
    (he : starEach (e :: es) X.env = (false, eval e X.env) :: starEach es X.env := by rfl) (hpl : (backTo pos (starEach es X.env)).any (·.1) = false := by rfl) :
    PE X (.Call (.Attribute (.Name x p1) "__init__" p2) (e :: es) [] pos) (tVeI X.K ta) := by
  refine ⟨fun pins s σ H Q I h => ?_⟩
  have hbase : attributeBase (.Name x p1) ("__init__" : Str) X.env (eval (.Name x p1) X.env) = eval (.Name x p1) X.env := by rfl
  rw [arm_eval_Call, hbase]
  refine wpAny_bind (ld_glob I hg hm ?_ hdb)
  refine wpAny_bind (wpAny_standAt ?_)
  have hform : methodCallForm ((e :: es).length + ([] : List Keyword).length) (backTo pos (starEach (e :: es) X.env)) (backToKw pos (keywordEach [] X.env)) = true := hfew
  have hpos : methodCallPos true (.Name x p1) X.env p2 pos = pure pos := by unfold methodCallPos; simp [hline]
  unfold methodCall
  rw [hform]
  refine wpAny_bind (wpAny_holding (PySem.W.method_cls I.kIn sg (PySem.W.cls_value I.kIn rd vV (by decide +kernel) ?_)))
  refine wpAny_bind (wpAny_of_eq hpos ?_)
  show wpAny _ _ (callWith pos (Value.builtin "ValueError.__init__") [] (backTo pos (starEach (e :: es) X.env)) []) _ _ _
  refine PyProof.Rows.callWith_method1 (thn (ha.run pos pins _ σ H _ (I.tok _) h) fun us s1 ⟨vs, H1, I1, r1, a, C, ws, ev, hl, T, ea, q⟩ => ?_) he hpl
  subst ev
  cases r1 with
  | @cons _ u0 _ ur ra rw' =>
    obtain rfl : u0 = Value.ref a := ra
    exact oinit_ok T I1 ea (by rw [← Paired.length rw', sizeLine_eq]; omega) fun s' J => ⟨.non, H1, J, rfl, q⟩
def initS : List Str → List Stmt → Bool
  | [f], [.Expr (.Call (.Attribute (.Name m _) i ap) [.Name s _, .Name a _] [] cp) _, .Assign [.Attribute (.Name s1 _) g _] (.Name b _) _] =>
    (ap.endLine == cp.line) && decide (m = "MakeError") && decide (i = "__init__") && decide (s = "self") && decide (a = f) && decide (s1 = "self") && decide (g = f) && decide (b = f)
  | [f, f2], [.Expr (.Call (.Attribute (.Name m _) i ap) [.Name s _, .Name a _, .Name a2 _] [] cp) _, .Assign [.Attribute (.Name s1 _) g _] (.Name b _) _, .Assign [.Attribute (.Name s2 _) g2 _] (.Name b2 _) _] =>
    (ap.endLine == cp.line) && decide (m = "MakeError") && decide (i = "__init__") && decide (s = "self") && decide (a = f) && decide (s1 = "self") && decide (g = f) && decide (b = f) && decide (a2 = f2) && decide (s2 = "self") && decide (g2 = f2) && decide (b2 = f2)
  | _, _ => false
def spI (C : Addr) (ns : List Str) : Sp := fun vs H Q _ => ∃ a ws, vs = .ref a :: ws ∧ ws.length = ns.length ∧ H a = some (exo a C none) ∧ ∀ dx, H dx = none → dx ≠ a → Q .non (upd (upd H a (exo a C (some dx))) dx (exd dx (ns.zip ws).reverse))
structure RFact (K : PySem.W.Frag) (mg : Str → Option Value) (n : Str) (ns : List Str) (C fI : Addr) (fd : FuncData) : Prop where
  cls : XCls K n C
  mgn : mg n = some (.ref C)
  ok : OexC K C
  base : ∃ M, mg "MakeError" = some (.ref M) ∧ PySem.W.specialIn K (.ref M) "__getattribute__" = some (some (.builtin "type.__getattribute__")) ∧ PySem.W.readsIn K M (.type "type") = true ∧ PySem.W.findCls K (.ref M) (.type "type") "__init__" = some (.val (.builtin "ValueError.__init__"))
  ini : PySem.W.findIn K (.ref C) "__init__" = some (some (.ref fI))
  tin : PySem.W.typeIn K (.ref fI) = some (.type "function")
  bd : Binds K fd ("self" :: ns) []
  fl : ∀ f ∈ ns, f ∈ xflds
  fn : ∃ qual st, Fun K "__init__" qual st fI fd ∧ FnScope ("self" :: ns) ("self" :: ns) (defScope st) ∧ initS ns (defBody st) = true ∧ (defScope st).names.lookup ("MakeError" : Str) = some .globalImplicit
theorem upd_comm {H : Hp} {a b : Addr} {o u : HO} (h : a ≠ b) : upd (upd H a o) b u = upd (upd H b u) a o := by
  funext c
  unfold upd
  by_cases h1 : c = b
  · subst h1; rw [if_pos rfl, if_neg (Ne.symm h), if_pos rfl]
  · rw [if_neg h1, if_neg h1]
theorem init_ok {P : Program} {w : World} {K : PySem.W.Frag} {mg : Str → Option Value} {base : Heap} {n : Str} {ns : List Str} {C fI : Addr} {fd : FuncData} (R : RFact K mg n ns C fI fd) : FnOk P w K mg base (L2.CX P w) 1 fI fd ("self" :: ns) (spI C ns) := by
  obtain ⟨qual, st, F, Sc, sh, hgl⟩ := R.fn
  obtain ⟨M, m1, m2, m3, m4⟩ := R.base
  have vis : ∀ y : Str, y ∈ (("self" : Str) :: ns) → Vis (defScope st) y := fun y hy => by
    rcases Sc.par y hy with q | q
    · exact .inl q
    · exact .inr (.inl q)
  have fno : ∀ f ∈ ns, PySem.W.findIn K (.ref C) f = some none := fun f hf => R.cls.fl f (R.fl f hf)
  have ndb : ∀ f ∈ ns, (f == ("__debug__" : Str)) = false ∧ (f == ("__classdict__" : Str)) = false := fun f hf => by
    have := R.fl f hf
    simp only [xflds, List.mem_cons, List.not_mem_nil, or_false] at this
    rcases this with rfl | rfl | rfl | rfl <;> exact ⟨by decide, by decide⟩
  refine Fun.okX (k := 0) F Sc (fun vs H Q E h => ?_) fun cdv A outer s H vs Q E hr h => ?_
  · obtain ⟨a, ws, rfl, hl, _⟩ := h
    simp [hl]
  · obtain ⟨a, ws, rfl, hl, ha, hq⟩ := h
    unfold initS at sh
    split at sh
    · rename_i f m _ i _ _ _ a1 _ _ _ s1 _ g _ b _ _ eb
      simp only [Bool.and_eq_true, decide_eq_true_eq] at sh
      obtain ⟨⟨⟨⟨⟨⟨⟨hli, rfl⟩, rfl⟩, rfl⟩, rfl⟩, rfl⟩, rfl⟩, rfl⟩ := sh
      match ws, hl with
      | [y], _ =>
      rw [eb]
      refine ⟨_, pss_cons (ps_expr (pe_binit hgl (by decide) m1 m2 m3 m4 (pa_cons (pe_var (i := 0) rfl (vis _ (by simp))) (pa_cons (pe_var (i := 1) rfl (vis _ (by simp)) (ndb _ (by simp)).1 (ndb _ (by simp)).2) pa_nil)) (by rfl) hli)) (pss_cons (ps_ost (pe_var (i := 0) rfl (vis _ (by simp))) (pe_var (i := 1) rfl (vis _ (by simp)) (ndb _ (by simp)).1 (ndb _ (by simp)).2)) pss_nil), ?_⟩
      refine ⟨.ref a, rfl, y, rfl, a, C, [y], rfl, by simp, R.ok, ha, y, rfl, .ref a, rfl, a, C, rfl, R.ok, fno _ (by simp), .inl ⟨ha, fun dx nd ne => ?_⟩⟩
      show Q .non _
      rw [upd_comm ne]
      exact hq dx nd ne
    · rename_i f f2 m _ i _ _ _ a1 _ a2 _ _ _ s1 _ g _ b _ _ s2 _ g2 _ b2 _ _ eb
      simp only [Bool.and_eq_true, decide_eq_true_eq] at sh
      obtain ⟨⟨⟨⟨⟨⟨⟨⟨⟨⟨⟨hli, rfl⟩, rfl⟩, rfl⟩, rfl⟩, rfl⟩, rfl⟩, rfl⟩, rfl⟩, rfl⟩, rfl⟩, rfl⟩ := sh
      match ws, hl with
      | [y, z], _ =>
      rw [eb]
      refine ⟨_, pss_cons (ps_expr (pe_binit hgl (by decide) m1 m2 m3 m4 (pa_cons (pe_var (i := 0) rfl (vis _ (by simp))) (pa_cons (pe_var (i := 1) rfl (vis _ (by simp)) (ndb _ (by simp)).1 (ndb _ (by simp)).2) (pa_cons (pe_var (i := 2) rfl (vis _ (by simp)) (ndb _ (by simp)).1 (ndb _ (by simp)).2) pa_nil))) (by rfl) hli))
        (pss_cons (ps_ost (pe_var (i := 0) rfl (vis _ (by simp))) (pe_var (i := 1) rfl (vis _ (by simp)) (ndb _ (by simp)).1 (ndb _ (by simp)).2)) (pss_cons (ps_ost (pe_var (i := 0) rfl (vis _ (by simp))) (pe_var (i := 2) rfl (vis _ (by simp)) (ndb _ (by simp)).1 (ndb _ (by simp)).2)) pss_nil)), ?_⟩
      refine ⟨.ref a, rfl, y, rfl, z, rfl, a, C, [y, z], rfl, by simp, R.ok, ha, y, rfl, .ref a, rfl, a, C, rfl, R.ok, fno _ (by simp), .inl ⟨ha, fun dx nd ne => ?_⟩⟩
      refine ⟨z, rfl, .ref a, rfl, a, C, rfl, R.ok, fno _ (by simp), .inr ⟨dx, _, upd_same, by rw [upd_ne ne, upd_same], by simp, ?_⟩⟩
      show Q .non _
      rw [upd_comm ne, upd_upd]
      exact hq dx nd ne
    · cases sh
def rInner (C : Addr) (ns : List Str) (W : WX) (σ : L2.St) (vs : List V) (H1 : Hp) : Prop := vs.length ≤ 1000 ∧ ∀ a, H1 a = none → spI C ns (.ref a :: (vs ++ [])) (upd H1 a (exo a C none))
  (fun v H2 => v = .non ∧ ∃ (d : Addr) (fs : List (Str × V)), H2 a = some (exo a C (some d)) ∧ H2 d = some (exd d fs) ∧ H1 d = none ∧ W (.ref C) (some d) σ (upd (del H2 a) d (.xd fs))) (fun _ _ _ => False)
theorem rInner_of {C : Addr} {ns : List Str} {W : WX} {σ : L2.St} {vs : List V} {H1 : Hp} (h1 : vs.length = ns.length) (h2 : vs.length ≤ 1000) (h3 : ∀ dx, H1 dx = none → W (.ref C) (some dx) σ (upd H1 dx (.xd (ns.zip vs).reverse))) : rInner C ns W σ vs H1 := by
  refine ⟨h2, fun a na => ⟨a, vs, by simp, h1, upd_same, fun dx nd ne => ?_⟩⟩
  rw [upd_ne ne] at nd
  refine ⟨rfl, dx, _, by rw [upd_ne (Ne.symm ne), upd_same], upd_same, nd, ?_⟩
  have eq : upd (del (upd (upd (upd H1 a (exo a C none)) a (exo a C (some dx))) dx (exd dx (ns.zip vs).reverse)) a) dx (.xd (ns.zip vs).reverse) = upd H1 dx (.xd (ns.zip vs).reverse) := by
    funext b
    by_cases hb : b = dx
    · subst hb; rw [upd_same, upd_same]
    · rw [upd_ne hb, upd_ne hb]
      by_cases hb2 : b = a
      · subst hb2; rw [del_same, na]
      · rw [del_ne hb2, upd_ne hb, upd_ne hb2, upd_ne hb2]
  rw [eq]
  exact h3 dx nd
theorem ps_raisD {X : Cx} {W : WX} {n : Str} {ns : List Str} {C fI : Addr} {fd : FuncData} {e : Expr} {es : List Expr} {ta : TA} {p pos pos' : Pos} (R : RFact X.K X.mg n ns C fI fd) (hc : X.calm = true) (tk : Takes X W) (hr : Room 2 X.A) (hg : Gl X n) (hdb : (n == ("__debug__" : Str)) = false) (ha : PA X (e :: es) ta)
    (he : starEach (e :: es) X.env = (false, eval e X.env) :: starEach es X.env) (hpl : (backTo pos (starEach es X.env)).any (·.1) = false) :
    PS X (.Raise (some (.Call (.Name n p) (e :: es) [] pos)) none pos') (fun _ σ H => ta σ H fun vs H1 => rInner C ns W σ vs H1) := by
  have pm := pmk_oex (CX := L2.CX X.prog X.w) (x := n) (p := p) (pos := pos) (dvs := []) (ds := []) R.ok R.ini R.tin (init_ok R) hr R.bd .nil (fun _ _ _ _ _ _ _ z => by obtain ⟨_, _, _, _, _, _, _, _, _, _, _, _, q⟩ := z; exact q.elim) hg R.mgn ha hdb he hpl
  exact ⟨fun pins s σ H D I h => (ps_raise hc tk pm).run pins s σ H D I h⟩
end Z

set_option Elab.async false
set_option linter.all false
set_option maxRecDepth 100000
set_option maxHeartbeats 4000000
namespace Z
open PySem PySem.Spec PyProof.Rows L2
def IteT (K : PySem.W.Frag) (a : Addr) : It :=
  ⟨fun i H => ∃ (xs : List V) (x : V), SqT K H a xs ∧ xs[i]? = some x, fun i H v H' => ∃ T x, v = .ref T ∧ H T = none ∧ H' = upd H T (.tup [.int (i : Nat), x]) ∧ ∀ xs, SqT K H a xs → xs[i]? = some x, fun i H => ∃ xs : List V, SqT K H a xs ∧ xs.length ≤ i⟩
theorem meets_enumB {v0 : Value} {ob : Obj} {HH : Heap → Prop} (B : Begins v0 ob HH) :
    Meets (Builtin.«enumerate.__new__» ⟨[.type "enumerate", v0], []⟩) (fun _ R s => HH s.heap ∧
      R (.ok (.ret (.ref (s.heap.push ob).objs.size))) { s with heap := (s.heap.push ob).push { cls := .type "enumerate", data := .fields #[.none, .bool false, .ref s.heap.objs.size, rawInt 0, .none, .none] } }) :=
  .of_wp fun prog w A R s0 hyp => by
    obtain ⟨hp, gg, dd, tk, os⟩ := s0; obtain ⟨hyp1, hyp⟩ := hyp; have hsb := sub_enumerate
    have it1 : ∀ {A' : Around} {E : Value → Shared → Prop} {Q : Value → Shared → Prop}, Q (.ref hp.objs.size) ⟨hp.push ob, gg, dd, tk, os⟩ → wpAny (model prog w) A' (pyIter v0) Q E ⟨hp, gg, dd, tk, os⟩ := fun z => B.iter prog w _ _ ⟨hp, gg, dd, tk, os⟩ _ hyp1 z
    wp_walk using it1; refine wpAny_stack_any fun stk => wpAny_pure ?_; split
    · rename_i cc _ _ _ _ _; cases (cc == Value.type "enumerate") <;> (wp_walk using it1; exact ⟨_, rfl, hyp⟩)
    · wp_walk using it1; exact ⟨_, rfl, hyp⟩
theorem enumT_begins {prog : Program} {w : World} {A : Around} {E : Value → Shared → Prop} {s : Shared} {v0 : Value} {ob : Obj} {HH : Heap → Prop} {Q : Value → Shared → Prop} (B : Begins v0 ob HH) (h1 : HH s.heap)
    (hyp : ∀ h', IsEnum h' (s.heap.objs.size + 1) s.heap.objs.size 0 .none → h'.get? s.heap.objs.size = some ob → (∀ b o, s.heap.get? b = some o → h'.get? b = some o) → Q (.ref (s.heap.objs.size + 1)) { s with heap := h' }) :
    wpAny (model prog w) A (call (.type "enumerate") [v0]) Q E s := by
  refine callType_new F.called_enumerate (by decide) (F.typeCall_enumerate_1 _) (F.newCall_enumerate_1 _) (fun obj => F.args_object_init_2 obj _) F.entry_enumerate_new (meets_enumB B) ⟨h1, ?_⟩
  have hz : (s.heap.push ob).objs.size = s.heap.objs.size + 1 := Heap.size_push ..
  show _ ∧ _
  rw [hz]
  have he : IsEnum ((s.heap.push ob).push { cls := .type "enumerate", data := .fields #[.none, .bool false, .ref s.heap.objs.size, rawInt 0, .none, .none] }) (s.heap.objs.size + 1) s.heap.objs.size 0 .none := by have z := Heap.get?_push_size (s.heap.push ob) (o := { cls := .type "enumerate", data := .fields #[.none, .bool false, .ref s.heap.objs.size, rawInt 0, .none, .none] }) rfl; rw [hz] at z; exact z
  exact ⟨⟨_, he, rfl⟩, hyp _ he (Heap.get?_push_of_some _ (Heap.get?_push_size _ B.free)) fun b o x => Heap.get?_push_of_some _ (Heap.get?_push_of_some _ x)⟩
theorem turn_enumT {P : Program} {w : World} {K : PySem.W.Frag} {elts : List Expr} {kk : Nat} {tpos : Pos} (a e it : Addr) :
    Turn P w K (.Tuple elts kk tpos) (IteT K a) [e, it] e (fun i h => (∃ old, IsEnum h e it ((i : Nat) : Int) old) ∧ h.IsTupleIter it a i ∧ e ≠ it) where
  mem := by simp
  obj := fun i h st b hb => by
    obtain ⟨⟨old, he⟩, ⟨o, ho, hc, hd⟩, _⟩ := st
    rcases (show b = e ∨ b = it by simpa using hb) with z | z
    · rw [z]; exact ⟨_, he, fun v q => nomatch q⟩
    · rw [z]; exact ⟨o, ho, fun v q => by rw [hd] at q; cases q⟩
  keep := fun i h h' st k => let ⟨⟨old, he⟩, hi, hne⟩ := st; ⟨⟨old, k e (by simp) _ he⟩, hi.at fun o q => k it (by simp) o q, hne⟩
  item := by
    intro X hP hw hK hc i pins s σ H E I hf st hg; subst hP hw hK
    obtain ⟨⟨old, he⟩, hit, hne⟩ := st; obtain ⟨xs, x, hq, hx⟩ := hg; obtain ⟨its, rv, p, hz⟩ := I.tuple hq; obtain ⟨u, hu, ru⟩ := rv.get hx
    have hel : e < s.heap.objs.size := Heap.lt_size he
    have hil : it < s.heap.objs.size := by obtain ⟨_, q, _⟩ := hit; exact Heap.lt_size q
    have hia : a ≠ it := fun z => by
      obtain ⟨o, q, qc, _⟩ := hit; obtain ⟨o2, q2, qc2, _⟩ := p
      rw [z, q] at q2; cases q2; rw [qc] at qc2; simp at qc2
    have hea : e ∉ [it, a] := fun z => by
      rcases (show e = it ∨ e = a by simpa using z) with z | z
      · exact hne z
      · obtain ⟨o2, q2, qc2, _⟩ := p; rw [← z] at q2; have he' : s.heap.get? e = _ := he; rw [q2] at he'; cases he'; simp at qc2
    have hlt : i < its.toArray.size := by simpa using (List.getElem?_eq_some_iff.mp hu).1
    refine wpAny_pyNext_enum_itemD (Draws.tuple (show X.A.in1.handled = none from I.ok.hd hc) it a hia its.toArray) he ⟨hit, p⟩ hlt hne hea fun y h' tk hy ho st' hT hsz hk => ?_
    have hyu : y = u := by rw [show its.toArray[i]? = its[i]? by simp, hu] at hy; exact (Option.some.inj hy).symm
    subst hyu
    refine ⟨_, rfl, wpAny_letOwnedTupleGo_enum (s := { s with heap := h', toks := tk + 1 }) ho fun h'' he' sb => ?_⟩
    have hT2 : h''.get? s.heap.objs.size = some { cls := .type "tuple", data := .seq #[.int i tk, y] } := (sb.2 _ (Nat.ne_of_gt hel)).trans hT
    have new : ObjOk X.prog X.w (upd H s.heap.objs.size (.tup [.int (i : Nat), x])) h'' s.heap.objs.size (.tup [.int (i : Nat), x]) := ⟨by show 2 ≤ sizeLine; decide, [.int i tk, y], .cons ⟨_, rfl⟩ (.cons ru .nil), ⟨_, hT2, rfl, _, rfl⟩⟩
    have I1 : Inv X pins σ (upd H s.heap.objs.size (.tup [.int (i : Nat), x])) { s with heap := h'', toks := tk + 1 } := I.turnedNew (ch := [e, it]) (fun b ob hb q => (sb.2 b (fun z => hb (by simp [z]))).trans (hk b ob (fun z => hb (by simp [z])) (fun z => hb (by simp [z])) q)) hf (Nat.le_refl _) new
    refine ⟨.ref s.heap.objs.size, _, I1, rfl, ⟨_, x, rfl, I.hok.fresh (Nat.le_refl _), rfl, fun ys hy => by rw [I.tuple_inj hy hq]; exact hx⟩, ⟨⟨y, ?_⟩, st'.1.at fun o q => (sb.2 it (Ne.symm hne)).trans q, hne⟩, fun b hb => ?_⟩
    · rw [show ((i + 1 : Nat) : Int) = (i : Int) + 1 by omega]; exact he'
    · have hb' : b < s.heap.objs.size := by
        rcases (show b = e ∨ b = it by simpa using hb) with z | z
        · rw [z]; exact hel
        · rw [z]; exact hil
      rw [upd_ne (Nat.ne_of_lt hb')]; exact (hf b hb).1
  done := by
    intro X hP hw hK hc i pins s σ H E I hf st hg; subst hP hw hK
    obtain ⟨⟨old, he⟩, hit, hne⟩ := st; obtain ⟨xs, hq, hx⟩ := hg; obtain ⟨its, rv, p, hz⟩ := I.tuple hq; obtain ⟨f0, f1, f2, f3, f4, f5⟩ := hf it (by simp)
    have hl := rv.length
    have hia : a ≠ it := fun z => by
      obtain ⟨o, q, qc, _⟩ := hit; obtain ⟨o2, q2, qc2, _⟩ := p
      rw [z, q] at q2; cases q2; rw [qc] at qc2; simp at qc2
    have tE : s.TypeIs (.ref e) "enumerate" := ⟨_, he, rfl⟩
    unfold pyNext; refine wpAny_bind (wpAny_attempt (wpAny_callSpecial?_slot (name := Str.ofString "__next__") tE F.slot_enumerate_next (wpAny_call_entry F.slot_enumerate_next tE F.entry_enumerate_next ?_ (F.args_enumerate_next_1 _))))
    show wpAny _ _ (field (.ref e) 2 >>= _) _ _ _; refine wpAny_bind (wpAny_field he rfl (x := .ref it) rfl ?_)
    refine wpAny_bind (wpAny_nextOf_tuple_end (show X.A.in1.handled = none from I.ok.hd hc) hit p (Array.getElem?_eq_none (by simp; omega)) fun h' x hx he' => ?_)
    obtain ⟨o, ho, hoc⟩ := he'; refine wpAny_bind (wpAny_isInstance (T := "StopIteration") (b := true) ⟨o, ho, hoc⟩ isSubtype_stop ?_)
    exact wpAny_pure ⟨rfl, I.turned (t' := s.toks) (fun b o hb q => hx b o hb q) f0 f1 f3 f4 f5⟩
  self := fun A i s Q E st h => let ⟨⟨_, he⟩, _⟩ := st; wpAny_pyIter_enum he h
def iEnumT (K : PySem.W.Frag) (te : TE) : TI := fun σ H R => te σ H fun v H1 => ∃ a xs, v = .ref a ∧ ((SqL K H1 a xs ∧ R (Ite K a) H1) ∨ (SqT K H1 a xs ∧ R (IteT K a) H1))
theorem pi_enumT {X : Cx} {e : Expr} {te : TE} {p pos tpos : Pos} {elts : List Expr} {kk : Nat} (hg : Gl X "enumerate") (hm : X.mg "enumerate" = none) (he : PE X e te) (hs : starEach [e] X.env = (false, eval e X.env) :: starEach [] X.env) :
    PI X (.Tuple elts kk tpos) (.Call (.Name "enumerate" p) [e] [] pos) (iEnumT X.K te) := by
  refine ⟨fun pins s σ H R I h => ?_⟩
  refine Call_ (ld_blt I hg hm boot_enumerate (PyProof.Rows.callWith_type1 (args_cons (thn (he.run pins s σ H _ I h) fun u s1 ⟨v, H1, I1, r1, q1⟩ => args_nil ?_) hs) hs rfl))
  obtain ⟨a, xs, ev, q⟩ := q1; subst ev; obtain rfl : u = Value.ref a := r1
  rcases q with ⟨hq, q⟩ | ⟨hq, q⟩
  · obtain ⟨its, rv, p', hz⟩ := I1.list hq
    refine call_enumerate_list p'.isList fun h' he hit hsz hk => wpAny_pyIter_enum he ?_
    refine ⟨s1.heap.objs.size + 1, [s1.heap.objs.size + 1, s1.heap.objs.size], _, _, H1, rfl, I1.kept (t' := s1.toks) hk, turn_enum a (s1.heap.objs.size + 1) s1.heap.objs.size, ⟨⟨.none, he⟩, hit, Nat.succ_ne_self _⟩, fun b hb => ?_, q⟩
    have hle : s1.heap.objs.size ≤ b := by
      rcases (show b = s1.heap.objs.size + 1 ∨ b = s1.heap.objs.size by simpa using hb) with z | z
      · rw [z]; exact Nat.le_add_right _ _
      · rw [z]; exact Nat.le_refl _
    exact I1.fpOk hle (I1.hok.fresh hle)
  · obtain ⟨its, rv, p', hz⟩ := I1.tuple hq
    refine enumT_begins (begins_tuple a its.toArray) p' fun h' he hit hk => wpAny_pyIter_enum he ?_
    refine ⟨s1.heap.objs.size + 1, [s1.heap.objs.size + 1, s1.heap.objs.size], _, _, H1, rfl, I1.kept (t' := s1.toks) hk, turn_enumT a (s1.heap.objs.size + 1) s1.heap.objs.size, ⟨⟨.none, he⟩, ⟨_, hit, rfl, rfl⟩, Nat.succ_ne_self _⟩, fun b hb => ?_, q⟩
    have hle : s1.heap.objs.size ≤ b := by
      rcases (show b = s1.heap.objs.size + 1 ∨ b = s1.heap.objs.size by simpa using hb) with z | z
      · rw [z]; exact Nat.le_add_right _ _
      · rw [z]; exact Nat.le_refl _
    exact I1.fpOk hle (I1.hok.fresh hle)
end Z

set_option Elab.async false
set_option linter.all false
set_option maxRecDepth 100000
set_option maxHeartbeats 4000000
namespace Z
open PySem PySem.Spec PyProof.Rows L2
section
variable {prog : Program} {w : World} {A : Around} {E : Value → Shared → Prop} {s : Shared}
theorem star_rest {items : Array Value} {n i : Nat} {Q : List Value → Shared → Prop} {z0 : Sem (List Value)} (hi : i < n) (hn : n ≤ items.size + 1) (hz : items.size ≤ 16384) {h₂ : Heap} {tk : Nat}
    (h : Q (items.toList.take i ++ [.ref h₂.objs.size] ++ (items.toList.drop i).drop (items.size + 1 - n)) { s with heap := h₂.push { cls := .type "list", data := .seq ((items.toList.drop i).take (items.size + 1 - n)).toArray }, toks := tk }) :
    wpAny (model prog w) A (if (items.toList.drop i).length < n - 1 - i then z0 else
      newList ((items.toList.drop i).take ((items.toList.drop i).length - (n - 1 - i))) >>= fun d => pure (items.toList.take i ++ [d] ++ (items.toList.drop i).drop ((items.toList.drop i).length - (n - 1 - i)))) Q E { s with heap := h₂, toks := tk } := by
  have hrl : (items.toList.drop i).length = items.size - i := by rw [List.length_drop, Array.length_toList]
  have hmid : (items.toList.drop i).length - (n - 1 - i) = items.size + 1 - n := by rw [hrl]; omega
  rw [if_neg (by rw [hrl]; omega), hmid]
  exact wpAny_bind (wpAny_newList (wpAny_pure h) (by rw [List.length_take, hrl, sizeLine_eq]; omega))
theorem unpack_starL {l : Addr} {items : Array Value} {n i : Nat} {Q : List Value → Shared → Prop} (hl : s.heap.IsList l items) (hh : A.handled = none) (hi : i < n) (hn : n ≤ items.size + 1) (hz : items.size ≤ 16384)
    (h : ∀ (h₂ : Heap) (tk : Nat), (∀ b o, b ≠ s.heap.objs.size → s.heap.get? b = some o → h₂.get? b = some o) → Q (items.toList.take i ++ [.ref h₂.objs.size] ++ (items.toList.drop i).drop (items.size + 1 - n)) { s with heap := h₂.push { cls := .type "list", data := .seq ((items.toList.drop i).take (items.size + 1 - n)).toArray }, toks := tk }) :
    wpAny (model prog w) A (unpackItems (.ref l) n (some i)) Q E s := by
  have hlt : l ≠ s.heap.objs.size := by obtain ⟨o, ho, _⟩ := hl; exact Nat.ne_of_lt (Heap.lt_size ho)
  unfold unpackItems
  refine wpAny_bind ?_
  unfold notIterableAtAll
  refine wpAny_bind (wpAny_specialOf hl.typeIs slot_list_iter.lookup ?_)
  refine wpAny_pure ?_
  simp only [Bool.false_eq_true, if_false]
  refine wpAny_bind (wpAny_holding (wpAny_pyIter_list hl ?_))
  refine wpAny_bind (wpAny_holding (PySem.W.kun_draw hlt i 0 _ _ ⟨_, Heap.get?_push_size _ rfl, rfl, rfl⟩ (hl.push _) (by omega) fun h₁ hit₁ hs₁ => ?_))
  have hl₁ : h₁.IsList l items := (hl.push _).extBut hs₁.extBut hlt
  rw [Nat.zero_add] at hit₁
  obtain ⟨oi, hoi, _⟩ := id hit₁
  obtain ⟨ol, hol, _⟩ := id hl₁
  rw [List.drop_zero]
  have hfl : (items.toList.take i).length = i := by rw [List.length_take, Array.length_toList]; omega
  rw [if_neg (show ¬ ((items.toList.take i).length < i) by rw [hfl]; omega)]
  refine wpAny_bind (wpAny_holding (PySem.W.kun_collect (s := { s with heap := h₁ }) (T := "list_iterator") (.inr (.inr (.inl rfl))) (Walks.list (A := A.in1) hh s.heap.objs.size l hlt items) (fun j u st => st.1.typeIs) (k := i) (by omega) ⟨hit₁, hl₁⟩ (Heap.lt_size hoi) (Heap.lt_size hol) (fun h₂ tk hk => ?_) (by rw [sizeLine_eq]; omega)))
  refine star_rest (s := { s with heap := h₁ }) hi hn hz (h h₂ tk fun b o hb e => hk b o hb (hs₁.extBut b o hb (Heap.get?_push_of_some _ e)))
theorem unpack_starT {l : Addr} {items : Array Value} {n i : Nat} {Q : List Value → Shared → Prop} (hl : IsTup s.heap l items) (hh : A.handled = none) (hi : i < n) (hn : n ≤ items.size + 1) (hz : items.size ≤ 16384)
    (h : ∀ (h₂ : Heap) (tk : Nat), (∀ b o, b ≠ s.heap.objs.size → s.heap.get? b = some o → h₂.get? b = some o) → Q (items.toList.take i ++ [.ref h₂.objs.size] ++ (items.toList.drop i).drop (items.size + 1 - n)) { s with heap := h₂.push { cls := .type "list", data := .seq ((items.toList.drop i).take (items.size + 1 - n)).toArray }, toks := tk }) :
    wpAny (model prog w) A (unpackItems (.ref l) n (some i)) Q E s := by
  have hlt : l ≠ s.heap.objs.size := by obtain ⟨o, ho, _⟩ := hl; exact Nat.ne_of_lt (Heap.lt_size ho)
  unfold unpackItems
  refine wpAny_bind ?_
  unfold notIterableAtAll
  refine wpAny_bind (wpAny_specialOf hl.typeIs slot_tuple_iter.lookup ?_)
  refine wpAny_pure ?_
  simp only [Bool.false_eq_true, if_false]
  refine wpAny_bind (wpAny_holding (iter_tuple hl ?_))
  refine wpAny_bind (wpAny_holding (draw_tuple hlt i 0 _ _ ⟨_, Heap.get?_push_size _ rfl, rfl, rfl⟩ (hl.push _) (by omega) fun h₁ hit₁ hs₁ => ?_))
  have hl₁ : IsTup h₁ l items := (hl.push _).extBut hs₁.extBut hlt
  rw [Nat.zero_add] at hit₁
  obtain ⟨oi, hoi, _⟩ := id hit₁
  obtain ⟨ol, hol, _⟩ := id hl₁
  rw [List.drop_zero]
  have hfl : (items.toList.take i).length = i := by rw [List.length_take, Array.length_toList]; omega
  rw [if_neg (show ¬ ((items.toList.take i).length < i) by rw [hfl]; omega)]
  refine wpAny_bind (wpAny_holding (PySem.W.kun_collect (s := { s with heap := h₁ }) (T := "tuple_iterator") (.inr (.inr (.inr rfl))) (Walks.tuple (A := A.in1) hh s.heap.objs.size l hlt items) (fun j u st => st.1.typeIs) (k := i) (by omega) ⟨hit₁, hl₁⟩ (Heap.lt_size hoi) (Heap.lt_size hol) (fun h₂ tk hk => ?_) (by rw [sizeLine_eq]; omega)))
  refine star_rest (s := { s with heap := h₁ }) hi hn hz (h h₂ tk fun b o hb e => hk b o hb (hs₁.extBut b o hb (Heap.get?_push_of_some _ e)))
end
section
variable {X : Cx} {pos : Pos}
def gStar (K : PySem.W.Frag) (n i : Nat) (t : TGs) : TG := fun v σ H Q => ∃ a xs, v = .ref a ∧ (SqT K H a xs ∨ SqL K H a xs) ∧ i < n ∧ n ≤ xs.length + 1 ∧ xs.length ≤ 16384 ∧
  ∀ p, H p = none → t (xs.take i ++ [.ref p] ++ (xs.drop i).drop (xs.length + 1 - n)) σ (upd H p (.lst ((xs.drop i).take (xs.length + 1 - n)))) Q
theorem pg_star {es : List Expr} {k : Nat} {t : TGs} {n i : Nat} (hc : X.calm = true) (h : PGs X es t) (hn : (assignEach es X.env).length = n) (hst : (assignEach es X.env).findIdx? (·.1) = some i) : PG X (.Tuple es k pos) (gStar X.K n i t) := by
  refine ⟨fun pins s σ H v u Q I r hw => ?_⟩
  obtain ⟨a, xs, e1, hq, hi, hnx, hz, hw⟩ := hw
  subst e1
  cases r
  rw [PyProof.Rows.assign_Tuple]
  refine wpAny_bind (wpAny_standAt ?_)
  unfold unpack
  rw [hn, hst]
  have fin : ∀ (its : List Value), Vals xs its → ∀ (h₂ : Heap) (tk : Nat), (∀ b o, b ≠ s.heap.objs.size → s.heap.get? b = some o → h₂.get? b = some o) →
      wpAny (model X.prog X.w) X.A (assignInOrder ((assignEach es X.env).map (·.2)) (its.take i ++ [.ref h₂.objs.size] ++ (its.drop i).drop (its.length + 1 - n))) (fun _ s' => ∃ σ' H', Inv X pins σ' H' s' ∧ Q σ' H') X.xe
        { s with heap := h₂.push { cls := .type "list", data := .seq ((its.drop i).take (its.length + 1 - n)).toArray }, toks := tk } := fun its rv h₂ tk hk => by
    have I1 : Inv X pins σ H { s with heap := h₂, toks := tk } := I.kept (t' := tk) fun b o e => hk b o (Nat.ne_of_lt (Heap.lt_size e)) e
    have hfr : H h₂.objs.size = none := I1.hok.fresh (Nat.le_refl _)
    have I2 : Inv X pins σ (upd H h₂.objs.size (.lst ((xs.drop i).take (xs.length + 1 - n)))) { s with heap := h₂.push { cls := .type "list", data := .seq ((its.drop i).take (its.length + 1 - n)).toArray }, toks := tk } :=
      I1.laid (t' := tk) (fun b o e => Heap.get?_push_of_some _ e) (Nat.le_refl _) (show ObjOk X.prog X.w _ _ _ (.lst ((xs.drop i).take (xs.length + 1 - n))) from
        ⟨by rw [List.length_take, List.length_drop, sizeLine_eq]; omega, (its.drop i).take (its.length + 1 - n), 0, by rw [← rv.length]; exact (rv.drop i).take _, Heap.get?_push_size _ rfl⟩)
    refine h.run pins _ σ _ _ _ Q I2 ?_ (hw _ hfr)
    rw [← rv.length]
    exact ((rv.take i).append (Paired.cons (show RelV (.ref h₂.objs.size) (.ref h₂.objs.size) from rfl) .nil)).append ((rv.drop i).drop _)
  rcases hq with hq | hq
  · obtain ⟨its, rv, ht, hzz⟩ := I.tuple hq
    have hsz : its.toArray.size = xs.length := by rw [List.size_toArray, rv.length]
    refine wpAny_bind (wpAny_holding (unpack_starT ht (I.ok.hd hc) hi (by omega) (by omega) fun h₂ tk hk => ?_))
    have := fin its rv h₂ tk hk
    simpa using this
  · obtain ⟨its, rv, pl, hzz⟩ := I.list hq
    have hsz : its.toArray.size = xs.length := by rw [List.size_toArray, rv.length]
    refine wpAny_bind (wpAny_holding (unpack_starL pl.isList (I.ok.hd hc) hi (by omega) (by omega) fun h₂ tk hk => ?_))
    have := fin its rv h₂ tk hk
    simpa using this
def tPar3 (i j l : Nat) (ta : TA) : L2.TS := fun D σ H => ta σ H fun vs H1 => ∃ u v w, vs = [u, v, w] ∧ D.nx (((σ.set i (some u)).set j (some v)).set l (some w)) H1
theorem ps_par3 {i j l : Nat} {x y z : Str} {a b c : Expr} {ta : TA} {px py pz pt : Pos} {kt k2 pt2} (hc : X.calm = true) (hN : X.N.Nodup) (hi : X.N[i]? = some x) (hj : X.N[j]? = some y) (hl : X.N[l]? = some z) (hij : i ≠ j) (hil : i ≠ l) (hjl : j ≠ l)
    (hx : X.env.scope.names.lookup x = some .local) (hy : X.env.scope.names.lookup y = some .local) (hz : X.env.scope.names.lookup z = some .local) (ha : PA X [a, b, c] ta)
    (hw : swappedStores [.Tuple [.Name x px, .Name y py, .Name z pz] kt pt] (.Tuple [a, b, c] k2 pt2) X.env = pure (some [x, y, z]))
    (hs : swapsWithSole [.Tuple [.Name x px, .Name y py, .Name z pz] kt pt] (.Tuple [a, b, c] k2 pt2) pos.line X.env = pure false := by rfl) :
    PS X (.Assign [.Tuple [.Name x px, .Name y py, .Name z pz] kt pt] (.Tuple [a, b, c] k2 pt2) pos) (tPar3 i j l ta) := by
  refine ⟨fun pins s σ H D I h => ?_⟩
  rw [exec_Assign_arm]
  refine wpAny_bind (wpAny_standAt ?_)
  rw [hs]
  refine wpAny_bind (wpAny_pure ?_)
  rw [if_neg (by decide)]
  refine wpAny_bind (Tuple_ (thn (ha.run _ pins s σ H _ I h) fun us s1 ⟨vs, H1, I1, r1, q1⟩ => ?_))
  obtain ⟨u, v, w, e1, q1⟩ := q1
  subst e1
  obtain ⟨u1, u2, u3, rfl, ru, rv, rw'⟩ : ∃ u1 u2 u3, us = [u1, u2, u3] ∧ RelV u u1 ∧ RelV v u2 ∧ RelV w u3 := by
    cases r1 with
    | cons p q =>
      cases q with
      | cons p' q' =>
        cases q' with
        | cons p2 q2 =>
          cases q2
          exact ⟨_, _, _, rfl, p, p', p2⟩
  refine wpAny_newObj_type ?_ (by show 3 ≤ sizeLine; decide)
  have I2 : Inv X pins σ H1 { s1 with heap := s1.heap.push { cls := .type "tuple", data := .seq [u1, u2, u3].toArray } } := I1.kept (t' := s1.toks) fun b o e => Heap.get?_push_of_some _ e
  rw [hw]
  refine wpAny_bind (wpAny_pure ?_)
  show wpAny (model X.prog X.w) X.A (do rule "assign.swapped-stores"; let items ← unpackItems (.ref s1.heap.objs.size) 3 none; assignInOrder [fun v => bindName X.env z v, fun v => bindName X.env y v, fun v => bindName X.env x v] items.reverse; pure Flow.next) _ _ _
  refine wpAny_bind (wpAny_rule (wpAny_bind (unpackItems_tuple (items := #[u1, u2, u3]) (I.ok.hd hc) (IsTup.new s1.heap _) fun h' hx' => ?_)))
  have I3 := I2.kept (h' := h') (t' := s1.toks) fun b o e => hx' b o (Nat.ne_of_lt (Heap.lt_size e)) e
  show wpAny _ _ (assignInOrder [fun v => bindName X.env z v, fun v => bindName X.env y v, fun v => bindName X.env x v] [u3, u2, u1] >>= fun _ => pure Flow.next) _ _ _
  refine wpAny_bind (assignInOrder_cons (wpAny_bindName (store_ok I3 hN hl (.inl hz) rw' (fun s2 I4 => ?_) (.inr hz))))
  refine assignInOrder_cons (wpAny_bindName (store_ok I4 hN hj (.inl hy) rv (fun s3 I5 => ?_) (.inr hy)))
  refine assignInOrder_cons (wpAny_bindName (store_ok I5 hN hi (.inl hx) ru (fun s4 I6 => assignInOrder_nil (wpAny_pure ?_)) (.inr hx)))
  have e : ((σ.set l (some w)).set j (some v)).set i (some u) = ((σ.set i (some u)).set j (some v)).set l (some w) := by
    rw [List.set_comm _ _ (Ne.symm hjl), List.set_comm _ _ (Ne.symm hil), List.set_comm _ _ (Ne.symm hij)]
  rw [e] at I6
  exact ⟨_, H1, I6, q1⟩
end
end Z

set_option Elab.async false
set_option linter.all false
set_option maxRecDepth 100000
set_option maxHeartbeats 4000000
namespace Z
open PySem PySem.Spec PyProof.Rows L2
section
variable {prog : Program} {w : World} {A : Around} {E : Value → Shared → Prop} {s : Shared}
theorem applied_rev {sl : Addr} {vl vu vs : Value} {n : Nat} {Q : Int × Int × Nat → Shared → Prop} (hs : s.heap.IsSliceOf sl vl vu vs) (pl : IsPart vl none) (pu : IsPart vu none) (ps : IsPart vs (some (-1)))
    (h : Q ((n : Int) - 1, -1, n) s) : wpAny (model prog w) A (Builtin.Slice.sliceApplied (.ref sl) (pure (n : Int))) Q E s := by
  obtain ⟨os, hos, hcs, hds⟩ := id hs
  unfold Builtin.Slice.sliceApplied Builtin.Slice.sliceFields
  refine wpAny_bind (wpAny_bind (wpAny_field hos hds (x := vl) rfl (wpAny_bind (wpAny_field hos hds (x := vu) rfl (wpAny_bind (wpAny_field hos hds (x := vs) rfl (wpAny_pure ?_)))))))
  refine wpAny_bind (HT.slicePart_ ps ?_)
  show wpAny _ _ (if ((-1 : Int) == 0) = true then _ else _) _ _ s
  rw [if_neg (by decide)]
  refine wpAny_bind (HT.slicePart_ pl (wpAny_bind (HT.slicePart_ pu (wpAny_bind (wpAny_pure ?_)))))
  show wpAny _ _ (pure ((n : Int) - 1, (-1 : Int), Builtin.Slice.slicePlaces ((n : Int) - 1) (-1) (-1))) _ _ s
  have e : Builtin.Slice.slicePlaces ((n : Int) - 1) (-1) (-1) = n := by
    unfold Builtin.Slice.slicePlaces
    rw [if_neg (by decide)]
    by_cases hn : n = 0
    · subst hn; rw [if_neg (by decide)]; rfl
    · rw [if_pos (by omega)]
      have : ((n : Int) - 1 - -1 - 1) / (- -1) = (n : Int) - 1 := by rw [show (- -1 : Int) = 1 by decide, Int.ediv_one]; omega
      rw [this]
      omega
  rw [e]
  exact wpAny_pure h
theorem fm_congr {α β : Type} {f g : α → Option β} : ∀ l : List α, (∀ x ∈ l, f x = g x) → l.filterMap f = l.filterMap g
  | [], _ => rfl
  | a :: l, h => by rw [List.filterMap_cons, List.filterMap_cons, h a (by simp), fm_congr l fun x hx => h x (by simp [hx])]
theorem pick_rev (xs : Array Value) : ((List.range xs.size).filterMap fun (m : Nat) => xs[((xs.size : Int) - 1 + (m : Int) * -1).toNat]?).toArray = xs.toList.reverse.toArray := by
  have e : (List.range xs.size).filterMap (fun (m : Nat) => xs[((xs.size : Int) - 1 + (m : Int) * -1).toNat]?) = ((List.range xs.size).map fun k => xs.size - 1 - k).filterMap (xs[·]?) := by
    rw [List.filterMap_map]
    refine fm_congr _ fun m hm => ?_
    have hm := List.mem_range.mp hm
    have : ((xs.size : Int) - 1 + (m : Int) * -1).toNat = xs.size - 1 - m := by omega
    rw [this]
    rfl
  rw [e, PySem.W.krv_range, List.filterMap_reverse, PySem.W.krv_all]
theorem getItem_tuple_rev {t sl : Addr} {items : Array Value} {vl vu vs : Value} {Q : Value → Shared → Prop} (ht : IsTup s.heap t items) (hs : s.heap.IsSliceOf sl vl vu vs) (pl : IsPart vl none) (pu : IsPart vu none) (ps : IsPart vs (some (-1)))
    (h : Q (.ref s.heap.objs.size) { s with heap := s.heap.push { cls := .type "tuple", data := .seq items.toList.reverse.toArray } })
    (hsz : items.size ≤ sizeLine) : wpAny (model prog w) A (getItem (.ref t) (.ref sl)) Q E s := by
  have htake : sizeOk (.seq items.toList.reverse.toArray) := by
    show items.toList.reverse.toArray.size ≤ sizeLine
    rw [List.size_toArray, List.length_reverse, Array.length_toList]
    exact hsz
  obtain ⟨os, hos, hcs, hds⟩ := id hs
  have hTs : s.TypeIs (.ref sl) "slice" := ⟨os, hos, hcs⟩
  unfold getItem
  try with_reducible refine wpAny_holding ?_
  first | refine wpAny_bind (wpAny_pure ?_) | skip
  refine wpAny_bind (wpAny_sequenceKey ht.typeIs (by decide) ?_)
  refine wpAny_bind (wpAny_callSpecial?_slot (name := Str.ofString "__getitem__") ht.typeIs PyProof.Rows.slot_tuple_getitem (wpAny_call_entry PyProof.Rows.slot_tuple_getitem ht.typeIs entry_tuple_getitem ?_ (args_tuple_getitem _ _)))
  show wpAny _ _ (Builtin.Tuple.tupleItemsOf (.ref t) >>= _) _ _ s
  refine wpAny_bind (tupleItemsOf_ ht ?_)
  refine wpAny_bind (wpAny_typeOf hTs ?_)
  rw [if_pos (by decide)]
  refine wpAny_bind (applied_rev hs pl pu ps ?_)
  have hno : ¬ ((((items.size : Int) - 1 : Int) == 0 && (-1 : Int) == 1 && items.size == items.size) = true) := by
    intro q
    rw [Bool.and_eq_true, Bool.and_eq_true] at q
    exact absurd q.1.2 (by decide)
  show wpAny _ _ (if (((items.size : Int) - 1 : Int) == 0 && (-1 : Int) == 1 && items.size == items.size) = true then _ else _) _ _ s
  rw [if_neg hno, pick_rev]
  first
    | exact wpAny_bind (m := Builtin.Tuple.tupleExact _) (wpAny_newObj_type (wpAny_pure ⟨_, rfl, wpAny_pure h⟩) htake)
    | exact wpAny_bind (m := Builtin.Tuple.tupleExact _) (wpAny_newObj_type (wpAny_bind (wpAny_pure (wpAny_pure ⟨_, rfl, wpAny_pure h⟩))) htake)
    | exact wpAny_bind (wpAny_bind (m := Builtin.Tuple.tupleExact _) (wpAny_newObj_type (wpAny_pure (wpAny_pure ⟨_, rfl, wpAny_pure h⟩)) htake))
    | exact wpAny_bind (wpAny_bind (m := Builtin.Tuple.tupleExact _) (wpAny_newObj_type (wpAny_pure ⟨_, rfl, wpAny_pure h⟩) htake))
end
section
variable {X : Cx}
def tRevA (K : PySem.W.Frag) (te : TE) : TE := fun σ H Q => te σ H fun x H1 => ∃ a xs, x = .ref a ∧ ((SqL K H1 a xs ∧ ∀ p, H1 p = none → Q (.ref p) (upd H1 p (.lst xs.reverse))) ∨ (SqT K H1 a xs ∧ ∀ p, H1 p = none → Q (.ref p) (upd H1 p (.tup xs.reverse))))
theorem pe_revA {e : Expr} {te : TE} {k : Nat} {p1 p2 p3 pos : Pos} (he : PE X e te) : PE X (.Subscript e (.Slice none none (some (.UnaryOp .USub (.Constant (.int 1) k p1) p2)) p3) pos) (tRevA X.K te) := by
  refine ⟨fun pins s σ H Q I h => ?_⟩
  refine Subscript_ (thn (he.run pins s σ H _ I h) fun v s1 ⟨x, H1, I1, r1, q1⟩ => ?_)
  obtain ⟨a, xs, ex, q⟩ := q1
  subst ex
  cases r1
  have hst : PO X (some (.UnaryOp .USub (.Constant (.int 1) k p1) p2)) (tPart (tUn (rU fun i => .int (-i)) (tC (.int 1)))) := po_some (pe_un un_neg pe_int)
  refine wpAny_Slice (thn (po_none.run pins s1 σ H1 (fun o H2 => o = none ∧ H2 = H1) I1 ⟨rfl, rfl⟩) fun vl s2 ⟨l, H2, I2, pl, el, e2⟩ => ?_)
  subst el e2
  refine thn (po_none.run pins s2 σ H2 (fun o H3 => o = none ∧ H3 = H2) I2 ⟨rfl, rfl⟩) fun vu s3 ⟨u, H3, I3, pu, eu, e3⟩ => ?_
  subst eu e3
  refine thn (hst.run pins s3 σ H3 (fun o H4 => o = some (-1) ∧ H4 = H3) I3 ⟨1, rfl, -1, rfl, rfl, rfl⟩) fun vs s4 ⟨o, H4, I4, ps, eo, e4⟩ => ?_
  subst eo e4
  have I5 : Inv X pins σ H4 { s4 with heap := s4.heap.push { cls := .type "slice", data := .fields #[vl, vu, vs] } } := I4.kept (t' := s4.toks) fun b ob q => Heap.get?_push_of_some _ q
  show wpAny (model X.prog X.w) X.A (subscriptTail e (.Slice none none (some (.UnaryOp .USub (.Constant (.int 1) k p1) p2)) p3) (.ref a) (.ref s4.heap.objs.size)) (EP X pins σ Q) X.xe { s4 with heap := s4.heap.push { cls := .type "slice", data := .fields #[vl, vu, vs] } }
  rcases q with ⟨hx, q⟩ | ⟨hx, q⟩
  · obtain ⟨its, r, ht, hz⟩ := I5.list hx
    have hlen := r.length
    refine tail_any (ops := [.ref a, .ref s4.heap.objs.size]) ht.isList.typeIs (PySem.slot_list_getitem.lookup) ?_ (by with_unfolding_all rfl)
    refine wpAny_getItem_list_slice ht.isList (Heap.IsSliceOf.new _ vl vu vs) pl pu ps (by decide) ?_ (by rw [List.size_toArray]; omega)
    rw [PySem.W.krv_pick]
    exact ⟨.ref _, _, I5.laid (t' := s4.toks) (o := .lst xs.reverse) (fun b ob q => Heap.get?_push_of_some _ q) (Nat.le_refl _) ⟨by rw [List.length_reverse]; exact hz, _, 0, r.reverse, Heap.get?_push_size _ rfl⟩, rfl, q _ (I5.hok.fresh (Nat.le_refl _))⟩
  · obtain ⟨its, r, ht, hz⟩ := I5.tuple hx
    have hlen := r.length
    refine tail_any (ops := [.ref a, .ref s4.heap.objs.size]) ht.typeIs (PyProof.Rows.slot_tuple_getitem.lookup) ?_ (by with_unfolding_all rfl)
    refine getItem_tuple_rev ht (Heap.IsSliceOf.new _ vl vu vs) pl pu ps ?_ (by rw [List.size_toArray]; omega)
    exact ⟨.ref _, _, I5.laid (t' := s4.toks) (o := .tup xs.reverse) (fun b ob q => Heap.get?_push_of_some _ q) (Nat.le_refl _) ⟨by rw [List.length_reverse]; exact hz, _, r.reverse, IsTup.new _ _⟩, rfl, q _ (I5.hok.fresh (Nat.le_refl _))⟩
def tLenSetT (K : PySem.W.Frag) (ta : TE) : TE := fun σ H Q => ta σ H fun x H1 => ∃ (l : Addr) (ns : List Int), x = V.ref l ∧ SqT K H1 l (ns.map V.int) ∧ ns.length ≤ 1000 ∧ ∀ out : List Int, out.Nodup → (∀ k, k ∈ out ↔ k ∈ ns) → Q (.int out.length) H1
theorem pe_lenSetT {a : Expr} {ta : TE} {p p2 q pos : Pos} (hg : Gl X "len") (hm : X.mg "len" = none) (hg2 : Gl X "set") (hm2 : X.mg "set" = none) (ha : PE X a ta) (hc : X.calm = true)
    (na : starEach [a] X.env = (false, eval a X.env) :: starEach [] X.env) : PE X (.Call (.Name "len" p) [.Call (.Name "set" p2) [a] [] q] [] pos) (tLenSetT X.K ta) := by
  refine ⟨fun pins s σ H Q I h => Call_ (ld_blt I hg hm boot_len (PyProof.Rows.callWith_builtin1 (PyProof.Rows.args_cons (Call_ (ld_blt I hg2 hm2 boot_set (PyProof.Rows.callWith_type1 (PyProof.Rows.args_cons (thn (ha.run pins s σ H _ I h) fun v s1 ⟨x, H1, I1, r1, q1⟩ => PyProof.Rows.args_nil ?_) na) na rfl))) rfl) rfl rfl))⟩
  obtain ⟨l, ns, rfl, hq, hl, q1⟩ := q1
  cases r1
  obtain ⟨its, rv, pt, hz⟩ := I1.tuple hq
  have hi : IntsAre its.toArray.toList ns := ints_of_vals rv
  refine call_set_tupI ns (I1.ok.hd hc) (show s1.heap.IsTuple l its.toArray from pt) hi (by unfold scanBound; omega) fun h' tk c R1 hcn k => ?_
  refine PyProof.Rows.args_nil ?_
  obtain ⟨o, es, ep, t, ho, hex, hdt, g, nd, hm2, hb, hf, hn, hr, hl2⟩ := R1
  have I2 : Inv X pins σ H1 { s1 with heap := h', toks := tk } := I1.kept fun b o e => k b o e
  have hsz : es.size < 2 ^ 63 := by rw [hn]; omega
  refine call_len_set ho hex hdt hf (by omega) ⟨.int es.size, H1, I2.tok _, ⟨_, rfl⟩, ?_⟩
  have hlen : (es.size : Int) = ((es.toList.map keyOf).length : Nat) := by rw [List.length_map, Array.length_toList]
  rw [hlen]
  exact q1 (es.toList.map keyOf) nd fun j => by rw [← hm2 j, decide_eq_true_eq]
end
end Z

set_option Elab.async false
set_option linter.all false
set_option maxRecDepth 100000
set_option maxHeartbeats 4000000
namespace Z
open PySem PySem.Spec PyProof.Rows L2

structure Cc where
  N : List Str
  sc : Scope
  fn : Str → Bool
  dfs : List Str
  xs : List Str
  xr : List Str
  hot : List Str
  ms : List (Str × Str × Str)
  mks : List (Str × Str × Nat)
  calm : Bool
def plainE : Expr → Bool
  | .Starred _ _ => false
  | .Slice _ _ _ _ => false
  | .Set _ _ _ => false
  | _ => true
def lcE : Expr → Bool
  | .ListComp _ _ _ _ => true
  | .SetComp _ _ _ _ => true
  | .DictComp _ _ _ _ _ => true
  | _ => false
def callE : Expr → Bool
  | .Call _ [] _ _ => true
  | _ => false
def isGl (c : Cc) (x : Str) : Bool := decide (c.sc.names.lookup x = some .globalImplicit) && decide (x ≠ "__debug__") && decide (x ≠ "__name__")
def visB (c : Cc) (x : Str) : Bool := (decide (c.sc.names.lookup x = some .local) || decide (c.sc.names.lookup x = some .cell) || decide (c.sc.names.lookup x = some .free)) && decide (x ≠ "__debug__") && decide (x ≠ "__classdict__")
def locB (c : Cc) (x : Str) : Bool := decide (c.sc.names.lookup x = some .local) || (decide (c.sc.names.lookup x = some .cell) && c.fn x)
def blkCc (c : Cc) (scope : Scope) : Cc := { c with sc := relS scope c.sc, fn := fun x => scope.names.lookup x == some .cell }
mutual
def chkG (c : Cc) : Tg → Expr → Bool
  | .nm i, e => match e with
    | .Name x _ => decide (c.N[i]? = some x) && locB c x
    | _ => false
  | .tup gs, e => match e with
    | .Tuple es _ _ => chkGs c gs es && c.calm
    | _ => false
def chkGs (c : Cc) : List Tg → List Expr → Bool
  | [], es => match es with
    | [] => true
    | _ => false
  | g :: gs, es => match es with
    | [] => false
    | e :: es => chkG c g e && chkGs c gs es
end
def ownG (vs : List Nat) : Tg → Bool
  | .nm i => vs.contains i
  | .tup gs => ownGs vs gs
where ownGs (vs : List Nat) : List Tg → Bool
  | [] => true
  | g :: gs => ownG vs g && ownGs vs gs
def tyNames : List String := ["tuple", "str", "int", "bool", "list", "dict"]
mutual
def chkE (c : Cc) : T → Expr → Bool
  | .var i, e => match e with
    | .Name x _ => decide (c.N[i]? = some x) && visB c x
    | _ => false
  | .int i, e => match e with
    | .Constant (.int j) _ _ => decide (i = j)
    | _ => false
  | .bl i, e => match e with
    | .Constant (.bool j) _ _ => decide (i = j)
    | _ => false
  | .non, e => match e with
    | .Constant .none _ _ => true
    | _ => false
  | .str i, e => match e with
    | .Constant (.str j) _ _ => decide (i = j)
    | _ => false
  | .glob x, e => match e with
    | .Name y _ => decide (x = y) && isGl c y
    | _ => false
  | .bty x, e => match e with
    | .Name y _ => decide (y = Str.ofString x) && isGl c y && tyNames.contains x
    | _ => false
  | .bin op a b, e => match e with
    | .BinOp x op2 y _ => decide (op = op2) && chkE c a x && chkE c b y
    | _ => false
  | .neg a, e => match e with
    | .UnaryOp .USub x _ => chkE c a x
    | _ => false
  | .cmp op a b, e => match e with
    | .Compare x [op2] [y] _ => decide (op = op2) && chkE c a x && chkE c b y && plainE y
    | _ => false
  | .chain op op2 a b d, e => match e with
    | .Compare x [o1, o2] [y, z] _ => decide (op = o1) && decide (op2 = o2) && chkE c a x && chkE c b y && chkE c d z && plainE y && plainE z
    | _ => false
  | .bop op ts, e => match e with
    | .BoolOp op2 es _ => decide (op = op2) && chkEs c ts es
    | _ => false
  | .nt a, e => match e with
    | .UnaryOp .Not x _ => chkE c a x
    | _ => false
  | .ite d a b, e => match e with
    | .IfExp x y z _ => chkE c d x && chkE c a y && chkE c b z
    | _ => false
  | .tup ts, e => match e with
    | .Tuple es _ _ => chkEs c ts es
    | _ => false
  | .lst ts, e => match e with
    | .List es _ => chkEs c ts es
    | _ => false
  | .sub a i, e => match e with
    | .Subscript x y _ => chkE c a x && chkE c i y && plainE y
    | _ => false
  | .slice a lo hi, e => match e with
    | .Subscript x (.Slice l h none _) _ => chkE c a x && chkO c lo l && chkO c hi h
    | _ => false
  | .call f ts, e => match e with
    | .Call (.Name g _) es [] _ => decide (f = g) && isGl c g && chkEs c ts es && c.dfs.contains f && (kwT f).isNone && (c.calm || (c.hot.contains f && !es.isEmpty))
    | _ => false
  | .callK f ts ks us, e => match e with
    | .Call (.Name g _) es kws _ => decide (f = g) && isGl c g && chkEs c ts es && !es.isEmpty && chkKw c us ks kws && c.dfs.contains f && decide (kwT f = some (ts.length, ks)) && c.calm
    | _ => false
  | .blt b ts, e => match e with
    | .Call (.Name g _) es [] _ => (decide (b.fn.map Str.ofString = some g) || decide (b.tyn.map Str.ofString = some g)) && isGl c g && chkEs c ts es && !es.isEmpty && c.calm
    | _ => false
  | .lrev a, e => match e with
    | .Call (.Name g _) [.Call (.Name f _) [x] [] _] [] _ => decide (g = "list") && decide (f = "reversed") && isGl c g && isGl c f && chkE c a x && plainE x && c.calm
    | _ => false
  | .lzip a b, e => match e with
    | .Call (.Name g _) [.Call (.Name f _) [x, y] [] _] [] _ => decide (g = "list") && decide (f = "zip") && isGl c g && isGl c f && chkE c a x && plainE x && chkE c b y && plainE y && c.calm
    | _ => false
  | .lset a, e => match e with
    | .Call (.Name g _) [.Call (.Name f _) [x] [] _] [] _ => decide (g = "len") && decide (f = "set") && isGl c g && isGl c f && chkE c a x && plainE x && c.calm
    | _ => false
  | .lrng a, e => match e with
    | .Call (.Name g _) [.Call (.Name f _) [x] [] _] [] _ => decide (g = "list") && decide (f = "range") && isGl c g && isGl c f && chkE c a x && plainE x && c.calm
    | _ => false
  | .mth m a ts, e => match e with
    | .Call (.Attribute o x apos) es [] cpos => decide (x = Str.ofString m.nm) && chkE c a o && chkEs c ts es && !callE o && (apos.endLine == cpos.line) && decide (es.length < 30)
    | _ => false
  | .lc g it ifs own d, e => match e with
    | .ListComp elt [⟨tg, iter, ifz, 0⟩] scope _ => chkI c it iter tg && blkC c.N c.sc scope own && chkG (blkCc c scope) g tg && ownG (own.map (·.2)) g && chkEs (blkCc c scope) ifs ifz && chkE (blkCc c scope) d elt && plainE iter && c.calm
    | _ => false
  | .dct ks vs, e => match e with
    | .Dict kz vz _ => chkKs ks kz && chkEs c vs vz && decide (kz.length = vz.length) && !kz.isEmpty && decide (kz.length ≤ 15)
    | _ => false
  | .isx a m, e => match e with
    | .Call (.Name g _) [x, .Name y _] [] _ => decide (g = "isinstance") && decide (y = m) && isGl c g && isGl c y && chkE c a x && plainE x && xnames.contains m && c.xs.contains m
    | _ => false
  | .atr a f, e => match e with
    | .Attribute x y _ => decide (y = f) && chkE c a x && !callE x && xflds.contains f
    | _ => false
  | .back a, e => match e with
    | .Subscript x (.Slice none none (some (.UnaryOp .USub (.Constant (.int 1) _ _) _)) _) _ => chkE c a x
    | _ => false
  | .new q cn ts, e => match e with
    | .Call (.Name g _) es [] _ => decide (g = cn) && isGl c g && chkEs c ts es && c.mks.contains (q, cn, ts.length) && c.calm
    | _ => false
  | .fld a f, e => match e with
    | .Attribute x y _ => decide (y = f) && chkE c a x && !callE x && cflds.contains f
    | _ => false
  | .eqo q cn a b, e => match e with
    | .Compare x [.Eq] [y] _ => chkE c a x && chkE c b y && plainE y && c.ms.contains (q, cn, "__eq__") && c.calm
    | _ => false
  | .isc a m, e => match e with
    | .Call (.Name g _) [x, .Name y _] [] _ => decide (g = "isinstance") && decide (y = m) && isGl c g && isGl c y && chkE c a x && plainE x && c.mks.any (fun p => decide (p.2.1 = m))
    | _ => false
  | .meth q cn m a ts, e => match e with
    | .Call (.Attribute o x apos) es [] cpos => decide (x = m) && chkE c a o && chkEs c ts es && !callE o && (apos.endLine == cpos.line) && decide (es.length < 30) && c.ms.contains (q, cn, m) && c.calm
    | _ => false
def chkEs (c : Cc) : List T → List Expr → Bool
  | [], es => match es with
    | [] => true
    | _ => false
  | t :: ts, es => match es with
    | [] => false
    | e :: es => chkE c t e && plainE e && chkEs c ts es
def chkKw (c : Cc) : List T → List Str → List Keyword → Bool
  | [], ks, kws => ks.isEmpty && kws.isEmpty
  | u :: us, ks, kws => match ks, kws with
    | k :: ks, ⟨some n, e, _⟩ :: kws => decide (k = n) && chkE c u e && chkKw c us ks kws
    | _, _ => false
def chkO (c : Cc) : Option T → Option Expr → Bool
  | none, e => e.isNone
  | some t, e => match e with
    | some e => chkE c t e
    | none => false
def chkI (c : Cc) : Ti → Expr → Expr → Bool
  | .seq t, e, _ => chkE c t e
  | .rng1 t, e, _ => match e with
    | .Call (.Name g _) [x] [] _ => decide (g = "range") && isGl c g && chkE c t x && plainE x
    | _ => false
  | .rng2 t u, e, _ => match e with
    | .Call (.Name g _) [x, y] [] _ => decide (g = "range") && isGl c g && chkE c t x && plainE x && chkE c u y && plainE y
    | _ => false
  | .enm t, e, tg => match tg with
    | .Tuple _ _ _ => (match e with
      | .Call (.Name g _) [x] [] _ => decide (g = "enumerate") && isGl c g && chkE c t x && plainE x
      | _ => false)
    | _ => false
  | .zip t u, e, tg => match tg with
    | .Tuple _ _ _ => (match e with
      | .Call (.Name g _) [x, y] [] _ => decide (g = "zip") && isGl c g && chkE c t x && plainE x && chkE c u y && plainE y
      | _ => false)
    | _ => false
  | .rev t, e, _ => match e with
    | .Call (.Name g _) [x] [] _ => decide (g = "reversed") && isGl c g && chkE c t x && plainE x
    | _ => false
def chkKs : List Str → List (Option Expr) → Bool
  | [], es => match es with
    | [] => true
    | _ => false
  | k :: ks, es => match es with
    | some (.Constant (.str j) _ _) :: es => decide (k = j) && chkKs ks es
    | _ => false
end
def chkNames (c : Cc) : List Nat → List Expr → Bool
  | [], es => match es with
    | [] => true
    | _ => false
  | a :: is, es => match es with
    | .Name x _ :: r => decide (c.N[a]? = some x) && locB c x && chkNames c is r
    | _ => false
def chkStar (c : Cc) (i : Nat) (js : List Nat) : List Nat → List Expr → Bool
  | [], es => match es with
    | .Starred (.Name x _) _ :: r => decide (c.N[i]? = some x) && locB c x && chkNames c js r
    | _ => false
  | a :: is, es => match es with
    | .Name x _ :: r => decide (c.N[a]? = some x) && locB c x && chkStar c i js is r
    | _ => false
mutual
def chkS (c : Cc) : TS → Stmt → Bool
  | .ex t, s => match s with
    | .Expr e _ => chkE c t e && !lcE e
    | _ => false
  | .asg g t, s => match s with
    | .Assign [tg] e p => chkG c g tg && chkE c t e && (match tg with
      | .Name x q => !lcE e || decide (c.sc.names.lookup x = some .cell) || (decide (c.sc.names.lookup x = some .local) && (match e with | .ListComp _ _ scope q2 => (q.line == q2.line) && !(scope.names.any fun (n, k) => n == x && (k == .local || k == .cell)) | _ => false))
      | .Tuple _ _ _ => !lcE e && (match e with | .Tuple _ _ _ => false | _ => true)
      | _ => false)
    | _ => false
  | .par i j t u, s => match s with
    | .Assign [.Tuple [.Name x q, .Name y q2] _ _] (.Tuple [a, b] _ _) _ => decide (c.N[i]? = some x) && decide (c.N[j]? = some y) && decide (i ≠ j) && decide (x ≠ y) && decide (c.sc.names.lookup x = some .local) && decide (c.sc.names.lookup y = some .local) && chkEs c [t, u] [a, b]
        && (q.line == q2.line) && !(foldedForSure 8 a && foldedForSure 8 b) && !(constantsAlone 8 a && constantsAlone 8 b) && c.calm
    | _ => false
  | .par3 i j l t u v, s => match s with
    | .Assign [.Tuple [.Name x q, .Name y q2, .Name z q3] _ _] (.Tuple [a, b, d] _ _) _ => decide (c.N[i]? = some x) && decide (c.N[j]? = some y) && decide (c.N[l]? = some z) && decide (i ≠ j) && decide (i ≠ l) && decide (j ≠ l) && decide (x ≠ y) && decide (x ≠ z) && decide (y ≠ z)
        && decide (c.sc.names.lookup x = some .local) && decide (c.sc.names.lookup y = some .local) && decide (c.sc.names.lookup z = some .local) && chkEs c [t, u, v] [a, b, d]
        && (q.line == q2.line) && (q.line == q3.line) && !(foldedForSure 8 a && foldedForSure 8 b && foldedForSure 8 d) && !(constantsAlone 8 a && constantsAlone 8 b && constantsAlone 8 d) && c.calm
    | _ => false
  | .star is i js t, s => match s with
    | .Assign [.Tuple es _ _] e _ => chkStar c i js is es && chkE c t e && !lcE e && (match e with | .Tuple _ _ _ => false | _ => true) && c.calm
    | _ => false
  | .set a i t, s => match s with
    | .Assign [.Subscript o k _] e _ => chkE c a o && chkE c i k && plainE k && chkE c t e && !lcE e
    | _ => false
  | .setf a f t, s => match s with
    | .Assign [.Attribute o x _] e _ => decide (x = f) && chkE c a o && chkE c t e && !lcE e && cflds.contains f
    | _ => false
  | .aug op i t, s => match s with
    | .AugAssign (.Name x _) op2 e _ => decide (op = op2) && decide (c.N[i]? = some x) && locB c x && chkE c t e
    | _ => false
  | .ife t a b, s => match s with
    | .If e x y _ => chkE c t e && chkSs c a x && chkSs c b y
    | _ => false
  | .whil t b, s => match s with
    | .While e x [] _ => chkE c t e && chkSs c b x
    | _ => false
  | .fr g it b, s => match s with
    | .For tg iter x [] _ => chkI c it iter tg && chkG c g tg && chkSs c b x && plainE iter && c.calm
    | _ => false
  | .ret t, s => match s with
    | .Return (some e) _ => chkE c t e
    | _ => false
  | .retN, s => match s with
    | .Return none _ => true
    | _ => false
  | .pass, s => match s with
    | .Pass _ => true
    | _ => false
  | .brk, s => match s with
    | .Break _ => true
    | _ => false
  | .cont, s => match s with
    | .Continue _ => true
    | _ => false
  | .never, _ => true
  | .rais n ts, s => match s with
    | .Raise (some (.Call (.Name g _) es [] _)) none _ => decide (g = n) && isGl c g && chkEs c ts es && !es.isEmpty && c.xr.contains n && c.calm
    | _ => false
  | .tryx b m i h, s => match s with
    | .Try body [.ExceptHandler (some (.Name x _)) (some n) (b0 :: suite) _] [] [] _ => decide (x = m) && isGl c x && decide (c.N[i]? = some n) && decide (c.sc.names.lookup n = some .local) && chkSs c b body && chkSs { c with calm := false } h (b0 :: suite) && xnames.contains m && c.xs.contains m && c.calm
    | _ => false
def chkSs (c : Cc) : List TS → List Stmt → Bool
  | [], es => match es with
    | [] => true
    | _ => false
  | t :: ts, es => match es with
    | [] => false
    | e :: es => chkS c t e && chkSs c ts es
end
end Z

set_option Elab.async false
set_option linter.all false
set_option maxRecDepth 100000
set_option maxHeartbeats 4000000
namespace Z
open PySem PySem.Spec PyProof.Rows L2

def RelX (K : PySem.W.Frag) (w : World) (H : Hp) (x : Exc) (cls : Value) (d : Option Addr) : Prop := ∃ C da vs, cls = .ref C ∧ XCls K x.cls C ∧ d = some da ∧ H da = some (.xd (x.ns.zip vs)) ∧ RelDs K w H x.ds vs
def ExK (K : PySem.W.Frag) (w : World) (H : Hp) (S : Sto) (ex : EX) (W : WX) : Prop := ∀ x σd S', ex x σd S' → ∀ σ H' cls d, Fm H S H' S' → RelSt K w H' σd σ → RelX K w H' x cls d → HR K w H' S' → W cls d σ H'
theorem ExK.next {K : PySem.W.Frag} {w : World} {H H' : Hp} {S S' : Sto} {ex : EX} {W : WX} (k : ExK K w H S ex W) (f : Fm H S H' S') : ExK K w H' S' ex W := fun x σd S2 h σ H2 cls d f2 => k x σd S2 h σ H2 cls d (f.trans f2)
abbrev W0 : WX := fun _ _ _ _ => False
def tD (K : PySem.W.Frag) (w : World) (W : WX) (ex : EX) (f : WE) : TE := fun σ H Q => ∃ σd S R, RelSt K w H σd σ ∧ HR K w H S ∧ ExK K w H S ex W ∧ f σd S R ∧ Kont K w H S R Q
def tDT (K : PySem.W.Frag) (w : World) (W : WX) (ex : EX) (f : WT) : TT := fun σ H Q => ∃ σd S R, RelSt K w H σd σ ∧ HR K w H S ∧ ExK K w H S ex W ∧ f σd S R ∧ ∀ b S', R b S' → ∀ H', Fm H S H' S' → HR K w H' S' → Q b H'
def tDA (K : PySem.W.Frag) (w : World) (W : WX) (ex : EX) (f : WA) : TA := fun σ H Q => ∃ σd S R, RelSt K w H σd σ ∧ HR K w H S ∧ ExK K w H S ex W ∧ f σd S R ∧ ∀ ds S', R ds S' → ∀ vs H', Fm H S H' S' → RelDs K w H' ds vs → HR K w H' S' → Q vs H'
def spD (K : PySem.W.Frag) (w : World) (np : Nat) (f : List D → Sto → (D → Sto → Prop) → (Exc → Sto → Prop) → Prop) : Sp := fun vs H Q E => ∃ ds S R RX, ds.length = np ∧ RelDs K w H ds vs ∧ HR K w H S ∧ f ds S R RX ∧ Kont K w H S R Q ∧
  ∀ x S', RX x S' → ∀ cls d H', Fm H S H' S' → RelX K w H' x cls d → HR K w H' S' → E cls d H'
def bnames : List String := ["len", "isinstance", "max", "min", "abs", "all", "any", "sum", "tuple", "list", "int", "str", "bool", "dict", "range", "enumerate", "zip", "reversed", "set", "repr", "sorted"]
structure XOk (defs : Str → Option DefT) (gl : Str → Option D) (k : Nat) (c : Cc) (W : WX) (X : Cx) : Prop where
  cal : ∀ f d, c.dfs.contains f = true → kwT f = none → defs f = some d → ∃ fa fd ps, X.mg f = some (.ref fa) ∧ PySem.W.keepIn X.K (.ref fa) = true ∧ Binds X.K fd ps [] ∧ ps.length = d.np ∧ FnG X.prog X.w X.K X.mg X.base (L2.CX X.prog X.w) (2 * k + 2) fa fd ps (spD X.K X.w d.np (sem defs gl k f))
  calK : ∀ f d n ks, c.dfs.contains f = true → kwT f = some (n, ks) → defs f = some d → ∃ fa fd ps, X.mg f = some (.ref fa) ∧ PySem.W.keepIn X.K (.ref fa) = true ∧ KBn X.K fd ps n ks (fun us ws => us ++ ws) (fun vs zs => vs ++ zs) ∧ ps.length = d.np ∧ FnG X.prog X.w X.K X.mg X.base (L2.CX X.prog X.w) (2 * k + 2) fa fd ps (spD X.K X.w d.np (sem defs gl k f))
  calH : ∀ f d, c.hot.contains f = true → defs f = some d → ∃ fa fd ps, X.mg f = some (.ref fa) ∧ PySem.W.keepIn X.K (.ref fa) = true ∧ Binds X.K fd ps [] ∧ ps.length = d.np ∧ FnQ X.prog X.w X.K X.mg X.base (L2.CX X.prog X.w) (2 * k + 2) fa fd ps (spD X.K X.w d.np (sem defs gl k f))
  xs : ∀ m, c.xs.contains m = true → ∃ M, X.mg m = some (.ref M) ∧ PySem.W.nsIn X.K mainGlobals m = some (some (.ref M))
  xr : ∀ n, c.xr.contains n = true → ∃ ns C fI fd, xcl n = some ns ∧ RFact X.K X.mg n ns C fI fd
  ms : ∀ q cn m, c.ms.contains (q, cn, m) = true → ∃ d C f fd ps, defs q = some d ∧ ClsF X.K cn C ∧ Meth X.K C m f ∧ Binds X.K fd ps [] ∧ ps.length = d.np ∧ FnG X.prog X.w X.K X.mg X.base (L2.CX X.prog X.w) (2 * k + 2) f fd ps (spD X.K X.w d.np (sem defs gl k q))
  mks : ∀ q cn n, c.mks.contains (q, cn, n) = true → ∃ d C f fd ps dz dvs, defs q = some d ∧ ClsF X.K cn C ∧ X.mg cn = some (.ref C) ∧ Mk X.K C f ∧ Binds X.K fd ps dz ∧ Vals dvs dz ∧ (∀ H, RelDs X.K X.w H (padT q n) dvs) ∧ ps.length = d.np ∧ FnG X.prog X.w X.K X.mg X.base (L2.CX X.prog X.w) (2 * k + 2) f fd ps (spD X.K X.w d.np (sem defs gl k q))
  gls : ∀ x d, gl x = some d → ∃ u v, X.mg x = some u ∧ RelV v u ∧ ∀ H, RelD X.K X.w H d v
  blt : ∀ n ∈ bnames, X.mg (Str.ofString n) = none
  hN : X.N = c.N
  hsc : X.env.scope = c.sc
  hfn : X.fn = c.fn
  room : RoomHG (2 * k + 3) X.A
  hand : c.calm = true → X.A.handled = none
  calm : c.calm = true → X.calm = true
  tk : Takes X W
  po : PassesOwn (model X.prog X.w) X.A X.env X.xe
  nd : c.N.Nodup
  hdf : ∀ f, c.dfs.contains f = true → ∃ d, defs f = some d

section
variable {X : Cx} {c : Cc} {W : WX} {defs : Str → Option DefT} {gl : Str → Option D} {k : Nat}
theorem XOk.hu (o : XOk defs gl k c W X) : X.A.units + 64 < cLine := by have := o.room.rm.un; omega
theorem XOk.rm1 (o : XOk defs gl k c W X) (h : c.calm = true) : RoomG (2 * k + 2 + 1) X.A := ⟨⟨o.hand h, o.room.rm.dp, o.room.rm.un⟩, o.room.gd⟩
theorem XOk.rm (o : XOk defs gl k c W X) (h : c.calm = true) : RoomG (2 * k + 2) X.A := (o.rm1 h).mono (Nat.le_succ _)
theorem XOk.rmH (o : XOk defs gl k c W X) : RoomHG (2 * k + 2) X.A := o.room.mono (Nat.le_succ _)
theorem XOk.hu1 (o : XOk defs gl k c W X) : X.A.units + 1 < cLine := Nat.lt_of_le_of_lt (Nat.add_le_add_left (by decide : 1 ≤ 64) _) o.hu
theorem XOk.gl_of (o : XOk defs gl k c W X) {x : Str} (h : isGl c x = true) : Gl X x ∧ (x == ("__debug__" : Str)) = false ∧ x ≠ "__name__" := by
  unfold isGl at h
  simp only [Bool.and_eq_true, decide_eq_true_eq] at h
  obtain ⟨⟨h1, h2⟩, h3⟩ := h
  refine ⟨?_, by simpa using h2, h3⟩
  show X.env.scope.names.lookup x = _
  rw [o.hsc]
  exact h1
theorem XOk.vis_of (o : XOk defs gl k c W X) {x : Str} (h : visB c x = true) : Vis X.env.scope x ∧ (x == ("__debug__" : Str)) = false ∧ (x == ("__classdict__" : Str)) = false := by
  unfold visB at h
  simp only [Bool.and_eq_true, Bool.or_eq_true, decide_eq_true_eq] at h
  obtain ⟨⟨h1, h2⟩, h3⟩ := h
  refine ⟨?_, by simpa using h2, by simpa using h3⟩
  unfold Vis
  rw [o.hsc]
  rcases h1 with (h1 | h1) | h1
  · exact .inl h1
  · exact .inr (.inl h1)
  · exact .inr (.inr h1)
theorem XOk.loc_of (o : XOk defs gl k c W X) {x : Str} (h : locB c x = true) : L2.Loc X.env.scope x ∧ (X.fn x = true ∨ X.env.scope.names.lookup x = some .local) := by
  unfold locB at h
  simp only [Bool.and_eq_true, Bool.or_eq_true, decide_eq_true_eq] at h
  unfold L2.Loc
  rw [o.hsc, o.hfn]
  rcases h with h | ⟨h1, h2⟩
  · exact ⟨.inl h, .inr h⟩
  · exact ⟨.inr h1, .inl h2⟩
theorem plain_star {e : Expr} {es : List Expr} {env : Env} (h : plainE e = true) : starEach (e :: es) env = (false, eval e env) :: starEach es env := by
  cases e <;> first | rfl | (exact absurd (show false = true from h) Bool.false_ne_true)
theorem plain_ix {e : Expr} (h : plainE e = true) : PlainIx e := fun o i => by
  cases e <;> first | rfl | (exact absurd (show false = true from h) Bool.false_ne_true)
theorem plain_mark {e : Expr} {op : CmpOp} (h : plainE e = true) : behindInMarks op e = false := by
  cases e <;> first | rfl | (exact absurd (show false = true from h) Bool.false_ne_true)
theorem plain_fold {e : Expr} {env : Env} (h : plainE e = true) : ∀ x, foldedSetIterable e env x = pure x := fun x => by
  cases e <;> first | rfl | (exact absurd (show false = true from h) Bool.false_ne_true)
theorem nolc_swap {e : Expr} {t : Option Expr} {n : Nat} {env : Env} (h : lcE e = false) : swapsWith e t n env = pure false := by
  cases e <;> first | rfl | (exact absurd (show true = false from h) (by decide))
theorem nocall_base {o : Expr} {x : Str} {env : Env} {wh : Sem Value} (h : callE o = false) : attributeBase o x env wh = wh := by
  unfold attributeBase
  split
  · exact absurd (show true = false from h) (by decide)
  · rfl
theorem chkEs_plain : ∀ {ts : List T} {es : List Expr}, chkEs c ts es = true → es.all plainE = true
  | [], es, h => by
    simp only [chkEs] at h
    split at h
    · rfl
    · cases h
  | t :: ts, es, h => by
    simp only [chkEs] at h
    split at h
    · cases h
    · simp only [Bool.and_eq_true] at h
      rw [List.all_cons, h.1.2, chkEs_plain h.2]
      rfl
theorem chkEs_len : ∀ {ts : List T} {es : List Expr}, chkEs c ts es = true → es.length = ts.length
  | [], es, h => by
    simp only [chkEs] at h
    split at h
    · rfl
    · cases h
  | t :: ts, es, h => by
    simp only [chkEs] at h
    split at h
    · cases h
    · simp only [Bool.and_eq_true] at h
      rw [List.length_cons, List.length_cons, chkEs_len h.2]
theorem star_all : ∀ {es : List Expr} {env : Env} {pos : Pos}, es.all plainE = true → (backTo pos (starEach es env)).any (·.1) = false
  | [], _, _, _ => rfl
  | e :: es, env, pos, h => by
    rw [List.all_cons, Bool.and_eq_true] at h
    rw [plain_star h.1]
    show (false || (backTo pos (starEach es env)).any (·.1)) = false
    rw [star_all h.2]
    rfl
theorem star_not : ∀ {es : List Expr} {env : Env} {pos : Pos}, es.all plainE = true → (backTo pos (starEach es env)).all (fun x => !x.1) = true
  | [], _, _, _ => rfl
  | e :: es, env, pos, h => by
    rw [List.all_cons, Bool.and_eq_true] at h
    rw [plain_star h.1]
    show (!false && (backTo pos (starEach es env)).all (fun x => !x.1)) = true
    rw [star_not h.2]
    rfl

theorem _root_.L2.PE.weak {e : Expr} {t t' : TE} (h : PE X e t) (f : ∀ σ H Q, t' σ H Q → t σ H Q) : PE X e t' := ⟨fun pins s σ H Q I q => h.run pins s σ H Q I (f σ H Q q)⟩
theorem _root_.L2.PT.weak {e : Expr} {t t' : TT} (h : PT X e t) (f : ∀ σ H Q, t' σ H Q → t σ H Q) : PT X e t' := ⟨fun pins s σ H Q I q => h.run pins s σ H Q I (f σ H Q q)⟩
theorem _root_.L2.PW.weak {e : Expr} {t t' : TT} (h : PW X e t) (f : ∀ σ H Q, t' σ H Q → t σ H Q) : PW X e t' := ⟨fun wh pins s σ H Q I q => h.run wh pins s σ H Q I (f σ H Q q)⟩
theorem _root_.L2.PA.weak {es : List Expr} {t t' : TA} (h : PA X es t) (f : ∀ σ H Q, t' σ H Q → t σ H Q) : PA X es t' := ⟨fun p pins s σ H Q I q => h.run p pins s σ H Q I (f σ H Q q)⟩
theorem _root_.L2.PS.weak {e : Stmt} {t t' : L2.TS} (h : PS X e t) (f : ∀ D σ H, t' D σ H → t D σ H) : PS X e t' := ⟨fun pins s σ H D I q => h.run pins s σ H D I (f D σ H q)⟩
theorem _root_.L2.PSs.weak {e : List Stmt} {t t' : L2.TS} (h : PSs X e t) (f : ∀ D σ H, t' D σ H → t D σ H) : PSs X e t' := ⟨fun pins s σ H D I q => h.run pins s σ H D I (f D σ H q)⟩
end
section
variable {K : PySem.W.Frag} {w : World} {σ : L2.St} {H : Hp} {Q : VK} {W : WX} {ex : EX}
theorem tD_c {d : D} {v : V} (hv : ∀ H, RelD K w H d v) (h : tD K w W ex (fun _ S R => R d S) σ H Q) : tC v σ H Q := by
  obtain ⟨σd, S, R, rs, hr, xk, f, k⟩ := h
  exact k.same f (hv H) hr
theorem tD_op {fa fb : WE} {g : W2} (h : tD K w W ex (fun σ S R => fa σ S fun x S1 => fb σ S1 fun y S2 => g x y S2 R) σ H Q) : tOp (rD2 K w g) (tD K w W ex fa) (tD K w W ex fb) σ H Q := by
  obtain ⟨σd, S, R, rs, hr, xk, f, k⟩ := h
  exact ⟨σd, S, _, rs, hr, xk, f, fun x S1 hx v1 H1 f1 rv1 h1 => ⟨σd, S1, _, rs.mono (f1.ext hr), h1, xk.next f1, hx, fun y S2 hy v2 H2 f2 rv2 h2 =>
    ⟨x, y, S2, R, RelD.mono (f2.ext h1) _ _ rv1, rv2, h2, hy, k.next (f1.trans f2) fun _ _ z => z⟩⟩⟩
theorem tD_un {fa : WE} {g : W1} (h : tD K w W ex (fun σ S R => fa σ S fun x S1 => g x S1 R) σ H Q) : tUn (rD1 K w g) (tD K w W ex fa) σ H Q := by
  obtain ⟨σd, S, R, rs, hr, xk, f, k⟩ := h
  exact ⟨σd, S, _, rs, hr, xk, f, fun x S1 hx v1 H1 f1 rv1 h1 => ⟨x, S1, R, rv1, h1, hx, k.next f1 fun _ _ z => z⟩⟩
theorem tD_cons {fa : WE} {fs : WA} {Q : List V → Hp → Prop} (h : tDA K w W ex (fun σ S R => fa σ S fun d S1 => fs σ S1 fun ds S2 => R (d :: ds) S2) σ H Q) : tCons (tD K w W ex fa) (tDA K w W ex fs) σ H Q := by
  obtain ⟨σd, S, R, rs, hr, xk, f, k⟩ := h
  exact ⟨σd, S, _, rs, hr, xk, f, fun x S1 hx v1 H1 f1 rv1 h1 => ⟨σd, S1, _, rs.mono (f1.ext hr), h1, xk.next f1, hx, fun ds S2 hy vs H2 f2 rv2 h2 =>
    k _ S2 hy _ H2 (f1.trans f2) (by simp only [RelDs]; exact ⟨v1, vs, rfl, RelD.mono (f2.ext h1) _ _ rv1, rv2⟩) h2⟩⟩
theorem tD_cb {fs : WA} {g : WC} (h : tD K w W ex (fun σ S R => fs σ S fun ds S1 => g ds S1 R) σ H Q) : tCB (rDC K w g) (tDA K w W ex fs) σ H Q := by
  obtain ⟨σd, S, R, rs, hr, xk, f, k⟩ := h
  exact ⟨σd, S, _, rs, hr, xk, f, fun ds S1 hx vs H1 f1 rv1 h1 => ⟨ds, S1, R, rv1, h1, hx, k.next f1 fun _ _ z => z⟩⟩
theorem tD_tru {fa : WE} {Q : Bool → Hp → Prop} (h : tDT K w W ex (fun σ S R => fa σ S fun d S1 => match tru S1 d with | some b => R b S1 | none => False) σ H Q) : tD K w W ex fa σ H (fun x H1 => ∃ b, TruV K x H1 b ∧ Q b H1) := by
  obtain ⟨σd, S, R, rs, hr, xk, f, k⟩ := h
  refine ⟨σd, S, _, rs, hr, xk, f, fun x S1 hx v1 H1 f1 rv1 h1 => ?_⟩
  split at hx
  · rename_i b e
    exact ⟨b, tru_of h1 rv1 e, k b S1 hx H1 f1 h1⟩
  · exact hx.elim
end
end Z

set_option Elab.async false
set_option linter.all false
set_option maxRecDepth 100000
set_option maxHeartbeats 4000000
namespace Z
open PySem PySem.Spec PyProof.Rows L2

section
variable {X : Cx} {c : Cc} {W : WX} {defs : Str → Option DefT} {gl : Str → Option D} {k : Nat}
mutual
def gV (K : PySem.W.Frag) : Tg → TG
  | .nm i => gName i
  | .tup gs => fun v σ H Q => gTup K gs.length (gVs K gs) v σ H Q ∨ gLst K gs.length (gVs K gs) v σ H Q
def gVs (K : PySem.W.Frag) : List Tg → TGs
  | [] => gNil
  | g :: gs => gCons (gV K g) (gVs K gs)
end
theorem _root_.L2.PG.or {tg : Expr} {g g' : TG} (a : PG X tg g) (b : PG X tg g') : PG X tg (fun v σ H Q => g v σ H Q ∨ g' v σ H Q) :=
  ⟨fun pins s σ H v u Q I r h => h.elim (a.run pins s σ H v u Q I r) (b.run pins s σ H v u Q I r)⟩
theorem chkG_star {g : Tg} {e : Expr} {es : List Expr} {env : Env} (h : chkG c g e = true) : assignEach (e :: es) env = (false, assign e env) :: assignEach es env := by
  cases g <;> simp only [chkG] at h <;> split at h <;> first | rfl | cases h
theorem chkGs_star : ∀ {gs : List Tg} {es : List Expr} {env : Env}, chkGs c gs es = true → (assignEach es env).length = gs.length ∧ (assignEach es env).findIdx? (·.1) = none
  | [], es, env, h => by
    simp only [chkGs] at h
    split at h
    · exact ⟨rfl, rfl⟩
    · cases h
  | g :: gs, es, env, h => by
    simp only [chkGs] at h
    split at h
    · cases h
    · simp only [Bool.and_eq_true] at h
      rw [chkG_star h.1]
      obtain ⟨h1, h2⟩ := chkGs_star (env := env) h.2
      refine ⟨by rw [List.length_cons, List.length_cons, h1], ?_⟩
      rw [List.findIdx?_cons]
      simp [h2]
mutual
theorem sG (o : XOk defs gl k c W X) : ∀ (g : Tg) (e : Expr), chkG c g e = true → PG X e (gV X.K g)
  | .nm i, e, h => by
    simp only [chkG] at h
    split at h
    · simp only [Bool.and_eq_true, decide_eq_true_eq] at h
      obtain ⟨l1, l2⟩ := o.loc_of h.2
      simp only [gV]
      exact pg_name (by rw [o.hN]; exact o.nd) (by rw [o.hN]; exact h.1) l1 l2
    · cases h
  | .tup gs, e, h => by
    simp only [chkG] at h
    split at h
    · rename_i es _ _
      simp only [Bool.and_eq_true] at h
      obtain ⟨h, hca⟩ := h
      obtain ⟨h1, h2⟩ := chkGs_star (env := X.env) h
      have p := sGs o gs es h
      simp only [gV]
      exact L2.PG.or (pg_tup (o.calm hca) p h1 h2) (pg_lst (o.calm hca) p h1 h2)
    · cases h
theorem sGs (o : XOk defs gl k c W X) : ∀ (gs : List Tg) (es : List Expr), chkGs c gs es = true → PGs X es (gVs X.K gs)
  | [], es, h => by
    simp only [chkGs] at h
    split at h
    · simp only [gVs]; exact pgs_nil
    · cases h
  | g :: gs, es, h => by
    simp only [chkGs] at h
    split at h
    · cases h
    · simp only [Bool.and_eq_true] at h
      simp only [gVs]
      exact pgs_cons (sG o g _ h.1) (sGs o gs _ h.2) (by rw [chkG_star h.1]; rfl)
end
theorem wipe_set {vs : List Nat} {i : Nat} {v : Option V} : ∀ {σ : L2.St}, i ∈ vs → wipe (σ.set i v) vs = wipe σ vs := by
  induction vs with
  | nil => intro σ h; cases h
  | cons a vs ih =>
    intro σ h
    unfold wipe
    by_cases hi : i ∈ vs
    · rw [ih hi]
    · have e : i = a := by
        rcases List.mem_cons.mp h with e | e
        · exact e
        · exact absurd e hi
      subst e
      apply List.ext_getElem?
      intro j
      by_cases hj : i = j
      · subst hj
        by_cases hl : i < (wipe σ vs).length
        · rw [List.getElem?_set_self hl, List.getElem?_set_self (by rw [wipe_length] at hl ⊢; simpa using hl)]
        · rw [wipe_length] at hl
          rw [List.getElem?_eq_none (by rw [List.length_set, wipe_length, List.length_set]; omega), List.getElem?_eq_none (by rw [List.length_set, wipe_length]; omega)]
      · rw [List.getElem?_set_ne hj, List.getElem?_set_ne hj]
        by_cases hv : j ∈ vs
        · have q : ∀ τ : L2.St, j < τ.length → (wipe τ vs)[j]? = some none := fun τ hl => by
            cases e : (wipe τ vs)[j]? with
            | none =>
              rw [List.getElem?_eq_none_iff, wipe_length] at e
              omega
            | some y =>
              cases y with
              | none => rfl
              | some y => exact absurd hv (wipe_some e).2
          by_cases hl : j < σ.length
          · rw [q _ hl, q _ (by simpa using hl)]
          · rw [List.getElem?_eq_none (by rw [wipe_length]; simpa using hl), List.getElem?_eq_none (by rw [wipe_length]; omega)]
        · have q : ∀ τ : L2.St, (wipe τ vs)[j]? = τ[j]? := fun τ => by
            clear ih h hi
            induction vs with
            | nil => rfl
            | cons b vs ih =>
              have n1 : j ≠ b := fun z => hv (by rw [z]; exact List.mem_cons_self)
              have n2 : j ∉ vs := fun z => hv (List.mem_cons_of_mem _ z)
              unfold wipe
              rw [List.getElem?_set_ne (Ne.symm n1), ih n2]
          rw [q, q, List.getElem?_set_ne hj]
section
variable {K : PySem.W.Frag} {w : World} {H : Hp} {S : Sto} {vs : List Nat}
mutual
theorem gD_of (hr : HR K w H S) : ∀ (g : Tg) (d : D) (v : V) (σd : StD) (σ : L2.St) (R : StD → Prop) (Q : L2.St → Hp → Prop), RelD K w H d v → RelSt K w H σd σ → wpG g d σd S R →
    (∀ σd' σ', R σd' → RelSt K w H σd' σ' → (ownG vs g = true → wipe σ' vs = wipe σ vs) → Q σ' H) → gV K g v σ H Q
  | .nm i, d, v, σd, σ, R, Q, rd, rs, f, q => by
    simp only [wpG] at f
    simp only [gV]
    exact q _ _ f (rs.set rd) fun o => by
      simp only [ownG] at o
      exact wipe_set (by simpa using o)
  | .tup gs, d, v, σd, σ, R, Q, rd, rs, f, q => by
    simp only [wpG] at f
    split at f
    · rename_i ds e
      obtain ⟨a, xs, rfl, q1, q2, _⟩ := items_of hr e rd
      have z := gDs_of hr gs ds xs σd σ R Q q1 rs f.1 f.2 fun σd' σ' h1 h2 h3 => q σd' σ' h1 h2 fun o => h3 (by simpa only [ownG] using o)
      simp only [gV]
      rcases q2 with q2 | q2
      · exact .inr ⟨a, xs, rfl, q2, by rw [← q1.length]; exact f.1, z⟩
      · exact .inl ⟨a, xs, rfl, q2, by rw [← q1.length]; exact f.1, z⟩
    · exact f.elim
theorem gDs_of (hr : HR K w H S) : ∀ (gs : List Tg) (ds : List D) (xs : List V) (σd : StD) (σ : L2.St) (R : StD → Prop) (Q : L2.St → Hp → Prop), RelDs K w H ds xs → RelSt K w H σd σ → ds.length = gs.length → wpGs gs ds σd S R →
    (∀ σd' σ', R σd' → RelSt K w H σd' σ' → (ownG.ownGs vs gs = true → wipe σ' vs = wipe σ vs) → Q σ' H) → gVs K gs xs σ H Q
  | [], ds, xs, σd, σ, R, Q, rd, rs, hl, f, q => by
    simp only [wpGs] at f
    have e : ds = [] := List.eq_nil_of_length_eq_zero hl
    subst e
    simp only [RelDs] at rd
    subst rd
    simp only [gVs]
    exact ⟨rfl, q _ _ f rs fun _ => rfl⟩
  | g :: gs, [], xs, σd, σ, R, Q, rd, rs, hl, f, q => by simp only [wpGs] at f
  | g :: gs, d :: ds, xs, σd, σ, R, Q, rd, rs, hl, f, q => by
    simp only [wpGs] at f
    simp only [RelDs] at rd
    obtain ⟨v, r, rfl, r1, r2⟩ := rd
    simp only [gVs]
    refine ⟨v, r, rfl, gD_of hr g d v σd σ _ _ r1 rs f fun σd1 σ1 h1 h2 h3 => ?_⟩
    refine gDs_of hr gs ds r σd1 σ1 R Q r2 h2 (by simpa using hl) h1 fun σd2 σ2 h4 h5 h6 => q σd2 σ2 h4 h5 fun o => ?_
    simp only [ownG.ownGs, Bool.and_eq_true] at o
    rw [h6 o.2, h3 o.1]
end
end
end

structure WalkD (K : PySem.W.Frag) (w : World) (J : It) (ds : List D) (G : Sto → Prop) (H0 : Hp) : Prop where
  goes : ∀ i H S, i < ds.length → Ext H0 H → HR K w H S → G S → J.go i H
  stops : ∀ H S, Ext H0 H → HR K w H S → G S → J.stop ds.length H
  yields : ∀ i H S x H', i < ds.length → Ext H0 H → HR K w H S → G S → J.yld i H x H' → ∃ d, ds[i]? = some d ∧ RelD K w H' d x ∧ (H' = H ∨ ∃ T xs, H T = none ∧ H' = upd H T (.tup xs))
def tDI (K : PySem.W.Frag) (w : World) (W : WX) (ex : EX) (f : StD → Sto → (List D → (Sto → Prop) → Sto → Prop) → Prop) : TI := fun σ H R => ∃ σd S RI, RelSt K w H σd σ ∧ HR K w H S ∧ ExK K w H S ex W ∧ f σd S RI ∧
  ∀ ds G S', RI ds G S' → ∀ J H', Fm H S H' S' → HR K w H' S' → WalkD K w J ds G H' → R J H'
theorem _root_.L2.PI.weak {X : Cx} {tg iter : Expr} {t t' : TI} (h : PI X tg iter t) (f : ∀ σ H R, t' σ H R → t σ H R) : PI X tg iter t' := ⟨fun pins s σ H R I q => h.run pins s σ H R I (f σ H R q)⟩
theorem pi_seq {X : Cx} {tg l : Expr} {tl : TE} (hl : PE X l tl) : PI X tg l (fun σ H R => tl σ H fun x H1 => ∃ a, x = .ref a ∧ (((∃ xs, SqL X.K H1 a xs) ∧ R (Itl X.K a) H1) ∨ ((∃ xs, SqT X.K H1 a xs) ∧ R (Itt X.K a) H1))) := by
  refine ⟨fun pins s σ H R I h => ?_⟩
  refine thn (hl.run pins s σ H _ I h) fun v s1 ⟨x, H1, I1, r1, q1⟩ => ?_
  obtain ⟨a, e, q⟩ := q1
  subst e
  cases r1
  rcases q with ⟨⟨xs, hq⟩, q⟩ | ⟨⟨xs, hq⟩, q⟩
  · obtain ⟨its, rv, p, hz⟩ := I1.list hq
    refine wpAny_pyIter_list p.isList ?_
    refine ⟨s1.heap.objs.size, [s1.heap.objs.size], _, _, H1, rfl, I1.kept (t' := s1.toks) fun b o e => Heap.get?_push_of_some _ e, turn_list a _, ⟨_, Heap.get?_push_size _ rfl, rfl, rfl⟩, fun b hb => ?_, q⟩
    have e : b = s1.heap.objs.size := by simpa using hb
    subst e
    exact I1.fpOk (Nat.le_refl _) (I1.hok.fresh (Nat.le_refl _))
  · obtain ⟨its, rv, p, hz⟩ := I1.tuple hq
    refine wpAny_pyIter_tuple (show s1.heap.IsTuple a its.toArray from p) ?_
    refine ⟨s1.heap.objs.size, [s1.heap.objs.size], _, _, H1, rfl, I1.kept (t' := s1.toks) fun b o e => Heap.get?_push_of_some _ e, turn_tuple a _, ⟨_, Heap.get?_push_size _ rfl, rfl, rfl⟩, fun b hb => ?_, q⟩
    have e : b = s1.heap.objs.size := by simpa using hb
    subst e
    exact I1.fpOk (Nat.le_refl _) (I1.hok.fresh (Nat.le_refl _))
section
variable {K : PySem.W.Frag} {w : World} {H H0 : Hp} {S : Sto}
theorem walkd_list {a : Addr} {ds : List D} : WalkD K w (Itl K a) ds (fun S => S a = some (.lst ds)) H0 := by
  refine ⟨fun i H S hi _ hr g => ?_, fun H S _ hr g => ?_, fun i H S x H' hi _ hr g y => ?_⟩
  · obtain ⟨vs, h1, h2⟩ := hr.sql g
    exact ⟨vs, vs[i]'(by rw [← h2.length]; exact hi), h1, by simp⟩
  · obtain ⟨vs, h1, h2⟩ := hr.sql g
    exact ⟨vs, h1, by rw [h2.length]; exact Nat.le_refl _⟩
  · obtain ⟨vs, h1, h2⟩ := hr.sql g
    obtain ⟨rfl, y⟩ := y
    obtain ⟨v, q1, q2⟩ := h2.get (List.getElem?_eq_getElem hi)
    have e := y vs h1
    rw [q1] at e
    cases e
    exact ⟨_, List.getElem?_eq_getElem hi, q2, .inl rfl⟩
theorem walkd_kl {a : Addr} {vs : List V} {ds : List D} (t : FL K H0 a vs) (r : RelDs K w H0 ds vs) : WalkD K w (Itl K a) ds (fun _ => True) H0 := by
  refine ⟨fun i H S hi e hr g => ?_, fun H S e hr g => ?_, fun i H S x H' hi e hr g y => ?_⟩
  · exact ⟨vs, vs[i]'(by rw [← r.length]; exact hi), (e.fl t).sq, by simp⟩
  · exact ⟨vs, (e.fl t).sq, by rw [r.length]; exact Nat.le_refl _⟩
  · obtain ⟨rfl, y⟩ := y
    obtain ⟨v, q1, q2⟩ := (RelDs.mono e _ _ r).get (List.getElem?_eq_getElem hi)
    have e := y vs (e.fl t).sq
    rw [q1] at e
    cases e
    exact ⟨_, List.getElem?_eq_getElem hi, q2, .inl rfl⟩
theorem walkd_tup {a : Addr} {vs : List V} {ds : List D} (t : SqT K H0 a vs) (r : RelDs K w H0 ds vs) : WalkD K w (Itt K a) ds (fun _ => True) H0 := by
  refine ⟨fun i H S hi e hr g => ?_, fun H S e hr g => ?_, fun i H S x H' hi e hr g y => ?_⟩
  · exact ⟨vs, vs[i]'(by rw [← r.length]; exact hi), e.seqT t, by simp⟩
  · exact ⟨vs, e.seqT t, by rw [r.length]; exact Nat.le_refl _⟩
  · obtain ⟨rfl, y⟩ := y
    obtain ⟨v, q1, q2⟩ := (RelDs.mono e _ _ r).get (List.getElem?_eq_getElem hi)
    have e := y vs (e.seqT t)
    rw [q1] at e
    cases e
    exact ⟨_, List.getElem?_eq_getElem hi, q2, .inl rfl⟩
theorem walkd_range {lo : Int} {n : Nat} : WalkD K w (Itr lo n) ((List.range n).map fun i => D.int (lo + (i : Nat))) (fun _ => True) H0 := by
  refine ⟨fun i H S hi e hr g => ?_, fun H S e hr g => ?_, fun i H S x H' hi e hr g y => ?_⟩
  · show i < n
    simpa using hi
  · show n ≤ _
    simp
  · obtain ⟨rfl, rfl⟩ := y
    simp only [List.length_map, List.length_range] at hi
    refine ⟨.int (lo + i), by simp [hi], by simp only [RelD], .inl rfl⟩
end
end Z

set_option Elab.async false
set_option linter.all false
set_option maxRecDepth 100000
set_option maxHeartbeats 4000000
namespace Z
open PySem PySem.Spec PyProof.Rows L2
section
variable {K : PySem.W.Frag} {w : World} {H H0 : Hp} {S : Sto}
theorem reld_pair {H : Hp} {T : Addr} {x y : V} {d e : D} (n : H T = none) (r1 : RelD K w H d x) (r2 : RelD K w H e y) : RelD K w (upd H T (.tup [x, y])) (pairD d e) (.ref T) := by
  unfold pairD
  simp only [RelD, RelDs]
  exact ⟨T, _, rfl, SqT.of upd_same, x, [y], rfl, RelD.mono (ext_new n) _ _ r1, y, [], rfl, RelD.mono (ext_new n) _ _ r2, rfl⟩
theorem walkd_enum {a : Addr} {ds : List D} : WalkD K w (Ite K a) ((List.range ds.length).zipWith (fun i d => pairD (.int (i : Nat)) d) ds) (fun S => S a = some (.lst ds)) H0 := by
  refine ⟨fun i H S hi _ hr g => ?_, fun H S _ hr g => ?_, fun i H S x H' hi _ hr g y => ?_⟩
  · obtain ⟨vs, h1, h2⟩ := hr.sql g
    have hi' : i < ds.length := by simpa using hi
    exact ⟨vs, vs[i]'(by rw [← h2.length]; exact hi'), h1, by simp⟩
  · obtain ⟨vs, h1, h2⟩ := hr.sql g
    refine ⟨vs, h1, ?_⟩
    rw [← h2.length]
    simp
  · obtain ⟨vs, h1, h2⟩ := hr.sql g
    have hi' : i < ds.length := by simpa using hi
    obtain ⟨T, z, rfl, nT, rfl, y⟩ := y
    obtain ⟨v, q1, q2⟩ := h2.get (List.getElem?_eq_getElem hi')
    have e := y vs h1
    rw [q1] at e
    cases e
    refine ⟨pairD (.int (i : Nat)) ds[i], ?_, reld_pair nT (by simp only [RelD]) q2, .inr ⟨T, _, nT, rfl⟩⟩
    rw [List.getElem?_zipWith]
    simp [hi']
theorem walkd_enumT {a : Addr} {vs : List V} {ds : List D} (t : SqT K H0 a vs) (r : RelDs K w H0 ds vs) : WalkD K w (IteT K a) ((List.range ds.length).zipWith (fun i d => pairD (.int (i : Nat)) d) ds) (fun _ => True) H0 := by
  refine ⟨fun i H S hi e hr g => ?_, fun H S e hr g => ?_, fun i H S x H' hi e hr g y => ?_⟩
  · have hi' : i < ds.length := by simpa using hi
    exact ⟨vs, vs[i]'(by rw [← r.length]; exact hi'), e.seqT t, by simp⟩
  · refine ⟨vs, e.seqT t, ?_⟩
    rw [← r.length]
    simp
  · have hi' : i < ds.length := by simpa using hi
    obtain ⟨T, z, rfl, nT, rfl, y⟩ := y
    obtain ⟨v, q1, q2⟩ := (RelDs.mono e _ _ r).get (List.getElem?_eq_getElem hi')
    have e1 := y vs (e.seqT t)
    rw [q1] at e1
    cases e1
    refine ⟨pairD (.int (i : Nat)) ds[i], ?_, reld_pair nT (by simp only [RelD]) q2, .inr ⟨T, _, nT, rfl⟩⟩
    rw [List.getElem?_zipWith]
    simp [hi']
theorem walkd_zip {a b : Addr} {xs ys : List D} : WalkD K w (Itz K a b) ((xs.zip ys).map fun z => pairD z.1 z.2) (fun S => S a = some (.lst xs) ∧ S b = some (.lst ys)) H0 := by
  refine ⟨fun i H S hi _ hr g => ?_, fun H S _ hr g => ?_, fun i H S x H' hi _ hr g y => ?_⟩
  · obtain ⟨vs, h1, h2⟩ := hr.sql g.1
    obtain ⟨us, h3, h4⟩ := hr.sql g.2
    simp only [List.length_map, List.length_zip] at hi
    exact ⟨vs, us, vs[i]'(by rw [← h2.length]; omega), us[i]'(by rw [← h4.length]; omega), h1, h3, by simp, by simp⟩
  · obtain ⟨vs, h1, h2⟩ := hr.sql g.1
    obtain ⟨us, h3, h4⟩ := hr.sql g.2
    refine ⟨vs, us, h1, h3, ?_⟩
    rw [← h2.length, ← h4.length]
    simp only [List.length_map, List.length_zip]
    omega
  · obtain ⟨vs, h1, h2⟩ := hr.sql g.1
    obtain ⟨us, h3, h4⟩ := hr.sql g.2
    simp only [List.length_map, List.length_zip] at hi
    have hi1 : i < xs.length := by omega
    have hi2 : i < ys.length := by omega
    obtain ⟨T, z1, z2, rfl, nT, rfl, y1, y2⟩ := y
    obtain ⟨v, q1, q2⟩ := h2.get (List.getElem?_eq_getElem hi1)
    obtain ⟨u, q3, q4⟩ := h4.get (List.getElem?_eq_getElem hi2)
    have e1 := y1 vs h1
    rw [q1] at e1
    cases e1
    have e2 := y2 us h3
    rw [q3] at e2
    cases e2
    refine ⟨pairD xs[i] ys[i], ?_, reld_pair nT q2 q4, .inr ⟨T, _, nT, rfl⟩⟩
    rw [List.getElem?_map, List.getElem?_zip_eq_some (z := (xs[i], ys[i])).mpr ⟨List.getElem?_eq_getElem hi1, List.getElem?_eq_getElem hi2⟩]
    rfl
theorem walkd_zipT {a b : Addr} {vs us : List V} {xs ys : List D} (t1 : SqT K H0 a vs) (t2 : SqT K H0 b us) (r1 : RelDs K w H0 xs vs) (r2 : RelDs K w H0 ys us) : WalkD K w (RZ.ItzT K a b) ((xs.zip ys).map fun z => pairD z.1 z.2) (fun _ => True) H0 := by
  refine ⟨fun i H S hi e hr g => ?_, fun H S e hr g => ?_, fun i H S x H' hi e hr g y => ?_⟩
  · simp only [List.length_map, List.length_zip] at hi
    exact ⟨vs, us, vs[i]'(by rw [← r1.length]; omega), us[i]'(by rw [← r2.length]; omega), e.seqT t1, e.seqT t2, by simp, by simp⟩
  · refine ⟨vs, us, e.seqT t1, e.seqT t2, ?_⟩
    rw [← r1.length, ← r2.length]
    simp only [List.length_map, List.length_zip]
    omega
  · simp only [List.length_map, List.length_zip] at hi
    have hi1 : i < xs.length := by omega
    have hi2 : i < ys.length := by omega
    obtain ⟨T, z1, z2, rfl, nT, rfl, y1, y2⟩ := y
    obtain ⟨v, q1, q2⟩ := (RelDs.mono e _ _ r1).get (List.getElem?_eq_getElem hi1)
    obtain ⟨u, q3, q4⟩ := (RelDs.mono e _ _ r2).get (List.getElem?_eq_getElem hi2)
    have e1 := y1 vs (e.seqT t1)
    rw [q1] at e1
    cases e1
    have e2 := y2 us (e.seqT t2)
    rw [q3] at e2
    cases e2
    refine ⟨pairD xs[i] ys[i], ?_, reld_pair nT q2 q4, .inr ⟨T, _, nT, rfl⟩⟩
    rw [List.getElem?_map, List.getElem?_zip_eq_some (z := (xs[i], ys[i])).mpr ⟨List.getElem?_eq_getElem hi1, List.getElem?_eq_getElem hi2⟩]
    rfl
theorem walkd_rev {a : Addr} {ds : List D} {n : Nat} (hn : n = ds.length) : WalkD K w (Itv K a n) ds.reverse (fun S => S a = some (.lst ds)) H0 := by
  subst hn
  refine ⟨fun i H S hi _ hr g => ?_, fun H S _ hr g => ?_, fun i H S x H' hi _ hr g y => ?_⟩
  · obtain ⟨vs, h1, h2⟩ := hr.sql g
    rw [List.length_reverse] at hi
    exact ⟨hi, vs, vs[ds.length - 1 - i]'(by rw [← h2.length]; omega), h1, by simp⟩
  · show ds.length ≤ ds.reverse.length
    rw [List.length_reverse]
    exact Nat.le_refl _
  · obtain ⟨vs, h1, h2⟩ := hr.sql g
    rw [List.length_reverse] at hi
    obtain ⟨rfl, y⟩ := y
    have hi' : ds.length - 1 - i < ds.length := by omega
    obtain ⟨v, q1, q2⟩ := h2.get (List.getElem?_eq_getElem hi')
    have e := y vs h1
    rw [q1] at e
    cases e
    exact ⟨_, by rw [List.getElem?_reverse hi]; exact List.getElem?_eq_getElem hi', q2, .inl rfl⟩
theorem walkd_revT {a : Addr} {vs : List V} {ds : List D} {n : Nat} (hn : n = ds.length) (t : SqT K H0 a vs) (r : RelDs K w H0 ds vs) : WalkD K w (RT.ItvT K a n) ds.reverse (fun _ => True) H0 := by
  subst hn
  refine ⟨fun i H S hi e hr g => ?_, fun H S _ hr g => ?_, fun i H S x H' hi e hr g y => ?_⟩
  · rw [List.length_reverse] at hi
    exact ⟨hi, vs, vs[ds.length - 1 - i]'(by rw [← r.length]; omega), e.seqT t, by simp⟩
  · show ds.length ≤ ds.reverse.length
    rw [List.length_reverse]
    exact Nat.le_refl _
  · rw [List.length_reverse] at hi
    obtain ⟨rfl, y⟩ := y
    have hi' : ds.length - 1 - i < ds.length := by omega
    obtain ⟨v, q1, q2⟩ := (RelDs.mono e _ _ r).get (List.getElem?_eq_getElem hi')
    have e := y vs (e.seqT t)
    rw [q1] at e
    cases e
    exact ⟨_, by rw [List.getElem?_reverse hi]; exact List.getElem?_eq_getElem hi', q2, .inl rfl⟩
end

section
variable {X : Cx} {CX : CXT} {k : Nat} {f : Addr} {fd : FuncData} {ps : List Str} {sp : Sp} {E : L2.St → XK} {x : Str} {p pos : Pos} {e : Expr} {es : List Expr} {t : TA}
theorem pe_callD (F : FnG X.prog X.w X.K X.mg X.base CX k f fd ps sp) (hr : RoomG k X.A) (hg : Gl X x) (hm : X.mg x = some (.ref f)) (hk : PySem.W.keepIn X.K (.ref f) = true) (hb : Binds X.K fd ps []) (hx : ∀ σ, PassesAt CX X σ (E σ))
    (hpl : (e :: es).all plainE = true) (ha : PA X (e :: es) t) (hdb : (x == ("__debug__" : Str)) = false) : PE X (.Call (.Name x p) (e :: es) [] pos) (fun σ H Q => t σ H fun vs H1 => sp vs H1 Q (E σ)) := by
  rw [List.all_cons, Bool.and_eq_true] at hpl
  exact pe_callG (E := E) F hr hg hm hk hb hx ha hdb (plain_star hpl.1) (star_all hpl.2)
theorem pe_callD0 (F : FnG X.prog X.w X.K X.mg X.base CX k f fd ps sp) (hr : RoomG k X.A) (hg : Gl X x) (hm : X.mg x = some (.ref f)) (hk : PySem.W.keepIn X.K (.ref f) = true) (hb : Binds X.K fd ps []) (hx : ∀ σ, PassesAt CX X σ (E σ))
    (hdb : (x == ("__debug__" : Str)) = false) : PE X (.Call (.Name x p) [] [] pos) (fun σ H Q => sp [] H Q (E σ)) := by
  refine ⟨fun pins s σ H Q I h => ?_⟩
  refine wpAny_Call_Name_kw (ld_glob I hg hm ?_ hdb)
  exact PySem.W.callWith_K0 I.kIn hk (run_fng (us := []) (dvs := []) (E := E) F hr hb .nil (hx σ) I .nil h)
theorem kw_names : ∀ {kws : List Keyword} {ks : List Str} {env : Env} {pos : Pos}, kws.map (·.arg) = ks.map some → (backToKw pos (keywordEach kws env)).all (·.1.isSome) = true ∧ (backToKw pos (keywordEach kws env)).filterMap (·.1) = ks ∧ (backToKw pos (keywordEach kws env)).any (·.1.isNone) = false
  | [], ks, env, pos, h => by
    cases ks with
    | nil => exact ⟨rfl, rfl, rfl⟩
    | cons _ _ => cases h
  | ⟨nm, e, p⟩ :: kws, ks, env, pos, h => by
    cases ks with
    | nil => cases h
    | cons q ks =>
      rw [List.map_cons, List.map_cons] at h
      injection h with h1 h2
      obtain ⟨g1, g2, g3⟩ := kw_names (env := env) (pos := pos) h2
      have h1 : nm = some q := h1
      subst h1
      have e1 : backToKw pos (keywordEach (⟨some q, e, p⟩ :: kws) env) = (some q, do let v ← eval e env; standAt pos; pure v) :: backToKw pos (keywordEach kws env) := rfl
      rw [e1]
      refine ⟨?_, ?_, ?_⟩
      · rw [List.all_cons, g1]; rfl
      · simp only [List.filterMap_cons, g2]
      · rw [List.any_cons, g3]; rfl
theorem pe_callKG {n : Nat} {ks : List Str} {kws : List Keyword} {tk : TA} {g : List Value → List Value → List Value} {gV : List V → List V → List V} (F : FnG X.prog X.w X.K X.mg X.base CX k f fd ps sp) (hr : RoomG k X.A) (hg : Gl X x) (hm : X.mg x = some (.ref f)) (hk : PySem.W.keepIn X.K (.ref f) = true) (hb : KBn X.K fd ps n ks g gV) (hx : ∀ σ, PassesAt CX X σ (E σ))
    (ha : PA X (e :: es) t) (hkw : PK X kws tk) (hn : kws.map (·.arg) = ks.map some) (hdb : (x == ("__debug__" : Str)) = false) (hpl : (e :: es).all plainE = true) :
    PE X (.Call (.Name x p) (e :: es) kws pos) (fun σ H Q => t σ H fun vs H1 => tk σ H1 fun zs H2 => vs.length = n ∧ zs.length = ks.length ∧ sp (gV vs zs) H2 Q (E σ)) := by
  rw [List.all_cons, Bool.and_eq_true] at hpl
  have he := plain_star (env := X.env) (es := es) hpl.1
  obtain ⟨n1, n2, n3⟩ := kw_names (env := X.env) (pos := pos) hn
  refine ⟨fun pins s σ H Q I h => wpAny_Call_Name_kw (ld_glob I hg hm ?_ hdb)⟩
  have hp0 : (backTo pos (starEach (e :: es) X.env)).any (·.1) = false := by
    rw [he]
    show (false || (backTo pos (starEach es X.env)).any (·.1)) = false
    rw [Bool.false_or]
    exact star_all hpl.2
  refine PySem.W.callWith_KW (h₀ := X.base) I.ok.mod.kin hk n1 (thn (ha.run pos pins s σ H _ I h) fun us s1 ⟨vs, H1, I1, r, q⟩ => ?_) (by rw [hp0, n3]; rfl) he
  refine thn (hkw.run pos pins s1 σ H1 _ I1 q) fun ws s2 ⟨zs, H2, I2, rz, l1, l2, q2⟩ => ⟨I2.kIn, ?_⟩
  rw [n2]
  have r2 := hb.rel r rz
  refine wpAny_call (codeAny_mono (F.run X.A X.stack s2 H2 ⟨us, ks.zip ws⟩ (g us ws) (gV vs zs) Q (E σ) hr I2.env0 (hb.to s2 us ws I2.kIn (by rw [← r.length]; exact l1) (by rw [← rz.length]; exact l2)) r2 q2) fun q s' hq => ?_)
  cases q with
  | error e => exact hx σ pins H2 s2 e s' I2 hq
  | ok fl => cases fl <;> first | exact I2.after hq | exact False.elim hq
end
end Z

set_option Elab.async false
set_option linter.all false
set_option maxRecDepth 100000
set_option maxHeartbeats 4000000
namespace Z
open PySem PySem.Spec PyProof.Rows L2
theorem mcall_few {o : Expr} {m : Str} {apos pos : Pos} {args : List Expr} {env : Env} (hb : attributeBase o m env (eval o env) = eval o env) (hp : args.all plainE = true) (hn : args.length < 30) (hl : (apos.endLine == pos.line) = true) :
    eval (.Call (.Attribute o m apos) args [] pos) env = (do
      let ov ← eval o env
      standAt apos.atName
      let (f, first) ← holding [ov] (getMethod ov m (do return (← importBound o env).getD true))
      callWith pos f first (backTo pos (starEach args env)) (backToKw pos (keywordEach [] env))) := by
  refine mcall_of hb fun ov => ?_
  have few : methodCallForm (args.length + ([] : List Keyword).length) (backTo pos (starEach args env)) (backToKw pos (keywordEach [] env)) = true := by
    unfold methodCallForm
    rw [star_not hp]
    show (true && true && decide (_ + 0 + 0 < 30)) = true
    rw [Bool.true_and, Bool.true_and]
    exact decide_eq_true hn
  unfold methodCall calleeOf methodCallPos
  rw [few, hl]
  simp
section
variable {X : Cx} {CX : CXT} {k : Nat} {f C : Addr} {fd : FuncData} {ps : List Str} {sp : Sp} {dvs : List V} {dz : List Value} {E : L2.St → XK} {x m : Str} {p pos apos : Pos} {o : Expr} {es : List Expr} {ta : TE} {t : TA}
theorem pe_methD (he : PE X o ta) (c : Cls X.K C) (hm : Meth X.K C m f) (F : FnG X.prog X.w X.K X.mg X.base CX k f fd ps sp) (hr : RoomG k X.A) (hb : Binds X.K fd ps []) (hx : ∀ σ, PassesAt CX X σ (E σ)) (ha : PA X es t) (hpl : es.all plainE = true)
    (hba : attributeBase o m X.env (eval o X.env) = eval o X.env) (hn : es.length < 30) (hl : (apos.endLine == pos.line) = true) (h0 : es = [] → ∀ σ H Q, t σ H Q → Q [] H) :
    PE X (.Call (.Attribute o m apos) es [] pos) (fun σ H Q => ta σ H fun x H1 => ∃ a dx fs, x = .ref a ∧ H1 a = some (.ins C dx fs) ∧ fs.lookup m = none ∧ t σ H1 fun vs H2 => sp (.ref a :: vs) H2 Q (E σ)) := by
  refine ⟨fun pins s σ H Q I h => ?_⟩
  refine PySem.W.methodCall_KW (thn (he.run pins s σ H _ I h) fun u s1 ⟨x, H1, I1, rx, a, dx, fs, ex, ea, l, q⟩ => ?_) (mcall_few hba hpl hn hl)
  subst ex; obtain rfl : u = Value.ref a := rx
  refine getmeth_ok I1 ea c hm l ?_
  cases es with
  | nil =>
    have q0 := h0 rfl _ _ _ q
    refine PySem.W.callWith_K0 (first := [.ref a]) I1.kIn hm.kp ?_
    exact run_fng (us := [.ref a]) (vs := [.ref a]) (dvs := []) (ds := []) (E := E) F hr hb .nil (hx σ) I1 (.cons rfl .nil) q0
  | cons e0 es =>
    rw [List.all_cons, Bool.and_eq_true] at hpl
    refine PySem.W.callWith_K (first := [.ref a]) (h₀ := X.base) I.ok.mod.kin hm.kp (thn (ha.run pos pins s1 σ H1 _ I1 q) fun us s2 ⟨vs, H2, I2, r, q2⟩ => ⟨I2.kIn, ?_⟩) (plain_star hpl.1) (star_all hpl.2)
    exact run_fng (us := .ref a :: us) (vs := .ref a :: vs) (dvs := []) (ds := []) (E := E) F hr hb .nil (hx σ) I2 (.cons rfl r) (by simpa using q2)
theorem under_gd {A : Around} {C : Addr} {us : List Value} {kw : List (Str × Value)} (h : A.guards = some []) : (A.under (.builtin "type.__call__" ⟨.ref C :: us, kw⟩)).guards = some [] := by
  simpa [Around.under, Code.guards, Code.isGuard, pushGuards, show ¬ "type.__call__" ∈ guardIds by decide] using h
theorem run_makeD {pins : List (Addr × Obj)} {σ : L2.St} {H : Hp} {s : Shared} {Q : VK} {us : List Value} {vs : List V} (M : Mk X.K C f) (F : FnG X.prog X.w X.K X.mg X.base CX k f fd ps sp) (hr : RoomG (k + 1) X.A) (hb : Binds X.K fd ps dz) (hd : Vals dvs dz)
    (hx : PassesAt CX X σ (E σ)) (I : Inv X pins σ H s) (r : Vals vs us)
    (h : ∀ x dx, H x = none → H dx = none → dx ≠ x → sp (.ref x :: (vs ++ dvs)) (upd (upd H dx (.own x)) x (.ins C dx [])) (fun v H2 => v = .non ∧ Q (.ref x) H2) (E σ)) :
    wpAny (model X.prog X.w) X.A (call (.ref C) us) (EP X pins σ Q) X.xe s := by
  have hq := h (s.heap.objs.size + 1) s.heap.objs.size (I.hok.fresh (Nat.le_succ _)) (I.hok.fresh (Nat.le_refl _)) (Nat.ne_of_lt (Nat.lt_succ_self _))
  have I2 := Inv.made (C := C) I
  have r2 : Vals (V.ref (s.heap.objs.size + 1) :: (vs ++ dvs)) (Value.ref (s.heap.objs.size + 1) :: (us ++ dz)) := .cons rfl (r.append hd)
  have hl : (Value.ref (s.heap.objs.size + 1) :: us ++ dz).length = ps.length := by have e := r2.length; rw [F.len _ _ _ _ hq] at e; exact e.symm
  refine wpAny_call (make_map (f := f) I.kIn M.makes M.init (beq_iff_eq.mp M.fn) (codeAny_mono (F.run _ X.stack _ _ ⟨Value.ref (s.heap.objs.size + 1) :: us, []⟩ (Value.ref (s.heap.objs.size + 1) :: (us ++ dz)) _ _ (E σ) ⟨hr.rm.make C us [], under_gd hr.gd⟩ (I2.env0.make C us []) (hb _ (Value.ref (s.heap.objs.size + 1) :: us) I2.kIn hl) r2 hq) fun rr s' hq' => ?_))
  cases rr with
  | error ee => exact hx pins _ _ ee s' I2 hq'
  | ok fl =>
    cases fl with
    | ret u => obtain ⟨v, H', I3, rv, ev, q3⟩ := I2.after hq'; subst ev; exact ⟨rv, ⟨V.ref (s.heap.objs.size + 1), H', I3, rfl, q3⟩⟩
    | next => exact False.elim hq'
    | brk => exact False.elim hq'
    | cont => exact False.elim hq'
theorem pe_makeD (M : Mk X.K C f) (F : FnG X.prog X.w X.K X.mg X.base CX k f fd ps sp) (hr : RoomG (k + 1) X.A) (hg : Gl X x) (hm : X.mg x = some (.ref C)) (hb : Binds X.K fd ps dz) (hd : Vals dvs dz) (hx : ∀ σ, PassesAt CX X σ (E σ))
    (ha : PA X es t) (hpl : es.all plainE = true) (hdb : (x == ("__debug__" : Str)) = false) (h0 : es = [] → ∀ σ H Q, t σ H Q → Q [] H) :
    PE X (.Call (.Name x p) es [] pos) (fun σ H Q => t σ H fun vs H1 => ∀ x dx, H1 x = none → H1 dx = none → dx ≠ x → sp (.ref x :: (vs ++ dvs)) (upd (upd H1 dx (.own x)) x (.ins C dx [])) (fun v H2 => v = .non ∧ Q (.ref x) H2) (E σ)) := by
  refine ⟨fun pins s σ H Q I h => ?_⟩
  refine wpAny_Call_Name_kw (ld_glob I hg hm ?_ hdb)
  cases es with
  | nil =>
    have h1 := h0 rfl _ _ _ h
    exact PySem.W.callWith_K0 I.kIn M.kp (run_makeD (us := []) (E := E) M F hr hb hd (hx σ) I .nil h1)
  | cons e0 es =>
    rw [List.all_cons, Bool.and_eq_true] at hpl
    refine PySem.W.callWith_K (h₀ := X.base) I.ok.mod.kin M.kp (thn (ha.run pos pins s σ H _ I h) fun us s1 ⟨vs, H1, I1, r, q⟩ => ⟨I1.kIn, ?_⟩) (plain_star hpl.1) (star_all hpl.2)
    exact run_makeD (E := E) M F hr hb hd (hx σ) I1 r q
theorem pe_eqO {a b : Expr} {tb : TE} (ha : PE X a ta) (hb : PE X b tb) (hs : PySem.W.findIn X.K (.ref C) "__eq__" = some (some (.ref f))) (hf : PySem.W.isFn X.K (.ref f) = true) (F : FnG X.prog X.w X.K X.mg X.base CX k f fd ps sp) (hr : RoomG k X.A) (hbd : Binds X.K fd ps []) (hx : ∀ σ, PassesAt CX X σ (E σ))
    (hm : behindInMarks .Eq b = false) :
    PE X (.Compare a [.Eq] [b] pos) (fun σ H Q => ta σ H fun x H1 => tb σ H1 fun y H2 => ∃ p p' dx dy fs gs, x = .ref p ∧ y = .ref p' ∧ H2 p = some (.ins C dx fs) ∧ H2 p' = some (.ins C dy gs) ∧ sp [.ref p, .ref p'] H2 (fun v H3 => ∃ b, v = .bl b ∧ Q v H3) (E σ)) := by
  refine ⟨fun pins s σ H Q I h => ?_⟩
  refine wpAny_Compare1 (thn (ha.run pins s σ H _ I h) fun v s1 ⟨x, H1, I1, r1, q1⟩ => thn (hb.run pins s1 σ H1 _ I1 q1) fun u s2 ⟨y, H2, I2, r2, q2⟩ => ?_) hm
  obtain ⟨p, p', dx, dy, fs, gs, rfl, rfl, e1, e2, hsp⟩ := q2
  cases r1
  cases r2
  show wpAny (model X.prog X.w) X.A (richCompare .Eq (.ref p) (.ref p')) (EP X pins σ Q) X.xe s2
  obtain ⟨mA, J, _⟩ := ins_get I2.hok e1
  obtain ⟨mB, J', _⟩ := ins_get I2.hok e2
  obtain ⟨od, J, _⟩ := J.look
  obtain ⟨od', J', _⟩ := J'.look
  obtain ⟨m, hF⟩ := I2.fr
  refine PySem.W.cmp_K (op := .Eq) (tb := .ref C) hr.rm.units0 hF I2.ok.mod.kin J J'.type (by simp [PySem.W.notFirst]) hs hf ?_
  have hl := F.len _ _ _ _ hsp
  have rr : Vals [V.ref p, V.ref p'] [Value.ref p, Value.ref p'] := .cons rfl (.cons rfl .nil)
  refine wpAny_call (codeAny_mono (F.run X.A X.stack s2 H2 ⟨[.ref p, .ref p'], []⟩ [.ref p, .ref p'] [.ref p, .ref p'] _ (E σ) hr I2.env0 (by
    have := hbd s2 [.ref p, .ref p'] I2.kIn (by simpa using hl)
    simpa using this) rr hsp) fun r s' hq => ?_)
  cases r with
  | error e => exact hx σ pins H2 s2 e s' I2 hq
  | ok fl =>
    cases fl with
    | ret w =>
      obtain ⟨z, H', I', rz, bb, ez, ex⟩ := I2.after hq
      subst ez
      cases rz
      exact ⟨.bl bb, H', I', rfl, ex⟩
    | next => exact False.elim hq
    | brk => exact False.elim hq
    | cont => exact False.elim hq
theorem call_isF {cn : Str} (c : ClsF X.K cn C) : CallR X (.builtin "isinstance") (fun xs H Q => ∃ a dx fs, xs = [.ref a, .ref C] ∧ H a = some (.ins C dx fs) ∧ Q (.bl true) H) := by
  intro pins s σ H xs us Q I r h
  obtain ⟨a, dx, fs, rfl, ha, q⟩ := h
  cases r with
  | cons r1 r2 =>
    cases r2 with
    | cons r2 r3 =>
      cases r3
      cases r2
      exact isinst_ok I r1 (TyOf.ins ha c.cl c.ha c.hn c.htk c.hm) c.me fun tk => ⟨.bl true, H, I.tok _, rfl, q⟩
end
end Z

set_option Elab.async false
set_option linter.all false
set_option maxRecDepth 100000
set_option maxHeartbeats 4000000
namespace Z
open PySem PySem.Spec PyProof.Rows L2
abbrev cw (defs : Str → Option DefT) (gl : Str → Option D) (k : Nat) : Cw := ⟨sem defs gl k, gl⟩
abbrev ex0 : EX := fun _ _ _ => False
theorem exk0 {K : PySem.W.Frag} {w : World} {H : Hp} {S : Sto} {W : WX} : ExK K w H S ex0 W := fun _ _ _ h => h.elim
theorem bfn_boot {b : Bi} {n : String} (h : b.fn = some n) : bootBuiltins (Str.ofString n) = some (.builtin n) ∧ n ∈ bnames := by
  cases b <;> simp only [Bi.fn] at h <;> cases h <;> exact ⟨by decide +kernel, by decide⟩
theorem bty_boot {b : Bi} {n : String} (h : b.tyn = some n) : bootBuiltins (Str.ofString n) = some (.type n) ∧ n ∈ bnames := by
  cases b <;> simp only [Bi.tyn] at h <;> cases h <;> exact ⟨by decide +kernel, by decide⟩
theorem tyNames_boot {n : String} (h : tyNames.contains n = true) : bootBuiltins (Str.ofString n) = some (.type n) ∧ n ∈ bnames := by
  have h' : n ∈ tyNames := by simpa using h
  simp only [tyNames, List.mem_cons, List.not_mem_nil, or_false] at h'
  rcases h' with rfl | rfl | rfl | rfl | rfl | rfl <;> exact ⟨by decide +kernel, by decide⟩
section
variable {K : PySem.W.Frag} {w : World} {H H1 H' : Hp} {S S1 S' : Sto} {p : Addr}
theorem HR.free (h : HR K w H S) {o : HO} (n : H p = none) : HR K w (upd H p o) S := fun a ob q => by
  have ne : a ≠ p := fun z => by subst z; rw [h.fresh n] at q; cases q
  exact (h a ob q).mono (ext_new n) (upd_ne ne)
theorem Fm.addS {ob : Ob} (f : Fm H1 S1 H S) (n : H1 p = none) : Fm H1 S1 H (updS S p ob) := fun a o e q =>
  ⟨(f a o e q).1, by rw [updS_ne (ne_of_none e n)]; exact (f a o e q).2⟩
theorem HR.addS {ob : Ob} (h : HR K w H S) (r : ObR K w H p ob) : HR K w H (updS S p ob) := fun a u q => by
  by_cases ne : a = p
  · subst ne; rw [updS_same] at q; cases q; exact r
  · rw [updS_ne ne] at q
    exact h a u q
theorem ext_put {o u : HO} (e : H p = some o) (h1 : ∀ xs, o ≠ .tup xs) (h2 : ∀ q v, o ≠ .frz q v) (h3 : ∀ fs, o ≠ .xd fs) : Ext H (upd H p u) := by
  refine ⟨fun a xs t => ?_, fun a q xs t => ?_, fun a fs t => ?_⟩
  · have ne : a ≠ p := fun z => by
      subst z
      rcases t with t | ⟨o, t⟩ <;> (rw [e] at t; cases t)
      · exact h1 _ rfl
      · exact h2 _ _ rfl
    rcases t with t | ⟨u, t⟩
    · exact .inl (by rw [upd_ne ne]; exact t)
    · exact .inr ⟨u, by rw [upd_ne ne]; exact t⟩
  · have ne : a ≠ p := fun z => by
      subst z
      rw [e] at t
      cases t
      exact h2 _ _ rfl
    rw [upd_ne ne]
    exact t
  · have ne : a ≠ p := fun z => by
      subst z
      rw [e] at t
      cases t
      exact h3 _ rfl
    rw [upd_ne ne]
    exact t
theorem ext_out {vs us : List V} (e : H p = some (.lst vs)) : Ext H (upd H p (.lst us)) := ext_put e (fun _ z => nomatch z) (fun _ _ z => nomatch z) fun _ z => nomatch z
theorem HR.out {vs us : List V} (h : HR K w H S) (e : H p = some (.lst vs)) (n : S p = none) : HR K w (upd H p (.lst us)) S := fun a ob q => by
  have ne : a ≠ p := fun z => by subst z; rw [n] at q; cases q
  exact (h a ob q).mono (ext_out e) (upd_ne ne)
theorem Fm.out {o : HO} (f : Fm H1 S1 H S) (n : H1 p = none) : Fm H1 S1 (upd H p o) S := fun a u e q =>
  ⟨by rw [upd_ne (ne_of_none e n)]; exact (f a u e q).1, (f a u e q).2⟩
theorem relst_wipe {σd : StD} {σ : L2.St} (h : RelSt K w H σd σ) : ∀ vs : List Nat, RelSt K w H (wipeD σd vs) (wipe σ vs)
  | [] => h
  | v :: vs => by
    have ih := relst_wipe h vs
    unfold wipeD wipe
    refine ⟨by rw [List.length_set, List.length_set]; exact ih.1, fun j d q => ?_⟩
    by_cases hj : v = j
    · subst hj
      by_cases hl : v < (wipeD σd vs).length
      · rw [List.getElem?_set_self hl] at q; cases q
      · rw [List.getElem?_eq_none (by simpa using hl)] at q; cases q
    · rw [List.getElem?_set_ne hj] at q ⊢
      exact ih.2 j d q
theorem wipe_wipe (σ : L2.St) (vs : List Nat) : wipe (wipe σ vs) vs = wipe σ vs := by
  have one : ∀ (us : List Nat) (τ : L2.St), (∀ u ∈ us, u ∈ vs) → wipe (wipe τ us) vs = wipe τ vs := by
    intro us
    induction us with
    | nil => intro τ _; rfl
    | cons u us ih =>
      intro τ hu
      show wipe ((wipe τ us).set u none) vs = _
      rw [wipe_set (hu u List.mem_cons_self), ih τ fun x hx => hu x (List.mem_cons_of_mem _ hx)]
  exact one vs σ fun _ h => h

theorem lc_of {J : It} {ds : List D} {G : Sto → Prop} {g : Tg} {fT : WT} {fE : WE} {vs : List Nat} {σd : StD} {σ : L2.St} {R : D → Sto → Prop} {Q : VK} {Da : Addr} (rs : RelSt K w H1 σd σ) (hr : HR K w H1 S1) (wk : WalkD K w J ds G H1) (og : ownG vs g = true) (nD : H1 Da = none)
    (f : lcL (fun d S2 k => wpG g d (wipeD σd vs) S2 fun σ2 => fT σ2 S2 fun b S3 => if b = true then fE σ2 S3 fun v S4 => k (some v) S4 else k none S3) G R ds [] S1)
    (q : Kont K w H1 S1 R Q) :
    ∃ W : Nat → Nat → Hp → Prop, (∃ m, W 0 m (upd H1 Da (.lst []))) ∧ ∀ i m H, W i m H →
      (J.stop i H ∧ Q (.ref Da) H) ∨ (J.go i H ∧ ∃ Nx : Hp → Prop, (∀ H', Nx H' → ∃ m', m' < m ∧ W (i + 1) m' H') ∧ ∀ x H', J.yld i H x H' → gV K g x (wipe σ vs) H' fun σ2 H2 => wipe σ2 vs = wipe σ vs ∧ tDT K w W0 ex0 fT σ2 H2 fun b H3 =>
        if b = true then tD K w W0 ex0 fE σ2 H3 fun y H4 => ∃ acc, H4 Da = some (.lst acc) ∧ acc.length < sizeLine ∧ Nx (upd H4 Da (.lst (acc ++ [y]))) else Nx H3) := by
  refine ⟨fun i m Hh => m = ds.length - i ∧ i ≤ ds.length ∧ ∃ S acc us, HR K w Hh S ∧ Fm H1 S1 Hh S ∧ Hh Da = some (.lst us) ∧ S Da = none ∧ RelDs K w Hh acc us ∧
      lcL (fun d S2 k => wpG g d (wipeD σd vs) S2 fun σ2 => fT σ2 S2 fun b S3 => if b = true then fE σ2 S3 fun v S4 => k (some v) S4 else k none S3) G R (ds.drop i) acc S,
    ⟨ds.length, by simp, Nat.zero_le _, S1, [], [], hr.free nD, Fm.tup hr nD, upd_same, hr.fresh nD, relds_nil, by simpa using f⟩, ?_⟩
  rintro i m Hh ⟨rfl, hi, S, acc, us, hh, fm, eD, sD, ra, fl⟩
  by_cases hlt : i < ds.length
  · rw [List.drop_eq_getElem_cons hlt] at fl
    unfold lcL at fl
    obtain ⟨gS, hz, ft⟩ := fl
    have ex : Ext H1 Hh := fm.ext hr
    refine .inr ⟨wk.goes i Hh S hlt ex hh gS, fun H' => ∃ S acc us, HR K w H' S ∧ Fm H1 S1 H' S ∧ H' Da = some (.lst us) ∧ S Da = none ∧ RelDs K w H' acc us ∧
      lcL (fun d S2 k => wpG g d (wipeD σd vs) S2 fun σ2 => fT σ2 S2 fun b S3 => if b = true then fE σ2 S3 fun v S4 => k (some v) S4 else k none S3) G R (ds.drop (i + 1)) acc S,
      fun H' z => ⟨ds.length - (i + 1), by omega, rfl, hlt, z⟩, fun x H' y => ?_⟩
    obtain ⟨d, ed, rd, hH⟩ := wk.yields i Hh S x H' hlt ex hh gS y
    rw [List.getElem?_eq_getElem hlt] at ed
    cases ed
    have hh' : HR K w H' S := by
      rcases hH with rfl | ⟨T, xs, nT, rfl⟩
      · exact hh
      · exact hh.tup nT
    have fm2 : Fm Hh S H' S := by
      rcases hH with rfl | ⟨T, xs, nT, rfl⟩
      · exact Fm.refl _ _
      · exact Fm.tup hh nT
    have fm' : Fm H1 S1 H' S := fm.trans fm2
    have eD' : H' Da = some (.lst us) := (fm2 Da _ eD sD).1
    refine gD_of (vs := vs) hh' g _ x (wipeD σd vs) (wipe σ vs) _ _ rd (relst_wipe (rs.mono (fm'.ext hr)) vs) ft fun σd2 σ2 h1 h2 h3 => ⟨by rw [h3 og, wipe_wipe], ?_⟩
    refine ⟨σd2, S, _, h2, hh', exk0, h1, fun b S3 hb H3 f3 h3' => ?_⟩
    obtain ⟨e3, s3⟩ := f3 Da _ eD' sD
    have ex3 : Ext H' H3 := f3.ext hh'
    have ra3 : RelDs K w H3 acc us := RelDs.mono ex3 _ _ (RelDs.mono (fm2.ext hh) _ _ ra)
    cases b with
    | false =>
      rw [if_neg Bool.false_ne_true] at hb ⊢
      exact ⟨S3, acc, us, h3', fm'.trans f3, e3, s3, ra3, hb⟩
    | true =>
      rw [if_pos rfl] at hb ⊢
      refine ⟨σd2, S3, _, h2.mono ex3, h3', exk0, hb, fun v S4 hv y H4 f4 rv h4 => ?_⟩
      obtain ⟨e4, s4⟩ := f4 Da _ e3 s3
      have ex4 : Ext H3 H4 := f4.ext h3'
      refine ⟨us, e4, by rw [← ra.length]; exact hz, S4, acc ++ [v], us ++ [y], h4.out e4 s4, ((fm'.trans f3).trans f4).out nD, upd_same, s4, ?_, hv⟩
      exact RelDs.mono (ext_out e4) _ _ ((RelDs.mono ex4 _ _ ra3).snoc rv)
  · have e : i = ds.length := by omega
    subst e
    rw [List.drop_length] at fl
    unfold lcL at fl
    obtain ⟨gS, ft⟩ := fl
    refine .inl ⟨wk.stops Hh S (fm.ext hr) hh gS, ?_⟩
    exact q _ _ (ft Da sD) _ Hh (fm.addS nD) (by simp only [RelD]) (hh.addS ⟨us, eD, ra⟩)
end
section
variable {defs : Str → Option DefT} {gl : Str → Option D} {k : Nat}
theorem XOk.blk {c : Cc} {W : WX} {X : Cx} (o : XOk defs gl k c W X) (s : Shared) (H : Hp) (scope : Scope) (C : Addr) (cl : List (Str × Addr)) (fp : List Addr) : XOk defs gl k (blkCc c scope) W0 (X.blk s H scope (compEnvC scope cl C X.env) fp) where
  cal := o.cal
  calK := o.calK
  gls := o.gls
  blt := o.blt
  hN := o.hN
  hsc := by
    show relS scope X.env.scope = relS scope c.sc
    rw [o.hsc]
  hfn := rfl
  calH := o.calH
  xs := o.xs
  xr := o.xr
  ms := o.ms
  mks := o.mks
  room := o.room
  hand := o.hand
  calm := o.calm
  tk := takes0
  po := PassesOwn.never
  nd := o.nd
  hdf := o.hdf
end
end Z

set_option Elab.async false
set_option linter.all false
set_option maxRecDepth 100000
set_option maxHeartbeats 4000000
namespace Z
open PySem PySem.Spec PyProof.Rows L2

section
variable {K : PySem.W.Frag} {w : World} {H H' : Hp} {S : Sto}
theorem relds_of : ∀ (ds : List D) (vs : List V), ds.length = vs.length → (∀ (j : Nat) d v, ds[j]? = some d → vs[j]? = some v → RelD K w H d v) → RelDs K w H ds vs
  | [], [], _, _ => relds_nil
  | [], _ :: _, e, _ => by cases e
  | _ :: _, [], e, _ => by cases e
  | d :: ds, v :: vs, e, h => relds_cons (h 0 d v rfl rfl) (relds_of ds vs (by simpa using e) fun j d' v' h1 h2 => h (j + 1) d' v' (by simpa using h1) (by simpa using h2))
theorem ext_up (up : ∀ c o, H c = some o → H' c = some o) : Ext H H' := ⟨fun a xs t => by
  rcases t with t | ⟨o, t⟩
  · exact .inl (up _ _ t)
  · exact .inr ⟨o, up _ _ t⟩, fun a o xs t => up _ _ t, fun a fs t => up _ _ t⟩
theorem HR.up (h : HR K w H S) (up : ∀ c o, H c = some o → H' c = some o) : HR K w H' S := fun a ob q => by
  have r := h a ob q
  refine r.mono (ext_up up) ?_
  cases ob with
  | lst ds => obtain ⟨vs, e1, _⟩ := r; rw [e1, up _ _ e1]
  | dct ds => obtain ⟨vs, e1, _⟩ := r; rw [e1, up _ _ e1]
  | ins C ds => obtain ⟨_, dx, vs, _, e1, _⟩ := r; rw [e1, up _ _ e1]
theorem relds_rev2 {ds : List D} {vs : List V} (r : RelDs K w H ds vs) : RelDs K w H ds.reverse vs.reverse := by
  have hl := r.length
  refine relds_of _ _ (by rw [List.length_reverse, List.length_reverse, hl]) fun j d v h1 h2 => ?_
  have hj : j < ds.length := by
    by_cases h : j < ds.length
    · exact h
    · rw [List.getElem?_eq_none (by rw [List.length_reverse]; omega)] at h1; cases h1
  rw [List.getElem?_reverse hj] at h1
  rw [List.getElem?_reverse (by omega)] at h2
  obtain ⟨v', e1, e2⟩ := r.get h1
  rw [hl] at e1
  rw [e1] at h2
  cases h2
  exact e2
theorem zip_kont {R : D → Sto → Prop} {Q : VK} {xs ys : List D} {vs ws us : List V} {q : Addr} (k : Kont K w H S R Q) (h : HR K w H S) (r1 : RelDs K w H xs vs) (r2 : RelDs K w H ys ws) (n : H q = none) (up : ∀ c o, H c = some o → H' c = some o)
    (e : H' q = some (.lst us)) (hl : us.length = min vs.length ws.length) (hat : ∀ (j : Nat) v, us[j]? = some v → ∃ t x y, v = .ref t ∧ H' t = some (.tup [x, y]) ∧ vs[j]? = some x ∧ ws[j]? = some y)
    (hr : R (.ref q) (updS S q (.lst ((xs.zip ys).map fun z => .tup [z.1, z.2])))) : Q (.ref q) H' := by
  have rl : RelDs K w H' ((xs.zip ys).map fun z => D.tup [z.1, z.2]) us := by
    refine relds_of _ _ (by rw [List.length_map, List.length_zip, hl, r1.length, r2.length]) fun j d v h1 h2 => ?_
    obtain ⟨t, x, y, rfl, a1, a2, a3⟩ := hat j v h2
    rw [List.getElem?_map] at h1
    cases ez : (xs.zip ys)[j]? with
    | none => rw [ez] at h1; cases h1
    | some z =>
      rw [ez] at h1
      cases h1
      obtain ⟨b1, b2⟩ := List.getElem?_zip_eq_some.mp ez
      obtain ⟨v1, c1, c2⟩ := r1.get b1
      obtain ⟨v2, c3, c4⟩ := r2.get b2
      rw [a2] at c1; cases c1
      rw [a3] at c3; cases c3
      simp only [RelD]
      exact ⟨t, [x, y], rfl, SqT.of a1, relds_cons (RelD.mono (ext_up up) _ _ c2) (relds_cons (RelD.mono (ext_up up) _ _ c4) relds_nil)⟩
  refine k _ _ hr _ _ (fun a o e1 e2 => ⟨up a o e1, by rw [updS_ne (ne_of_none e1 n)]; exact e2⟩) (by simp only [RelD]) fun a ob qa => ?_
  by_cases ha : a = q
  · subst ha
    rw [updS_same] at qa
    cases qa
    exact ⟨us, e, rl⟩
  · rw [updS_ne ha] at qa
    exact (h.up up) a ob qa
end
section
variable {defs : Str → Option DefT} {gl : Str → Option D} {k : Nat}
theorem un_neg_ok {X : Cx} : UnR X (unaryOp .USub) (rD1 X.K X.w fun x S R => match x with | .int i => R (.int (-i)) S | _ => False) := by
  intro pins s σ H x v Q I rx hh
  obtain ⟨dx, S, R, r1, h, f, kk⟩ := hh
  split at f
  · simp only [RelD] at r1
    exact un_neg pins s σ H x v Q I rx ⟨_, r1, kk.same f (by simp only [RelD]) h⟩
  · exact f.elim
def trsOf (K : PySem.W.Frag) (w : World) (W : WX) (C : Cw) (ex : EX) : List Str → List T → List (TE × TE)
  | k :: ks, t :: ts => (tC (.str k), tD K w W ex (wpE C ex t)) :: trsOf K w W C ex ks ts
  | _, _ => []
theorem sem_len {f : Str} {d : DefT} {ds : List D} {S : Sto} {R : D → Sto → Prop} {E : Exc → Sto → Prop} (h : sem defs gl k f ds S R E) (e : defs f = some d) : ds.length = d.np := by
  cases k with
  | zero => exact h.elim
  | succ k =>
    simp only [sem, e] at h
    exact h.1
theorem chkKs_all : ∀ {ks : List Str} {kz : List (Option Expr)}, chkKs ks kz = true → kz.all (·.isSome) = true ∧ ks.length = kz.length
  | [], kz, h => by
    simp only [chkKs] at h
    split at h
    · exact ⟨rfl, rfl⟩
    · cases h
  | x :: ks, kz, h => by
    simp only [chkKs] at h
    split at h
    · simp only [Bool.and_eq_true] at h
      obtain ⟨h1, h2⟩ := chkKs_all h.2
      exact ⟨by rw [List.all_cons, h1]; rfl, by rw [List.length_cons, List.length_cons, h2]⟩
    · cases h
theorem relkv_fold {K : PySem.W.Frag} {w : World} {H : Hp} : ∀ {ks : List Str} {ds : List D} {us : List V} {acc : List (Key × D)} {acc2 : List (Key × V)}, RelDs K w H ds us → RelKV K w H acc acc2 →
    RelKV K w H ((ks.zip ds).foldl (fun acc kv => putD acc (.inr kv.1) kv.2) acc) (mergeK acc2 ((ks.zip us).map fun z => (Sum.inr z.1, z.2)))
  | [], ds, us, acc, acc2, r, ra => by simpa [mergeK] using ra
  | x :: ks, [], us, acc, acc2, r, ra => by
    simp only [RelDs] at r
    subst r
    simpa [mergeK] using ra
  | x :: ks, d :: ds, us, acc, acc2, r, ra => by
    simp only [RelDs] at r
    obtain ⟨v, t, rfl, r1, r2⟩ := r
    simp only [List.zip_cons_cons, List.foldl_cons, List.map_cons, mergeK]
    exact relkv_fold r2 (relkv_put _ r1 ra)
theorem pairs_of {K : PySem.W.Frag} {w : World} {W : WX} {C : Cw} {ex : EX} {σd : StD} {σ : L2.St} : ∀ (ks : List Str) (ts : List T) {H : Hp} {S : Sto} {R : List D → Sto → Prop} {Q : List (V × V) → Hp → Prop}, ks.length = ts.length → RelSt K w H σd σ → HR K w H S → ExK K w H S ex W → wpEs C ex ts σd S R →
    (∀ ds S', R ds S' → ∀ us H', Fm H S H' S' → RelDs K w H' ds us → HR K w H' S' → Q ((ks.zip us).map fun z => (V.str z.1, z.2)) H') → tPairs (trsOf K w W C ex ks ts) σ H Q
  | [], [], H, S, R, Q, hl, rs, hr, xk, f, q => by
    simp only [wpEs] at f
    exact q [] S f [] H (Fm.refl _ _) relds_nil hr
  | [], _ :: _, H, S, R, Q, hl, rs, hr, xk, f, q => by simp at hl
  | _ :: _, [], H, S, R, Q, hl, rs, hr, xk, f, q => by simp at hl
  | x :: ks, t :: ts, H, S, R, Q, hl, rs, hr, xk, f, q => by
    simp only [wpEs] at f
    refine ⟨σd, S, _, rs, hr, xk, f, fun d S1 hd v H1 f1 rv h1 => ?_⟩
    refine pairs_of ks ts (by simpa using hl) (rs.mono (f1.ext hr)) h1 (xk.next f1) hd fun ds S2 hds us H2 f2 rus h2 => ?_
    exact q _ S2 hds (v :: us) H2 (f1.trans f2) (relds_cons (RelD.mono (f2.ext h1) _ _ rv) rus) h2
def ifV (e : Expr) : Bool := match e with
  | .UnaryOp _ _ _ => false
  | .BoolOp _ _ _ => false
  | .IfExp _ _ _ _ => false
  | .Compare _ _ _ _ => false
  | _ => true
theorem plain_true {e : Expr} {env : Env} (h : ifV e = true) : ∀ whole, isTrue e env whole = (do let v ← whole; standAt e.pos; holding [v] (truthy v)) := fun wh => by
  cases e <;> first | rfl | (exact absurd (show false = true from h) Bool.false_ne_true)
theorem sE_var {i : Nat} {c : Cc} {W : WX} {ex : EX} {X : Cx} {e : Expr} (o : XOk defs gl k c W X) (h : chkE c (.var i) e = true) : PE X e (tD X.K X.w W ex (wpE (cw defs gl k) ex (.var i))) := by
  simp only [chkE] at h
  split at h
  · simp only [Bool.and_eq_true, decide_eq_true_eq] at h
    obtain ⟨v1, v2, v3⟩ := o.vis_of h.2
    refine (pe_var (by rw [o.hN]; exact h.1) v1 v2 v3).weak fun σ H Q q => ?_
    obtain ⟨σd, S, R, rs, hr, xk, f, kk⟩ := q
    simp only [wpE] at f
    split at f
    · rename_i d ed
      obtain ⟨v, e1, e2⟩ := rs.get ed
      exact ⟨v, e1, kk.same f e2 hr⟩
    · exact f.elim
  · cases h
theorem lookup_rel {K : PySem.W.Frag} {w : World} {H : Hp} {f : Str} {v : D} : ∀ {ns : List Str} {ds : List D} {vs : List V}, RelDs K w H ds vs → (ns.zip ds).lookup f = some v → ∃ u, (ns.zip vs).lookup f = some u ∧ RelD K w H v u
  | [], ds, vs, r, e => by simp at e
  | n :: ns, [], vs, r, e => by simp at e
  | n :: ns, d :: ds, vs, r, e => by
    simp only [RelDs] at r
    obtain ⟨u, us, rfl, r1, r2⟩ := r
    simp only [List.zip_cons_cons, List.lookup_cons] at e ⊢
    split at e
    · cases e; exact ⟨u, rfl, r1⟩
    · exact lookup_rel r2 e
theorem sE_call {f : Str} {ts : List T} {c : Cc} {W : WX} {ex : EX} {X : Cx} {e : Expr} (o : XOk defs gl k c W X) (h : chkE c (.call f ts) e = true) (ih : ∀ {es : List Expr}, chkEs c ts es = true → PA X es (tDA X.K X.w W ex (wpEs (cw defs gl k) ex ts))) : PE X e (tD X.K X.w W ex (wpE (cw defs gl k) ex (.call f ts))) := by
  simp only [chkE] at h
  split at h
  · simp only [Bool.and_eq_true, decide_eq_true_eq] at h
    obtain ⟨⟨⟨⟨⟨rfl, h2⟩, h3⟩, h4⟩, hkw0⟩, h5⟩ := h
    have hkw : kwT f = none := by simpa using hkw0
    obtain ⟨g1, g2, g3⟩ := o.gl_of h2
    obtain ⟨d, ed⟩ := o.hdf f h4
    have PAs := ih h3
    have hp := chkEs_plain h3
    have fin : ∀ {σd : StD} {S S1 : Sto} {R : D → Sto → Prop} {σ : L2.St} {H H1 : Hp} {Q : VK} {ds : List D} {vs : List V}, RelSt X.K X.w H σd σ → HR X.K X.w H S → ExK X.K X.w H S ex W → Kont X.K X.w H S R Q → Fm H S H1 S1 → RelDs X.K X.w H1 ds vs → HR X.K X.w H1 S1 →
        sem defs gl k f ds S1 R (fun x S2 => ex x σd S2) → spD X.K X.w d.np (sem defs gl k f) vs H1 Q (L2.WE W σ) := fun {σd S S1 R σ H H1 Q ds vs} rs hr xk kk f1 rv h1 hs =>
      ⟨ds, S1, R, _, sem_len hs ed, rv, h1, hs, kk.next f1 fun _ _ z => z, fun x S2 hx cls dd H2 f2 rx h2 => xk x σd S2 hx σ H2 cls dd (f1.trans f2) (rs.mono ((f1.trans f2).ext hr)) rx h2⟩
    rename_i es _
    cases hcm : c.calm with
    | false =>
      rw [hcm] at h5
      simp only [Bool.false_or, Bool.and_eq_true] at h5
      obtain ⟨fa, fd, ps, m1, m2, m3, m4, F⟩ := o.calH f d h5.1 ed
      cases es with
      | nil => simp at h5
      | cons e0 es =>
        rw [List.all_cons, Bool.and_eq_true] at hp
        refine (pe_callQ (E := L2.WE W) F o.rmH g1 m1 m2 m3 (fun σ => passAt o.tk σ) PAs g2 (plain_star hp.1) (star_all hp.2)).weak fun σ H Q q => ?_
        obtain ⟨σd, S, R, rs, hr, xk, f', kk⟩ := q
        simp only [wpE] at f'
        exact ⟨σd, S, _, rs, hr, xk, f', fun ds S1 hd vs H1 f1 rv h1 => fin rs hr xk kk f1 rv h1 hd⟩
    | true =>
    obtain ⟨fa, fd, ps, m1, m2, m3, m4, F⟩ := o.cal f d h4 hkw ed
    cases es with
    | nil =>
      have e0 : ts = [] := List.eq_nil_of_length_eq_zero (chkEs_len h3).symm
      subst e0
      refine (pe_callD0 (E := L2.WE W) F (o.rm hcm) g1 m1 m2 m3 (fun σ => passAt o.tk σ) g2).weak fun σ H Q q => ?_
      obtain ⟨σd, S, R, rs, hr, xk, f', kk⟩ := q
      simp only [wpE, wpEs] at f'
      exact fin rs hr xk kk (Fm.refl _ _) relds_nil hr f'
    | cons e0 es =>
      refine (pe_callD (E := L2.WE W) F (o.rm hcm) g1 m1 m2 m3 (fun σ => passAt o.tk σ) hp PAs g2).weak fun σ H Q q => ?_
      obtain ⟨σd, S, R, rs, hr, xk, f', kk⟩ := q
      simp only [wpE] at f'
      exact ⟨σd, S, _, rs, hr, xk, f', fun ds S1 hd vs H1 f1 rv h1 => fin rs hr xk kk f1 rv h1 hd⟩
  · cases h
theorem _root_.L2.PK.weak {X : Cx} {kws : List Keyword} {t t' : TA} (h : PK X kws t) (f : ∀ σ H Q, t' σ H Q → t σ H Q) : PK X kws t' := ⟨fun p pins s σ H Q I q => h.run p pins s σ H Q I (f σ H Q q)⟩
theorem chkKw_names : ∀ {us : List T} {ks : List Str} {kws : List Keyword} {c : Cc}, chkKw c us ks kws = true → kws.map (·.arg) = ks.map some ∧ us.length = ks.length
  | [], ks, kws, c, h => by
    simp only [chkKw, Bool.and_eq_true, List.isEmpty_iff] at h
    rw [h.1, h.2]
    exact ⟨rfl, rfl⟩
  | u :: us, ks, kws, c, h => by
    simp only [chkKw] at h
    split at h
    · simp only [Bool.and_eq_true, decide_eq_true_eq] at h
      obtain ⟨⟨rfl, _⟩, h2⟩ := h
      obtain ⟨g1, g2⟩ := chkKw_names h2
      exact ⟨by rw [List.map_cons, List.map_cons, g1], by rw [List.length_cons, List.length_cons, g2]⟩
    · cases h
theorem sE_callK {f : Str} {ts us : List T} {ks : List Str} {c : Cc} {W : WX} {ex : EX} {X : Cx} {e : Expr} (o : XOk defs gl k c W X) (h : chkE c (.callK f ts ks us) e = true) (ih : ∀ {es : List Expr}, chkEs c ts es = true → PA X es (tDA X.K X.w W ex (wpEs (cw defs gl k) ex ts)))
    (ik : ∀ {kws : List Keyword}, chkKw c us ks kws = true → PK X kws (tDA X.K X.w W ex (wpEs (cw defs gl k) ex us))) : PE X e (tD X.K X.w W ex (wpE (cw defs gl k) ex (.callK f ts ks us))) := by
  simp only [chkE] at h
  split at h
  · simp only [Bool.and_eq_true, decide_eq_true_eq] at h
    obtain ⟨⟨⟨⟨⟨⟨⟨rfl, h2⟩, h3⟩, h4⟩, h5⟩, h6⟩, h7⟩, hca⟩ := h
    obtain ⟨g1, g2, g3⟩ := o.gl_of h2
    obtain ⟨d, ed⟩ := o.hdf f h6
    have PAs := ih h3
    have PKs := ik h5
    have hp := chkEs_plain h3
    obtain ⟨hnm, hul⟩ := chkKw_names h5
    obtain ⟨fa, fd, ps, m1, m2, m3, m4, F⟩ := o.calK f d ts.length ks h6 h7 ed
    rename_i es kws _
    cases es with
    | nil => simp at h4
    | cons e0 es =>
      refine (pe_callKG (E := L2.WE W) F (o.rm hca) g1 m1 m2 m3 (fun σ => passAt o.tk σ) PAs PKs hnm g2 hp).weak fun σ H Q q => ?_
      obtain ⟨σd, S, R, rs, hr, xk, f', kk⟩ := q
      simp only [wpE] at f'
      refine ⟨σd, S, _, rs, hr, xk, f', fun ds S1 hd vs H1 f1 rv h1 => ?_⟩
      refine ⟨σd, S1, _, rs.mono (f1.ext hr), h1, xk.next f1, hd.2, fun es2 S2 hd2 zs H2 f2 rz h2 => ⟨by rw [← rv.length]; exact hd.1, by rw [← rz.length, hd2.1, hul], ?_⟩⟩
      have rv2 := RelDs.mono (f2.ext h1) _ _ rv
      exact ⟨ds ++ es2, S2, R, _, sem_len hd2.2 ed, rv2.append rz, h2, hd2.2, kk.next (f1.trans f2) fun _ _ z => z, fun x S3 hx cls dd H3 f3 rx h3 => xk x σd S3 hx σ H3 cls dd ((f1.trans f2).trans f3) (rs.mono (((f1.trans f2).trans f3).ext hr)) rx h3⟩
  · cases h
theorem sE_sub {a i : T} {c : Cc} {W : WX} {ex : EX} {X : Cx} {e : Expr} (o : XOk defs gl k c W X) (h : chkE c (.sub a i) e = true) (ih1 : ∀ {x : Expr}, chkE c a x = true → PE X x (tD X.K X.w W ex (wpE (cw defs gl k) ex a)))
    (ih2 : ∀ {x : Expr}, chkE c i x = true → PE X x (tD X.K X.w W ex (wpE (cw defs gl k) ex i))) : PE X e (tD X.K X.w W ex (wpE (cw defs gl k) ex (.sub a i))) := by
  simp only [chkE] at h
  split at h
  · simp only [Bool.and_eq_true] at h
    obtain ⟨⟨h1, h2⟩, h3⟩ := h
    exact (pe_ix (sub_ok o.hu1) (ih1 h1) (ih2 h2) (plain_ix h3)).weak fun σ H Q q => tD_op (by simpa only [wpE] using q)
  · cases h
theorem sE_blt {b : Bi} {ts : List T} {c : Cc} {W : WX} {ex : EX} {X : Cx} {e : Expr} (o : XOk defs gl k c W X) (h : chkE c (.blt b ts) e = true) (ih : ∀ {es : List Expr}, chkEs c ts es = true → PA X es (tDA X.K X.w W ex (wpEs (cw defs gl k) ex ts))) : PE X e (tD X.K X.w W ex (wpE (cw defs gl k) ex (.blt b ts))) := by
  simp only [chkE] at h
  split at h
  · rename_i g _ es _
    simp only [Bool.and_eq_true, Bool.or_eq_true, decide_eq_true_eq] at h
    obtain ⟨⟨⟨⟨h1, h2⟩, h3⟩, h4⟩, hca⟩ := h
    obtain ⟨g1, g2, g3⟩ := o.gl_of h2
    have hp := chkEs_plain h3
    have PAs := ih h3
    cases es with
    | nil => simp at h4
    | cons e0 es =>
      rw [List.all_cons, Bool.and_eq_true] at hp
      rcases h1 with h1 | h1
      · cases en : b.fn with
        | none => rw [en] at h1; cases h1
        | some n =>
          rw [en] at h1
          cases h1
          obtain ⟨b1, b2⟩ := bfn_boot en
          exact (pe_callB (bfn_ok (o.calm hca) o.room.gd o.hu b en) g1 (o.blt n b2) b1 PAs g3 g2 (plain_star hp.1) (star_all hp.2)).weak fun σ H Q q => tD_cb (by simpa only [wpE] using q)
      · cases en : b.tyn with
        | none => rw [en] at h1; cases h1
        | some n =>
          rw [en] at h1
          cases h1
          obtain ⟨b1, b2⟩ := bty_boot en
          exact (pe_callTy (bty_ok b en) g1 (o.blt n b2) b1 PAs g3 g2 (plain_star hp.1) (star_all hp.2)).weak fun σ H Q q => tD_cb (by simpa only [wpE] using q)
  · cases h
theorem relf_lookup {K : PySem.W.Frag} {w : World} {H : Hp} {f : Str} {v : D} : ∀ {fs : List (Str × D)} {fv : List (Str × V)}, RelF K w H fs fv → fs.lookup f = some v → ∃ u, fv.lookup f = some u ∧ RelD K w H v u
  | [], fv, r, e => by simp at e
  | (g, d) :: fs, fv, r, e => by
    simp only [RelF] at r
    obtain ⟨u, us, rfl, r1, r2⟩ := r
    simp only [List.lookup_cons] at e ⊢
    split at e
    · cases e; exact ⟨u, rfl, r1⟩
    · exact relf_lookup r2 e
theorem relf_none {K : PySem.W.Frag} {w : World} {H : Hp} {f : Str} : ∀ {fs : List (Str × D)} {fv : List (Str × V)}, RelF K w H fs fv → fs.lookup f = none → fv.lookup f = none
  | [], fv, r, e => by simp only [RelF] at r; subst r; rfl
  | (g, d) :: fs, fv, r, e => by
    simp only [RelF] at r
    obtain ⟨u, us, rfl, r1, r2⟩ := r
    simp only [List.lookup_cons] at e ⊢
    split at e
    · cases e
    · exact relf_none r2 e
theorem tDA_nil {K : PySem.W.Frag} {w : World} {W : WX} {C : Cw} {ex : EX} {σ : L2.St} {H : Hp} {Q : List V → Hp → Prop} (h : tDA K w W ex (wpEs C ex []) σ H Q) : Q [] H := by
  obtain ⟨σd, S, R, rs, hr, xk, f, kk⟩ := h
  simp only [wpEs] at f
  exact kk [] S f [] H (Fm.refl _ _) relds_nil hr
theorem HR.made {K : PySem.W.Frag} {w : World} {H : Hp} {S : Sto} {x dx : Addr} {C : Addr} {cn : Str} (h : HR K w H S) (n1 : H x = none) (n2 : H dx = none) (n3 : dx ≠ x) (cf : ClsF K cn C) : HR K w (upd (upd H dx (.own x)) x (.ins C dx [])) (updS S x (.ins cn [])) := by
  have h1 : HR K w (upd H dx (.own x)) S := h.free n2
  have n1' : upd H dx (.own x) x = none := by rw [upd_ne (Ne.symm n3)]; exact n1
  exact h1.new n1' ⟨C, dx, [], cf, upd_same, by simp only [RelF]⟩
theorem Fm.made {H : Hp} {S : Sto} {x dx : Addr} {C : Addr} {cn : Str} (n1 : H x = none) (n2 : H dx = none) (n3 : dx ≠ x) : Fm H S (upd (upd H dx (.own x)) x (.ins C dx [])) (updS S x (.ins cn [])) := fun a u e q =>
  ⟨by rw [upd_ne (ne_of_none e n1), upd_ne (ne_of_none e n2)]; exact e, by rw [updS_ne (ne_of_none e n1)]; exact q⟩
theorem sE_new {q cn : Str} {ts : List T} {c : Cc} {W : WX} {ex : EX} {X : Cx} {e : Expr} (o : XOk defs gl k c W X) (h : chkE c (.new q cn ts) e = true) (ih : ∀ {es : List Expr}, chkEs c ts es = true → PA X es (tDA X.K X.w W ex (wpEs (cw defs gl k) ex ts))) : PE X e (tD X.K X.w W ex (wpE (cw defs gl k) ex (.new q cn ts))) := by
  simp only [chkE] at h
  split at h
  · rename_i g p0 es p1
    simp only [Bool.and_eq_true, decide_eq_true_eq] at h
    obtain ⟨⟨⟨⟨h1, h2⟩, h3⟩, h4⟩, hca⟩ := h
    subst h1
    obtain ⟨g1, g2, g3⟩ := o.gl_of h2
    obtain ⟨d, C, f, fd, ps, dz, dvs, ed, cf, m1, mk, bd, vd, rp, np, F⟩ := o.mks _ _ _ h4
    have hp := chkEs_plain h3
    have hl3 := chkEs_len h3
    refine (pe_makeD (E := L2.WE W) mk F (o.rm1 hca) g1 m1 bd vd (fun σ => passAt o.tk σ) (ih h3) hp g2 (fun z σ H Q qq => ?_)).weak fun σ H Q qq => ?_
    · subst z
      have : ts = [] := List.eq_nil_of_length_eq_zero hl3.symm
      subst this
      exact tDA_nil qq
    obtain ⟨σd, S, R, rs, hr, xk, f', kk⟩ := qq
    simp only [wpE] at f'
    refine ⟨σd, S, _, rs, hr, xk, f', fun ds S1 hd vs H1 f1 rv h1 x dx n1 n2 n3 => ?_⟩
    have hs := hd x (h1.fresh n1)
    have hm := h1.made n1 n2 n3 cf
    have fm := Fm.made (S := S1) (C := C) (cn := g) n1 n2 n3
    have ext := fm.ext h1
    refine ⟨_, _, _, _, sem_len hs ed, ?_, hm, hs, fun v S2 hv u H2 f2 ru h2 => ?_, fun xx S2 hx cls dd H2 f2 rx h2 => ?_⟩
    · simp only [RelDs]
      exact ⟨_, _, rfl, by simp only [RelD], RelDs.append (RelDs.mono ext _ _ rv) (rp _)⟩
    · obtain ⟨rfl, hv⟩ := hv
      simp only [RelD] at ru
      exact ⟨ru, kk _ S2 hv _ H2 ((f1.trans fm).trans f2) (by simp only [RelD]) h2⟩
    · exact xk xx σd S2 hx σ H2 cls dd ((f1.trans fm).trans f2) (rs.mono (((f1.trans fm).trans f2).ext hr)) rx h2
  · cases h
theorem sE_meth {q cn m : Str} {a : T} {ts : List T} {c : Cc} {W : WX} {ex : EX} {X : Cx} {e : Expr} (o : XOk defs gl k c W X) (h : chkE c (.meth q cn m a ts) e = true) (ia : ∀ {x : Expr}, chkE c a x = true → PE X x (tD X.K X.w W ex (wpE (cw defs gl k) ex a))) (ih : ∀ {es : List Expr}, chkEs c ts es = true → PA X es (tDA X.K X.w W ex (wpEs (cw defs gl k) ex ts))) : PE X e (tD X.K X.w W ex (wpE (cw defs gl k) ex (.meth q cn m a ts))) := by
  simp only [chkE] at h
  split at h
  · simp only [Bool.and_eq_true, decide_eq_true_eq] at h
    obtain ⟨⟨⟨⟨⟨⟨⟨h1, h2⟩, h3⟩, h4⟩, h5⟩, h6⟩, h7⟩, hca⟩ := h
    subst h1
    have hp := chkEs_plain h3
    have hl3 := chkEs_len h3
    obtain ⟨d, C, f, fd, ps, ed, cf, mt, bd, np, F⟩ := o.ms _ _ _ h7
    refine (pe_methD (E := L2.WE W) (ia h2) cf.cl mt F (o.rm hca) bd (fun σ => passAt o.tk σ) (ih h3) hp (nocall_base (by simpa using h4)) h6 h5 (fun z σ H Q qq => ?_)).weak fun σ H Q qq => ?_
    · subst z
      have : ts = [] := List.eq_nil_of_length_eq_zero hl3.symm
      subst this
      exact tDA_nil qq
    obtain ⟨σd, S, R, rs, hr, xk, f', kk⟩ := qq
    simp only [wpE] at f'
    refine ⟨σd, S, _, rs, hr, xk, f', fun x S1 hx v1 H1 f1 rv1 h1 => ?_⟩
    obtain ⟨ho, hx⟩ := hx
    unfold okSelf at ho
    split at ho
    · rename_i p
      split at ho
      · rename_i c' fs es
        simp only [Bool.and_eq_true, decide_eq_true_eq] at ho
        obtain ⟨rfl, hn⟩ := ho
        simp only [RelD] at rv1
        obtain ⟨C', dx, fv, cf', e1, r1⟩ := h1 p _ es
        have eC : C' = C := by
          have := cf'.ns.symm.trans cf.ns
          simpa using this
        subst eC
        refine ⟨p, dx, fv, rv1, e1, relf_none r1 (by simpa using hn), σd, S1, _, rs.mono (f1.ext hr), h1, xk.next f1, hx, fun ds S2 hd vs H2 f2 rv2 h2 => ?_⟩
        refine ⟨_, S2, R, _, sem_len hd ed, ?_, h2, hd, kk.next (f1.trans f2) fun _ _ z => z, fun xx S3 hxx cls dd H3 f3 rx h3 => xk xx σd S3 hxx σ H3 cls dd ((f1.trans f2).trans f3) (rs.mono (((f1.trans f2).trans f3).ext hr)) rx h3⟩
        simp only [RelDs]
        exact ⟨_, _, rfl, by simp only [RelD], rv2⟩
      · cases ho
    · cases ho
  · cases h
theorem sE_isc {a : T} {m : Str} {c : Cc} {W : WX} {ex : EX} {X : Cx} {e : Expr} (o : XOk defs gl k c W X) (h : chkE c (.isc a m) e = true) (ia : ∀ {x : Expr}, chkE c a x = true → PE X x (tD X.K X.w W ex (wpE (cw defs gl k) ex a))) : PE X e (tD X.K X.w W ex (wpE (cw defs gl k) ex (.isc a m))) := by
  simp only [chkE] at h
  split at h
  · simp only [Bool.and_eq_true, decide_eq_true_eq] at h
    obtain ⟨⟨⟨⟨⟨⟨h1, h2⟩, h3⟩, h4⟩, h5⟩, h6⟩, h7⟩ := h
    subst h1 h2
    obtain ⟨g1, g2, g3⟩ := o.gl_of h3
    obtain ⟨k1, k2, k3⟩ := o.gl_of h4
    obtain ⟨p, hp, e2⟩ := List.any_eq_true.mp h7
    obtain ⟨pq, pc, pn⟩ := p
    simp only [decide_eq_true_eq] at e2
    subst e2
    obtain ⟨d, C, f, fd, ps, dz, dvs, ed, cf, mc, _⟩ := o.mks pq _ pn (by simpa using hp)
    refine (pe_callB (call_isF cf) g1 (o.blt "isinstance" (by decide)) (bfn_boot (b := .isinst) rfl).1 (pa_cons (ia h5) (pa_cons (pe_glob (v := .ref C) k1 mc rfl k2) pa_nil) (plain_star h6)) g3 g2 (plain_star h6) rfl).weak fun σ H Q qq => ?_
    obtain ⟨σd, S, R, rs, hr, xk, f', kk⟩ := qq
    simp only [wpE] at f'
    refine ⟨σd, S, _, rs, hr, xk, f', fun x S1 hx v1 H1 f1 rv1 h1 => ?_⟩
    obtain ⟨ho, hx⟩ := hx
    unfold isIns at ho
    split at ho
    · rename_i p
      split at ho
      · rename_i c' fs es
        simp only [decide_eq_true_eq] at ho
        subst ho
        simp only [RelD] at rv1
        obtain ⟨C', dx, fv, cf', e1, r1⟩ := h1 p _ es
        have eC : C' = C := by
          have := cf'.ns.symm.trans cf.ns
          simpa using this
        subst eC
        subst rv1
        exact ⟨p, dx, fv, rfl, e1, (kk.next f1 fun _ _ z => z).same hx (by simp only [RelD]) h1⟩
      · cases ho
    · cases ho
  · cases h
theorem sE_eqo {q cn : Str} {a b : T} {c : Cc} {W : WX} {ex : EX} {X : Cx} {e : Expr} (o : XOk defs gl k c W X) (h : chkE c (.eqo q cn a b) e = true) (ia : ∀ {x : Expr}, chkE c a x = true → PE X x (tD X.K X.w W ex (wpE (cw defs gl k) ex a))) (ib : ∀ {x : Expr}, chkE c b x = true → PE X x (tD X.K X.w W ex (wpE (cw defs gl k) ex b))) : PE X e (tD X.K X.w W ex (wpE (cw defs gl k) ex (.eqo q cn a b))) := by
  simp only [chkE] at h
  split at h
  · simp only [Bool.and_eq_true, decide_eq_true_eq] at h
    obtain ⟨⟨⟨⟨h2, h3⟩, h4⟩, h7⟩, hca⟩ := h
    obtain ⟨d, C, f, fd, ps, ed, cf, mt, bd, np, F⟩ := o.ms _ _ _ h7
    refine (pe_eqO (E := L2.WE W) (ia h2) (ib h3) mt.at_ mt.fn F (o.rm hca) bd (fun σ => passAt o.tk σ) (plain_mark h4)).weak fun σ H Q qq => ?_
    obtain ⟨σd, S, R, rs, hr, xk, f', kk⟩ := qq
    simp only [wpE] at f'
    refine ⟨σd, S, _, rs, hr, xk, f', fun x S1 hx v1 H1 f1 rv1 h1 => ?_⟩
    refine ⟨σd, S1, _, rs.mono (f1.ext hr), h1, xk.next f1, hx, fun y S2 hy v2 H2 f2 rv2 h2 => ?_⟩
    obtain ⟨ho, ho', hy⟩ := hy
    have inst : ∀ {z : D} {v : V}, isIns cn S2 z = true → RelD X.K X.w H2 z v → ∃ p dx fv, v = .ref p ∧ z = .ref p ∧ H2 p = some (.ins C dx fv) := fun {z v} hz rz => by
      unfold isIns at hz
      split at hz
      · rename_i p
        split at hz
        · rename_i c' fs es
          simp only [decide_eq_true_eq] at hz
          subst hz
          simp only [RelD] at rz
          obtain ⟨C', dx, fv, cf', e1, r1⟩ := h2 p _ es
          have eC : C' = C := by
            have := cf'.ns.symm.trans cf.ns
            simpa using this
          subst eC
          exact ⟨p, dx, fv, rz, rfl, e1⟩
        · cases hz
      · cases hz
    obtain ⟨p, dx, fv, rfl, rfl, e1⟩ := inst ho (rv1.mono (f2.ext h1))
    obtain ⟨p', dx', fv', rfl, rfl, e2⟩ := inst ho' rv2
    refine ⟨p, p', dx, dx', fv, fv', rfl, rfl, e1, e2, ?_⟩
    refine ⟨_, S2, _, _, sem_len hy ed, ?_, h2, hy, fun d S3 hd v H3 f3 rv3 h3 => ?_, fun xx S3 hxx cls dd H3 f3 rx h3 => xk xx σd S3 hxx σ H3 cls dd ((f1.trans f2).trans f3) (rs.mono (((f1.trans f2).trans f3).ext hr)) rx h3⟩
    · simp only [RelDs, RelD]
      exact ⟨_, _, rfl, rfl, _, _, rfl, rfl, rfl⟩
    · obtain ⟨kb, rfl, hR⟩ := hd
      have : v = .bl kb := by simpa only [RelD] using rv3
      exact ⟨kb, this, (kk.next ((f1.trans f2).trans f3) fun _ _ z => z).same hR rv3 h3⟩
  · cases h
mutual
theorem sE : ∀ (t : T) {c : Cc} {W : WX} {ex : EX} {X : Cx} {e : Expr}, XOk defs gl k c W X → chkE c t e = true → PE X e (tD X.K X.w W ex (wpE (cw defs gl k) ex t))
  | .var i, c, W, ex, X, e, o, h => sE_var o h
  | .int i, c, W, ex, X, e, o, h => by
    simp only [chkE] at h
    split at h
    · simp only [decide_eq_true_eq] at h
      subst h
      exact pe_int.weak fun σ H Q q => tD_c (d := .int i) (fun _ => by simp only [RelD]) (by simpa only [wpE] using q)
    · cases h
  | .bl i, c, W, ex, X, e, o, h => by
    simp only [chkE] at h
    split at h
    · simp only [decide_eq_true_eq] at h
      subst h
      exact pe_bl.weak fun σ H Q q => tD_c (d := .bl i) (fun _ => by simp only [RelD]) (by simpa only [wpE] using q)
    · cases h
  | .non, c, W, ex, X, e, o, h => by
    simp only [chkE] at h
    split at h
    · exact pe_non.weak fun σ H Q q => tD_c (d := .non) (fun _ => by simp only [RelD]) (by simpa only [wpE] using q)
    · cases h
  | .str i, c, W, ex, X, e, o, h => by
    simp only [chkE] at h
    split at h
    · simp only [decide_eq_true_eq] at h
      subst h
      exact pe_str.weak fun σ H Q q => tD_c (d := .str i) (fun _ => by simp only [RelD]) (by simpa only [wpE] using q)
    · cases h
  | .glob x, c, W, ex, X, e, o, h => by
    simp only [chkE] at h
    split at h
    · simp only [Bool.and_eq_true, decide_eq_true_eq] at h
      obtain ⟨rfl, h2⟩ := h
      obtain ⟨g1, g2, g3⟩ := o.gl_of h2
      cases eg : gl x with
      | none => exact ⟨fun pins s σ H Q I q => by
          obtain ⟨σd, S, R, rs, hr, xk, f, kk⟩ := q
          simp only [wpE, eg] at f⟩
      | some d =>
        obtain ⟨u, v, m, r, rd⟩ := o.gls x d eg
        refine (pe_glob g1 m r g2).weak fun σ H Q q => tD_c (d := d) rd (by simpa only [wpE, eg] using q)
    · cases h
  | .bty x, c, W, ex, X, e, o, h => by
    simp only [chkE] at h
    split at h
    · simp only [Bool.and_eq_true, decide_eq_true_eq] at h
      obtain ⟨⟨rfl, h2⟩, h3⟩ := h
      obtain ⟨g1, g2, g3⟩ := o.gl_of h2
      obtain ⟨b1, b2⟩ := tyNames_boot h3
      refine (pe_bltn (v := .ty x) g1 (o.blt x b2) b1 rfl g3 g2).weak fun σ H Q q => tD_c (d := .ty x) (fun _ => by simp only [RelD]) (by simpa only [wpE] using q)
    · cases h
  | .bin op a b, c, W, ex, X, e, o, h => by
    simp only [chkE] at h
    split at h
    · simp only [Bool.and_eq_true, decide_eq_true_eq] at h
      obtain ⟨⟨rfl, h2⟩, h3⟩ := h
      exact (pe_op (bin_ok op) (sE a (ex := ex) o h2) (sE b (ex := ex) o h3)).weak fun σ H Q q => tD_op (by simpa only [wpE] using q)
    · cases h
  | .neg a, c, W, ex, X, e, o, h => by
    simp only [chkE] at h
    split at h
    · exact (pe_un un_neg_ok (sE a (ex := ex) o h)).weak fun σ H Q q => tD_un (by simp only [wpE] at q; exact q)
    · cases h
  | .cmp op a b, c, W, ex, X, e, o, h => by
    simp only [chkE] at h
    split at h
    · simp only [Bool.and_eq_true, decide_eq_true_eq] at h
      obtain ⟨⟨⟨rfl, h2⟩, h3⟩, h4⟩ := h
      exact (pe_cmpR (cmp_ok o.hu op) (sE a (ex := ex) o h2) (sE b (ex := ex) o h3) (plain_mark h4)).weak fun σ H Q q => tD_op (by simpa only [wpE] using q)
    · cases h
  | .chain op op2 a b d, c, W, ex, X, e, o, h => by
    simp only [chkE] at h
    split at h
    · simp only [Bool.and_eq_true, decide_eq_true_eq] at h
      obtain ⟨⟨⟨⟨⟨⟨rfl, rfl⟩, h2⟩, h3⟩, h4⟩, h5⟩, h6⟩ := h
      refine (pe_chain (cmp_ok o.hu op) (cmp_ok o.hu op2) (sE a (ex := ex) o h2) (sE b (ex := ex) o h3) (sE d (ex := ex) o h4) (show behindInMarks op2 _ = false from plain_mark h6)).weak fun σ H Q q => ?_
      obtain ⟨σd, S, R, rs, hr, xk, f, kk⟩ := q
      simp only [wpE] at f
      refine ⟨σd, S, _, rs, hr, xk, f, fun x S1 hx v1 H1 f1 rv1 h1 => ⟨σd, S1, _, rs.mono (f1.ext hr), h1, xk.next f1, hx, fun y S2 hy v2 H2 f2 rv2 h2' =>
        ⟨x, y, S2, _, RelD.mono (f2.ext h1) _ _ rv1, rv2, h2', hy, fun z S3 hz v3 H3 f3 rv3 h3' => ?_⟩⟩⟩
      split at hz
      · rename_i b
        simp only [RelD] at rv3
        subst rv3
        refine ⟨b, rfl, ?_⟩
        cases b with
        | false =>
          rw [if_neg Bool.false_ne_true] at hz ⊢
          exact kk _ S3 hz _ H3 ((f1.trans f2).trans f3) (by simp only [RelD]) h3'
        | true =>
          rw [if_pos rfl] at hz ⊢
          refine ⟨σd, S3, _, rs.mono (((f1.trans f2).trans f3).ext hr), h3', xk.next ((f1.trans f2).trans f3), hz, fun u S4 hu v4 H4 f4 rv4 h4' => ?_⟩
          exact ⟨y, u, S4, R, RelD.mono (f4.ext h3') _ _ (RelD.mono (f3.ext h2') _ _ rv2), rv4, h4', hu, kk.next (((f1.trans f2).trans f3).trans f4) fun _ _ z => z⟩
      · exact hz.elim
    · cases h
  | .bop op ts, c, W, ex, X, e, o, h => by
    simp only [chkE] at h
    split at h
    · simp only [Bool.and_eq_true, decide_eq_true_eq] at h
      obtain ⟨rfl, h2⟩ := h
      simpa only [wpE] using sB op ts (ex := ex) o h2
    · cases h
  | .nt a, c, W, ex, X, e, o, h => by
    simp only [chkE] at h
    split at h
    · refine (pe_notT (sE a (ex := ex) o h)).weak fun σ H Q q => ?_
      obtain ⟨σd, S, R, rs, hr, xk, f, kk⟩ := q
      simp only [wpE] at f
      refine ⟨σd, S, _, rs, hr, xk, f, fun d S1 hd v1 H1 f1 rv1 h1 => ?_⟩
      split at hd
      · rename_i b eb
        exact ⟨b, tru_of h1 rv1 eb, kk _ S1 hd _ H1 f1 (by simp only [RelD]) h1⟩
      · exact hd.elim
    · cases h
  | .ite d a b, c, W, ex, X, e, o, h => by
    simp only [chkE] at h
    split at h
    · simp only [Bool.and_eq_true] at h
      obtain ⟨⟨h1, h2⟩, h3⟩ := h
      refine (pe_ifExp (sT d (ex := ex) o h1) (sE a (ex := ex) o h2) (sE b (ex := ex) o h3)).weak fun σ H Q q => ?_
      obtain ⟨σd, S, R, rs, hr, xk, f, kk⟩ := q
      simp only [wpE] at f
      refine ⟨σd, S, _, rs, hr, xk, f, fun bb S1 hb H1 f1 h1' => ?_⟩
      cases bb with
      | true =>
        rw [if_pos rfl] at hb ⊢
        exact ⟨σd, S1, R, rs.mono (f1.ext hr), h1', xk.next f1, hb, kk.next f1 fun _ _ z => z⟩
      | false =>
        rw [if_neg Bool.false_ne_true] at hb ⊢
        exact ⟨σd, S1, R, rs.mono (f1.ext hr), h1', xk.next f1, hb, kk.next f1 fun _ _ z => z⟩
    · cases h
  | .tup ts, c, W, ex, X, e, o, h => by
    simp only [chkE] at h
    split at h
    · refine (pe_tup (sEs ts (ex := ex) o h)).weak fun σ H Q q => ?_
      obtain ⟨σd, S, R, rs, hr, xk, f, kk⟩ := q
      simp only [wpE] at f
      exact ⟨σd, S, _, rs, hr, xk, f, fun ds S1 hd vs H1 f1 rv h1 => ⟨by rw [← rv.length]; exact Nat.le_trans hd.1 (by decide), fun p np => (kk.next f1 fun _ _ z => z).tup hd.2 h1 rv np⟩⟩
    · cases h
  | .lst ts, c, W, ex, X, e, o, h => by
    simp only [chkE] at h
    split at h
    · refine (pe_lst (sEs ts (ex := ex) o h)).weak fun σ H Q q => ?_
      obtain ⟨σd, S, R, rs, hr, xk, f, kk⟩ := q
      simp only [wpE] at f
      exact ⟨σd, S, _, rs, hr, xk, f, fun ds S1 hd vs H1 f1 rv h1 => ⟨by rw [← rv.length]; exact Nat.le_trans hd.1 (by decide), fun p np => (kk.next f1 fun _ _ z => z).lst (hd.2 p (h1.fresh np)) h1 rv np⟩⟩
    · cases h
  | .sub a i, c, W, ex, X, e, o, h => by
    exact sE_sub o h (fun h' => sE a (ex := ex) o h') fun h' => sE i (ex := ex) o h'
  | .slice a lo hi, c, W, ex, X, e, o, h => by
    simp only [chkE] at h
    split at h
    · simp only [Bool.and_eq_true] at h
      obtain ⟨⟨h1, h2⟩, h3⟩ := h
      refine (pe_slice slice_ok (sE a (ex := ex) o h1) (sO lo (ex := ex) o h2) (sO hi (ex := ex) o h3)).weak fun σ H Q q => ?_
      obtain ⟨σd, S, R, rs, hr, xk, f, kk⟩ := q
      simp only [wpE] at f
      exact ⟨σd, S, _, rs, hr, xk, f, fun x S1 hx v1 H1 f1 rv1 h1 => ⟨σd, S1, _, rs.mono (f1.ext hr), h1, xk.next f1, hx, fun l S2 hl H2 f2 h2 => ⟨σd, S2, _, rs.mono ((f1.trans f2).ext hr), h2, xk.next (f1.trans f2), hl, fun u S3 hu H3 f3 h3 =>
        ⟨x, S3, R, RelD.mono ((f2.trans f3).ext h1) _ _ rv1, h3, hu, kk.next ((f1.trans f2).trans f3) fun _ _ z => z⟩⟩⟩⟩
    · cases h
  | .call f ts, c, W, ex, X, e, o, h => sE_call o h fun h' => sEs ts (ex := ex) o h'
  | .callK f ts ks us, c, W, ex, X, e, o, h => sE_callK o h (fun h' => sEs ts (ex := ex) o h') fun h' => sKw us (ex := ex) o h'
  | .blt b ts, c, W, ex, X, e, o, h => sE_blt o h fun h' => sEs ts (ex := ex) o h'
  | .new q cn ts, c, W, ex, X, e, o, h => sE_new o h fun h' => sEs ts (ex := ex) o h'
  | .fld a f, c, W, ex, X, e, o, h => by
    simp only [chkE] at h
    split at h
    · simp only [Bool.and_eq_true, decide_eq_true_eq] at h
      obtain ⟨⟨⟨h1, h2⟩, h3⟩, h4⟩ := h
      subst h1
      refine (pe_fld (sE a (ex := ex) o h2) (nocall_base (by simpa using h3))).weak fun σ H Q q => ?_
      obtain ⟨σd, S, R, rs, hr, xk, f', kk⟩ := q
      simp only [wpE] at f'
      refine ⟨σd, S, _, rs, hr, xk, f', fun d S1 hx v1 H1 f1 rv1 h1 => ?_⟩
      unfold wFld at hx
      split at hx
      · rename_i p
        split at hx
        · rename_i cn fs es
          split at hx
          · rename_i v el
            simp only [RelD] at rv1
            obtain ⟨C, dx, fv, cf, e1, r1⟩ := h1 p _ es
            obtain ⟨u, l1, l2⟩ := relf_lookup r1 el
            exact ⟨p, C, dx, fv, u, rv1, e1, cf.cl, cf.na _ (by simpa using h4), l1, (kk.next f1 fun _ _ z => z).same hx l2 h1⟩
          · exact hx.elim
        · exact hx.elim
      · exact hx.elim
    · cases h
  | .meth q cn m a ts, c, W, ex, X, e, o, h => sE_meth o h (fun h' => sE a (ex := ex) o h') fun h' => sEs ts (ex := ex) o h'
  | .eqo q cn a b, c, W, ex, X, e, o, h => sE_eqo o h (fun h' => sE a (ex := ex) o h') fun h' => sE b (ex := ex) o h'
  | .isc a m, c, W, ex, X, e, o, h => sE_isc o h fun h' => sE a (ex := ex) o h'
  | .isx a m, c, W, ex, X, e, o, h => by
    simp only [chkE] at h
    split at h
    · simp only [Bool.and_eq_true, decide_eq_true_eq] at h
      obtain ⟨⟨⟨⟨⟨⟨⟨h1, h2⟩, h3⟩, h4⟩, h5⟩, h6⟩, h7⟩, h8⟩ := h
      subst h1 h2
      obtain ⟨g1, g2, g3⟩ := o.gl_of h3
      obtain ⟨k1, k2, k3⟩ := o.gl_of h4
      obtain ⟨M, m1, m2⟩ := o.xs _ h8
      rename_i x _ _ y _ _
      refine (pe_callB (call_isx (by simpa using h7) m2) g1 (o.blt "isinstance" (by decide)) (bfn_boot (b := .isinst) rfl).1 (pa_cons (sE a (ex := ex) o h5) (pa_cons (pe_glob (v := .ref M) k1 m1 rfl k2) pa_nil) (plain_star h6)) g3 g2 (plain_star h6) rfl).weak fun σ H Q q => ?_
      obtain ⟨σd, S, R, rs, hr, xk, f, kk⟩ := q
      simp only [wpE] at f
      refine ⟨σd, S, _, rs, hr, xk, f, fun d S1 hx v1 H1 f1 rv1 h1 => ?_⟩
      unfold wIsx at hx
      split at hx
      · simp only [RelD] at rv1
        obtain ⟨a', oe, C, dx, vs, rfl, xc, q1, q2, q3, q4, q5, q6⟩ := rv1
        exact ⟨_, C, a', oe, dx, xc, rfl, q1, q2, q3, q4, ⟨_, q5⟩, (kk.next f1 fun _ _ z => z).same hx (by simp only [RelD]) h1⟩
      · exact hx.elim
    · cases h
  | .atr a f, c, W, ex, X, e, o, h => by
    simp only [chkE] at h
    split at h
    · simp only [Bool.and_eq_true, decide_eq_true_eq] at h
      obtain ⟨⟨⟨h1, h2⟩, h3⟩, h4⟩ := h
      subst h1
      refine (pe_atr (sE a (ex := ex) o h2) (by simpa using h4) (nocall_base (by simpa using h3))).weak fun σ H Q q => ?_
      obtain ⟨σd, S, R, rs, hr, xk, f, kk⟩ := q
      simp only [wpE] at f
      refine ⟨σd, S, _, rs, hr, xk, f, fun d S1 hx v1 H1 f1 rv1 h1 => ?_⟩
      unfold wAtr at hx
      split at hx
      · rename_i n ns ds
        simp only [RelD] at rv1
        obtain ⟨a', oe, C, dx, vs, rfl, xc, q1, q2, q3, q4, q5, q6⟩ := rv1
        split at hx
        · rename_i v el
          obtain ⟨u, w1, w2⟩ := lookup_rel q6 el
          exact ⟨a', oe, dx, _, C, _, u, rfl, xc, q1, q2, q3, q4, q5, w1, (kk.next f1 fun _ _ z => z).same hx w2 h1⟩
        · exact hx.elim
      · exact hx.elim
    · cases h
  | .back a, c, W, ex, X, e, o, h => by
    simp only [chkE] at h
    split at h
    · refine (pe_revA (sE a (ex := ex) o h)).weak fun σ H Q q => ?_
      obtain ⟨σd, S, R, rs, hr, xk, f, kk⟩ := q
      simp only [wpE] at f
      refine ⟨σd, S, _, rs, hr, xk, f, fun x S1 hx v1 H1 f1 rv1 h1 => ?_⟩
      unfold wBack at hx
      split at hx
      · simp only [RelD] at rv1
        subst rv1
        split at hx
        · rename_i e1
          obtain ⟨vs, q1, q2⟩ := h1.sql e1
          exact ⟨_, vs, rfl, .inl ⟨q1, fun p np => (kk.next f1 fun _ _ z => z).lst (hx p (h1.fresh np)) h1 (relds_rev2 q2) np⟩⟩
        · exact hx.elim
      · simp only [RelD] at rv1
        obtain ⟨a', vs, rfl, q1, q2⟩ := rv1
        exact ⟨_, vs, rfl, .inr ⟨q1, fun p np => (kk.next f1 fun _ _ z => z).tup hx h1 (relds_rev2 q2) np⟩⟩
      · exact hx.elim
    · cases h
  | .lset a, c, W, ex, X, e, o, h => by
    simp only [chkE] at h
    split at h
    · simp only [Bool.and_eq_true, decide_eq_true_eq] at h
      obtain ⟨⟨⟨⟨⟨⟨h1, h2⟩, h3⟩, h4⟩, h5⟩, h6⟩, hca⟩ := h
      subst h1 h2
      obtain ⟨g1, _, _⟩ := o.gl_of h3
      obtain ⟨g2, _, _⟩ := o.gl_of h4
      refine (pe_lenSetT g1 (o.blt "len" (by decide)) g2 (o.blt "set" (by decide)) (sE a (ex := ex) o h5) (o.calm hca) (plain_star h6)).weak fun σ H Q q => ?_
      obtain ⟨σd, S, R, rs, hr, xk, f, kk⟩ := q
      simp only [wpE] at f
      refine ⟨σd, S, _, rs, hr, xk, f, fun x S1 hx v1 H1 f1 rv1 h1 => ?_⟩
      unfold wLset at hx
      split at hx
      · simp only [RelD] at rv1
        obtain ⟨a', vs, rfl, q1, q2⟩ := rv1
        split at hx
        · rename_i ns en
          have ev := ints_of q2 en
          subst ev
          exact ⟨a', ns, rfl, q1, hx.1, fun out nd hm => (kk.next f1 fun _ _ z => z).same (hx.2 out nd hm) (by simp only [RelD]) h1⟩
        · exact hx.elim
      · exact hx.elim
    · cases h
  | .lrng a, c, W, ex, X, e, o, h => by
    simp only [chkE] at h
    split at h
    · simp only [Bool.and_eq_true, decide_eq_true_eq] at h
      obtain ⟨⟨⟨⟨⟨⟨h1, h2⟩, h3⟩, h4⟩, h5⟩, h6⟩, hca⟩ := h
      subst h1 h2
      obtain ⟨g1, _, _⟩ := o.gl_of h3
      obtain ⟨g2, _, _⟩ := o.gl_of h4
      refine (pe_listRg (o.calm hca) g1 (o.blt "list" (by decide)) (prg_1 g2 (o.blt "range" (by decide)) (sE a (ex := ex) o h5) (plain_star h6)) rfl).weak fun σ H Q q => ?_
      obtain ⟨σd, S, R, rs, hr, xk, f, kk⟩ := q
      simp only [wpE] at f
      refine ⟨σd, S, _, rs, hr, xk, f, fun x S1 hx v1 H1 f1 rv1 h1 => ?_⟩
      unfold wLrng at hx
      split at hx
      · rename_i n
        simp only [RelD] at rv1
        subst rv1
        refine ⟨n, rfl, ⟨by omega, by omega, by omega, by omega, by omega⟩, fun p np => ?_⟩
        have e : rgV 0 n = ((List.range n.toNat).map fun i : Nat => (i : Int)).map V.int := by
          unfold rgV
          rw [List.map_map, Int.sub_zero]
          refine List.map_congr_left fun i _ => ?_
          simp
        rw [e]
        refine (kk.next f1 fun _ _ z => z).lst (hx.2.2 p (h1.fresh np)) h1 ?_ np
        have e2 : ((List.range n.toNat).map fun i => D.int (i : Nat)) = ((List.range n.toNat).map fun i : Nat => (i : Int)).map D.int := by rw [List.map_map]; rfl
        rw [e2]
        exact RelDs.of_ints _
      · exact hx.elim
    · cases h
  | .lrev a, c, W, ex, X, e, o, h => by
    simp only [chkE] at h
    split at h
    · simp only [Bool.and_eq_true, decide_eq_true_eq] at h
      obtain ⟨⟨⟨⟨⟨⟨h1, h2⟩, h3⟩, h4⟩, h5⟩, h6⟩, hca⟩ := h
      subst h1 h2
      obtain ⟨g1, _, _⟩ := o.gl_of h3
      obtain ⟨g2, _, _⟩ := o.gl_of h4
      refine (pe_listRev (o.calm hca) g1 (o.blt "list" (by decide)) g2 (o.blt "reversed" (by decide)) (sE a (ex := ex) o h5) (plain_star h6)).weak fun σ H Q q => ?_
      obtain ⟨σd, S, R, rs, hr, xk, f, kk⟩ := q
      simp only [wpE] at f
      refine ⟨σd, S, _, rs, hr, xk, f, fun x S1 hx v1 H1 f1 rv1 h1 => ?_⟩
      unfold wLrev at hx
      split at hx
      · rename_i xs e
        obtain ⟨a', vs, rfl, q1, q2, _⟩ := items_of h1 e rv1
        exact ⟨a', vs, rfl, q2, fun p np => (kk.next f1 fun _ _ z => z).lst (hx p (h1.fresh np)) h1 (relds_rev2 q1) np⟩
      · exact hx.elim
    · cases h
  | .lzip a b, c, W, ex, X, e, o, h => by
    simp only [chkE] at h
    split at h
    · simp only [Bool.and_eq_true, decide_eq_true_eq] at h
      obtain ⟨⟨⟨⟨⟨⟨⟨⟨h1, h2⟩, h3⟩, h4⟩, h5⟩, h6⟩, h7⟩, h8⟩, hca⟩ := h
      subst h1 h2
      obtain ⟨g1, _, _⟩ := o.gl_of h3
      obtain ⟨g2, _, _⟩ := o.gl_of h4
      refine (pe_listZip (o.calm hca) g1 (o.blt "list" (by decide)) g2 (o.blt "zip" (by decide)) (pa_cons (sE a (ex := ex) o h5) (pa_cons (sE b (ex := ex) o h7) pa_nil (plain_star h8)) (plain_star h6)) (plain_star h6) (by rw [plain_star h8]; rfl)).weak fun σ H Q q => ?_
      obtain ⟨σd, S, R, rs, hr, xk, f, kk⟩ := q
      simp only [wpE] at f
      refine ⟨σd, S, _, rs, hr, xk, f, fun d S1 hd v H1 f1 rv h1 => ⟨σd, S1, _, rs.mono (f1.ext hr), h1, xk.next f1, hd, fun d2 S2 hd2 v2 H2 f2 rv2 h2 => ?_⟩⟩
      have rv' := RelD.mono (f2.ext h1) _ _ rv
      unfold wLzip at hd2
      split at hd2
      · simp only [RelD] at rv' rv2
        obtain ⟨a, vs, rfl, t1, r1⟩ := rv'
        obtain ⟨b, us, rfl, t2, r2⟩ := rv2
        exact ⟨a, b, vs, us, rfl, t1, t2, fun q H' us np up e hl hat => zip_kont (kk.next (f1.trans f2) fun _ _ z => z) h2 r1 r2 np up e hl hat (hd2 q (h2.fresh np))⟩
      · exact hd2.elim
    · cases h
  | .mth m a ts, c, W, ex, X, e, o, h => by
    simp only [chkE] at h
    split at h
    · simp only [Bool.and_eq_true, decide_eq_true_eq] at h
      obtain ⟨⟨⟨⟨⟨rfl, h1⟩, h2⟩, h3⟩, h4⟩, h5⟩ := h
      have hb := fun (x : Str) (env : Env) (wh : Sem Value) => nocall_base (x := x) (env := env) (wh := wh) (by simpa using h3)
      rename_i o' apos es cpos
      cases es with
      | nil =>
        have e0 : ts = [] := List.eq_nil_of_length_eq_zero (chkEs_len h2).symm
        subst e0
        refine (pe_bm0 m.plain m.slot m.typ (mth_ok o.hu1 m) (sE a (ex := ex) o h1) (hb _ _ _) h4).weak fun σ H Q q => ?_
        obtain ⟨σd, S, R, rs, hr, xk, f, kk⟩ := q
        simp only [wpE, wpEs] at f
        exact ⟨σd, S, _, rs, hr, xk, f, fun x S1 hx v1 H1 f1 rv1 h1 => ⟨recv_ok h1 rv1 hx.1, x, [], S1, R, rv1, relds_nil, h1, hx.2, kk.next f1 fun _ _ z => z⟩⟩
      | cons e0 es =>
        have hp := chkEs_plain h2
        have hp' := hp
        rw [List.all_cons, Bool.and_eq_true] at hp'
        have few : ((backTo cpos (starEach (e0 :: es) X.env)).all (fun x => !x.1) && (backToKw cpos (keywordEach [] X.env)).all (fun x => x.1.isSome) && decide ((e0 :: es).length + ([] : List Keyword).length + (if ([] : List Keyword).isEmpty then 0 else 1) < 30)) = true := by
          rw [star_not hp]
          show (true && true && decide (_ + 0 + 0 < 30)) = true
          simpa using h5
        refine (pe_bm m.plain m.slot m.typ (mth_ok o.hu1 m) (sE a (ex := ex) o h1) (sEs ts (ex := ex) o h2) (hb _ _ _) few h4 (plain_star hp'.1) (star_all hp'.2)).weak fun σ H Q q => ?_
        obtain ⟨σd, S, R, rs, hr, xk, f, kk⟩ := q
        simp only [wpE] at f
        exact ⟨σd, S, _, rs, hr, xk, f, fun x S1 hx v1 H1 f1 rv1 h1 => ⟨recv_ok h1 rv1 hx.1, σd, S1, _, rs.mono (f1.ext hr), h1, xk.next f1, hx.2, fun ds S2 hd vs H2 f2 rv2 h2 =>
          ⟨x, ds, S2, R, RelD.mono (f2.ext h1) _ _ rv1, rv2, h2, hd, kk.next (f1.trans f2) fun _ _ z => z⟩⟩⟩
    · cases h
  | .lc g it ifs own d, c, W, ex, X, e, o, h => by
    simp only [chkE] at h
    split at h
    · simp only [Bool.and_eq_true] at h
      obtain ⟨⟨⟨⟨⟨⟨⟨h1, h2⟩, h3⟩, h4⟩, h5⟩, h6⟩, h7⟩, hca⟩ := h
      rename_i scope _
      have bo : BlkOk X.N X.env.scope scope own := by rw [o.hN, o.hsc]; exact blkOk_by h2
      refine (pe_lc (g := gV X.K g) (tt := tDT X.K X.w W0 ex0 (wpTs (cw defs gl k) ifs)) (te := tD X.K X.w W0 ex0 (wpE (cw defs gl k) ex0 d)) (o.calm hca) (by rw [o.hN]; exact o.nd) (sI it (ex := ex) o h1) bo
        (fun s H C cl fp => sG (o.blk s H scope C cl fp) g _ h3) (fun s H C cl fp => sTs ifs (o.blk s H scope C cl fp) h5) (fun s H C cl fp => sE d (o.blk s H scope C cl fp) h6) (plain_fold h7)).weak fun σ H Q q => ?_
      obtain ⟨σd, S, R, rs, hr, xk, f, kk⟩ := q
      simp only [wpE] at f
      exact ⟨σd, S, _, rs, hr, xk, f, fun ds G S1 hd J H1 f1 h1 wk Da nD => lc_of (rs.mono (f1.ext hr)) h1 wk h4 nD hd (kk.next f1 fun _ _ z => z)⟩
    · cases h
  | .dct ks vs, c, W, ex, X, e, o, h => by
    simp only [chkE] at h
    split at h
    · simp only [Bool.and_eq_true, decide_eq_true_eq] at h
      obtain ⟨⟨⟨⟨h1, h2⟩, h3⟩, h4⟩, h5⟩ := h
      rename_i kz vz pos
      have hk := chkKs_all h1
      refine (pe_disp (sP ks vs (ex := ex) (pos := pos) o (by rw [hk.2, h3]; exact chkEs_len h2) h1 h2) hk.1 h3 (by intro z; rw [z] at h4; cases h4) h5).weak fun σ H Q q => ?_
      obtain ⟨σd, S, R, rs, hr, xk, f, kk⟩ := q
      simp only [wpE] at f
      intro p np
      have hn : ks.length = kz.length := hk.2
      refine pairs_of ks vs (by rw [hk.2, h3]; exact chkEs_len h2) (rs.mono (ext_new np)) (hr.free np) (xk.next (Fm.tup hr np)) f fun ds S1 hd us H1 f1 rv h1 => ?_
      obtain ⟨e1, e2⟩ := f1 p _ upd_same (hr.fresh np)
      have lu : us.length = ks.length := by rw [← rv.length]; exact hd.1
      refine ⟨e1, (ks.zip us).map fun z => (Sum.inr z.1, z.2), ?_, ?_, ?_⟩
      · simp only [List.map_map]
        rfl
      · rw [List.length_map, List.length_zip, lu, hn]
        omega
      · refine kk _ _ (hd.2 p e2) _ _ ?_ (by simp only [RelD]) ?_
        · intro a oo ea qa
          have ne : a ≠ p := ne_of_none ea np
          obtain ⟨q1, q2⟩ := f1 a oo (by rw [upd_ne ne]; exact ea) qa
          exact ⟨by rw [upd_ne ne]; exact q1, by rw [updS_ne ne]; exact q2⟩
        · intro a ob qa
          have exq : Ext H1 (upd H1 p (.dK (mergeK [] ((ks.zip us).map fun z => (Sum.inr z.1, z.2))))) := ext_put e1 (fun _ z => nomatch z) (fun _ _ z => nomatch z) fun _ z => nomatch z
          by_cases ne : a = p
          · subst ne
            rw [updS_same] at qa
            cases qa
            refine ⟨_, upd_same, RelKV.mono exq _ _ ?_⟩
            exact relkv_fold rv (by simp only [RelKV])
          · rw [updS_ne ne] at qa
            exact (h1 a ob qa).mono exq (upd_ne ne)
    · cases h
theorem sT : ∀ (t : T) {c : Cc} {W : WX} {ex : EX} {X : Cx} {e : Expr}, XOk defs gl k c W X → chkE c t e = true → PT X e (tDT X.K X.w W ex (wpT (cw defs gl k) ex t))
  | .bop op ts, c, W, ex, X, e, o, h => by
    simp only [chkE] at h
    split at h
    · simp only [Bool.and_eq_true, decide_eq_true_eq] at h
      obtain ⟨rfl, h2⟩ := h
      simpa only [wpT] using (sTB op ts (ex := ex) o h2).pt
    · cases h
  | .nt a, c, W, ex, X, e, o, h => by
    simp only [chkE] at h
    split at h
    · refine (pt_not (sT a (ex := ex) o h)).weak fun σ H Q q => ?_
      obtain ⟨σd, S, R, rs, hr, xk, f, kk⟩ := q
      simp only [wpT] at f
      exact ⟨σd, S, _, rs, hr, xk, f, fun b S1 hb H1 f1 h1 => kk _ S1 hb H1 f1 h1⟩
    · cases h
  | .var i, c, W, ex, X, e, o, h => by
    have he : ifV e = true := by
      simp only [chkE] at h
      split at h
      · rfl
      · cases h
    refine (pt_truth (sE_var (ex := ex) o h) (plain_true he)).weak fun σ H Q q => tD_tru ?_
    obtain ⟨σd, S, R, rs, hr, xk, f, kk⟩ := q
    refine ⟨σd, S, R, rs, hr, xk, ?_, kk⟩
    simp only [wpT] at f
    simp only [wpE]
    split at f
    · exact f
    · exact f.elim
  | .cmp op a b, c, W, ex, X, e, o, h => by
    simp only [chkE] at h
    split at h
    · simp only [Bool.and_eq_true, decide_eq_true_eq] at h
      obtain ⟨⟨⟨rfl, h2⟩, h3⟩, h4⟩ := h
      refine (pt_cmpR (cmp_ok o.hu op) (sE a (ex := ex) o h2) (sE b (ex := ex) o h3) (plain_mark h4)).weak fun σ H Q q => tD_op ?_
      obtain ⟨σd, S, R, rs, hr, xk, f, kk⟩ := q
      simp only [wpT] at f
      refine ⟨σd, S, _, rs, hr, xk, f, fun d S1 hd v H1 f1 rv h1 => ?_⟩
      split at hd
      · simp only [RelD] at rv
        exact ⟨_, rv, kk _ S1 hd H1 f1 h1⟩
      · exact hd.elim
    · cases h
  | .chain op op2 a b d, c, W, ex, X, e, o, h => by
    simp only [chkE] at h
    split at h
    · simp only [Bool.and_eq_true, decide_eq_true_eq] at h
      obtain ⟨⟨⟨⟨⟨⟨rfl, rfl⟩, h2⟩, h3⟩, h4⟩, h5⟩, h6⟩ := h
      refine (pt_chain (cmp_ok o.hu op) (cmp_ok o.hu op2) (sE a (ex := ex) o h2) (sE b (ex := ex) o h3) (sE d (ex := ex) o h4) (show behindInMarks op2 _ = false from plain_mark h6)).weak fun σ H Q q => ?_
      obtain ⟨σd, S, R, rs, hr, xk, f, kk⟩ := q
      simp only [wpT] at f
      refine ⟨σd, S, _, rs, hr, xk, f, fun x S1 hx v1 H1 f1 rv1 h1 => ⟨σd, S1, _, rs.mono (f1.ext hr), h1, xk.next f1, hx, fun y S2 hy v2 H2 f2 rv2 h2' =>
        ⟨x, y, S2, _, RelD.mono (f2.ext h1) _ _ rv1, rv2, h2', hy, fun z S3 hz v3 H3 f3 rv3 h3' => ?_⟩⟩⟩
      split at hz
      · rename_i b
        simp only [RelD] at rv3
        subst rv3
        refine ⟨b, rfl, ?_⟩
        cases b with
        | false =>
          rw [if_neg Bool.false_ne_true] at hz ⊢
          exact ⟨false, rfl, kk _ S3 hz H3 ((f1.trans f2).trans f3) h3'⟩
        | true =>
          rw [if_pos rfl] at hz ⊢
          refine ⟨σd, S3, _, rs.mono (((f1.trans f2).trans f3).ext hr), h3', xk.next ((f1.trans f2).trans f3), hz, fun u S4 hu v4 H4 f4 rv4 h4' => ?_⟩
          refine ⟨y, u, S4, _, RelD.mono (f4.ext h3') _ _ (RelD.mono (f3.ext h2') _ _ rv2), rv4, h4', hu, fun d S5 hd v5 H5 f5 rv5 h5' => ?_⟩
          split at hd
          · simp only [RelD] at rv5
            exact ⟨_, rv5, kk _ S5 hd H5 ((((f1.trans f2).trans f3).trans f4).trans f5) h5'⟩
          · exact hd.elim
      · exact hz.elim
    · cases h
  | .call f ts, c, W, ex, X, e, o, h => by
    have he : ifV e = true := by
      simp only [chkE] at h
      split at h
      · rfl
      · cases h
    refine (pt_truth (sE_call (ex := ex) o h fun h' => sEs ts (ex := ex) o h') (plain_true he)).weak fun σ H Q q => tD_tru ?_
    obtain ⟨σd, S, R, rs, hr, xk, f, kk⟩ := q
    exact ⟨σd, S, R, rs, hr, xk, by simp only [wpT] at f; simp only [wpE]; exact f, kk⟩
  | .blt b ts, c, W, ex, X, e, o, h => by
    have he : ifV e = true := by
      simp only [chkE] at h
      split at h
      · rfl
      · cases h
    refine (pt_truth (sE_blt (ex := ex) o h fun h' => sEs ts (ex := ex) o h') (plain_true he)).weak fun σ H Q q => tD_tru ?_
    obtain ⟨σd, S, R, rs, hr, xk, f, kk⟩ := q
    exact ⟨σd, S, R, rs, hr, xk, by simp only [wpT] at f; simp only [wpE]; exact f, kk⟩
  | .int _, c, W, ex, X, e, o, h => ⟨fun pins s σ H Q I q => by obtain ⟨σd, S, R, rs, hr, xk, f, kk⟩ := q; simp only [wpT] at f⟩
  | .bl _, c, W, ex, X, e, o, h => ⟨fun pins s σ H Q I q => by obtain ⟨σd, S, R, rs, hr, xk, f, kk⟩ := q; simp only [wpT] at f⟩
  | .non, c, W, ex, X, e, o, h => ⟨fun pins s σ H Q I q => by obtain ⟨σd, S, R, rs, hr, xk, f, kk⟩ := q; simp only [wpT] at f⟩
  | .str _, c, W, ex, X, e, o, h => ⟨fun pins s σ H Q I q => by obtain ⟨σd, S, R, rs, hr, xk, f, kk⟩ := q; simp only [wpT] at f⟩
  | .glob _, c, W, ex, X, e, o, h => ⟨fun pins s σ H Q I q => by obtain ⟨σd, S, R, rs, hr, xk, f, kk⟩ := q; simp only [wpT] at f⟩
  | .bty _, c, W, ex, X, e, o, h => ⟨fun pins s σ H Q I q => by obtain ⟨σd, S, R, rs, hr, xk, f, kk⟩ := q; simp only [wpT] at f⟩
  | .bin _ _ _, c, W, ex, X, e, o, h => ⟨fun pins s σ H Q I q => by obtain ⟨σd, S, R, rs, hr, xk, f, kk⟩ := q; simp only [wpT] at f⟩
  | .neg _, c, W, ex, X, e, o, h => ⟨fun pins s σ H Q I q => by obtain ⟨σd, S, R, rs, hr, xk, f, kk⟩ := q; simp only [wpT] at f⟩
  | .ite _ _ _, c, W, ex, X, e, o, h => ⟨fun pins s σ H Q I q => by obtain ⟨σd, S, R, rs, hr, xk, f, kk⟩ := q; simp only [wpT] at f⟩
  | .tup _, c, W, ex, X, e, o, h => ⟨fun pins s σ H Q I q => by obtain ⟨σd, S, R, rs, hr, xk, f, kk⟩ := q; simp only [wpT] at f⟩
  | .lst _, c, W, ex, X, e, o, h => ⟨fun pins s σ H Q I q => by obtain ⟨σd, S, R, rs, hr, xk, f, kk⟩ := q; simp only [wpT] at f⟩
  | .sub a i, c, W, ex, X, e, o, h => by
    have he : ifV e = true := by
      simp only [chkE] at h
      split at h
      · rfl
      · cases h
    refine (pt_truth (sE_sub (ex := ex) o h (fun h' => sE a (ex := ex) o h') fun h' => sE i (ex := ex) o h') (plain_true he)).weak fun σ H Q q => tD_tru ?_
    obtain ⟨σd, S, R, rs, hr, xk, f, kk⟩ := q
    exact ⟨σd, S, R, rs, hr, xk, by simp only [wpT] at f; simp only [wpE]; exact f, kk⟩
  | .meth q cn m a ts, c, W, ex, X, e, o, h => by
    have he : ifV e = true := by
      simp only [chkE] at h
      split at h
      · rfl
      · cases h
    refine (pt_truth (sE_meth (ex := ex) o h (fun h' => sE a (ex := ex) o h') fun h' => sEs ts (ex := ex) o h') (plain_true he)).weak fun σ H Q q => tD_tru ?_
    obtain ⟨σd, S, R, rs, hr, xk, f, kk⟩ := q
    exact ⟨σd, S, R, rs, hr, xk, by simp only [wpT] at f; simp only [wpE]; exact f, kk⟩
  | .isc a m, c, W, ex, X, e, o, h => by
    have he : ifV e = true := by
      simp only [chkE] at h
      split at h
      · rfl
      · cases h
    refine (pt_truth (sE_isc (ex := ex) o h fun h' => sE a (ex := ex) o h') (plain_true he)).weak fun σ H Q q => tD_tru ?_
    obtain ⟨σd, S, R, rs, hr, xk, f, kk⟩ := q
    exact ⟨σd, S, R, rs, hr, xk, by simp only [wpT] at f; simp only [wpE]; exact f, kk⟩
  | .eqo _ _ _ _, c, W, ex, X, e, o, h => ⟨fun pins s σ H Q I q => by obtain ⟨σd, S, R, rs, hr, xk, f, kk⟩ := q; simp only [wpT] at f⟩
  | .new _ _ _, c, W, ex, X, e, o, h => ⟨fun pins s σ H Q I q => by obtain ⟨σd, S, R, rs, hr, xk, f, kk⟩ := q; simp only [wpT] at f⟩
  | .fld _ _, c, W, ex, X, e, o, h => ⟨fun pins s σ H Q I q => by obtain ⟨σd, S, R, rs, hr, xk, f, kk⟩ := q; simp only [wpT] at f⟩
  | .lrev _, c, W, ex, X, e, o, h => ⟨fun pins s σ H Q I q => by obtain ⟨σd, S, R, rs, hr, xk, f, kk⟩ := q; simp only [wpT] at f⟩
  | .callK _ _ _ _, c, W, ex, X, e, o, h => ⟨fun pins s σ H Q I q => by obtain ⟨σd, S, R, rs, hr, xk, f, kk⟩ := q; simp only [wpT] at f⟩
  | .lset _, c, W, ex, X, e, o, h => ⟨fun pins s σ H Q I q => by obtain ⟨σd, S, R, rs, hr, xk, f, kk⟩ := q; simp only [wpT] at f⟩
  | .lrng _, c, W, ex, X, e, o, h => ⟨fun pins s σ H Q I q => by obtain ⟨σd, S, R, rs, hr, xk, f, kk⟩ := q; simp only [wpT] at f⟩
  | .lzip _ _, c, W, ex, X, e, o, h => ⟨fun pins s σ H Q I q => by obtain ⟨σd, S, R, rs, hr, xk, f, kk⟩ := q; simp only [wpT] at f⟩
  | .slice _ _ _, c, W, ex, X, e, o, h => ⟨fun pins s σ H Q I q => by obtain ⟨σd, S, R, rs, hr, xk, f, kk⟩ := q; simp only [wpT] at f⟩
  | .mth _ _ _, c, W, ex, X, e, o, h => ⟨fun pins s σ H Q I q => by obtain ⟨σd, S, R, rs, hr, xk, f, kk⟩ := q; simp only [wpT] at f⟩
  | .lc _ _ _ _ _, c, W, ex, X, e, o, h => ⟨fun pins s σ H Q I q => by obtain ⟨σd, S, R, rs, hr, xk, f, kk⟩ := q; simp only [wpT] at f⟩
  | .dct _ _, c, W, ex, X, e, o, h => ⟨fun pins s σ H Q I q => by obtain ⟨σd, S, R, rs, hr, xk, f, kk⟩ := q; simp only [wpT] at f⟩
  | .back _, c, W, ex, X, e, o, h => ⟨fun pins s σ H Q I q => by obtain ⟨σd, S, R, rs, hr, xk, f, kk⟩ := q; simp only [wpT] at f⟩
  | .isx _ _, c, W, ex, X, e, o, h => ⟨fun pins s σ H Q I q => by obtain ⟨σd, S, R, rs, hr, xk, f, kk⟩ := q; simp only [wpT] at f⟩
  | .atr _ _, c, W, ex, X, e, o, h => ⟨fun pins s σ H Q I q => by obtain ⟨σd, S, R, rs, hr, xk, f, kk⟩ := q; simp only [wpT] at f⟩
theorem sEs : ∀ (ts : List T) {c : Cc} {W : WX} {ex : EX} {X : Cx} {es : List Expr}, XOk defs gl k c W X → chkEs c ts es = true → PA X es (tDA X.K X.w W ex (wpEs (cw defs gl k) ex ts))
  | [], c, W, ex, X, es, o, h => by
    simp only [chkEs] at h
    split at h
    · refine pa_nil.weak fun σ H Q q => ?_
      obtain ⟨σd, S, R, rs, hr, xk, f, kk⟩ := q
      simp only [wpEs] at f
      exact kk [] S f [] H (Fm.refl _ _) relds_nil hr
    · cases h
  | t :: ts, c, W, ex, X, es, o, h => by
    simp only [chkEs] at h
    split at h
    · cases h
    · simp only [Bool.and_eq_true] at h
      exact (pa_cons (sE t (ex := ex) o h.1.1) (sEs ts (ex := ex) o h.2) (plain_star h.1.2)).weak fun σ H Q q => tD_cons (by simpa only [wpEs] using q)
theorem sKw : ∀ (us : List T) {ks : List Str} {c : Cc} {W : WX} {ex : EX} {X : Cx} {kws : List Keyword}, XOk defs gl k c W X → chkKw c us ks kws = true → PK X kws (tDA X.K X.w W ex (wpEs (cw defs gl k) ex us))
  | [], ks, c, W, ex, X, kws, o, h => by
    simp only [chkKw, Bool.and_eq_true, List.isEmpty_iff] at h
    rw [h.2]
    refine pk_nil.weak fun σ H Q q => ?_
    obtain ⟨σd, S, R, rs, hr, xk, f, kk⟩ := q
    simp only [wpEs] at f
    exact kk [] S f [] H (Fm.refl _ _) relds_nil hr
  | u :: us, ks, c, W, ex, X, kws, o, h => by
    simp only [chkKw] at h
    split at h
    · simp only [Bool.and_eq_true] at h
      exact (pk_cons (sE u (ex := ex) o h.1.2) (sKw us (ex := ex) o h.2)).weak fun σ H Q q => tD_cons (by simpa only [wpEs] using q)
    · cases h
theorem sO : ∀ (t : Option T) {c : Cc} {W : WX} {ex : EX} {X : Cx} {e : Option Expr}, XOk defs gl k c W X → chkO c t e = true → PO X e (fun σ H Q => ∃ σd S R, RelSt X.K X.w H σd σ ∧ HR X.K X.w H S ∧ ExK X.K X.w H S ex W ∧ wpO (cw defs gl k) ex t σd S R ∧ ∀ i S', R i S' → ∀ H', Fm H S H' S' → HR X.K X.w H' S' → Q i H')
  | none, c, W, ex, X, e, o, h => by
    simp only [chkO, Option.isNone_iff_eq_none] at h
    subst h
    refine ⟨fun pins s σ H Q I q => po_none.run pins s σ H Q I ?_⟩
    obtain ⟨σd, S, R, rs, hr, xk, f, kk⟩ := q
    simp only [wpO] at f
    exact kk none S f H (Fm.refl _ _) hr
  | some t, c, W, ex, X, e, o, h => by
    simp only [chkO] at h
    split at h
    · refine ⟨fun pins s σ H Q I q => (po_some (sE t (ex := ex) o h)).run pins s σ H Q I ?_⟩
      obtain ⟨σd, S, R, rs, hr, xk, f, kk⟩ := q
      simp only [wpO] at f
      refine ⟨σd, S, _, rs, hr, xk, f, fun d S1 hd v H1 f1 rv h1 => ?_⟩
      split at hd
      · simp only [RelD] at rv
        exact ⟨_, rv, kk _ S1 hd H1 f1 h1⟩
      · exact hd.elim
    · cases h
theorem sB : ∀ (op : BoolOp) (ts : List T) {c : Cc} {W : WX} {ex : EX} {X : Cx} {es : List Expr} {pos : Pos}, XOk defs gl k c W X → chkEs c ts es = true → PE X (.BoolOp op es pos) (tD X.K X.w W ex (wpB (cw defs gl k) ex op ts))
  | op, [], c, W, ex, X, es, pos, o, h => ⟨fun pins s σ H Q I q => by obtain ⟨σd, S, R, rs, hr, xk, f, kk⟩ := q; simp only [wpB] at f⟩
  | op, [t], c, W, ex, X, es, pos, o, h => by
    simp only [chkEs] at h
    split at h
    · cases h
    · simp only [Bool.and_eq_true] at h
      obtain ⟨h1, h2⟩ := h
      split at h2
      · simpa only [wpB] using pe_one (sE t (ex := ex) o h1.1)
      · cases h2
  | op, t :: u :: ts, c, W, ex, X, es, pos, o, h => by
    unfold chkEs at h
    split at h
    · cases h
    · simp only [Bool.and_eq_true] at h
      obtain ⟨h1, h2⟩ := h
      have ih := fun pos => sB op (u :: ts) (ex := ex) (pos := pos) o h2
      rename_i e0 es0
      cases es0 with
      | nil => simp only [chkEs] at h2; cases h2
      | cons e1 es1 =>
        cases op with
        | And =>
          refine (pe_andT (sE t (ex := ex) o h1.1) (ih pos)).weak fun σ H Q q => ?_
          obtain ⟨σd, S, R, rs, hr, xk, f, kk⟩ := q
          simp only [wpB] at f
          refine ⟨σd, S, _, rs, hr, xk, f, fun d S1 hd v H1 f1 rv h1 => ?_⟩
          split at hd
          · rename_i b eb
            refine ⟨b, tru_of h1 rv eb, ?_⟩
            cases b with
            | true =>
              rw [if_pos rfl] at hd ⊢
              exact ⟨σd, S1, R, rs.mono (f1.ext hr), h1, xk.next f1, hd, kk.next f1 fun _ _ z => z⟩
            | false =>
              rw [if_neg Bool.false_ne_true] at hd ⊢
              exact kk _ S1 hd _ H1 f1 rv h1
          · exact hd.elim
        | Or =>
          refine (pe_orT (sE t (ex := ex) o h1.1) (ih pos)).weak fun σ H Q q => ?_
          obtain ⟨σd, S, R, rs, hr, xk, f, kk⟩ := q
          simp only [wpB] at f
          refine ⟨σd, S, _, rs, hr, xk, f, fun d S1 hd v H1 f1 rv h1 => ?_⟩
          split at hd
          · rename_i b eb
            refine ⟨b, tru_of h1 rv eb, ?_⟩
            cases b with
            | false =>
              rw [if_neg Bool.false_ne_true] at hd ⊢
              exact ⟨σd, S1, R, rs.mono (f1.ext hr), h1, xk.next f1, hd, kk.next f1 fun _ _ z => z⟩
            | true =>
              rw [if_pos rfl] at hd ⊢
              exact kk _ S1 hd _ H1 f1 rv h1
          · exact hd.elim
theorem sTB : ∀ (op : BoolOp) (ts : List T) {c : Cc} {W : WX} {ex : EX} {X : Cx} {es : List Expr} {pos : Pos}, XOk defs gl k c W X → chkEs c ts es = true → PW X (.BoolOp op es pos) (tDT X.K X.w W ex (wpTB (cw defs gl k) ex op ts))
  | op, [], c, W, ex, X, es, pos, o, h => ⟨fun wh pins s σ H Q I q => by obtain ⟨σd, S, R, rs, hr, xk, f, kk⟩ := q; simp only [wpTB] at f⟩
  | op, [t], c, W, ex, X, es, pos, o, h => by
    simp only [chkEs] at h
    split at h
    · cases h
    · simp only [Bool.and_eq_true] at h
      obtain ⟨h1, h2⟩ := h
      split at h2
      · cases op with
        | And => simpa only [wpTB] using pw_and1 (sT t (ex := ex) o h1.1)
        | Or => simpa only [wpTB] using pw_or1 (sT t (ex := ex) o h1.1)
      · cases h2
  | op, t :: u :: ts, c, W, ex, X, es, pos, o, h => by
    unfold chkEs at h
    split at h
    · cases h
    · simp only [Bool.and_eq_true] at h
      obtain ⟨h1, h2⟩ := h
      have ih := fun pos => sTB op (u :: ts) (ex := ex) (pos := pos) o h2
      rename_i e0 es0
      cases es0 with
      | nil => simp only [chkEs] at h2; cases h2
      | cons e1 es1 =>
        cases op with
        | And =>
          refine (pw_and (sT t (ex := ex) o h1.1) (ih pos)).weak fun σ H Q q => ?_
          obtain ⟨σd, S, R, rs, hr, xk, f, kk⟩ := q
          simp only [wpTB] at f
          refine ⟨σd, S, _, rs, hr, xk, f, fun b S1 hd H1 f1 h1 => ?_⟩
          cases b with
          | true =>
            rw [if_pos rfl] at hd ⊢
            exact ⟨σd, S1, R, rs.mono (f1.ext hr), h1, xk.next f1, hd, fun b S2 hb H2 f2 h2 => kk b S2 hb H2 (f1.trans f2) h2⟩
          | false =>
            rw [if_neg Bool.false_ne_true] at hd ⊢
            exact kk _ S1 hd H1 f1 h1
        | Or =>
          refine (pw_or (sT t (ex := ex) o h1.1) (ih pos)).weak fun σ H Q q => ?_
          obtain ⟨σd, S, R, rs, hr, xk, f, kk⟩ := q
          simp only [wpTB] at f
          refine ⟨σd, S, _, rs, hr, xk, f, fun b S1 hd H1 f1 h1 => ?_⟩
          cases b with
          | false =>
            rw [if_neg Bool.false_ne_true] at hd ⊢
            exact ⟨σd, S1, R, rs.mono (f1.ext hr), h1, xk.next f1, hd, fun b S2 hb H2 f2 h2 => kk b S2 hb H2 (f1.trans f2) h2⟩
          | true =>
            rw [if_pos rfl] at hd ⊢
            exact kk _ S1 hd H1 f1 h1
theorem sTs : ∀ (ts : List T) {c : Cc} {X : Cx} {es : List Expr}, XOk defs gl k c W0 X → chkEs c ts es = true → PTs X es (tDT X.K X.w W0 ex0 (wpTs (cw defs gl k) ts))
  | [], c, X, es, o, h => by
    simp only [chkEs] at h
    split at h
    · refine ⟨fun pins s σ H Q I q => pts_nil.run pins s σ H Q I ?_⟩
      obtain ⟨σd, S, R, rs, hr, xk, f, kk⟩ := q
      simp only [wpTs] at f
      exact kk _ S f H (Fm.refl _ _) hr
    · cases h
  | [t], c, X, es, o, h => by
    simp only [chkEs] at h
    split at h
    · cases h
    · simp only [Bool.and_eq_true] at h
      obtain ⟨h1, h2⟩ := h
      split at h2
      · simpa only [wpTs] using pts_one (sT t (ex := ex0) o h1.1)
      · cases h2
  | _ :: _ :: _, c, X, es, o, h => ⟨fun pins s σ H Q I q => by obtain ⟨σd, S, R, rs, hr, xk, f, kk⟩ := q; simp only [wpTs] at f⟩
theorem sP : ∀ (ks : List Str) (ts : List T) {c : Cc} {W : WX} {ex : EX} {X : Cx} {kz : List (Option Expr)} {vz : List Expr} {pos : Pos}, XOk defs gl k c W X → ks.length = ts.length → chkKs ks kz = true → chkEs c ts vz = true → PPs X pos kz vz (trsOf X.K X.w W (cw defs gl k) ex ks ts)
  | [], [], c, W, ex, X, kz, vz, pos, o, hl, h1, h2 => by
    simp only [chkKs] at h1
    simp only [chkEs] at h2
    split at h1
    · split at h2
      · exact pps_nil
      · cases h2
    · cases h1
  | [], t :: ts, c, W, ex, X, kz, vz, pos, o, hl, h1, h2 => by simp at hl
  | x :: ks, [], c, W, ex, X, kz, vz, pos, o, hl, h1, h2 => by simp at hl
  | x :: ks, t :: ts, c, W, ex, X, kz, vz, pos, o, hl, h1, h2 => by
    simp only [chkKs] at h1
    split at h1
    · simp only [Bool.and_eq_true, decide_eq_true_eq] at h1
      obtain ⟨rfl, h1⟩ := h1
      simp only [chkEs] at h2
      split at h2
      · cases h2
      · simp only [Bool.and_eq_true] at h2
        exact pps_cons pe_str (sE t (ex := ex) o h2.1.1) (sP ks ts (ex := ex) o (by simpa using hl) h1 h2.2)
    · cases h1
theorem sI : ∀ (it : Ti) {c : Cc} {W : WX} {ex : EX} {X : Cx} {e tg : Expr}, XOk defs gl k c W X → chkI c it e tg = true → PI X tg e (tDI X.K X.w W ex (wpI (cw defs gl k) ex it))
  | .seq t, c, W, ex, X, e, tg, o, h => by
    simp only [chkI] at h
    refine (pi_seq (sE t (ex := ex) o h)).weak fun σ H R q => ?_
    obtain ⟨σd, S, RI, rs, hr, xk, f, kk⟩ := q
    simp only [wpI] at f
    refine ⟨σd, S, _, rs, hr, xk, f, fun d S1 hd v H1 f1 rv h1 => ?_⟩
    split at hd
    · simp only [RelD] at rv
      obtain ⟨a, vs, rfl, t1, r1⟩ := rv
      exact ⟨a, rfl, .inr ⟨⟨vs, t1⟩, kk _ _ S1 hd _ H1 f1 h1 (walkd_tup t1 r1)⟩⟩
    · simp only [RelD] at rv
      obtain ⟨a, vs, rfl, t1, r1⟩ := rv
      exact ⟨a, rfl, .inl ⟨⟨vs, t1.sq⟩, kk _ _ S1 hd _ H1 f1 h1 (walkd_kl t1 r1)⟩⟩
    · simp only [RelD] at rv
      subst rv
      split at hd
      · rename_i es
        obtain ⟨vs, q1, q2⟩ := h1.sql es
        exact ⟨_, rfl, .inl ⟨⟨vs, q1⟩, kk _ _ S1 hd _ H1 f1 h1 walkd_list⟩⟩
      · exact hd.elim
    · exact hd.elim
  | .rng1 t, c, W, ex, X, e, tg, o, h => by
    simp only [chkI] at h
    split at h
    · simp only [Bool.and_eq_true, decide_eq_true_eq] at h
      obtain ⟨⟨⟨rfl, h2⟩, h3⟩, h4⟩ := h
      obtain ⟨g1, g2, g3⟩ := o.gl_of h2
      refine (pi_range1 g1 (o.blt "range" (by decide)) (pa_cons (sE t (ex := ex) o h3) pa_nil (plain_star h4)) (plain_star h4)).weak fun σ H R q => ?_
      obtain ⟨σd, S, RI, rs, hr, xk, f, kk⟩ := q
      simp only [wpI] at f
      refine ⟨σd, S, _, rs, hr, xk, f, fun d S1 hd v H1 f1 rv h1 => ?_⟩
      split at hd
      · rename_i n
        simp only [RelD] at rv
        subst rv
        refine ⟨n, rfl, hd.1, hd.2.1, kk _ _ S1 hd.2.2 _ H1 f1 h1 ?_⟩
        have w0 := walkd_range (K := X.K) (w := X.w) (H0 := H1) (lo := 0) (n := n.toNat)
        simp only [Int.zero_add] at w0
        exact w0
      · exact hd.elim
    · cases h
  | .rng2 t u, c, W, ex, X, e, tg, o, h => by
    simp only [chkI] at h
    split at h
    · simp only [Bool.and_eq_true, decide_eq_true_eq] at h
      obtain ⟨⟨⟨⟨⟨rfl, h2⟩, h3⟩, h4⟩, h5⟩, h6⟩ := h
      obtain ⟨g1, g2, g3⟩ := o.gl_of h2
      refine (pi_range2 g1 (o.blt "range" (by decide)) (pa_cons (sE t (ex := ex) o h3) (pa_cons (sE u (ex := ex) o h5) pa_nil (plain_star h6)) (plain_star h4)) (by rw [plain_star h4, plain_star h6]; rfl) (by rw [plain_star h6]; rfl)).weak fun σ H R q => ?_
      obtain ⟨σd, S, RI, rs, hr, xk, f, kk⟩ := q
      simp only [wpI] at f
      refine ⟨σd, S, _, rs, hr, xk, f, fun d S1 hd v H1 f1 rv h1 => ⟨σd, S1, _, rs.mono (f1.ext hr), h1, xk.next f1, hd, fun d2 S2 hd2 v2 H2 f2 rv2 h2 => ?_⟩⟩
      split at hd2
      · rename_i i j
        simp only [RelD] at rv rv2
        subst rv rv2
        exact ⟨i, j, rfl, hd2.1, kk _ _ S2 hd2.2 _ H2 (f1.trans f2) h2 walkd_range⟩
      · exact hd2.elim
    · cases h
  | .enm t, c, W, ex, X, e, tg, o, h => by
    simp only [chkI] at h
    split at h
    · split at h
      · simp only [Bool.and_eq_true, decide_eq_true_eq] at h
        obtain ⟨⟨⟨rfl, h2⟩, h3⟩, h4⟩ := h
        obtain ⟨g1, g2, g3⟩ := o.gl_of h2
        refine (pi_enumT g1 (o.blt "enumerate" (by decide)) (sE t (ex := ex) o h3) (plain_star h4)).weak fun σ H R q => ?_
        obtain ⟨σd, S, RI, rs, hr, xk, f, kk⟩ := q
        simp only [wpI] at f
        refine ⟨σd, S, _, rs, hr, xk, f, fun d S1 hd v H1 f1 rv h1 => ?_⟩
        split at hd
        · simp only [RelD] at rv
          subst rv
          split at hd
          · rename_i es
            obtain ⟨vs, q1, q2⟩ := h1.sql es
            exact ⟨_, vs, rfl, .inl ⟨q1, kk _ _ S1 hd _ H1 f1 h1 walkd_enum⟩⟩
          · exact hd.elim
        · simp only [RelD] at rv
          obtain ⟨a, vs, rfl, q1, q2⟩ := rv
          exact ⟨a, vs, rfl, .inr ⟨q1, kk _ _ S1 hd _ H1 f1 h1 (walkd_enumT q1 q2)⟩⟩
        · exact hd.elim
      · cases h
    · cases h
  | .zip t u, c, W, ex, X, e, tg, o, h => by
    simp only [chkI] at h
    split at h
    · split at h
      · simp only [Bool.and_eq_true, decide_eq_true_eq] at h
        obtain ⟨⟨⟨⟨⟨rfl, h2⟩, h3⟩, h4⟩, h5⟩, h6⟩ := h
        obtain ⟨g1, g2, g3⟩ := o.gl_of h2
        refine (RZ.pi_zipA g1 (o.blt "zip" (by decide)) (pa_cons (sE t (ex := ex) o h3) (pa_cons (sE u (ex := ex) o h5) pa_nil (plain_star h6)) (plain_star h4)) (plain_star h4) (by rw [plain_star h6]; rfl)).weak fun σ H R q => ?_
        obtain ⟨σd, S, RI, rs, hr, xk, f, kk⟩ := q
        simp only [wpI] at f
        refine ⟨σd, S, _, rs, hr, xk, f, fun d S1 hd v H1 f1 rv h1 => ⟨σd, S1, _, rs.mono (f1.ext hr), h1, xk.next f1, hd, fun d2 S2 hd2 v2 H2 f2 rv2 h2 => ?_⟩⟩
        have rv' := RelD.mono (f2.ext h1) _ _ rv
        split at hd2
        · simp only [RelD] at rv' rv2
          obtain ⟨a, vs, rfl, t1, r1⟩ := rv'
          obtain ⟨b, us, rfl, t2, r2⟩ := rv2
          exact ⟨a, b, vs, us, rfl, .inr ⟨t1, t2, kk _ _ S2 hd2 _ H2 (f1.trans f2) h2 (walkd_zipT t1 t2 r1 r2)⟩⟩
        · simp only [RelD] at rv' rv2
          subst rv' rv2
          split at hd2
          · rename_i e1 e2
            obtain ⟨vs, q1, q2⟩ := h2.sql e1
            obtain ⟨us, q3, q4⟩ := h2.sql e2
            exact ⟨_, _, vs, us, rfl, .inl ⟨q1, q3, kk _ _ S2 hd2 _ H2 (f1.trans f2) h2 walkd_zip⟩⟩
          · exact hd2.elim
        · exact hd2.elim
      · cases h
    · cases h
  | .rev t, c, W, ex, X, e, tg, o, h => by
    simp only [chkI] at h
    split at h
    · simp only [Bool.and_eq_true, decide_eq_true_eq] at h
      obtain ⟨⟨⟨rfl, h2⟩, h3⟩, h4⟩ := h
      obtain ⟨g1, g2, g3⟩ := o.gl_of h2
      refine (RT.pi_revA g1 (o.blt "reversed" (by decide)) (sE t (ex := ex) o h3) (plain_star h4)).weak fun σ H R q => ?_
      obtain ⟨σd, S, RI, rs, hr, xk, f, kk⟩ := q
      simp only [wpI] at f
      refine ⟨σd, S, _, rs, hr, xk, f, fun d S1 hd v H1 f1 rv h1 => ?_⟩
      split at hd
      · simp only [RelD] at rv
        obtain ⟨a, vs, rfl, t1, r1⟩ := rv
        exact ⟨a, vs, rfl, .inr ⟨t1, kk _ _ S1 hd _ H1 f1 h1 (walkd_revT r1.length.symm t1 r1)⟩⟩
      · simp only [RelD] at rv
        subst rv
        split at hd
        · rename_i es
          obtain ⟨vs, q1, q2⟩ := h1.sql es
          exact ⟨_, vs, rfl, .inl ⟨q1, kk _ _ S1 hd _ H1 f1 h1 (walkd_rev q2.length.symm)⟩⟩
        · exact hd.elim
      · exact hd.elim
    · cases h
end
end
end Z

set_option Elab.async false
set_option linter.all false
set_option maxRecDepth 100000
set_option maxHeartbeats 4000000
namespace Z
open PySem PySem.Spec PyProof.Rows L2
theorem any2 {α : Type} (f : α → Bool) (a b : α) (h1 : f a = false) (h2 : f b = false) : ¬ ([a, b].any f = true) := by
  rw [List.any_cons, List.any_cons, List.any_nil, h1, h2]
  decide
theorem dups2 {x y : Str} (ne : x ≠ y) : ([x, y] : List Str).eraseDups.length = 2 := by
  rw [List.eraseDups_cons]
  have e : (!(y == x)) = true := by simpa using ne.symm
  rw [List.filter_cons, if_pos e, List.filter_nil, List.eraseDups_cons, List.filter_nil, List.eraseDups_nil]
  rfl
theorem swap_par {x y : Str} {a b : Expr} {px py pt pt2 : Pos} {kt k2 : Nat} {env : Env} (hk : env.scope.kind = .function) (hx : env.scope.names.lookup x = some .local) (hy : env.scope.names.lookup y = some .local) (ne : x ≠ y) (hl : (px.line == py.line) = true)
    (ha : plainE a = true) (hb : plainE b = true) (h1 : (foldedForSure 8 a && foldedForSure 8 b) = false) (h2 : (constantsAlone 8 a && constantsAlone 8 b) = false) :
    swappedStores [.Tuple [.Name x px, .Name y py] kt pt] (.Tuple [a, b] k2 pt2) env = pure (some [x, y]) := by
  have kx : env.kindOf x = some .local := hx
  have ky : env.kindOf y = some .local := hy
  have hbk : env.blockKind = .function := by unfold Env.blockKind; rw [hk]; rfl
  have hl' : (py.line == px.line) = true := by
    rw [beq_iff_eq] at hl ⊢
    exact hl.symm
  have key : ∀ l : List Str, l = [x, y] → (if (l.length != 2 || l.eraseDups.length != l.length) = true then (pure none : Sem (Option (List Str))) else if [a, b].all (foldedForSure 8) = true then pure none else
      if [a, b].all (constantsAlone 8) = true then (do unsupported "assign.tuple-of-constant-expressions:order-of-the-stores"; pure (some l)) else pure (some l)) = pure (some [x, y]) := fun l e => by
    subst e
    have c1 : ¬ (([x, y] : List Str).length != 2 || ([x, y] : List Str).eraseDups.length != ([x, y] : List Str).length) = true := by
      rw [dups2 ne]
      show ¬ ((2 : Nat) != 2 || (2 : Nat) != 2) = true
      decide
    have c2 : ¬ [a, b].all (foldedForSure 8) = true := by
      rw [List.all_cons, List.all_cons, List.all_nil, Bool.and_true, h1]
      exact Bool.false_ne_true
    have c3 : ¬ [a, b].all (constantsAlone 8) = true := by
      rw [List.all_cons, List.all_cons, List.all_nil, Bool.and_true, h2]
      exact Bool.false_ne_true
    rw [if_neg c1, if_neg c2, if_neg c3]
  unfold swappedStores
  simp only [hbk]
  have c0 : ¬ (!([Expr.Name x px, Expr.Name y py].length == 2 || [Expr.Name x px, Expr.Name y py].length == 3) || [a, b].length != [Expr.Name x px, Expr.Name y py].length || ScopeKind.function != ScopeKind.function) = true := by
    show ¬ (!((2 : Nat) == 2 || (2 : Nat) == 3) || (2 : Nat) != 2 || ScopeKind.function != ScopeKind.function) = true
    decide
  rw [if_neg c0]
  rw [if_neg (any2 _ a b (by cases a <;> first | rfl | (exact absurd (show false = true from ha) Bool.false_ne_true)) (by cases b <;> first | rfl | (exact absurd (show false = true from hb) Bool.false_ne_true)))]
  refine key _ ?_
  simp only [List.filterMap_cons, List.filterMap_nil, kx, ky]
  have g : (Option.map (fun z : Expr => z.pos.line) [Expr.Name x px, Expr.Name y py].head?).getD 0 = px.line := rfl
  have t1 : (some NameKind.local == some NameKind.local && px.line == px.line) = true := by simp
  have t2 : (some NameKind.local == some NameKind.local && py.line == px.line) = true := by rw [hl']; rfl
  rw [g, if_pos t1, if_pos t2]
theorem any3 {α : Type} (f : α → Bool) (a b c : α) (h1 : f a = false) (h2 : f b = false) (h3 : f c = false) : ¬ ([a, b, c].any f = true) := by
  simp [List.any_cons, h1, h2, h3]
theorem dups3 {x y z : Str} (n1 : x ≠ y) (n2 : x ≠ z) (n3 : y ≠ z) : ([x, y, z] : List Str).eraseDups.length = 3 := by
  have e1 : (y == x) = false := by simpa using Ne.symm n1
  have e2 : (z == x) = false := by simpa using Ne.symm n2
  have e3 : (z == y) = false := by simpa using Ne.symm n3
  simp [List.eraseDups_cons, List.filter_cons, e1, e2, e3]
theorem swap_par3 {x y z : Str} {a b c : Expr} {px py pz pt pt2 : Pos} {kt k2 : Nat} {env : Env} (hk : env.scope.kind = .function) (hx : env.scope.names.lookup x = some .local) (hy : env.scope.names.lookup y = some .local) (hz : env.scope.names.lookup z = some .local) (n1 : x ≠ y) (n2 : x ≠ z) (n3 : y ≠ z)
    (hl : (px.line == py.line) = true) (hl2 : (px.line == pz.line) = true) (ha : plainE a = true) (hb : plainE b = true) (hc : plainE c = true) (h1 : (foldedForSure 8 a && foldedForSure 8 b && foldedForSure 8 c) = false) (h2 : (constantsAlone 8 a && constantsAlone 8 b && constantsAlone 8 c) = false) :
    swappedStores [.Tuple [.Name x px, .Name y py, .Name z pz] kt pt] (.Tuple [a, b, c] k2 pt2) env = pure (some [x, y, z]) := by
  have kx : env.kindOf x = some .local := hx
  have ky : env.kindOf y = some .local := hy
  have kz : env.kindOf z = some .local := hz
  have hbk : env.blockKind = .function := by unfold Env.blockKind; rw [hk]; rfl
  have hl' : (py.line == px.line) = true := by
    rw [beq_iff_eq] at hl ⊢
    exact hl.symm
  have hl2' : (pz.line == px.line) = true := by
    rw [beq_iff_eq] at hl2 ⊢
    exact hl2.symm
  have key : ∀ l : List Str, l = [x, y, z] → (if (l.length != 3 || l.eraseDups.length != l.length) = true then (pure none : Sem (Option (List Str))) else if [a, b, c].all (foldedForSure 8) = true then pure none else
      if [a, b, c].all (constantsAlone 8) = true then (do unsupported "assign.tuple-of-constant-expressions:order-of-the-stores"; pure (some l)) else pure (some l)) = pure (some [x, y, z]) := fun l e => by
    subst e
    have c1 : ¬ (([x, y, z] : List Str).length != 3 || ([x, y, z] : List Str).eraseDups.length != ([x, y, z] : List Str).length) = true := by
      rw [dups3 n1 n2 n3]
      show ¬ ((3 : Nat) != 3 || (3 : Nat) != 3) = true
      decide
    have c2 : ¬ [a, b, c].all (foldedForSure 8) = true := by
      rw [List.all_cons, List.all_cons, List.all_cons, List.all_nil, Bool.and_true, ← Bool.and_assoc, h1]
      exact Bool.false_ne_true
    have c3 : ¬ [a, b, c].all (constantsAlone 8) = true := by
      rw [List.all_cons, List.all_cons, List.all_cons, List.all_nil, Bool.and_true, ← Bool.and_assoc, h2]
      exact Bool.false_ne_true
    rw [if_neg c1, if_neg c2, if_neg c3]
  unfold swappedStores
  simp only [hbk]
  have c0 : ¬ (!([Expr.Name x px, Expr.Name y py, Expr.Name z pz].length == 2 || [Expr.Name x px, Expr.Name y py, Expr.Name z pz].length == 3) || [a, b, c].length != [Expr.Name x px, Expr.Name y py, Expr.Name z pz].length || ScopeKind.function != ScopeKind.function) = true := by
    show ¬ (!((3 : Nat) == 2 || (3 : Nat) == 3) || (3 : Nat) != 3 || ScopeKind.function != ScopeKind.function) = true
    decide
  rw [if_neg c0]
  rw [if_neg (any3 _ a b c (by cases a <;> first | rfl | (exact absurd (show false = true from ha) Bool.false_ne_true)) (by cases b <;> first | rfl | (exact absurd (show false = true from hb) Bool.false_ne_true)) (by cases c <;> first | rfl | (exact absurd (show false = true from hc) Bool.false_ne_true)))]
  refine key _ ?_
  simp only [List.filterMap_cons, List.filterMap_nil, kx, ky, kz]
  have g : (Option.map (fun z : Expr => z.pos.line) [Expr.Name x px, Expr.Name y py, Expr.Name z pz].head?).getD 0 = px.line := rfl
  have t1 : (some NameKind.local == some NameKind.local && px.line == px.line) = true := by simp
  have t2 : (some NameKind.local == some NameKind.local && py.line == px.line) = true := by rw [hl']; rfl
  have t3 : (some NameKind.local == some NameKind.local && pz.line == px.line) = true := by rw [hl2']; rfl
  rw [g, if_pos t1, if_pos t2, if_pos t3]
theorem swap_cell {e : Expr} {x : Str} {q : Pos} {n : Nat} {env : Env} (hx : env.scope.names.lookup x = some .cell) : swapsWith e (some (.Name x q)) n env = pure false := by
  have kx : (env.kindOf x == some .local) = false := by
    show (env.scope.names.lookup x == some .local) = false
    rw [hx]
    decide
  cases e <;> first | rfl | (unfold swapsWith; simp only [kx, Bool.and_false, Bool.false_and])
theorem swap_none {es : List Expr} {kk : Nat} {p : Pos} {e : Expr} {env : Env} (h : (match e with | .Tuple _ _ _ => false | _ => true) = true) : swappedStores [.Tuple es kk p] e env = pure none := by
  cases e <;> first | (exact absurd (show false = true from h) Bool.false_ne_true) | rfl
section
variable {defs : Str → Option DefT} {gl : Str → Option D} {k : Nat}
theorem lc_read {K : PySem.W.Frag} {w : World} {W : WX} {ex : EX} {g : Tg} {it : Ti} {ifs : List T} {own : List (Str × Nat)} {d : T} {σ : L2.St} {H : Hp} {Q : VK} (og : ownG (own.map (·.2)) g = true)
    (q : tD K w W ex (wpE (cw defs gl k) ex (.lc g it ifs own d)) σ H Q) :
    tLc (tDI K w W ex (wpI (cw defs gl k) ex it)) (gV K g) (tDT K w W0 ex0 (wpTs (cw defs gl k) ifs)) (tD K w W0 ex0 (wpE (cw defs gl k) ex0 d)) (own.map (·.2)) σ H Q := by
  obtain ⟨σd, S, R, rs, hr, xk, f, kk⟩ := q
  simp only [wpE] at f
  exact ⟨σd, S, _, rs, hr, xk, f, fun ds G S1 hd J H1 f1 h1 wk Da nD => lc_of (rs.mono (f1.ext hr)) h1 wk og nD hd (kk.next f1 fun _ _ z => z)⟩
theorem asg_lc {c : Cc} {W : WX} {ex : EX} {X : Cx} {i : Nat} {x : Str} {q pos q2 : Pos} {elt : Expr} {gs : List Comprehension} {scope : Scope} {t : T} (hf : X.env.scope.kind = .function) (o : XOk defs gl k c W X) (hN : c.N[i]? = some x) (hl : c.sc.names.lookup x = some .local) (h2 : chkE c t (.ListComp elt gs scope q2) = true)
    (hq : (q.line == q2.line) = true) (hn : (scope.names.any fun (n, k) => n == x && (k == .local || k == .cell)) = false) :
    PS X (.Assign [.Name x q] (.ListComp elt gs scope q2) pos) (tAsg (tD X.K X.w W ex (wpE (cw defs gl k) ex t)) (gName i)) := by
  cases t with
  | lc g it ifs own d =>
    simp only [chkE] at h2
    split at h2
    · rename_i e0
      simp only [Bool.and_eq_true] at h2
      obtain ⟨⟨⟨⟨⟨⟨⟨h1, h2⟩, h3⟩, h4⟩, h5⟩, h6⟩, h7⟩, hca⟩ := h2
      cases e0
      have bo : BlkOk X.N X.env.scope scope own := by rw [o.hN, o.hsc]; exact blkOk_by h2
      have hl' : X.env.scope.names.lookup x = some .local := by rw [o.hsc]; exact hl
      refine (ps_setLc (g := gV X.K g) (tt := tDT X.K X.w W0 ex0 (wpTs (cw defs gl k) ifs)) (te := tD X.K X.w W0 ex0 (wpE (cw defs gl k) ex0 d)) (o.calm hca) (by rw [o.hN]; exact o.nd) (by rw [o.hN]; exact hN) hl' (sw_true hf hl' hq hn) (sI it (ex := ex) o h1) bo
        (fun s H C cl fp => sG (o.blk s H scope C cl fp) g _ h3) (fun s H C cl fp => sTs ifs (o.blk s H scope C cl fp) h5) (fun s H C cl fp => sE d (o.blk s H scope C cl fp) h6) (plain_fold h7)).weak fun De σ H q => lc_read h4 q
    · cases h2
  | _ => simp only [chkE] at h2 <;> cases h2
end
end Z

set_option Elab.async false
set_option linter.all false
set_option maxRecDepth 100000
set_option maxHeartbeats 4000000
namespace Z
open PySem PySem.Spec PyProof.Rows L2

theorem nolc_sole {e t : Expr} {n : Nat} {env : Env} (h : lcE e = false) : swapsWithSole [t] e n env = pure false := by
  unfold swapsWithSole
  exact nolc_swap h
theorem mem_of_lk {β : Type} {k : Str} {v : β} : ∀ {l : List (Str × β)}, l.lookup k = some v → (k, v) ∈ l
  | [], h => by cases h
  | (j, u) :: l, h => by
    rw [List.lookup_cons] at h
    split at h
    · rename_i e
      cases h
      rw [eq_of_beq e]
      exact List.mem_cons_self
    · exact List.mem_cons_of_mem _ (mem_of_lk h)
structure EndK (K : PySem.W.Frag) (w : World) (H : Hp) (S : Sto) (E : EndD) (D : Ends) : Prop where
  nx : ∀ σd S', E.nx σd S' → ∀ σ H', Fm H S H' S' → RelSt K w H' σd σ → HR K w H' S' → D.nx σ H'
  rt : ∀ d S', E.rt d S' → ∀ v H', Fm H S H' S' → RelD K w H' d v → HR K w H' S' → D.rt v H'
  bk : ∀ σd S', E.bk σd S' → ∀ σ H', Fm H S H' S' → RelSt K w H' σd σ → HR K w H' S' → D.bk σ H'
  ct : ∀ σd S', E.ct σd S' → ∀ σ H', Fm H S H' S' → RelSt K w H' σd σ → HR K w H' S' → D.ct σ H'
theorem EndK.next {K : PySem.W.Frag} {w : World} {H H' : Hp} {S S' : Sto} {E : EndD} {D : Ends} (k : EndK K w H S E D) (f : Fm H S H' S') : EndK K w H' S' E D :=
  ⟨fun σd S2 h σ H2 f2 => k.nx σd S2 h σ H2 (f.trans f2), fun d S2 h v H2 f2 => k.rt d S2 h v H2 (f.trans f2), fun σd S2 h σ H2 f2 => k.bk σd S2 h σ H2 (f.trans f2), fun σd S2 h σ H2 f2 => k.ct σd S2 h σ H2 (f.trans f2)⟩
def tDS (K : PySem.W.Frag) (w : World) (W : WX) (ex : EX) (f : EndD → StD → Sto → Prop) : L2.TS := fun D σ H => ∃ σd S E, RelSt K w H σd σ ∧ HR K w H S ∧ ExK K w H S ex W ∧ f E σd S ∧ EndK K w H S E D
theorem sub_assign {o i : Expr} {pos : Pos} {env : Env} (h : plainE i = true) : ∀ v, assign (.Subscript o i pos) env v = (do
      let ov ← holding [v] (eval o env)
      let iv ← holding [v, ov] (eval i env)
      standAt pos
      holding [v, ov, iv] (setItem ov iv v)
      release [v, ov, iv] []) := by
  intro v
  cases i <;> first | rfl | (exact absurd (show false = true from h) Bool.false_ne_true)
theorem xcl_len {n : Str} {ns : List Str} (h : xcl n = some ns) : ns.length ≤ 2 := by
  have m := mem_of_lk h
  simp only [xclT, List.mem_cons, List.not_mem_nil, or_false, Prod.mk.injEq] at m
  rcases m with ⟨_, rfl⟩ | ⟨_, rfl⟩ | ⟨_, rfl⟩ | ⟨_, rfl⟩ | ⟨_, rfl⟩ | ⟨_, rfl⟩ | ⟨_, rfl⟩ <;> simp
theorem zip_rev {α β : Type} : ∀ {a : List α} {b : List β}, a.length = b.length → (a.zip b).reverse = a.reverse.zip b.reverse
  | [], [], _ => rfl
  | x :: a, y :: b, h => by
    have h' : a.length = b.length := by simpa using h
    rw [List.zip_cons_cons, List.reverse_cons, List.reverse_cons, List.reverse_cons, zip_rev h', List.zip_append (by simpa using h')]
    rfl
  | [], _ :: _, h => by simp at h
  | _ :: _, [], h => by simp at h
theorem HR.xd {K : PySem.W.Frag} {w : World} {H : Hp} {S : Sto} (h : HR K w H S) {p : Addr} {o : HO} (n : H p = none) : HR K w (upd H p o) S := fun a ob q => by
  have ne : a ≠ p := fun z => by subst z; rw [h.fresh n] at q; cases q
  exact (h a ob q).mono (ext_new n) (upd_ne ne)
theorem HR.keep {K : PySem.W.Frag} {w : World} {H : Hp} {S : Sto} (h : HR K w H S) {p : Addr} {o : HO} (n : H p = none) : HR K w (upd H p o) S := HR.xd h n
section
variable {defs : Str → Option DefT} {gl : Str → Option D} {k : Nat}
theorem XOk.tr {c : Cc} {W W' : WX} {X : Cx} (o : XOk defs gl k c W X) {pn : List (Addr × Obj)} {xe : Value → Shared → Prop} (tk : Takes (X.tr pn xe) W') (po : PassesOwn (model X.prog X.w) X.A X.env xe) : XOk defs gl k c W' (X.tr pn xe) :=
  { o with tk := tk, po := po }
theorem XOk.suite {c : Cc} {W : WX} {X : Cx} (o : XOk defs gl k c W X) (a : Addr) (pn : List (Addr × Obj)) : XOk defs gl k { c with calm := false } W0 (X.suite a pn) :=
  { o with room := ⟨⟨o.room.rm.dp, o.room.rm.un⟩, o.room.gd⟩, hand := fun z => Bool.noConfusion z, calm := fun z => Bool.noConfusion z, tk := takes0, po := PassesOwn.never }
end
section
variable {defs : Str → Option DefT} {gl : Str → Option D} {k : Nat}
theorem pip_ok {X : Cx} (op : Operator) : PIp X op (fun x y H Q => ∃ i j, x = .int i ∧ y = .int j ∧ ((op = .Add ∧ Q (.int (i + j)) H) ∨ (op = .Sub ∧ Q (.int (i - j)) H))) := by
  intro pins s σ H x y v u Q I r1 r2 h
  obtain ⟨i, j, rfl, rfl, ⟨rfl, q⟩ | ⟨rfl, q⟩⟩ := h
  · exact ip_add pins s σ H _ _ v u Q I r1 r2 ⟨i, j, rfl, rfl, q⟩
  · exact ip_sub pins s σ H _ _ v u Q I r1 r2 ⟨i, j, rfl, rfl, q⟩
theorem relf_len {K : PySem.W.Frag} {w : World} {H : Hp} : ∀ {fs : List (Str × D)} {fv : List (Str × V)}, RelF K w H fs fv → fs.length = fv.length
  | [], fv, r => by simp only [RelF] at r; subst r; rfl
  | (g, d) :: fs, fv, r => by
    simp only [RelF] at r
    obtain ⟨u, us, rfl, r1, r2⟩ := r
    rw [List.length_cons, List.length_cons, relf_len r2]
theorem relf_put {K : PySem.W.Frag} {w : World} {H : Hp} {f : Str} {v : D} {u : V} (rv : RelD K w H v u) : ∀ {fs : List (Str × D)} {fv : List (Str × V)}, RelF K w H fs fv → RelF K w H (putFD f v fs) (putF f u fv)
  | [], fv, r => by simp only [RelF] at r; subst r; simp only [putFD, putF, RelF]; exact ⟨u, [], rfl, rv, rfl⟩
  | (g, d) :: fs, fv, r => by
    simp only [RelF] at r
    obtain ⟨x, us, rfl, r1, r2⟩ := r
    simp only [putFD, putF]
    split
    · simp only [RelF]; exact ⟨u, us, rfl, rv, r2⟩
    · simp only [RelF]; exact ⟨x, _, rfl, r1, relf_put rv r2⟩
theorem for_of {K : PySem.W.Frag} {w : World} {H1 : Hp} {S1 : Sto} {J : It} {ds : List D} {G : Sto → Prop} {g : Tg} {W : WX} {ex : EX} {fb : EndD → StD → Sto → Prop} {σd : StD} {σ : L2.St} {E : EndD} {De : Ends} (rs : RelSt K w H1 σd σ) (hr : HR K w H1 S1) (xk : ExK K w H1 S1 ex W) (wk : WalkD K w J ds G H1)
    (f : forL (fun d N σ S => wpG g d σ S fun σ' => fb { E with nx := N, ct := N, bk := E.nx } σ' S) G E.nx ds σd S1) (ek : EndK K w H1 S1 E De) :
    ∃ W' : Nat → Nat → L2.St → Hp → Prop, (∃ m, W' 0 m σ H1) ∧ ∀ i m σ H, W' i m σ H →
      (J.stop i H ∧ De.nx σ H) ∨ (J.go i H ∧ ∃ N : L2.St → Hp → Prop, (∀ σ' H', N σ' H' → ∃ m', m' < m ∧ W' (i + 1) m' σ' H') ∧ ∀ x H', J.yld i H x H' → gV K g x σ H' fun σ2 H2 => tDS K w W ex fb { De with nx := N, ct := N, bk := De.nx } σ2 H2) := by
  refine ⟨fun i m σ Hh => m = ds.length - i ∧ i ≤ ds.length ∧ ∃ σd S, HR K w Hh S ∧ Fm H1 S1 Hh S ∧ RelSt K w Hh σd σ ∧ forL (fun d N σ S => wpG g d σ S fun σ' => fb { E with nx := N, ct := N, bk := E.nx } σ' S) G E.nx (ds.drop i) σd S,
    ⟨ds.length, by simp, Nat.zero_le _, σd, S1, hr, Fm.refl _ _, rs, by simpa using f⟩, ?_⟩
  rintro i m σ Hh ⟨rfl, hi, σd, S, hh, fm, rs, fl⟩
  by_cases hlt : i < ds.length
  · rw [List.drop_eq_getElem_cons hlt] at fl
    unfold forL at fl
    obtain ⟨gS, ft⟩ := fl
    have exx : Ext H1 Hh := fm.ext hr
    refine .inr ⟨wk.goes i Hh S hlt exx hh gS, fun σ' H' => ∃ σd S, HR K w H' S ∧ Fm H1 S1 H' S ∧ RelSt K w H' σd σ' ∧ forL (fun d N σ S => wpG g d σ S fun σ' => fb { E with nx := N, ct := N, bk := E.nx } σ' S) G E.nx (ds.drop (i + 1)) σd S,
      fun σ' H' z => ⟨ds.length - (i + 1), by omega, rfl, hlt, z⟩, fun x H' y => ?_⟩
    obtain ⟨d, ed, rd, hH⟩ := wk.yields i Hh S x H' hlt exx hh gS y
    rw [List.getElem?_eq_getElem hlt] at ed
    cases ed
    have hh' : HR K w H' S := by
      rcases hH with rfl | ⟨T, xs, nT, rfl⟩
      · exact hh
      · exact hh.tup nT
    have fm2 : Fm Hh S H' S := by
      rcases hH with rfl | ⟨T, xs, nT, rfl⟩
      · exact Fm.refl _ _
      · exact Fm.tup hh nT
    have fm' : Fm H1 S1 H' S := fm.trans fm2
    refine gD_of (vs := []) hh' g _ x σd σ _ _ rd (rs.mono (fm2.ext hh)) ft fun σd2 σ2 h1 h2 _ => ?_
    refine ⟨σd2, S, _, h2, hh', xk.next fm', h1, ⟨fun σd3 S3 h3 σ3 H3 f3 r3 hr3 => ?_, fun d S3 h3 v H3 f3 r3 hr3 => ?_, fun σd3 S3 h3 σ3 H3 f3 r3 hr3 => ?_, fun σd3 S3 h3 σ3 H3 f3 r3 hr3 => ?_⟩⟩
    · exact ⟨σd3, S3, hr3, fm'.trans f3, r3, h3⟩
    · exact ek.rt d S3 h3 v H3 (fm'.trans f3) r3 hr3
    · exact ek.nx σd3 S3 h3 σ3 H3 (fm'.trans f3) r3 hr3
    · exact ⟨σd3, S3, hr3, fm'.trans f3, r3, h3⟩
  · have e : i = ds.length := by omega
    subst e
    rw [List.drop_length] at fl
    unfold forL at fl
    obtain ⟨gS, ft⟩ := fl
    exact .inl ⟨wk.stops Hh S (fm.ext hr) hh gS, ek.nx σd S ft σ Hh fm rs hh⟩
theorem pgs_starred {X : Cx} {e : Expr} {p : Pos} {es : List Expr} {t : TG} {u : TGs} (h1 : PG X e t) (h2 : PGs X es u) : PGs X (.Starred e p :: es) (gCons t u) := by
  refine ⟨fun pins s σ H vs us Q I r h => ?_⟩
  obtain ⟨v, vr, e1, h⟩ := h
  subst e1
  cases r with
  | cons r rr =>
    show wpAny _ _ (assignInOrder (assign e X.env :: (assignEach es X.env).map (·.2)) _) _ _ _
    refine assignInOrder_cons (thn (h1.run pins s σ H _ _ _ I r h) fun _ s1 ⟨σ1, H1, I1, q1⟩ => ?_)
    exact h2.run pins s1 σ1 H1 _ _ Q I1 rr q1
theorem sNames {c : Cc} {W : WX} {X : Cx} (o : XOk defs gl k c W X) : ∀ (is : List Nat) (es : List Expr), chkNames c is es = true → PGs X es (gVs X.K (is.map Tg.nm)) ∧ (assignEach es X.env).length = is.length ∧ (assignEach es X.env).findIdx? (·.1) = none
  | [], es, h => by
    simp only [chkNames] at h
    split at h
    · exact ⟨by simp only [List.map_nil, gVs]; exact pgs_nil, rfl, rfl⟩
    · cases h
  | a :: is, es, h => by
    simp only [chkNames] at h
    split at h
    · simp only [Bool.and_eq_true, decide_eq_true_eq] at h
      obtain ⟨⟨h1, h2⟩, h3⟩ := h
      obtain ⟨l1, l2⟩ := o.loc_of h2
      obtain ⟨p, q, r⟩ := sNames o is _ h3
      refine ⟨?_, ?_, ?_⟩
      · simp only [List.map_cons, gVs, gV]
        exact pgs_cons (pg_name (by rw [o.hN]; exact o.nd) (by rw [o.hN]; exact h1) l1 l2) p rfl
      · show (assignEach _ X.env).length + 1 = _
        rw [q, List.length_cons]
      · show List.findIdx? (·.1) ((false, _) :: assignEach _ X.env) = none
        rw [List.findIdx?_cons]
        simp [r]
    · cases h
theorem sStar {c : Cc} {W : WX} {X : Cx} (o : XOk defs gl k c W X) (i : Nat) (js : List Nat) : ∀ (is : List Nat) (es : List Expr), chkStar c i js is es = true → PGs X es (gVs X.K ((is ++ [i] ++ js).map Tg.nm)) ∧ (assignEach es X.env).length = (is ++ [i] ++ js).length ∧ (assignEach es X.env).findIdx? (·.1) = some is.length
  | [], es, h => by
    simp only [chkStar] at h
    split at h
    · simp only [Bool.and_eq_true, decide_eq_true_eq] at h
      obtain ⟨⟨h1, h2⟩, h3⟩ := h
      obtain ⟨l1, l2⟩ := o.loc_of h2
      obtain ⟨p, q, r⟩ := sNames o js _ h3
      refine ⟨?_, ?_, ?_⟩
      · simp only [List.nil_append, List.cons_append, List.map_cons, gVs, gV]
        exact pgs_starred (pg_name (by rw [o.hN]; exact o.nd) (by rw [o.hN]; exact h1) l1 l2) p
      · show (assignEach _ X.env).length + 1 = _
        rw [q]
        simp
      · show List.findIdx? (·.1) ((true, _) :: assignEach _ X.env) = some 0
        rw [List.findIdx?_cons]
        simp
    · cases h
  | a :: is, es, h => by
    simp only [chkStar] at h
    split at h
    · simp only [Bool.and_eq_true, decide_eq_true_eq] at h
      obtain ⟨⟨h1, h2⟩, h3⟩ := h
      obtain ⟨l1, l2⟩ := o.loc_of h2
      obtain ⟨p, q, r⟩ := sStar o i js is _ h3
      refine ⟨?_, ?_, ?_⟩
      · simp only [List.cons_append, List.map_cons, gVs, gV]
        exact pgs_cons (pg_name (by rw [o.hN]; exact o.nd) (by rw [o.hN]; exact h1) l1 l2) p rfl
      · show (assignEach _ X.env).length + 1 = _
        rw [q]
        simp
      · show List.findIdx? (·.1) ((false, _) :: assignEach _ X.env) = _
        rw [List.findIdx?_cons]
        simp [r]
    · cases h
mutual
theorem sS : ∀ (s : TS) {c : Cc} {W : WX} {ex : EX} {X : Cx} {st : Stmt}, (X.env.scope.kind = .function ∧ X.stack = X.env :: X.outer ∧ X.env.frame = some X.env.locals) → XOk defs gl k c W X → chkS c s st = true → PS X st (tDS X.K X.w W ex (wpS (cw defs gl k) ex s))
  | .ex t, c, W, ex, X, st, hf, o, h => by
    simp only [chkS] at h
    split at h
    · simp only [Bool.and_eq_true] at h
      refine (ps_expr (sE t (ex := ex) o h.1) (nolc_swap (by simpa using h.2))).weak fun De σ H q => ?_
      obtain ⟨σd, S, E, rs, hr, xk, f, ek⟩ := q
      simp only [wpS] at f
      exact ⟨σd, S, _, rs, hr, xk, f, fun d S1 hd v H1 f1 rv h1 => ek.nx _ S1 hd _ H1 f1 (rs.mono (f1.ext hr)) h1⟩
    · cases h
  | .asg g t, c, W, ex, X, st, hf, o, h => by
    simp only [chkS] at h
    split at h
    · simp only [Bool.and_eq_true] at h
      obtain ⟨⟨h1, h2⟩, h3⟩ := h
      rename_i tg e pos
      have main : ∀ {De : Ends} {σ : L2.St} {H : Hp}, tDS X.K X.w W ex (wpS (cw defs gl k) ex (.asg g t)) De σ H → tAsg (tD X.K X.w W ex (wpE (cw defs gl k) ex t)) (gV X.K g) De σ H := fun {De σ H} q => by
        obtain ⟨σd, S, E, rs, hr, xk, f, ek⟩ := q
        simp only [wpS] at f
        exact ⟨σd, S, _, rs, hr, xk, f, fun d S1 hd v H1 f1 rv h1 => gD_of (vs := []) h1 g d v σd σ _ _ rv (rs.mono (f1.ext hr)) hd fun σd2 σ2 h4 h5 _ => ek.nx σd2 S1 h4 σ2 H1 f1 h5 h1⟩
      have PEt := sE t (ex := ex) o h2
      have PGt := sG o g tg h1
      split at h3
      · rename_i x q
        cases g with
        | tup gs => simp only [chkG] at h1; cases h1
        | nm i =>
          simp only [chkG, Bool.and_eq_true, decide_eq_true_eq] at h1
          obtain ⟨l1, l2⟩ := o.loc_of h1.2
          simp only [gV] at main
          simp only [Bool.or_eq_true, Bool.and_eq_true, decide_eq_true_eq, Bool.not_eq_true'] at h3
          rcases h3 with (h3 | h3) | ⟨h3, h4⟩
          · exact (ps_set (by rw [o.hN]; exact o.nd) (by rw [o.hN]; exact h1.1) l1 PEt (nolc_swap h3) l2).weak fun De σ H q => main q
          · exact (ps_set (by rw [o.hN]; exact o.nd) (by rw [o.hN]; exact h1.1) l1 PEt (swap_cell (by rw [o.hsc]; exact h3)) l2).weak fun De σ H q => main q
          · split at h4
            · simp only [Bool.and_eq_true, Bool.not_eq_true'] at h4
              exact (asg_lc (ex := ex) hf.1 o h1.1 h3 h2 h4.1 h4.2).weak fun De σ H q => main q
            · cases h4
      · simp only [Bool.and_eq_true] at h3
        exact (ps_asg PEt PGt (nolc_sole (by simpa using h3.1)) (swap_none h3.2) (by rw [chkG_star h1]; rfl)).weak fun De σ H q => main q
      · cases h3
    · cases h
  | .par i j t u, c, W, ex, X, st, hf, o, h => by
    simp only [chkS] at h
    split at h
    · simp only [Bool.and_eq_true, decide_eq_true_eq, Bool.not_eq_true'] at h
      obtain ⟨⟨⟨⟨⟨⟨⟨⟨⟨⟨h1, h2⟩, h3⟩, h4⟩, h5⟩, h6⟩, h7⟩, h8⟩, h9⟩, h10⟩, hca⟩ := h
      have hp := chkEs_plain h7
      simp only [List.all_cons, List.all_nil, Bool.and_eq_true, Bool.and_true] at hp
      rename_i x q y q2 _ _ a b _ _ _
      have hl5 : X.env.scope.names.lookup x = some .local := by rw [o.hsc]; exact h5
      have hl6 : X.env.scope.names.lookup y = some .local := by rw [o.hsc]; exact h6
      refine (ps_par (o.calm hca) (by rw [o.hN]; exact o.nd) (by rw [o.hN]; exact h1) (by rw [o.hN]; exact h2) h3 hl5 hl6 (sEs [t, u] (ex := ex) o h7) (swap_par hf.1 hl5 hl6 h4 h8 hp.1 hp.2 h9 h10)).weak fun De σ H q => ?_
      obtain ⟨σd, S, E, rs, hr, xk, f, ek⟩ := q
      simp only [wpS] at f
      refine ⟨σd, S, fun ds S1 => match ds with | [x, y] => E.nx ((σd.set i (some x)).set j (some y)) S1 | _ => False, rs, hr, xk, ?_, fun ds S1 hd vs H1 f1 rv h1 => ?_⟩
      · simp only [wpEs]
        exact f
      · dsimp only at hd
        split at hd
        · obtain ⟨v, u, rfl, r1, r2⟩ := relds_two rv
          exact ⟨v, u, rfl, ek.nx _ S1 hd _ H1 f1 (((rs.mono (f1.ext hr)).set r1).set r2) h1⟩
        · exact hd.elim
    · cases h
  | .par3 i j l t u v, c, W, ex, X, st, hf, o, h => by
    simp only [chkS] at h
    split at h
    · simp only [Bool.and_eq_true, decide_eq_true_eq, Bool.not_eq_true'] at h
      obtain ⟨⟨⟨⟨⟨⟨⟨⟨⟨⟨⟨⟨⟨⟨⟨⟨⟨h1, h2⟩, h3⟩, n1⟩, n2⟩, n3⟩, m1⟩, m2⟩, m3⟩, l1⟩, l2⟩, l3⟩, h7⟩, h8⟩, h8'⟩, h9⟩, h10⟩, hca⟩ := h
      have hp := chkEs_plain h7
      simp only [List.all_cons, List.all_nil, Bool.and_eq_true, Bool.and_true] at hp
      rename_i x q y q2 z q3 _ _ a b d _ _ _
      have hl5 : X.env.scope.names.lookup x = some .local := by rw [o.hsc]; exact l1
      have hl6 : X.env.scope.names.lookup y = some .local := by rw [o.hsc]; exact l2
      have hl7 : X.env.scope.names.lookup z = some .local := by rw [o.hsc]; exact l3
      refine (ps_par3 (o.calm hca) (by rw [o.hN]; exact o.nd) (by rw [o.hN]; exact h1) (by rw [o.hN]; exact h2) (by rw [o.hN]; exact h3) n1 n2 n3 hl5 hl6 hl7 (sEs [t, u, v] (ex := ex) o h7) (swap_par3 hf.1 hl5 hl6 hl7 m1 m2 m3 h8 h8' hp.1 hp.2.1 hp.2.2 h9 h10)).weak fun De σ H q => ?_
      obtain ⟨σd, S, E, rs, hr, xk, f, ek⟩ := q
      simp only [wpS] at f
      refine ⟨σd, S, fun ds S1 => match ds with | [x, y, z] => E.nx (((σd.set i (some x)).set j (some y)).set l (some z)) S1 | _ => False, rs, hr, xk, ?_, fun ds S1 hd vs H1 f1 rv h1 => ?_⟩
      · simp only [wpEs]
        exact f
      · dsimp only at hd
        split at hd
        · simp only [RelDs] at rv
          obtain ⟨v1, _, rfl, r1, v2, _, rfl, r2, v3, _, rfl, r3, rfl⟩ := rv
          exact ⟨v1, v2, v3, rfl, ek.nx _ S1 hd _ H1 f1 ((((rs.mono (f1.ext hr)).set r1).set r2).set r3) h1⟩
        · exact hd.elim
    · cases h
  | .star is i js t, c, W, ex, X, st, hf, o, h => by
    simp only [chkS] at h
    split at h
    · rename_i es _ _ e _
      simp only [Bool.and_eq_true] at h
      obtain ⟨⟨⟨⟨h1, h2⟩, h3⟩, h4⟩, hca⟩ := h
      obtain ⟨p, hn, hst⟩ := sStar o i js is es h1
      refine (ps_asg (sE t (ex := ex) o h2) (pg_star (o.calm hca) p hn hst) (nolc_sole (by simpa using h3)) (swap_none h4) rfl).weak fun De σ H q => ?_
      obtain ⟨σd, S, E, rs, hr, xk, f, ek⟩ := q
      simp only [wpS] at f
      refine ⟨σd, S, _, rs, hr, xk, f, fun d S1 hd v H1 f1 rv h1 => ?_⟩
      split at hd
      · rename_i ds e1
        obtain ⟨a, xs, rfl, q1, q2, _⟩ := items_of h1 e1 rv
        have hlen := q1.length
        refine ⟨a, xs, rfl, q2.symm, by simp only [List.length_append, List.length_cons, List.length_nil]; omega, by simp only [List.length_append, List.length_cons, List.length_nil]; omega, by omega, fun p' np => ?_⟩
        have en : xs.length + 1 - (is.length + 1 + js.length) = ds.length - is.length - js.length := by omega
        have em : (xs.drop is.length).drop (ds.length - is.length - js.length) = xs.drop (ds.length - js.length) := by rw [List.drop_drop]; congr 1; omega
        rw [show (is ++ [i] ++ js).length = is.length + 1 + js.length by simp only [List.length_append, List.length_cons, List.length_nil], en, em]
        have rmid : RelDs X.K X.w H1 ((ds.drop is.length).take (ds.length - is.length - js.length)) ((xs.drop is.length).take (ds.length - is.length - js.length)) := (q1.drop _).take _
        have hr2 : HR X.K X.w (upd H1 p' (.lst ((xs.drop is.length).take (ds.length - is.length - js.length)))) (updS S1 p' (.lst ((ds.drop is.length).take (ds.length - is.length - js.length)))) := by
          refine HR.addS (h1.free np) ⟨_, upd_same, RelDs.mono (ext_new np) _ _ rmid⟩
        have f2 : Fm H1 S1 (upd H1 p' (.lst ((xs.drop is.length).take (ds.length - is.length - js.length)))) (updS S1 p' (.lst ((ds.drop is.length).take (ds.length - is.length - js.length)))) := by
          intro b ob eb qb
          have ne : b ≠ p' := ne_of_none eb np
          exact ⟨by rw [upd_ne ne]; exact eb, by rw [updS_ne ne]; exact qb⟩
        have rall : RelDs X.K X.w (upd H1 p' (.lst ((xs.drop is.length).take (ds.length - is.length - js.length)))) (ds.take is.length ++ [.ref p'] ++ ds.drop (ds.length - js.length)) (xs.take is.length ++ [.ref p'] ++ xs.drop (ds.length - js.length)) :=
          ((RelDs.mono (ext_new np) _ _ (q1.take _)).append (by simp only [RelDs, RelD]; exact ⟨_, [], rfl, rfl, rfl⟩)).append (RelDs.mono (ext_new np) _ _ (q1.drop _))
        refine gDs_of (vs := []) hr2 _ _ _ σd σ _ _ rall (rs.mono ((f1.trans f2).ext hr)) (by simp; omega) (hd.2.2 p' (h1.fresh np)) fun σd2 σ2 h4 h5 _ => ek.nx σd2 _ h4 σ2 _ (f1.trans f2) h5 hr2
      · exact hd.elim
    · cases h
  | .set a i t, c, W, ex, X, st, hf, o, h => by
    simp only [chkS] at h
    split at h
    · simp only [Bool.and_eq_true] at h
      obtain ⟨⟨⟨⟨h1, h2⟩, h3⟩, h4⟩, h5⟩ := h
      refine (ps_asg (sE t (ex := ex) o h4) (pg_sub (sE a (ex := ex) o h1) (sE i (ex := ex) o h2) (set_ok o.hu1) (sub_assign h3)) (nolc_sole (by simpa using h5)) rfl rfl).weak fun De σ H q => ?_
      obtain ⟨σd, S, E, rs, hr, xk, f, ek⟩ := q
      simp only [wpS] at f
      refine ⟨σd, S, _, rs, hr, xk, f, fun v S1 hv vv H1 f1 rv h1 => ⟨σd, S1, _, rs.mono (f1.ext hr), h1, xk.next f1, hv, fun oo S2 ho vo H2 f2 ro h2 => ⟨σd, S2, _, rs.mono ((f1.trans f2).ext hr), h2, xk.next (f1.trans f2), ho, fun kk S3 hk vk H3 f3 rk h3 => ?_⟩⟩⟩
      exact ⟨oo, kk, v, S3, _, RelD.mono (f3.ext h2) _ _ ro, rk, RelD.mono ((f2.trans f3).ext h1) _ _ rv, h3, hk, fun S4 h4 H4 f4 h4' => ek.nx _ S4 h4 _ H4 (((f1.trans f2).trans f3).trans f4) (rs.mono ((((f1.trans f2).trans f3).trans f4).ext hr)) h4'⟩
    · cases h
  | .setf a fl t, c, W, ex, X, st, hf, o, h => by
    simp only [chkS] at h
    split at h
    · simp only [Bool.and_eq_true, decide_eq_true_eq] at h
      obtain ⟨⟨⟨⟨h1, h2⟩, h3⟩, h4⟩, h5⟩ := h
      have h1' := h1.symm
      subst h1'
      refine (ps_fld (sE a (ex := ex) o h2) (sE t (ex := ex) o h3) (nolc_swap (by simpa using h4))).weak fun De σ H q => ?_
      obtain ⟨σd, S, E, rs, hr, xk, f, ek⟩ := q
      simp only [wpS] at f
      refine ⟨σd, S, _, rs, hr, xk, f, fun v S1 hv vv H1 f1 rv h1 => ⟨σd, S1, _, rs.mono (f1.ext hr), h1, xk.next f1, hv, fun oo S2 ho vo H2 f2 ro h2 => ?_⟩⟩
      unfold wSetf at ho
      split at ho
      · rename_i p
        split at ho
        · rename_i cn fs es
          simp only [RelD] at ro
          obtain ⟨C, dx, fv, cf, e1, r1⟩ := h2 p _ es
          refine ⟨p, C, dx, fv, ro, e1, cf.cl, cf.na _ (by simpa using h5), by rw [← relf_len r1]; omega, ?_⟩
          refine ek.nx _ _ ho.2 _ _ ((f1.trans f2).trans (Fm.mut es)) ?_ (h2.mut es ⟨C, dx, _, cf, upd_same, ?_⟩)
          · exact rs.mono (((f1.trans f2).trans (Fm.mut (o := .ins C dx (putF fl vv fv)) (ob := .ins cn (putFD fl v fs)) es)).ext hr)
          · exact relf_put (RelD.mono (ext_mut h2 es) _ _ (RelD.mono (f2.ext h1) _ _ rv)) (RelF.mono (ext_mut h2 es) _ _ r1)
        · exact ho.elim
      · exact ho.elim
    · cases h
  | .aug op i t, c, W, ex, X, st, hf, o, h => by
    simp only [chkS] at h
    split at h
    · simp only [Bool.and_eq_true, decide_eq_true_eq] at h
      obtain ⟨⟨⟨rfl, h1⟩, h2⟩, h3⟩ := h
      obtain ⟨l1, l2⟩ := o.loc_of h2
      refine (ps_aug (by rw [o.hN]; exact o.nd) (by rw [o.hN]; exact h1) l1 (sE t (ex := ex) o h3) (pip_ok op) l2).weak fun De σ H q => ?_
      obtain ⟨σd, S, E, rs, hr, xk, f, ek⟩ := q
      simp only [wpS] at f
      split at f
      · rename_i x ed
        obtain ⟨v, e1, e2⟩ := rs.get ed
        simp only [RelD] at e2
        subst e2
        refine ⟨_, e1, σd, S, _, rs, hr, xk, f, fun d S1 hd u H1 f1 ru h1 => ?_⟩
        split at hd
        · simp only [RelD] at ru
          exact ⟨_, _, rfl, ru, .inl ⟨rfl, ek.nx _ S1 hd _ H1 f1 ((rs.mono (f1.ext hr)).set (by simp only [RelD])) h1⟩⟩
        · simp only [RelD] at ru
          exact ⟨_, _, rfl, ru, .inr ⟨rfl, ek.nx _ S1 hd _ H1 f1 ((rs.mono (f1.ext hr)).set (by simp only [RelD])) h1⟩⟩
        · exact hd.elim
      · exact f.elim
    · cases h
  | .ife t a b, c, W, ex, X, st, hf, o, h => by
    simp only [chkS] at h
    split at h
    · simp only [Bool.and_eq_true] at h
      obtain ⟨⟨h1, h2⟩, h3⟩ := h
      refine (ps_if (sT t (ex := ex) o h1) (sSs a (ex := ex) hf o h2) (sSs b (ex := ex) hf o h3)).weak fun De σ H q => ?_
      obtain ⟨σd, S, E, rs, hr, xk, f, ek⟩ := q
      simp only [wpS] at f
      refine ⟨σd, S, _, rs, hr, xk, f, fun bb S1 hb H1 f1 h1' => ?_⟩
      cases bb with
      | true =>
        rw [if_pos rfl] at hb ⊢
        exact ⟨σd, S1, E, rs.mono (f1.ext hr), h1', xk.next f1, hb, ek.next f1⟩
      | false =>
        rw [if_neg Bool.false_ne_true] at hb ⊢
        exact ⟨σd, S1, E, rs.mono (f1.ext hr), h1', xk.next f1, hb, ek.next f1⟩
    · cases h
  | .whil t b, c, W, ex, X, st, hf, o, h => by
    simp only [chkS] at h
    split at h
    · simp only [Bool.and_eq_true] at h
      obtain ⟨h1, h2⟩ := h
      refine (ps_while o.po (sT t (ex := ex) o h1) (sSs b (ex := ex) hf o h2)).weak fun De σ H q => ?_
      obtain ⟨σd, S, E, rs, hr, xk, f, ek⟩ := q
      simp only [wpS] at f
      obtain ⟨Wd, ⟨m0, w0⟩, turn⟩ := f
      refine ⟨fun m σ Hh => ∃ σd Sh, HR X.K X.w Hh Sh ∧ Fm H S Hh Sh ∧ RelSt X.K X.w Hh σd σ ∧ Wd m σd Sh, ⟨m0, σd, S, hr, Fm.refl _ _, rs, w0⟩, ?_⟩
      rintro m σ Hh ⟨σd, Sh, hh, fm, rs, wm⟩
      refine ⟨σd, Sh, _, rs, hh, xk.next fm, turn m σd Sh wm, fun bb S1 hb H1 f1 h1' => ?_⟩
      have fm1 := fm.trans f1
      have rs1 := rs.mono (f1.ext hh)
      cases bb with
      | true =>
        rw [if_pos rfl] at hb
        dsimp only
        rw [if_pos rfl]
        refine ⟨fun σ' H' => ∃ m', m' < m ∧ ∃ σd Sh, HR X.K X.w H' Sh ∧ Fm H S H' Sh ∧ RelSt X.K X.w H' σd σ' ∧ Wd m' σd Sh, fun σ' H' z => z, σd, S1, _, rs1, h1', xk.next fm1, hb,
          ⟨fun σd3 S3 h3 σ3 H3 f3 r3 hr3 => ?_, fun d S3 h3 v H3 f3 r3 hr3 => ek.rt d S3 h3 v H3 (fm1.trans f3) r3 hr3, fun σd3 S3 h3 σ3 H3 f3 r3 hr3 => ek.nx σd3 S3 h3 σ3 H3 (fm1.trans f3) r3 hr3, fun σd3 S3 h3 σ3 H3 f3 r3 hr3 => ?_⟩⟩
        · obtain ⟨m', hm, hw⟩ := h3
          exact ⟨m', hm, σd3, S3, hr3, fm1.trans f3, r3, hw⟩
        · obtain ⟨m', hm, hw⟩ := h3
          exact ⟨m', hm, σd3, S3, hr3, fm1.trans f3, r3, hw⟩
      | false =>
        rw [if_neg Bool.false_ne_true] at hb
        dsimp only
        rw [if_neg Bool.false_ne_true]
        exact ek.nx σd S1 hb σ H1 fm1 rs1 h1'
    · cases h
  | .fr g it b, c, W, ex, X, st, hf, o, h => by
    simp only [chkS] at h
    split at h
    · simp only [Bool.and_eq_true] at h
      obtain ⟨⟨⟨⟨h1, h2⟩, h3⟩, h4⟩, hca⟩ := h
      refine (ps_for o.po (o.calm hca) (sI it (ex := ex) o h1) (sG o g _ h2) (sSs b (ex := ex) hf o h3) (plain_fold h4)).weak fun De σ H q => ?_
      obtain ⟨σd, S, E, rs, hr, xk, f, ek⟩ := q
      simp only [wpS] at f
      exact ⟨σd, S, _, rs, hr, xk, f, fun ds G S1 hd J H1 f1 h1' wk => for_of (rs.mono (f1.ext hr)) h1' (xk.next f1) wk hd (ek.next f1)⟩
    · cases h
  | .ret t, c, W, ex, X, st, hf, o, h => by
    simp only [chkS] at h
    split at h
    · refine (ps_ret (sE t (ex := ex) o h)).weak fun De σ H q => ?_
      obtain ⟨σd, S, E, rs, hr, xk, f, ek⟩ := q
      simp only [wpS] at f
      exact ⟨σd, S, _, rs, hr, xk, f, fun d S1 hd v H1 f1 rv h1 => ek.rt d S1 hd v H1 f1 rv h1⟩
    · cases h
  | .retN, c, W, ex, X, st, hf, o, h => by
    simp only [chkS] at h
    split at h
    · refine ps_retN.weak fun De σ H q => ?_
      obtain ⟨σd, S, E, rs, hr, xk, f, ek⟩ := q
      simp only [wpS] at f
      exact ek.rt _ S f _ H (Fm.refl _ _) (by simp only [RelD]) hr
    · cases h
  | .pass, c, W, ex, X, st, hf, o, h => by
    simp only [chkS] at h
    split at h
    · refine ps_pass.weak fun De σ H q => ?_
      obtain ⟨σd, S, E, rs, hr, xk, f, ek⟩ := q
      simp only [wpS] at f
      exact ek.nx _ S f _ H (Fm.refl _ _) rs hr
    · cases h
  | .brk, c, W, ex, X, st, hf, o, h => by
    simp only [chkS] at h
    split at h
    · refine ps_break.weak fun De σ H q => ?_
      obtain ⟨σd, S, E, rs, hr, xk, f, ek⟩ := q
      simp only [wpS] at f
      exact ek.bk _ S f _ H (Fm.refl _ _) rs hr
    · cases h
  | .cont, c, W, ex, X, st, hf, o, h => by
    simp only [chkS] at h
    split at h
    · refine ps_continue.weak fun De σ H q => ?_
      obtain ⟨σd, S, E, rs, hr, xk, f, ek⟩ := q
      simp only [wpS] at f
      exact ek.ct _ S f _ H (Fm.refl _ _) rs hr
    · cases h
  | .never, c, W, ex, X, st, hf, o, h => ps_never.weak fun De σ H q => by
      obtain ⟨σd, S, E, rs, hr, xk, f, ek⟩ := q
      simp only [wpS] at f
  | .rais n ts, c, W, ex, X, st, hf, o, h => by
    simp only [chkS] at h
    split at h
    · simp only [Bool.and_eq_true, decide_eq_true_eq, Bool.not_eq_true'] at h
      obtain ⟨⟨⟨⟨⟨rfl, h1⟩, h2⟩, h3⟩, h4⟩, hca⟩ := h
      obtain ⟨g1, g2, g3⟩ := o.gl_of h1
      obtain ⟨ns, C, fI, fd, e1, RF⟩ := o.xr _ h4
      have hp := chkEs_plain h2
      have PAs := sEs ts (ex := ex) o h2
      rename_i es _ _
      cases es with
      | nil => simp at h3
      | cons e0 es =>
        rw [List.all_cons, Bool.and_eq_true] at hp
        refine (ps_raisD RF (o.calm hca) o.tk ((o.rm hca).rm.mono (by omega)) g1 g2 PAs (plain_star hp.1) (star_all hp.2)).weak fun De σ H q => ?_
        obtain ⟨σd, S, E, rs, hr, xk, f, ek⟩ := q
        simp only [wpS, e1] at f
        refine ⟨σd, S, _, rs, hr, xk, f, fun ds S1 hd vs H1 f1 rv h1' => ?_⟩
        have hl := rv.length
        have hnl : ns.length ≤ 2 := xcl_len e1
        refine rInner_of (by rw [← hl]; exact hd.1) (by rw [← hl, hd.1]; omega) fun dx nd => ?_
        have rv' := RelDs.mono (ext_new (o := .xd (ns.zip vs).reverse) nd) _ _ rv
        refine xk _ _ S1 hd.2 σ _ _ _ (f1.trans (Fm.tup h1' nd)) (rs.mono ((f1.trans (Fm.tup (o := .xd (ns.zip vs).reverse) h1' nd)).ext hr)) ⟨C, dx, vs.reverse, rfl, RF.cls, rfl, ?_, rv'.reverse⟩ (HR.xd h1' nd)
        rw [upd_same]
        congr 2
        exact zip_rev (by rw [← hl]; exact hd.1.symm)
    · cases h
  | .tryx b m i hd, c, W, ex, X, st, hf, o, h => by
    simp only [chkS] at h
    split at h
    · simp only [Bool.and_eq_true, decide_eq_true_eq] at h
      obtain ⟨⟨⟨⟨⟨⟨⟨⟨h1, h2⟩, h3⟩, h4⟩, h5⟩, h6⟩, h7⟩, h8⟩, hca⟩ := h
      subst h1
      obtain ⟨g1, g2, g3⟩ := o.gl_of h2
      obtain ⟨M, m1, m2⟩ := o.xs _ h8
      rename_i body x _ nm b0 suite _ _
      have hln : X.env.kindOf nm = some .local := by show X.env.scope.names.lookup nm = _; rw [o.hsc]; exact h4
      refine (ps_tryK (i := i) (c := .ref M) (Wout := W) (tb := fun W' D σ H => ∃ ex', tDS X.K X.w W' ex' (wpSs (cw defs gl k) ex' b) D σ H) (ts := fun a oe => tDS X.K X.w W0 ex0 (wpSs (cw defs gl k) ex0 hd)) hf.2.1 hf.2.2 (by rw [o.hN]; exact o.nd) (by rw [o.hN]; exact h3) hln ⟨g1, g2, .inl m1⟩ o.tk
        (fun W' pn xe tk' po' => ⟨fun pins s σ H D I ⟨ex', q⟩ => (sSs b (c := c) (ex := ex') (X := X.tr pn xe) hf (o.tr tk' po') h5).run pins s σ H D I q⟩) (fun a oe pn => sSs hd (c := { c with calm := false }) (X := X.suite a pn) hf (o.suite a pn) h6)).weak fun De σ H q => ?_
      obtain ⟨σd, S, E, rs, hr, xk, f, ek⟩ := q
      simp only [wpS] at f
      refine ⟨_, σd, S, E, rs, hr, fun x σd' S' hx σ' H' cls d fm rs' rx hr' => ?_, f, ek⟩
      obtain ⟨C, da, vs, rfl, xc, rfl, q1, q2⟩ := rx
      refine ⟨_, (xc.is _ (by simpa using h7) M m2).2, fun e => ?_, fun e => ?_⟩
      · intro a oe na hz hfv
        have e := of_decide_eq_true e
        rw [if_pos e] at hx
        have fm2 : Fm H' S' (upd H' a (kept oe)) S' := Fm.tup hr' na
        have ext2 := ext_new (o := kept oe) na
        have fm3 := fm.trans fm2
        refine ⟨_, S', _, (rs'.mono ext2).set ?_, HR.keep hr' na, exk0, hx, ⟨fun σd2 S2 h2 σ2 H2 f2 r2 hr2 => ek.nx _ S2 h2 _ H2 (fm3.trans f2) r2.unset hr2, fun d S2 h2 v H2 f2 r2 hr2 => ek.rt d S2 h2 v H2 (fm3.trans f2) r2 hr2, fun σd2 S2 h2 σ2 H2 f2 r2 hr2 => ek.bk _ S2 h2 _ H2 (fm3.trans f2) r2.unset hr2, fun σd2 S2 h2 σ2 H2 f2 r2 hr2 => ek.ct _ S2 h2 _ H2 (fm3.trans f2) r2.unset hr2⟩⟩
        simp only [RelD]
        exact ⟨a, oe, C, da, vs, rfl, xc, upd_same, hz.1, hz.2, hfv, ext2.xd _ _ q1, RelDs.mono ext2 _ _ q2⟩
      · have e := of_decide_eq_false e
        rw [if_neg e] at hx
        exact xk x σd' S' hx σ' H' _ _ fm rs' ⟨C, da, vs, rfl, xc, rfl, q1, q2⟩ hr'
    · cases h
theorem sSs : ∀ (s : List TS) {c : Cc} {W : WX} {ex : EX} {X : Cx} {st : List Stmt}, (X.env.scope.kind = .function ∧ X.stack = X.env :: X.outer ∧ X.env.frame = some X.env.locals) → XOk defs gl k c W X → chkSs c s st = true → PSs X st (tDS X.K X.w W ex (wpSs (cw defs gl k) ex s))
  | [], c, W, ex, X, st, hf, o, h => by
    simp only [chkSs] at h
    split at h
    · refine pss_nil.weak fun De σ H q => ?_
      obtain ⟨σd, S, E, rs, hr, xk, f, ek⟩ := q
      simp only [wpSs] at f
      exact ek.nx _ S f _ H (Fm.refl _ _) rs hr
    · cases h
  | s :: ss, c, W, ex, X, st, hf, o, h => by
    simp only [chkSs] at h
    split at h
    · cases h
    · simp only [Bool.and_eq_true] at h
      refine (pss_cons (sS s (ex := ex) hf o h.1) (sSs ss (ex := ex) hf o h.2)).weak fun De σ H q => ?_
      obtain ⟨σd, S, E, rs, hr, xk, f, ek⟩ := q
      simp only [wpSs] at f
      exact ⟨σd, S, _, rs, hr, xk, f, ⟨fun σd1 S1 h1 σ1 H1 f1 r1 hr1 => ⟨σd1, S1, E, r1, hr1, xk.next f1, h1, ek.next f1⟩, ek.rt, ek.bk, ek.ct⟩⟩
end
end
end Z

set_option Elab.async false
set_option linter.all false
set_option maxRecDepth 100000
set_option maxHeartbeats 4000000
namespace Z
open PySem PySem.Spec PyProof.Rows L2
section
variable {P : Program} {w : World} {K : PySem.W.Frag} {mg : Str → Option Value} {base : Heap} {defs : Str → Option DefT} {gl : Str → Option D}
structure DFact (K : PySem.W.Frag) (w : World) (mg : Str → Option Value) (dfs xs xr hot : List Str) (ms : List (Str × Str × Str)) (mks : List (Str × Str × Nat)) (f : Str) (d : DefT) (fa : Addr) (fd : FuncData) (N ps : List Str) (st : Stmt) : Prop where
  mgf : dfs.contains f = true → mg f = some (.ref fa)
  fn : ∃ nm dvs kws, FunD K nm f (defArgs st) (defBody st) (defScope st) dvs kws fa fd
  fnH : hot.contains f = true → Fun K f f st fa fd
  bd : kwT f = none → Binds K fd ps []
  kb : ∀ n ks, kwT f = some (n, ks) → KBn K fd ps n ks (fun us ws => us ++ ws) (fun vs zs => vs ++ zs)
  np : ps.length = d.np
  ns : N.length = d.ns
  sc : FnScope N ps (defScope st)
  ck : chkSs ⟨N, defScope st, fun _ => true, dfs, xs, xr, hot, ms, mks, true⟩ d.body (defBody st) = true
  ckH : hot.contains f = true → chkSs ⟨N, defScope st, fun _ => true, dfs, xs, xr, hot, ms, mks, false⟩ d.body (defBody st) = true
  msf : ∀ cn m, ms.contains (f, cn, m) = true → ∃ C, ClsF K cn C ∧ Meth K C m fa
  mkf : ∀ cn n, mks.contains (f, cn, n) = true → ∃ C dz dvs, ClsF K cn C ∧ mg cn = some (.ref C) ∧ Mk K C fa ∧ Binds K fd ps dz ∧ Vals dvs dz ∧ ∀ H, RelDs K w H (padT f n) dvs
structure GFact (K : PySem.W.Frag) (w : World) (mg : Str → Option Value) (dfs xs xr hot : List Str) (ms : List (Str × Str × Str)) (mks : List (Str × Str × Nat)) (defs : Str → Option DefT) (gl : Str → Option D) : Prop where
  df : ∀ f d, defs f = some d → ∃ fa fd N ps st, DFact K w mg dfs xs xr hot ms mks f d fa fd N ps st
  hdf : ∀ f, dfs.contains f = true → ∃ d, defs f = some d
  hms : ∀ q cn m, ms.contains (q, cn, m) = true → ∃ d, defs q = some d
  hmk : ∀ q cn n, mks.contains (q, cn, n) = true → ∃ d, defs q = some d
  nkw : ∀ g, (hot.contains g = true ∨ ∃ cn m, ms.contains (g, cn, m) = true) → kwT g = none
  hotd : ∀ g, hot.contains g = true → ∀ fa fd N ps st d, DFact K w mg dfs xs xr hot ms mks g d fa fd N ps st → mg g = some (.ref fa)
  gls : ∀ x d, gl x = some d → ∃ u v, mg x = some u ∧ RelV v u ∧ ∀ H, RelD K w H d v
  blt : ∀ n ∈ bnames, mg (Str.ofString n) = none
  xs : ∀ m, xs.contains m = true → ∃ M, mg m = some (.ref M) ∧ PySem.W.nsIn K mainGlobals m = some (some (.ref M))
  xr : ∀ n, xr.contains n = true → ∃ ns C fI fd, xcl n = some ns ∧ RFact K mg n ns C fI fd
theorem relst_start {H : Hp} {N : List Str} {ds : List D} {vs : List V} {ns : Nat} (hn : N.length = ns) (r : RelDs K w H ds vs) : RelSt K w H (startD ns ds) (L2.start N vs) := by
  unfold startD L2.start
  have hl := r.length
  refine ⟨by simp [hn, hl], fun i d e => ?_⟩
  by_cases hi : i < ds.length
  · rw [List.getElem?_append_left (by simpa using hi), List.getElem?_map] at e
    rw [List.getElem?_append_left (by rw [List.length_map, ← hl]; exact hi), List.getElem?_map]
    cases q : ds[i]? with
    | none => rw [q] at e; cases e
    | some d' =>
      rw [q] at e
      cases e
      obtain ⟨v, h1, h2⟩ := r.get q
      exact ⟨v, by rw [h1]; rfl, h2⟩
  · rw [List.getElem?_append_right (by simpa using hi)] at e
    rw [List.getElem?_replicate] at e
    split at e <;> cases e
theorem all_ok2 {dfs xs xr hot : List Str} {ms : List (Str × Str × Str)} {mks : List (Str × Str × Nat)} (G : GFact K w mg dfs xs xr hot ms mks defs gl) : ∀ (k : Nat) (f : Str) (d : DefT) (fa : Addr) (fd : FuncData) (N ps : List Str) (st : Stmt), defs f = some d → DFact K w mg dfs xs xr hot ms mks f d fa fd N ps st →
    FnG P w K mg base (L2.CX P w) (2 * k + 2) fa fd ps (spD K w d.np (sem defs gl k f)) ∧ (hot.contains f = true → FnQ P w K mg base (L2.CX P w) (2 * k + 2) fa fd ps (spD K w d.np (sem defs gl k f))) := by
  intro k
  induction k with
  | zero =>
    intro f d fa fd N ps st ed F
    exact ⟨⟨fun vs H Q E h => by obtain ⟨_, _, _, _, _, _, _, z, _⟩ := h; exact z.elim, fun A outer s H args us vs Q E _ _ _ _ h => by obtain ⟨_, _, _, _, _, _, _, z, _⟩ := h; exact z.elim⟩, fun _ => ⟨fun vs H Q E h => by obtain ⟨_, _, _, _, _, _, _, z, _⟩ := h; exact z.elim, fun A outer s H args us vs Q E _ _ _ _ h => by obtain ⟨_, _, _, _, _, _, _, z, _⟩ := h; exact z.elim⟩⟩
  | succ k ih =>
    intro f d fa fd N ps st ed F
    have hln : ∀ vs H Q E, spD K w d.np (sem defs gl (k + 1) f) vs H Q E → vs.length = ps.length := fun vs H Q E h => by
      obtain ⟨ds, _, _, _, hl, rd, _⟩ := h
      rw [← rd.length, hl, F.np]
    have calK : ∀ g dg n ks, dfs.contains g = true → kwT g = some (n, ks) → defs g = some dg → ∃ fa fd ps, mg g = some (.ref fa) ∧ PySem.W.keepIn K (.ref fa) = true ∧ KBn K fd ps n ks (fun us ws => us ++ ws) (fun vs zs => vs ++ zs) ∧ ps.length = dg.np ∧ FnG P w K mg base (L2.CX P w) (2 * k + 2) fa fd ps (spD K w dg.np (sem defs gl k g)) := fun g dg n ks hg hk eg => by
      obtain ⟨fa', fd', N', ps', st', F'⟩ := G.df g dg eg
      obtain ⟨_, _, _, fn'⟩ := F'.fn
      exact ⟨fa', fd', ps', F'.mgf hg, fn'.kp, F'.kb n ks hk, F'.np, (ih g dg fa' fd' N' ps' st' eg F').1⟩
    have cal : ∀ g dg, dfs.contains g = true → kwT g = none → defs g = some dg → ∃ fa fd ps, mg g = some (.ref fa) ∧ PySem.W.keepIn K (.ref fa) = true ∧ Binds K fd ps [] ∧ ps.length = dg.np ∧ FnG P w K mg base (L2.CX P w) (2 * k + 2) fa fd ps (spD K w dg.np (sem defs gl k g)) := fun g dg hg hkw eg => by
      obtain ⟨fa', fd', N', ps', st', F'⟩ := G.df g dg eg
      obtain ⟨_, _, _, fn'⟩ := F'.fn
      exact ⟨fa', fd', ps', F'.mgf hg, fn'.kp, F'.bd hkw, F'.np, (ih g dg fa' fd' N' ps' st' eg F').1⟩
    have calH : ∀ g dg, hot.contains g = true → defs g = some dg → ∃ fa fd ps, mg g = some (.ref fa) ∧ PySem.W.keepIn K (.ref fa) = true ∧ Binds K fd ps [] ∧ ps.length = dg.np ∧ FnQ P w K mg base (L2.CX P w) (2 * k + 2) fa fd ps (spD K w dg.np (sem defs gl k g)) := fun g dg hg eg => by
      obtain ⟨fa', fd', N', ps', st', F'⟩ := G.df g dg eg
      exact ⟨fa', fd', ps', G.hotd g hg fa' fd' N' ps' st' dg F', (F'.fnH hg).kp, F'.bd (G.nkw g (.inl hg)), F'.np, (ih g dg fa' fd' N' ps' st' eg F').2 hg⟩
    have cms : ∀ q cn m, ms.contains (q, cn, m) = true → ∃ d C f fd ps, defs q = some d ∧ ClsF K cn C ∧ Meth K C m f ∧ Binds K fd ps [] ∧ ps.length = d.np ∧ FnG P w K mg base (L2.CX P w) (2 * k + 2) f fd ps (spD K w d.np (sem defs gl k q)) := fun q cn m hm => by
      obtain ⟨d', eg⟩ := G.hms q cn m hm
      obtain ⟨fa', fd', N', ps', st', F'⟩ := G.df q d' eg
      obtain ⟨C, cf, mt⟩ := F'.msf cn m hm
      exact ⟨d', C, fa', fd', ps', eg, cf, mt, F'.bd (G.nkw q (.inr ⟨cn, m, hm⟩)), F'.np, (ih q d' fa' fd' N' ps' st' eg F').1⟩
    have cmk : ∀ q cn n, mks.contains (q, cn, n) = true → ∃ d C f fd ps dz dvs, defs q = some d ∧ ClsF K cn C ∧ mg cn = some (.ref C) ∧ Mk K C f ∧ Binds K fd ps dz ∧ Vals dvs dz ∧ (∀ H, RelDs K w H (padT q n) dvs) ∧ ps.length = d.np ∧ FnG P w K mg base (L2.CX P w) (2 * k + 2) f fd ps (spD K w d.np (sem defs gl k q)) := fun q cn n hm => by
      obtain ⟨d', eg⟩ := G.hmk q cn n hm
      obtain ⟨fa', fd', N', ps', st', F'⟩ := G.df q d' eg
      obtain ⟨C, dz, dvs, cf, m1, mk, bd, vd, rp⟩ := F'.mkf cn n hm
      exact ⟨d', C, fa', fd', ps', dz, dvs, eg, cf, m1, mk, bd, vd, rp, F'.np, (ih q d' fa' fd' N' ps' st' eg F').1⟩
    obtain ⟨nm0, dvs0, kws0, fn0⟩ := F.fn
    refine ⟨fng_of fn0 F.sc hln fun cdv A outer s H vs Q E hr h => ?_, fun hhot => fnq_of (F.fnH hhot) F.sc hln fun cdv A outer s H vs Q E p hr h => ?_⟩
    · obtain ⟨ds, S, R, RX, hl, rd, hh, f', kk, xx⟩ := h
      simp only [sem, ed] at f'
      have o : XOk defs gl k ⟨N, defScope st, fun _ => true, dfs, xs, xr, hot, ms, mks, true⟩ (fun cls d _ H => E cls d H) (cxOf (L2.CX P w) P w K mg base N f (defScope st) fa cdv A outer s H E) :=
        { cal := cal, calK := calK, calH := calH, xs := G.xs, xr := G.xr, ms := cms, mks := cmk, gls := G.gls, blt := G.blt, hN := rfl, hsc := rfl, hfn := rfl, room := ⟨L2H.roomH_of hr.rm, hr.gd⟩, hand := fun _ => hr.rm.hd, calm := fun _ => rfl, tk := takes_of rfl rfl rfl rfl, po := passes_of rfl, nd := F.sc.nd, hdf := G.hdf }
      refine ⟨_, sSs d.body (ex := fun x _ S' => RX x S') ⟨F.sc.kind, rfl, rfl⟩ o F.ck, ?_⟩
      refine ⟨startD d.ns ds, S, _, relst_start F.ns rd, hh, fun x σd S' hx σ H' cls dd fm rs rx hr' => xx x S' hx cls dd H' fm rx hr', f'.2, ⟨fun σd S' hx σ H' fm rs hr' => ?_, fun d S' hx v H' fm rv hr' => kk d S' hx v H' fm rv hr', fun σd S' hx => hx.elim, fun σd S' hx => hx.elim⟩⟩
      exact kk _ S' hx _ H' fm (by simp only [RelD]) hr'
    · obtain ⟨ds, S, R, RX, hl, rd, hh, f', kk, xx⟩ := h
      simp only [sem, ed] at f'
      have o : XOk defs gl k ⟨N, defScope st, fun _ => true, dfs, xs, xr, hot, ms, mks, false⟩ (fun cls d _ H => E cls d H) (L2H.cxH (L2.CX P w) P w K mg base N f (defScope st) fa cdv A outer s H E p) :=
        { cal := cal, calK := calK, calH := calH, xs := G.xs, xr := G.xr, ms := cms, mks := cmk, gls := G.gls, blt := G.blt, hN := rfl, hsc := rfl, hfn := rfl, room := hr, hand := fun z => Bool.noConfusion z, calm := fun z => Bool.noConfusion z, tk := takes_of rfl rfl rfl rfl, po := passes_of rfl, nd := F.sc.nd, hdf := G.hdf }
      refine ⟨_, sSs d.body (ex := fun x _ S' => RX x S') ⟨F.sc.kind, rfl, rfl⟩ o (F.ckH hhot), ?_⟩
      refine ⟨startD d.ns ds, S, _, relst_start F.ns rd, hh, fun x σd S' hx σ H' cls dd fm rs rx hr' => xx x S' hx cls dd H' fm rx hr', f'.2, ⟨fun σd S' hx σ H' fm rs hr' => ?_, fun d S' hx v H' fm rv hr' => kk d S' hx v H' fm rv hr', fun σd S' hx => hx.elim, fun σd S' hx => hx.elim⟩⟩
      exact kk _ S' hx _ H' fm (by simp only [RelD]) hr'
theorem all_ok {dfs xs xr hot : List Str} {ms : List (Str × Str × Str)} {mks : List (Str × Str × Nat)} (G : GFact K w mg dfs xs xr hot ms mks defs gl) (k : Nat) (f : Str) (d : DefT) (fa : Addr) (fd : FuncData) (N ps : List Str) (st : Stmt) (ed : defs f = some d) (F : DFact K w mg dfs xs xr hot ms mks f d fa fd N ps st) :
    FnG P w K mg base (L2.CX P w) (2 * k + 2) fa fd ps (spD K w d.np (sem defs gl k f)) := (all_ok2 G k f d fa fd N ps st ed F).1
theorem law_sp {k : Nat} {H : Hp} {a : Addr} {ns : List Int} (hO : Only H) (hS : SqL K H a (ns.map V.int))
    (h : ∀ S : Sto, (∀ b, S b = none) → sem defs gl k "law" [.kl (ns.map D.int)] S (fun d _ => d = .bl true) fun _ _ => False) :
    spD K w 1 (sem defs gl k "law") [.ref a] H (fun v _ => v = .bl true) fun _ _ _ => False := by
  have fl : FL K H a (ns.map V.int) := by
    rcases hS with (hS | ⟨o, hS⟩) | hS
    · rcases hO a with z | ⟨o, xs, z⟩ <;> (rw [hS] at z; cases z)
    · exact .inl ⟨o, hS⟩
    · exact .inr hS
  refine ⟨[.kl (ns.map D.int)], fun _ => none, _, _, rfl, ?_, fun b ob z => (nomatch z), h _ (fun _ => rfl), fun d S' hd v H' fm rv hr => ?_, fun x S' hx => hx.elim⟩
  · simp only [RelDs, RelD]
    exact ⟨_, [], rfl, ⟨a, _, rfl, fl, RelDs.of_ints ns⟩, rfl⟩
  · subst hd
    simpa only [RelD] using rv
theorem cx_false {H : Hp} {s : Shared} {e : Value} {s' : Shared} (h : L2.CX P w [] H s (fun _ _ _ => False) e s') : False := by
  obtain ⟨_, _, _, _, _, _, _, _, _, _, _, _, z⟩ := h
  exact z
end
end Z

set_option Elab.async false
set_option linter.all false
set_option maxRecDepth 100000
set_option maxHeartbeats 4000000
namespace Z
open PySem PySem.Spec PyProof.Rows L2
theorem law_callG {P : Program} {w : World} {K : PySem.W.Frag} {mg mb : Str → Option Value} {CX : CXT} {k : Nat} {fa a : Addr} {fd : FuncData} {x : Str} {sp : Sp} {t0 : Shared} {vs : List Value} {ns : List Int}
    (KX : K.In t0.heap) (hns : t0.heap.Ns mainGlobals mg) (hb : t0.heap.Ns builtinsNs mb) (hbb : ∀ x : Str, x ≠ "__name__" → mb x = bootBuiltins x) (hlim : t0.heap.NoLimit) (hg : t0.gens = #[]) (ha : t0.heap.get? a = some { cls := .type "list", data := .seq vs.toArray }) (hi : IntsAre vs ns) (hl : ns.length ≤ sizeLine) (hr : RoomG k callerA)
    (F : ∀ base : Heap, K.In base → base.Ns mainGlobals mg → FnG P w K mg base CX k fa fd [x] sp) (hbind : ∀ (s : Shared) (u : Value), BindsTo s fd ⟨[u], []⟩ [(x, u)]) (hsp : ∀ H : Hp, Only H → SqL K H a (ns.map V.int) → sp [.ref a] H (fun v _ => v = .bl true) fun _ _ _ => False) (hCX : ∀ H e s', CX [] H t0 (fun _ _ _ => False) e s' → False) :
    codeAny (model P w) callerA (.call (.ref fa) ⟨[.ref a], []⟩) (fun r s' => r = .ok (.ret (.bool true)) ∧ OldK t0.heap s'.heap ∧ s'.os = t0.os ∧ AllBare s'.gens) t0 := by
  have rv := vals_ints hi; have lenV := hi.length
  have core : ∀ H : Hp, Only H → SqL K H a (ns.map V.int) → HOk P w H t0.heap → (∀ b, H b ≠ none → b = a) → (H a ≠ none → K.lookup a = none) → codeAny (model P w) callerA (.call (.ref fa) ⟨[.ref a], []⟩) (fun r s' => r = .ok (.ret (.bool true)) ∧ OldK t0.heap s'.heap ∧ s'.os = t0.os ∧ AllBare s'.gens) t0 := by
    intro H hO hS hok hA hK
    have only_a : ∀ {b : Addr} {u : HO}, H b = some u → b = a := fun {b u} q => hA b (by rw [q]; simp)
    have bs_of : ∀ {b : Addr} {o : Obj}, t0.heap.get? b = some o → H b = none → (hidT t0.heap H).get? b = some o := fun e n => hidT_get e n
    have no_dict : ∀ {b : Addr} {o : Obj} {es : Array DictEntry} {ep : Nat}, t0.heap.get? b = some o → o.data = .dict es ep → H b = none := fun {b o es ep} e d => by
      cases q : H b with
      | none => rfl
      | some u => obtain rfl := only_a q; rw [ha] at e; cases e; exact nomatch (show Data.seq vs.toArray _ = Data.dict es ep from d)
    have ns_of : ∀ {b : Addr} {m : Str → Option Value}, t0.heap.Ns b m → (hidT t0.heap H).Ns b m := fun {b m} ⟨o, es, ep, e, d, r⟩ => ⟨o, es, ep, bs_of e (no_dict e d), d, r⟩
    have k_in : K.In (hidT t0.heap H) := fun b o e => bs_of (KX b o e) (by
      cases q : H b with
      | none => rfl
      | some u => obtain rfl := only_a q; rw [hK (by rw [q]; simp)] at e; cases e)
    have md : Mod K mg (hidT t0.heap H) := ⟨k_in, ns_of hns, ⟨mb, ns_of hb, hbb⟩, let ⟨mc, h1, h2⟩ := hlim; ⟨mc, ns_of h1, h2⟩⟩
    have env0 : Env0 P w K mg (hidT t0.heap H) callerA [] t0 H := ⟨rfl, md, fun b o e => of_hidT e, Nat.le_of_eq (hidT_size _ _), trivial, fun b hb => absurd (show b ∈ ([] : List Addr) from hb) (by simp), hok, .of_eq hg⟩
    refine codeAny_mono ((F _ k_in (ns_of hns)).run callerA [] t0 H ⟨[.ref a], []⟩ [.ref a] [.ref a] _ _ hr env0 (hbind t0 (.ref a)) (.cons rfl .nil) (hsp H hO hS)) fun r s' h => ?_
    cases r with
    | error e => exact (hCX H e s' h).elim
    | ok fl =>
      cases fl with
      | next => exact False.elim h
      | brk => exact False.elim h
      | cont => exact False.elim h
      | ret u =>
        obtain ⟨v, H2, os, bare, un, hok2, r2, q⟩ := h
        obtain rfl : v = .bl true := q
        obtain rfl : u = Value.bool true := r2
        refine ⟨rfl, OldK.of_keep fun b o e => ?_, os, bare⟩
        cases q : H b with
        | none => exact un.keep b o e q (by intro z; exact absurd (show b ∈ ([] : List Addr) from z) (by simp)) (by simp)
        | some u =>
          rcases hO b with z | ⟨ob, xs, z⟩
          · rw [q] at z; cases z
          · obtain ⟨e1, _⟩ := hok b _ z; obtain ⟨e2, _⟩ := hok2 b _ (un.frzs b ob _ z); rw [e] at e1; cases e1; exact e2
  cases hk : K.lookup a with
  | some o =>
    have e := KX a o hk; rw [ha] at e; cases e
    exact core (fun _ => none) (fun _ => .inl rfl) (.inr ⟨_, vs.toArray, _, hk, rfl, rfl, rfl, by rw [List.size_toArray, lenV]; exact hl, by simpa using rv⟩) (fun b u z => nomatch (show (none : Option HO) = some u from z)) (fun b z => absurd rfl z) fun z => absurd rfl z
  | none =>
    refine core (fun b => if b = a then some (.frz { cls := .type "list", data := .seq vs.toArray } (.lst (ns.map V.int))) else none) (fun b => ?_) (.inl (.inr ⟨{ cls := .type "list", data := .seq vs.toArray }, if_pos rfl⟩)) (fun b u z => ?_) (fun b z => ?_) fun _ => hk <;> by_cases hb : b = a
    · exact .inr ⟨_, _, if_pos hb⟩
    · exact .inl (if_neg hb)
    · cases (if_pos hb).symm.trans z; subst hb; exact ⟨ha, by rw [List.length_map]; exact hl, vs, _, rv, ha⟩
    · cases (if_neg hb).symm.trans z
    · exact hb
    · exact absurd (if_neg hb) z
theorem walk_ofG {l : PySem.W.OpenLaw} {n k : Nat} {q : Program} {loose : List Str} {XP : (Str → Option Value) → Heap → Prop} {YP : World → Heap → Prop} {d : DefRec} {K : Params → PySem.W.Frag} {CX : World → CXT} {sp : World → Sp} {x : Str} (hn : l.most = some n) (hn2 : n ≤ sizeLine) (hdf : d.params.defaults = []) (hr : RoomG k callerA) (hY : ∀ (w : World) (h : Heap), YP w h → (K w.params).In h)
    (F : ∀ (w : World) (mg : Str → Option Value) (fa : Addr) (h : Heap), (K w.params).In h → h.Ns mainGlobals mg → mg d.name = some (.ref fa) → ∃ fd : FuncData, (∀ (s : Shared) (u : Value), BindsTo s fd ⟨[u], []⟩ [(x, u)]) ∧ ∀ base : Heap, (K w.params).In base → base.Ns mainGlobals mg → FnG l.prog w (K w.params) mg base (CX w) k fa fd [x] (sp w))
    (hsp : ∀ (w : World) (H : Hp) (a : Addr) (ns : List Int), ns.length ≤ n → Only H → SqL (K w.params) H a (ns.map V.int) → sp w [.ref a] H (fun v _ => v = .bl true) fun _ _ _ => False) (hCX : ∀ (w : World) (H : Hp) (s : Shared) (e : Value) (s' : Shared), CX w [] H s (fun _ _ _ => False) e s' → False) :
    PySem.W.WalkO q loose XP YP l.row.toRowW d [] (fun f vs => PySem.call f vs) := Att.attach_call hn hdf fun w s₀ t0 mg mb fa o pm cd doc a vs ns G Y ho hd hcd hmg hobj hints hlen hg =>
  let ⟨fd, hb, hF⟩ := F w mg fa _ (hY w _ Y) G.T.g hmg
  law_callG (hY w _ Y) G.T.g G.T.b G.T.builtins G.T.nolimit hg hobj hints (Nat.le_trans hlen hn2) hr hF hb (fun H hO hS => hsp w H a ns hlen hO hS) fun H e s' => hCX w H t0 e s'
end Z

set_option Elab.async false
set_option linter.all false
set_option maxRecDepth 100000
set_option maxHeartbeats 4000000
namespace Z
open PySem PySem.Spec PyProof.Rows L2
def XP (K : PySem.W.Frag) (C : Addr) (m : Str) (b : Bool) : Prop := PySem.W.nsIn K mainGlobals m = some none ∨ ∃ M, PySem.W.nsIn K mainGlobals m = some (some (.ref M)) ∧ PySem.W.subIn K (.ref M) (.type "BaseException") = some true ∧ PySem.W.hasDictIn K M = true ∧ PySem.W.typeIn K (.ref M) = some (.type "type") ∧ (C == M) = b ∧ PySem.W.subIn K (.ref C) (.ref M) = some b
end Z

set_option Elab.async false
set_option linter.all false
set_option maxRecDepth 100000
set_option maxHeartbeats 4000000
namespace Z
open PySem PySem.Spec PyProof.Rows L2
section
variable {K : PySem.W.Frag} {w : World}
theorem ms_no {ms : List (Str × Str × Str)} {f : Str} {A : Str → Str → Prop} (h : (ms.all fun p => !(p.1 == f)) = true) : ∀ cn m, ms.contains (f, cn, m) = true → A cn m := fun cn m hm => by
  have := List.all_eq_true.mp h _ (by simpa using hm)
  simp at this
theorem mk_no {ms : List (Str × Str × Nat)} {f : Str} {A : Str → Nat → Prop} (h : (ms.all fun p => !(p.1 == f)) = true) : ∀ cn m, ms.contains (f, cn, m) = true → A cn m := fun cn m hm => by
  have := List.all_eq_true.mp h _ (by simpa using hm)
  simp at this
theorem fun_to {x q : Str} {st : Stmt} {f : Addr} {fd : FuncData} (F : Fun K x q st f fd) : FunD K x q (defArgs st) (defBody st) (defScope st) [] [] f fd := by
  obtain ⟨oc, od, kV, doc, pm, an, cdv, ct, osl, e, l, c⟩ := F.ex
  exact ⟨⟨oc, od, .none, kV, doc, pm, an, cdv, ct, osl, e, l, c, .inl ⟨rfl, rfl⟩, .inl rfl⟩, F.kp⟩
theorem hms_of {ms : List (Str × Str × Str)} {defs : Str → Option DefT} (h : (ms.all fun p => (defs p.1).isSome) = true) : ∀ q cn m, ms.contains (q, cn, m) = true → ∃ d, defs q = some d := fun q cn m hm => by
  have h2 := List.all_eq_true.mp h _ (by simpa using hm)
  exact Option.isSome_iff_exists.mp h2
theorem hmk_of {ms : List (Str × Str × Nat)} {defs : Str → Option DefT} (h : (ms.all fun p => (defs p.1).isSome) = true) : ∀ q cn m, ms.contains (q, cn, m) = true → ∃ d, defs q = some d := fun q cn m hm => by
  have h2 := List.all_eq_true.mp h _ (by simpa using hm)
  exact Option.isSome_iff_exists.mp h2
theorem hotd_of {mg : Str → Option Value} {dfs xs xr hot : List Str} {ms : List (Str × Str × Str)} {mks : List (Str × Str × Nat)} (h : (hot.all fun g => dfs.contains g) = true) : ∀ g, hot.contains g = true → ∀ fa fd N ps st d, DFact K w mg dfs xs xr hot ms mks g d fa fd N ps st → mg g = some (.ref fa) := fun g hg fa fd N ps st d F =>
  F.mgf (List.all_eq_true.mp h g (by simpa using hg))
end
section
variable {K : PySem.W.Frag} {x qual : Str} {st : Stmt} {f : Addr} {fd : FuncData} {ps ks : List Str} {n : Nat} {g : Str}
theorem kb_of (F : Fun K x qual st f fd) (h : ∀ (kV doc pm : Value) (an : Option Addr) (cdv ct : Value) (us ws : List Value), us.length = n → ws.length = ks.length → bindArgs (PySem.W.fnOf x qual (defArgs st) (defBody st) (defScope st) .none kV doc pm an cdv ct) ⟨us, ks.zip ws⟩ = pure (ps.zip (us ++ ws))) :
    KBn K fd ps n ks (fun us ws => us ++ ws) (fun vs zs => vs ++ zs) := by
  obtain ⟨oc, od, kV, doc, pm, an, cdv, ct, osl, rfl, lk, hcd⟩ := F.ex
  exact ⟨fun s us ws _ h1 h2 => .of_eq (h kV doc pm an cdv ct us ws h1 h2), fun r1 r2 => r1.append r2⟩
theorem kb_no (h : (kwT g).isNone = true) : ∀ n ks, kwT g = some (n, ks) → KBn K fd ps n ks (fun us ws => us ++ ws) (fun vs zs => vs ++ zs) := fun n ks e => by rw [e] at h; cases h
theorem kb_yes {m : Nat} {js : List Str} (h : kwT g = some (m, js)) (k : KBn K fd ps m js (fun us ws => us ++ ws) (fun vs zs => vs ++ zs)) : ∀ n ks, kwT g = some (n, ks) → KBn K fd ps n ks (fun us ws => us ++ ws) (fun vs zs => vs ++ zs) := fun n ks e => by rw [h] at e; cases e; exact k
theorem bd_no {m : Nat} {js : List Str} (h : kwT g = some (m, js)) : kwT g = none → Binds K fd ps [] := fun e => by rw [h] at e; cases e
theorem nkw_of {hot : List Str} {ms : List (Str × Str × Str)} (h : (hot.all (fun g => (kwT g).isNone) && ms.all (fun p => (kwT p.1).isNone)) = true) : ∀ g, (hot.contains g = true ∨ ∃ cn m, ms.contains (g, cn, m) = true) → kwT g = none := fun g hg => by
  rw [Bool.and_eq_true, List.all_eq_true, List.all_eq_true] at h
  rcases hg with hg | ⟨cn, m, hg⟩
  · simpa using h.1 g (by simpa using hg)
  · simpa using h.2 _ (by simpa using hg)
end
end Z

set_option Elab.async false
set_option linter.all false
set_option maxRecDepth 100000
set_option maxHeartbeats 4000000
namespace Z
open PySem PySem.Spec PyProof.Rows L2
def EsOf : List DictEntry → List (Str × Int) → Prop
  | [], [] => True
  | e :: r, (k, i) :: s => (∃ t, e.key = .str k t) ∧ (∃ t, e.val = .int i t) ∧ EsOf r s
  | _, _ => False
theorem esOf_find (z : Str) : ∀ {l : List DictEntry} {kvs : List (Str × Int)}, EsOf l kvs → (match kvs.lookup z with | none => l.find? (·.key.isStr z) = none | some i => ∃ e t, l.find? (·.key.isStr z) = some e ∧ e.val = .int i t) ∧ l.any (·.refKey) = false
  | [], [], _ => ⟨rfl, rfl⟩
  | e :: r, (k, i) :: s, ⟨⟨t, h1⟩, ⟨t2, h2⟩, h3⟩ => by
    obtain ⟨ih1, ih2⟩ := esOf_find z h3
    have e1 : e.refKey = false := by unfold DictEntry.refKey; rw [h1]
    refine ⟨?_, by rw [List.any_cons, e1, ih2]; rfl⟩
    by_cases hz : z = k
    · subst hz
      have e2 : e.key.isStr z = true := by rw [h1]; simp [Value.isStr]
      rw [List.lookup_cons, beq_self_eq_true]
      exact ⟨e, t2, by rw [List.find?_cons, e2], h2⟩
    · have e2 : e.key.isStr z = false := by rw [h1]; simp [Value.isStr]; exact fun h => hz h.symm
      rw [List.lookup_cons, show (z == k) = false from beq_eq_false_iff_ne.mpr hz, List.find?_cons, e2]
      exact ih1
theorem mem_of_lookup {α β : Type} [BEq α] [LawfulBEq α] {x : α} {y : β} : ∀ {l : List (α × β)}, l.lookup x = some y → (x, y) ∈ l
  | [], h => by cases h
  | (a, b) :: l, h => by
    rw [List.lookup_cons] at h
    cases e : x == a with
    | true => rw [e] at h; cases h; rw [eq_of_beq e]; exact List.mem_cons_self
    | false => rw [e] at h; exact List.mem_cons_of_mem _ (mem_of_lookup h)
theorem cd_of {K : PySem.W.Frag} {w : World} {a : Addr} {es : Array DictEntry} {n : Nat} {kvs : List (Str × Int)} (D : KDict K w a es n) (h : EsOf es.toList kvs) : CdAt K w a kvs := by
  refine ⟨⟨es, n, D⟩, fun z => ?_⟩
  obtain ⟨h1, h2⟩ := esOf_find z h
  unfold PySem.W.nsIn
  rw [D.at_]
  dsimp only
  cases e : kvs.lookup z with
  | none =>
    rw [e] at h1
    rw [h1, h2]
    exact ⟨none, rfl, rfl⟩
  | some i =>
    rw [e] at h1
    obtain ⟨en, t, h3, h4⟩ := h1
    rw [h3]
    exact ⟨_, rfl, t, by rw [h4]⟩
end Z

set_option Elab.async false
set_option linter.all false
set_option maxRecDepth 100000
set_option maxHeartbeats 4000000
namespace Z
open PySem PySem.Spec PyProof.Rows L2
def dIsWhole : DefT := ⟨1, 1, [
    .ret (.bop .And [(.blt .isinst [(.var 0), (.bty "int")]), (.nt (.blt .isinst [(.var 0), (.bty "bool")]))])]⟩
def dHasForm : DefT := ⟨1, 1, [
    .ife (.bop .Or [(.nt (.blt .isinst [(.var 0), (.bty "tuple")])), (.cmp .Eq (.blt .len [(.var 0)]) (.int 0)), (.nt (.blt .isinst [(.sub (.var 0) (.int 0)), (.bty "str")])), (.cmp .NotIn (.sub (.var 0) (.int 0)) (.glob "PARTS"))]) [.ret (.bl false)] [],
    .ife (.cmp .In (.sub (.var 0) (.int 0)) (.glob "NUMBERED")) [.ret (.bop .And [(.cmp .Eq (.blt .len [(.var 0)]) (.bin .Add (.int 2) (.sub (.glob "PARTS") (.sub (.var 0) (.int 0))))), (.call "is_whole" [(.sub (.var 0) (.int 1))])])] [],
    .ret (.cmp .Eq (.blt .len [(.var 0)]) (.bin .Add (.int 1) (.sub (.glob "PARTS") (.sub (.var 0) (.int 0)))))]⟩
def dPartsOf : DefT := ⟨1, 1, [
    .ret (.slice (.var 0) (some (.bin .Sub (.blt .len [(.var 0)]) (.sub (.glob "PARTS") (.sub (.var 0) (.int 0))))) none)]⟩
def dKnots : DefT := ⟨1, 4, [
    .asg (.nm 1) (.lst []),
    .asg (.nm 2) (.lst [(.var 0)]),
    .whil (.cmp .Gt (.blt .len [(.var 2)]) (.int 0)) [.asg (.nm 3) (.mth .pop (.var 2) []), .ex (.mth .append (.var 1) [(.var 3)]), .ife (.call "has_form" [(.var 3)]) [.ex (.mth .extend (.var 2) [(.lrev (.call "parts_of" [(.var 3)]))])] []],
    .ret (.var 1)]⟩
def dMadeOf : DefT := ⟨2, 2, [
    .ife (.cmp .Eq (.var 0) (.str "least")) [.ret (.blt .min [(.var 1)])] [],
    .ife (.cmp .Eq (.var 0) (.str "most")) [.ret (.blt .max [(.var 1)])] [],
    .ife (.cmp .Eq (.var 0) (.str "atmost")) [.ret (.cmp .LtE (.sub (.var 1) (.int 0)) (.sub (.var 1) (.int 1)))] [],
    .ife (.cmp .Eq (.var 0) (.str "not")) [.ret (.nt (.sub (.var 1) (.int 0)))] [],
    .ife (.cmp .Eq (.var 0) (.str "both")) [.ret (.bop .And [(.sub (.var 1) (.int 0)), (.sub (.var 1) (.int 1))])] [],
    .ife (.cmp .Eq (.var 0) (.str "either")) [.ret (.bop .Or [(.sub (.var 1) (.int 0)), (.sub (.var 1) (.int 1))])] [],
    .ret (.ite (.sub (.var 1) (.int 0)) (.sub (.var 1) (.int 1)) (.sub (.var 1) (.int 2)))]⟩
def dValue : DefT := ⟨2, 6, [
    .asg (.nm 2) (.lst []),
    .fr (.nm 3) (.rev (.call "knots" [(.var 0)])) [.asg (.nm 4) (.lc (.nm 5) (.rng1 (.sub (.glob "PARTS") (.sub (.var 3) (.int 0)))) [] [("part", 5)] (.mth .pop (.var 2) [])), .ife (.cmp .Eq (.sub (.var 3) (.int 0)) (.str "in")) [.ex (.mth .append (.var 2) [(.sub (.var 1) (.sub (.var 3) (.int 1)))])] [.ife (.cmp .Eq (.sub (.var 3) (.int 0)) (.str "num")) [.ex (.mth .append (.var 2) [(.sub (.var 3) (.int 1))])] [.ife (.bop .Or [(.cmp .Eq (.sub (.var 3) (.int 0)) (.str "yes")), (.cmp .Eq (.sub (.var 3) (.int 0)) (.str "no"))]) [.ex (.mth .append (.var 2) [(.cmp .Eq (.sub (.var 3) (.int 0)) (.str "yes"))])] [.ife (.cmp .Eq (.sub (.var 3) (.int 0)) (.str "plus")) [.ex (.mth .append (.var 2) [(.bin .Add (.sub (.var 3) (.int 1)) (.sub (.var 4) (.int 0)))])] [.ex (.mth .append (.var 2) [(.call "made_of" [(.sub (.var 3) (.int 0)), (.var 4)])])]]]]],
    .ret (.sub (.var 2) (.int 0))]⟩
def dLCell : DefT := ⟨2, 3, [
    .ife (.cmp .Lt (.var 1) (.blt .len [(.var 0)])) [.ret (.sub (.var 0) (.var 1))] [],
    .asg (.nm 2) (.bin .Add (.bin .Mult (.var 1) (.int 7919)) (.int 5)),
    .ife (.cmp .Gt (.blt .len [(.var 0)]) (.int 0)) [.asg (.nm 2) (.bin .Add (.bin .Mult (.bin .Mod (.sub (.var 0) (.bin .Mod (.bin .Mult (.var 1) (.int 7)) (.blt .len [(.var 0)]))) (.int 2147483629)) (.int 48271)) (.bin .Mult (.var 1) (.int 7919)))] [],
    .ret (.bin .Mult (.bin .Mod (.var 2) (.int 2147483647)) (.int 31))]⟩
def dLFlow : DefT := ⟨2, 4, [
    .asg (.nm 2) (.call "_law_cell" [(.var 0), (.var 1)]),
    .asg (.nm 3) (.int 0),
    .ife (.cmp .GtE (.var 2) (.bin .Pow (.int 10) (.int 18))) [.asg (.nm 3) (.var 2)] [],
    .ret (.lst [(.var 3), (.int 0), (.bin .Add (.bin .Mod (.var 2) (.int 2147483629)) (.bin .Mult (.int 40692) (.var 1)))])]⟩
def dLDraw : DefT := ⟨2, 4, [
    .ife (.cmp .Gt (.sub (.var 0) (.int 0)) (.int 0)) [.asg (.nm 2) (.bin .Mod (.sub (.var 0) (.int 0)) (.var 1)), .set (.var 0) (.int 0) (.bin .FloorDiv (.sub (.var 0) (.int 0)) (.var 1)), .ret (.var 2)] [],
    .set (.var 0) (.int 1) (.bin .Add (.sub (.var 0) (.int 1)) (.int 1)),
    .asg (.nm 3) (.bin .Mod (.bin .Add (.bin .Add (.bin .Mult (.sub (.var 0) (.int 2)) (.bin .Add (.int 48271) (.bin .Mult (.int 2) (.sub (.var 0) (.int 1))))) (.bin .Mult (.int 7919) (.sub (.var 0) (.int 1)))) (.int 1)) (.int 2147483629)),
    .asg (.nm 3) (.bin .Mod (.bin .Mult (.var 3) (.var 3)) (.int 2147483587)),
    .ret (.bin .Mod (.bin .FloorDiv (.bin .Mod (.bin .Mult (.bin .Add (.var 3) (.int 5)) (.bin .Add (.var 3) (.int 40692))) (.int 2147483579)) (.int 31)) (.var 1))]⟩
def dOwnKind : DefT := ⟨2, 2, [
    .whil (.cmp .Eq (.sub (.var 1) (.int 0)) (.str "if")) [.asg (.nm 1) (.sub (.var 1) (.int 2))],
    .ife (.cmp .Eq (.sub (.var 1) (.int 0)) (.str "in")) [.ret (.sub (.var 0) (.sub (.var 1) (.int 1)))] [],
    .ret (.ite (.cmp .In (.sub (.var 1) (.int 0)) (.glob "TELL_NUMS")) (.str "num") (.str "truth"))]⟩
def dPartsDue : DefT := ⟨2, 3, [
    .ife (.cmp .In (.sub (.var 1) (.int 0)) (.glob "OF_NUMS")) [.ret (.bin .Mult (.tup [(.str "num")]) (.sub (.glob "PARTS") (.sub (.var 1) (.int 0))))] [],
    .ife (.cmp .In (.sub (.var 1) (.int 0)) (.glob "OF_TRUTHS")) [.ret (.bin .Mult (.tup [(.str "truth")]) (.sub (.glob "PARTS") (.sub (.var 1) (.int 0))))] [],
    .ife (.cmp .Eq (.sub (.var 1) (.int 0)) (.str "if")) [.asg (.nm 2) (.call "own_kind" [(.var 0), (.sub (.var 1) (.int 2))]), .ret (.tup [(.str "truth"), (.var 2), (.var 2)])] [],
    .ret (.tup [])]⟩
def dPut : DefT := ⟨2, 7, [
    .asg (.nm 2) (.lst []),
    .fr (.nm 3) (.rev (.call "knots" [(.var 0)])) [.ife (.cmp .Eq (.sub (.var 3) (.int 0)) (.str "in")) [.ex (.mth .append (.var 2) [(.sub (.var 1) (.sub (.var 3) (.int 1)))])] [.asg (.nm 4) (.sub (.glob "PARTS") (.sub (.var 3) (.int 0))), .asg (.nm 5) (.lc (.nm 6) (.rng1 (.var 4)) [] [("part", 6)] (.mth .pop (.var 2) [])), .ex (.mth .append (.var 2) [(.bin .Add (.slice (.var 3) none (some (.bin .Sub (.blt .len [(.var 3)]) (.var 4)))) (.blt .tuple [(.var 5)]))])]],
    .ret (.sub (.var 2) (.int 0))]⟩
def dKindOf : DefT := ⟨2, 6, [
    .asg (.nm 2) (.call "knots" [(.var 1)]),
    .fr (.tup [(.nm 3), (.nm 4)]) (.enm (.var 2)) [.ife (.nt (.call "has_form" [(.var 4)])) [.rais "NoProgram" [(.str "form"), (.var 3)]] []],
    .fr (.tup [(.nm 3), (.nm 4)]) (.enm (.var 2)) [.ife (.bop .And [(.cmp .Eq (.sub (.var 4) (.int 0)) (.str "in")), (.nt (.chain .LtE .Lt (.int 0) (.sub (.var 4) (.int 1)) (.blt .len [(.var 0)])))]) [.rais "NoProgram" [(.str "input"), (.var 3)]] []],
    .fr (.tup [(.nm 3), (.nm 4)]) (.enm (.var 2)) [.ife (.cmp .NotEq (.blt .tuple [(.lc (.nm 5) (.seq (.call "parts_of" [(.var 4)])) [] [("part", 5)] (.call "own_kind" [(.var 0), (.var 5)]))]) (.call "parts_due" [(.var 0), (.var 4)])) [.rais "NoProgram" [(.str "kind"), (.var 3)]] []],
    .ret (.call "own_kind" [(.var 0), (.var 1)])]⟩
end Z

set_option Elab.async false
set_option linter.all false
set_option maxRecDepth 100000
set_option maxHeartbeats 4000000
namespace Z
open PySem PySem.Spec PyProof.Rows L2
section
variable {C : Cw} {ex : EX} {σ : StD} {S : Sto} {Q : D → Sto → Prop} {B : Bool → Sto → Prop} {Qs : List D → Sto → Prop} {D' : EndD} {ss : List TS}
theorem v_var {i : Nat} {d : D} (e : σ[i]? = some (some d)) (h : Q d S) : wpE C ex (.var i) σ S Q := by unfold wpE; rw [e]; exact h
theorem v_int {i : Int} (h : Q (.int i) S) : wpE C ex (.int i) σ S Q := by unfold wpE; exact h
theorem v_bl {i : Bool} (h : Q (.bl i) S) : wpE C ex (.bl i) σ S Q := by unfold wpE; exact h
theorem v_non (h : Q .non S) : wpE C ex .non σ S Q := by unfold wpE; exact h
theorem v_str {x : Str} (h : Q (.str x) S) : wpE C ex (.str x) σ S Q := by unfold wpE; exact h
theorem v_bty {x : String} (h : Q (.ty x) S) : wpE C ex (.bty x) σ S Q := by unfold wpE; exact h
theorem v_glob {x : Str} {d : D} (e : C.gl x = some d) (h : Q d S) : wpE C ex (.glob x) σ S Q := by unfold wpE; rw [e]; exact h
theorem v_bin {op : Operator} {a b : T} (h : wpE C ex a σ S fun x S1 => wpE C ex b σ S1 fun y S2 => wBin op x y S2 Q) : wpE C ex (.bin op a b) σ S Q := by unfold wpE; exact h
theorem v_cmp {op : CmpOp} {a b : T} (h : wpE C ex a σ S fun x S1 => wpE C ex b σ S1 fun y S2 => wCmp op x y S2 Q) : wpE C ex (.cmp op a b) σ S Q := by unfold wpE; exact h
theorem v_bop {op : BoolOp} {ts : List T} (h : wpB C ex op ts σ S Q) : wpE C ex (.bop op ts) σ S Q := by unfold wpE; exact h
theorem v_nt {a : T} (h : wpE C ex a σ S fun d S1 => ∃ k, tru S1 d = some k ∧ Q (.bl (!k)) S1) : wpE C ex (.nt a) σ S Q := by
  unfold wpE
  have : (fun d S1 => ∃ k, tru S1 d = some k ∧ Q (.bl (!k)) S1) = (fun (d : D) (S1 : Sto) => match tru S1 d with | some k => Q (.bl (!k)) S1 | none => False) := by
    funext d S1
    cases tru S1 d <;> simp
  rw [this] at h
  exact h
theorem v_ite {c a b : T} (h : wpT C ex c σ S fun k S1 => if k = true then wpE C ex a σ S1 Q else wpE C ex b σ S1 Q) : wpE C ex (.ite c a b) σ S Q := by unfold wpE; exact h
theorem v_tup {ts : List T} (h : wpEs C ex ts σ S fun ds S1 => ds.length ≤ 100 ∧ Q (.tup ds) S1) : wpE C ex (.tup ts) σ S Q := by unfold wpE; exact h
theorem v_lst {ts : List T} (h : wpEs C ex ts σ S fun ds S1 => ds.length ≤ 100 ∧ ∀ p, S1 p = none → Q (.ref p) (updS S1 p (.lst ds))) : wpE C ex (.lst ts) σ S Q := by unfold wpE; exact h
theorem v_sub {a i : T} (h : wpE C ex a σ S fun x S1 => wpE C ex i σ S1 fun y S2 => wSub x y S2 Q) : wpE C ex (.sub a i) σ S Q := by unfold wpE; exact h
theorem v_slice {a : T} {lo hi : Option T} (h : wpE C ex a σ S fun x S1 => wpO C ex lo σ S1 fun l S2 => wpO C ex hi σ S2 fun h S3 => wSlice x l h S3 Q) : wpE C ex (.slice a lo hi) σ S Q := by unfold wpE; exact h
theorem v_call {f : Str} {ts : List T} (h : wpEs C ex ts σ S fun ds S1 => C.cal f ds S1 Q fun x S2 => ex x σ S2) : wpE C ex (.call f ts) σ S Q := by unfold wpE; exact h
theorem v_blt {f : Bi} {ts : List T} (h : wpEs C ex ts σ S fun ds S1 => wBlt f ds S1 Q) : wpE C ex (.blt f ts) σ S Q := by unfold wpE; exact h
theorem v_lrev {a : T} (h : wpE C ex a σ S fun x S1 => wLrev x S1 Q) : wpE C ex (.lrev a) σ S Q := by unfold wpE; exact h
theorem v_lzip {a b : T} (h : wpE C ex a σ S fun x S1 => wpE C ex b σ S1 fun y S2 => wLzip x y S2 Q) : wpE C ex (.lzip a b) σ S Q := by unfold wpE; exact h
theorem v_mth {m : Me} {a : T} {ts : List T} (h : wpE C ex a σ S fun x S1 => okRecv m S1 x = true ∧ wpEs C ex ts σ S1 fun ds S2 => wMth m x ds S2 Q) : wpE C ex (.mth m a ts) σ S Q := by unfold wpE; exact h
theorem v_dct {ks : List Str} {vs : List T} (h : wpEs C ex vs σ S fun ds S1 => ds.length = ks.length ∧ ∀ p, S1 p = none → Q (.ref p) (updS S1 p (.dct ((ks.zip ds).foldl (fun acc kv => putD acc (.inr kv.1) kv.2) [])))) : wpE C ex (.dct ks vs) σ S Q := by unfold wpE; exact h
theorem v_lc {g : Tg} {it : Ti} {ifs : List T} {own : List (Str × Nat)} {e : T} (h : wpI C ex it σ S fun ds G S1 =>
      lcL (fun d S2 k => wpG g d (wipeD σ (own.map (·.2))) S2 fun σ2 => wpTs C ifs σ2 S2 fun b S3 => if b = true then wpE C (fun _ _ _ => False) e σ2 S3 fun v S4 => k (some v) S4 else k none S3) G Q ds [] S1) : wpE C ex (.lc g it ifs own e) σ S Q := by unfold wpE; exact h
theorem vs_nil (h : Qs [] S) : wpEs C ex [] σ S Qs := by unfold wpEs; exact h
theorem vs_cons {t : T} {ts : List T} (h : wpE C ex t σ S fun d S1 => wpEs C ex ts σ S1 fun ds S2 => Qs (d :: ds) S2) : wpEs C ex (t :: ts) σ S Qs := by unfold wpEs; exact h
theorem vo_none {R : Option Int → Sto → Prop} (h : R none S) : wpO C ex none σ S R := by unfold wpO; exact h
theorem vo_some {t : T} {R : Option Int → Sto → Prop} (h : wpE C ex t σ S fun d S1 => ∃ i, d = .int i ∧ R (some i) S1) : wpO C ex (some t) σ S R := by
  unfold wpO
  have : (fun d S1 => ∃ i, d = .int i ∧ R (some i) S1) = (fun (d : D) (S1 : Sto) => match d with | .int i => R (some i) S1 | _ => False) := by
    funext d S1
    cases d <;> simp
  rw [this] at h
  exact h
theorem vb_one {op : BoolOp} {t : T} (h : wpE C ex t σ S Q) : wpB C ex op [t] σ S Q := by unfold wpB; exact h
theorem vb_and {t u : T} {ts : List T} (h : wpE C ex t σ S fun d S1 => ∃ k, tru S1 d = some k ∧ if k = true then wpB C ex .And (u :: ts) σ S1 Q else Q d S1) : wpB C ex .And (t :: u :: ts) σ S Q := by
  unfold wpB
  have : (fun d S1 => ∃ k, tru S1 d = some k ∧ if k = true then wpB C ex .And (u :: ts) σ S1 Q else Q d S1) = (fun (d : D) (S1 : Sto) => match tru S1 d with | some k => (if k = true then wpB C ex .And (u :: ts) σ S1 Q else Q d S1) | none => False) := by
    funext d S1
    cases tru S1 d <;> simp
  rw [this] at h
  exact h
theorem vb_or {t u : T} {ts : List T} (h : wpE C ex t σ S fun d S1 => ∃ k, tru S1 d = some k ∧ if k = true then Q d S1 else wpB C ex .Or (u :: ts) σ S1 Q) : wpB C ex .Or (t :: u :: ts) σ S Q := by
  unfold wpB
  have : (fun d S1 => ∃ k, tru S1 d = some k ∧ if k = true then Q d S1 else wpB C ex .Or (u :: ts) σ S1 Q) = (fun (d : D) (S1 : Sto) => match tru S1 d with | some k => (if k = true then Q d S1 else wpB C ex .Or (u :: ts) σ S1 Q) | none => False) := by
    funext d S1
    cases tru S1 d <;> simp
  rw [this] at h
  exact h
def TrD (S : Sto) (d : D) (B : Bool → Sto → Prop) : Prop := ∃ k, tru S d = some k ∧ B k S
theorem trD_of {d : D} : TrD S d B → (match tru S d with | some k => B k S | none => False) := fun ⟨k, e, h⟩ => by rw [e]; exact h
theorem t_bop {op : BoolOp} {ts : List T} (h : wpTB C ex op ts σ S B) : wpT C ex (.bop op ts) σ S B := by unfold wpT; exact h
theorem t_nt {a : T} (h : wpT C ex a σ S fun k S1 => B (!k) S1) : wpT C ex (.nt a) σ S B := by unfold wpT; exact h
theorem t_var {i : Nat} {d : D} (e : σ[i]? = some (some d)) (h : TrD S d B) : wpT C ex (.var i) σ S B := by unfold wpT; rw [e]; exact trD_of h
theorem t_cmp {op : CmpOp} {a b : T} (h : wpE C ex a σ S fun x S1 => wpE C ex b σ S1 fun y S2 => wCmp op x y S2 fun z S3 => ∃ k, z = .bl k ∧ B k S3) : wpT C ex (.cmp op a b) σ S B := by
  unfold wpT
  have : (fun (z : D) S3 => ∃ k, z = .bl k ∧ B k S3) = (fun (z : D) (S3 : Sto) => match z with | .bl k => B k S3 | _ => False) := by
    funext d S1
    cases d <;> simp
  rw [this] at h
  exact h
theorem t_call {f : Str} {ts : List T} (h : wpEs C ex ts σ S fun ds S1 => C.cal f ds S1 (fun d S2 => TrD S2 d B) fun x S2 => ex x σ S2) : wpT C ex (.call f ts) σ S B := by
  unfold wpT
  have : (fun d S2 => TrD S2 d B) = (fun (d : D) (S2 : Sto) => match tru S2 d with | some k => B k S2 | none => False) := by
    funext d S1
    unfold TrD
    cases tru S1 d <;> simp
  rw [this] at h
  exact h
theorem t_blt {f : Bi} {ts : List T} (h : wpEs C ex ts σ S fun ds S1 => wBlt f ds S1 fun d S2 => TrD S2 d B) : wpT C ex (.blt f ts) σ S B := by
  unfold wpT
  have : (fun d S2 => TrD S2 d B) = (fun (d : D) (S2 : Sto) => match tru S2 d with | some k => B k S2 | none => False) := by
    funext d S1
    unfold TrD
    cases tru S1 d <;> simp
  rw [this] at h
  exact h
theorem t_sub {a i : T} (h : wpE C ex a σ S fun x S1 => wpE C ex i σ S1 fun y S2 => wSub x y S2 fun d S3 => TrD S3 d B) : wpT C ex (.sub a i) σ S B := by
  unfold wpT
  have : (fun d S2 => TrD S2 d B) = (fun (d : D) (S2 : Sto) => match tru S2 d with | some k => B k S2 | none => False) := by
    funext d S1
    unfold TrD
    cases tru S1 d <;> simp
  rw [this] at h
  exact h
theorem t_chain {op op2 : CmpOp} {a b c : T} (h : wpE C ex a σ S fun x S1 => wpE C ex b σ S1 fun y S2 => wCmp op x y S2 fun z S3 => ∃ k, z = .bl k ∧ if k = true then wpE C ex c σ S3 fun u S4 => wCmp op2 y u S4 fun z S5 => ∃ k, z = .bl k ∧ B k S5 else B false S3) : wpT C ex (.chain op op2 a b c) σ S B := by
  unfold wpT
  have e1 : (fun (z : D) S3 => ∃ k, z = .bl k ∧ B k S3) = (fun (z : D) (S3 : Sto) => match z with | .bl k => B k S3 | _ => False) := by
    funext d S1
    cases d <;> simp
  rw [e1] at h
  have e2 : (fun x S1 => wpE C ex b σ S1 fun y S2 => wCmp op x y S2 fun z S3 => ∃ k, z = .bl k ∧ if k = true then wpE C ex c σ S3 fun u S4 => wCmp op2 y u S4 (fun (z : D) (S3 : Sto) => match z with | .bl k => B k S3 | _ => False) else B false S3) = (fun (x : D) (S1 : Sto) => wpE C ex b σ S1 fun y S2 => wCmp op x y S2 fun (z : D) (S3 : Sto) => match z with | .bl k => (if k = true then wpE C ex c σ S3 fun u S4 => wCmp op2 y u S4 (fun (z : D) (S3 : Sto) => match z with | .bl k => B k S3 | _ => False) else B false S3) | _ => False) := by
    funext x S1
    congr
    funext y S2
    congr
    funext z S3
    cases z <;> simp
  rw [e2] at h
  exact h
theorem tb_one {op : BoolOp} {t : T} (h : wpT C ex t σ S B) : wpTB C ex op [t] σ S B := by unfold wpTB; exact h
theorem tb_and {t u : T} {ts : List T} (h : wpT C ex t σ S fun k S1 => if k = true then wpTB C ex .And (u :: ts) σ S1 B else B false S1) : wpTB C ex .And (t :: u :: ts) σ S B := by unfold wpTB; exact h
theorem tb_or {t u : T} {ts : List T} (h : wpT C ex t σ S fun k S1 => if k = true then B true S1 else wpTB C ex .Or (u :: ts) σ S1 B) : wpTB C ex .Or (t :: u :: ts) σ S B := by unfold wpTB; exact h
theorem tr_bl {b : Bool} (h : B b S) : TrD S (.bl b) B := ⟨b, rfl, h⟩
theorem tr_int {b : Int} (h : B (b != 0) S) : TrD S (.int b) B := ⟨_, rfl, h⟩
theorem ts_nil (h : B true S) : wpTs C [] σ S B := by unfold wpTs; exact h
theorem ts_one {t : T} (h : wpT C (fun _ _ _ => False) t σ S B) : wpTs C [t] σ S B := by unfold wpTs; exact h
theorem s_nil (h : D'.nx σ S) : wpSs C ex [] D' σ S := by unfold wpSs; exact h
theorem s_ex {e : T} (h : wpE C ex e σ S fun _ S1 => wpSs C ex ss D' σ S1) : wpSs C ex (.ex e :: ss) D' σ S := by unfold wpSs wpS; exact h
theorem s_asg {g : Tg} {e : T} (h : wpE C ex e σ S fun d S1 => wpG g d σ S1 fun σ' => wpSs C ex ss D' σ' S1) : wpSs C ex (.asg g e :: ss) D' σ S := by unfold wpSs wpS; exact h
theorem s_par {i j : Nat} {a b : T} (h : wpE C ex a σ S fun x S1 => wpE C ex b σ S1 fun y S2 => wpSs C ex ss D' ((σ.set i (some x)).set j (some y)) S2) : wpSs C ex (.par i j a b :: ss) D' σ S := by unfold wpSs wpS; exact h
theorem s_set {a i e : T} (h : wpE C ex e σ S fun v S1 => wpE C ex a σ S1 fun o S2 => wpE C ex i σ S2 fun k S3 => wSet o k v S3 fun S4 => wpSs C ex ss D' σ S4) : wpSs C ex (.set a i e :: ss) D' σ S := by unfold wpSs wpS; exact h
theorem s_ife {c : T} {a b : List TS} (h : wpT C ex c σ S fun k S1 => if k = true then wpSs C ex a { D' with nx := wpSs C ex ss D' } σ S1 else wpSs C ex b { D' with nx := wpSs C ex ss D' } σ S1) : wpSs C ex (.ife c a b :: ss) D' σ S := by
  unfold wpSs wpS; exact h
theorem s_ret {e : T} (h : wpE C ex e σ S D'.rt) : wpSs C ex (.ret e :: ss) D' σ S := by unfold wpSs wpS; exact h
theorem s_try {b hd : List TS} {m : Str} {i : Nat} (h : wpSs C (fun x σ' S' => if x.cls = m then wpSs C (fun _ _ _ => False) hd ⟨fun σ2 S2 => wpSs C ex ss D' (σ2.set i none) S2, D'.rt, fun σ2 S2 => D'.bk (σ2.set i none) S2, fun σ2 S2 => D'.ct (σ2.set i none) S2⟩ (σ'.set i (some (.exn x.cls x.ns x.ds))) S' else ex x σ' S') b { D' with nx := wpSs C ex ss D' } σ S) : wpSs C ex (.tryx b m i hd :: ss) D' σ S := by unfold wpSs; unfold wpS; exact h
theorem s_retN (h : D'.rt .non S) : wpSs C ex (.retN :: ss) D' σ S := by unfold wpSs wpS; exact h
theorem s_pass (h : wpSs C ex ss D' σ S) : wpSs C ex (.pass :: ss) D' σ S := by unfold wpSs wpS; exact h
theorem s_brk (h : D'.bk σ S) : wpSs C ex (.brk :: ss) D' σ S := by unfold wpSs wpS; exact h
theorem s_cont (h : D'.ct σ S) : wpSs C ex (.cont :: ss) D' σ S := by unfold wpSs wpS; exact h
theorem s_fr {g : Tg} {it : Ti} {b : List TS} (h : wpI C ex it σ S fun ds G S1 => forL (fun d N σ S => wpG g d σ S fun σ' => wpSs C ex b { D' with nx := N, ct := N, bk := wpSs C ex ss D' } σ' S) G (wpSs C ex ss D') ds σ S1) : wpSs C ex (.fr g it b :: ss) D' σ S := by
  unfold wpSs wpS; exact h
theorem s_whil {c : T} {b : List TS} (W : Nat → StD → Sto → Prop) (m : Nat) (h0 : W m σ S) (h : ∀ m σ S, W m σ S → wpT C ex c σ S fun k S1 =>
      if k = true then wpSs C ex b { D' with nx := fun σ' S' => ∃ m', m' < m ∧ W m' σ' S', ct := fun σ' S' => ∃ m', m' < m ∧ W m' σ' S', bk := wpSs C ex ss D' } σ S1 else wpSs C ex ss D' σ S1) : wpSs C ex (.whil c b :: ss) D' σ S := by
  unfold wpSs wpS; exact ⟨W, ⟨m, h0⟩, h⟩
theorem g_nm {i : Nat} {d : D} {R : StD → Prop} (h : R (σ.set i (some d))) : wpG (.nm i) d σ S R := by unfold wpG; exact h
theorem g_tup {gs : List Tg} {d : D} {ds : List D} {R : StD → Prop} (e : itemsD S d = some ds) (l : ds.length = gs.length) (h : wpGs gs ds σ S R) : wpG (.tup gs) d σ S R := by unfold wpG; rw [e]; exact ⟨l, h⟩
theorem g_nil {ds : List D} {R : StD → Prop} (h : R σ) : wpGs [] ds σ S R := by unfold wpGs; exact h
theorem g_cons {g : Tg} {gs : List Tg} {d : D} {ds : List D} {R : StD → Prop} (h : wpG g d σ S fun σ' => wpGs gs ds σ' S R) : wpGs (g :: gs) (d :: ds) σ S R := by unfold wpGs; exact h
theorem i_seq {e : T} {R : List D → (Sto → Prop) → Sto → Prop} (h : wpE C ex e σ S fun d S1 => (∃ ds, d = .tup ds ∧ R ds (fun _ => True) S1) ∨ (∃ ds, d = .kl ds ∧ R ds (fun _ => True) S1) ∨ ∃ a ds, d = .ref a ∧ S1 a = some (.lst ds) ∧ R ds (fun S => S a = some (.lst ds)) S1) : wpI C ex (.seq e) σ S R := by
  unfold wpI
  have : (fun (d : D) S1 => (∃ ds, d = .tup ds ∧ R ds (fun _ => True) S1) ∨ (∃ ds, d = .kl ds ∧ R ds (fun _ => True) S1) ∨ ∃ a ds, d = .ref a ∧ S1 a = some (.lst ds) ∧ R ds (fun S => S a = some (.lst ds)) S1)
      = (fun (d : D) (S1 : Sto) => match d with | .tup ds => R ds (fun _ => True) S1 | .kl ds => R ds (fun _ => True) S1 | .ref a => (match S1 a with | some (.lst ds) => R ds (fun S => S a = some (.lst ds)) S1 | _ => False) | _ => False) := by
    funext d S1
    cases d <;> simp
    rename_i a
    cases h1 : S1 a with
    | none => simp
    | some o => cases o <;> simp
  rw [this] at h
  exact h
theorem i_rng1 {a : T} {R : List D → (Sto → Prop) → Sto → Prop} (h : wpE C ex a σ S fun d S1 => ∃ n, d = .int n ∧ -(2 ^ 62) ≤ n ∧ n < 2 ^ 62 ∧ R ((List.range n.toNat).map fun i => .int (i : Nat)) (fun _ => True) S1) : wpI C ex (.rng1 a) σ S R := by
  unfold wpI
  have : (fun (d : D) S1 => ∃ n, d = .int n ∧ -(2 ^ 62) ≤ n ∧ n < 2 ^ 62 ∧ R ((List.range n.toNat).map fun i => .int (i : Nat)) (fun _ => True) S1) = (fun (d : D) (S1 : Sto) => match d with | .int n => -(2 ^ 62) ≤ n ∧ n < 2 ^ 62 ∧ R ((List.range n.toNat).map fun i => .int (i : Nat)) (fun _ => True) S1 | _ => False) := by
    funext d S1
    cases d <;> simp
  rw [this] at h
  exact h
theorem o_add {i j : Int} (h : Q (.int (i + j)) S) : wBin .Add (.int i) (.int j) S Q := h
theorem o_sub {i j : Int} (h : Q (.int (i - j)) S) : wBin .Sub (.int i) (.int j) S Q := h
theorem o_mul {i j : Int} (c : CMul i j) (h : Q (.int (i * j)) S) : wBin .Mult (.int i) (.int j) S Q := ⟨c, h⟩
theorem v_back {a : T} (h : wpE C ex a σ S fun x S1 => wBack x S1 Q) : wpE C ex (.back a) σ S Q := by unfold wpE; exact h
theorem v_isx {a : T} {m : Str} (h : wpE C ex a σ S fun x S1 => wIsx m x S1 Q) : wpE C ex (.isx a m) σ S Q := by unfold wpE; exact h
theorem v_atr {a : T} {f : Str} (h : wpE C ex a σ S fun x S1 => wAtr f x S1 Q) : wpE C ex (.atr a f) σ S Q := by unfold wpE; exact h
theorem o_div {i j : Int} (c : CDiv i j) (h : Q (.int (i / j)) S) : wBin .FloorDiv (.int i) (.int j) S Q := ⟨c, h⟩
theorem o_mod {i j : Int} (c : 0 < j) (h : Q (.int (i % j)) S) : wBin .Mod (.int i) (.int j) S Q := ⟨c, h⟩
theorem o_pow {i j : Int} (c : CPow i j) (h : Q (.int (i ^ j.toNat)) S) : wBin .Pow (.int i) (.int j) S Q := ⟨c, h⟩
theorem o_lt {i j : Int} (h : Q (.bl (decide (i < j))) S) : wCmp .Lt (.int i) (.int j) S Q := h
theorem o_le {i j : Int} (h : Q (.bl (decide (i ≤ j))) S) : wCmp .LtE (.int i) (.int j) S Q := h
theorem o_gt {i j : Int} (h : Q (.bl (decide (j < i))) S) : wCmp .Gt (.int i) (.int j) S Q := h
theorem o_ge {i j : Int} (h : Q (.bl (decide (j ≤ i))) S) : wCmp .GtE (.int i) (.int j) S Q := h
theorem o_subL {a : Addr} {xs : List D} {i : Int} {v : D} (e : S a = some (.lst xs)) (e2 : atI xs i = some v) (h : Q v S) : wSub (.ref a) (.int i) S Q := by unfold wSub; simp only [e, e2]; exact h
theorem o_subT {xs : List D} {i : Int} {v : D} (e2 : atI xs i = some v) (h : Q v S) : wSub (.tup xs) (.int i) S Q := by unfold wSub; simp only [e2]; exact h
theorem o_subK {xs : List D} {i : Int} {v : D} (e2 : atI xs i = some v) (h : Q v S) : wSub (.kl xs) (.int i) S Q := by unfold wSub; simp only [e2]; exact h
theorem o_subC {kvs : List (Str × Int)} {z : Str} {i : Int} (e2 : kvs.lookup z = some i) (h : Q (.int i) S) : wSub (.cd kvs) (.str z) S Q := by unfold wSub; simp only [e2]; exact h
theorem o_subD {a : Addr} {kvs : List (Key × D)} {d v : D} {key : Key} (e : S a = some (.dct kvs)) (e1 : keyD d = some key) (e2 : lookD kvs key = some v) (h : Q v S) : wSub (.ref a) d S Q := by unfold wSub; simp only [e, e1, e2]; exact h
theorem o_setL {a : Addr} {xs : List D} {i : Int} {j : Nat} {v : D} {R : Sto → Prop} (e : S a = some (.lst xs)) (e2 : ixN xs.length i = some j) (h : R (updS S a (.lst (xs.set j v)))) : wSet (.ref a) (.int i) v S R := by unfold wSet; simp only [e, e2]; exact h
theorem o_len {d : D} {n : Nat} (e : lenD S d = some n) (h : Q (.int n) S) : wBlt .len [d] S Q := by unfold wBlt; simp only [e]; exact h
theorem c_true {A B : Prop} (h : A) : if true = true then A else B := h
theorem c_false {A B : Prop} (h : B) : if false = true then A else B := h
theorem c_dec {p : Prop} [Decidable p] {A B : Prop} (h1 : p → A) (h2 : ¬ p → B) : if decide p = true then A else B := by
  by_cases hp : p
  · rw [if_pos (decide_eq_true hp)]; exact h1 hp
  · rw [if_neg (fun z => hp (of_decide_eq_true z))]; exact h2 hp
theorem c_nott {A B : Prop} (h : B) : if (!true) = true then A else B := h
theorem c_notf {A B : Prop} (h : A) : if (!false) = true then A else B := h
theorem c_decT {p : Prop} [Decidable p] {A B : Prop} (e : p) (h : A) : if decide p = true then A else B := by rw [if_pos (decide_eq_true e)]; exact h
theorem c_decF {p : Prop} [Decidable p] {A B : Prop} (e : ¬ p) (h : B) : if decide p = true then A else B := by rw [if_neg (fun z => e (of_decide_eq_true z))]; exact h
theorem upd_at {a p : Addr} {o u : Ob} (n : S p = none) (e : S a = some o) : updS S p u a = some o := by
  rw [updS_ne (fun z => by subst z; rw [n] at e; cases e)]; exact e
end
end Z

set_option Elab.async false
set_option linter.all false
set_option maxRecDepth 100000
set_option maxHeartbeats 4000000
namespace Z
open PySem PySem.Spec PyProof.Rows L2
def Off (A : List Addr) (S S' : Sto) : Prop := ∀ b o, b ∉ A → S b = some o → S' b = some o
theorem Off.refl (A : List Addr) (S : Sto) : Off A S S := fun _ _ _ e => e
theorem Off.trans {A : List Addr} {S S' S'' : Sto} (a : Off A S S') (b : Off A S' S'') : Off A S S'' := fun c o h e => b c o h (a c o h e)
theorem Off.upd {A : List Addr} {S : Sto} {a : Addr} {o : Ob} (h : a ∈ A) : Off A S (updS S a o) := fun b u hb e => by
  rw [updS_ne (fun z => hb (by rw [z]; exact h))]; exact e
theorem Off.new {A : List Addr} {S : Sto} {p : Addr} {o : Ob} (h : S p = none) : Off A S (updS S p o) := fun b u hb e => upd_at h e
theorem Off.mono {A B : List Addr} {S S' : Sto} (h : Off A S S') (s : ∀ x ∈ A, x ∈ B) : Off B S S' := fun b o hb e => h b o (fun z => hb (s b z)) e
theorem Off.drop {A : List Addr} {p : Addr} {S S' : Sto} (h : Off (p :: A) S S') (n : S p = none) : Off A S S' := fun b o hb e => h b o (fun z => by
  rcases List.mem_cons.mp z with z | z
  · subst z; rw [n] at e; cases e
  · exact hb z) e
def Flow (S : Sto) (a : Addr) : Prop := ∃ x y z : Int, S a = some (.lst [.int x, .int y, .int z]) ∧ -(2 ^ 64) < z ∧ z < 2 ^ 64
theorem Flow.off {S S' : Sto} {a : Addr} {A : List Addr} (f : Flow S a) (h : Off A S S') (n : a ∉ A) : Flow S' a := let ⟨x, y, z, e, r⟩ := f; ⟨x, y, z, h a _ n e, r⟩
section
variable {defs : Str → Option DefT} {gl : Str → Option D} {k : Nat} {S : Sto} {Q : D → Sto → Prop} {E : Exc → Sto → Prop}
theorem sem_of {f : Str} {d : DefT} {ds : List D} (hd : defs f = some d) (hl : ds.length = d.np) (h : wpSs ⟨sem defs gl k, gl⟩ (fun x _ S' => E x S') d.body ⟨fun _ S' => Q .non S', Q, fun _ _ => False, fun _ _ => False⟩ (startD d.ns ds) S) : sem defs gl (k + 1) f ds S Q E := by
  unfold sem; rw [hd]; exact ⟨hl, h⟩
theorem lc_ind {turn : D → Sto → (Option D → Sto → Prop) → Prop} {G : Sto → Prop} {Q : D → Sto → Prop} (I : List D → List D → Sto → Prop) (hg : ∀ r acc S, I r acc S → G S)
    (hend : ∀ acc S, I [] acc S → ∀ p, S p = none → Q (.ref p) (updS S p (.lst acc)))
    (hstep : ∀ d r acc S (K : Option D → Sto → Prop), I (d :: r) acc S → (∀ v S', I r (acc ++ [v]) S' → K (some v) S') → (∀ S', I r acc S' → K none S') → acc.length < sizeLine ∧ turn d S K) :
    ∀ (ds acc : List D) (S : Sto), I ds acc S → lcL turn G Q ds acc S
  | [], acc, S, h => ⟨hg _ _ _ h, hend acc S h⟩
  | d :: ds, acc, S, h => by
    obtain ⟨h1, h2⟩ := hstep d ds acc S (fun o S' => match o with | some v => lcL turn G Q ds (acc ++ [v]) S' | none => lcL turn G Q ds acc S') h (fun v S' hi => lc_ind I hg hend hstep ds _ S' hi) fun S' hi => lc_ind I hg hend hstep ds _ S' hi
    exact ⟨hg _ _ _ h, h1, h2⟩
theorem for_ind {turn : D → (StD → Sto → Prop) → StD → Sto → Prop} {G : Sto → Prop} {F : StD → Sto → Prop} (I : List D → StD → Sto → Prop) (hg : ∀ r σ S, I r σ S → G S) (hend : ∀ σ S, I [] σ S → F σ S)
    (hstep : ∀ d r σ S (N : StD → Sto → Prop), I (d :: r) σ S → (∀ σ' S', I r σ' S' → N σ' S') → turn d N σ S) : ∀ (ds : List D) (σ : StD) (S : Sto), I ds σ S → forL turn G F ds σ S
  | [], σ, S, h => ⟨hg _ _ _ h, hend σ S h⟩
  | d :: ds, σ, S, h => ⟨hg _ _ _ h, hstep d ds σ S _ h fun σ' S' hi => for_ind I hg hend hstep ds σ' S' hi⟩
theorem atI_nat {α : Type} {xs : List α} {i : Nat} {v : α} (h : xs[i]? = some v) : atI xs (i : Int) = some v := by
  have hi : i < xs.length := by
    by_cases z : i < xs.length
    · exact z
    · rw [List.getElem?_eq_none (by omega)] at h; cases h
  unfold atI ixN
  rw [if_pos (by omega)]
  simpa [hi] using h
theorem atI_ints {ns : List Int} {i : Int} (h0 : 0 ≤ i) (h1 : i < ns.length) : ∃ z, atI (ns.map D.int) i = some (.int z) := by
  obtain ⟨n, rfl⟩ := Int.eq_ofNat_of_zero_le h0
  have hn : n < ns.length := by omega
  exact ⟨ns[n], atI_nat (by rw [List.getElem?_map, List.getElem?_eq_getElem hn]; rfl)⟩
local macro_rules | `(tactic| fail) => `(tactic| refine ⟨Nat.le_of_ble_eq_true rfl, ?_⟩)
local macro_rules | `(tactic| fail) => `(tactic| with_reducible refine ⟨_, rfl, ?_⟩)
local macro_rules | `(tactic| fail) => `(tactic| ((with_reducible apply o_sliceT); (focus rfl)))
local macro_rules | `(tactic| fail) => `(tactic| ((with_reducible apply o_inTf); (focus rfl); (focus rfl); (focus (simp [inF, eqF, str_beq]; done))))
local macro_rules | `(tactic| fail) => `(tactic| ((with_reducible apply o_inTt); (focus rfl); (focus rfl); (focus (simp [inF, eqF, str_beq]; done))))
local macro_rules | `(tactic| fail) => `(tactic| ((with_reducible apply o_subC); (focus (repeat (first | with_reducible exact lk_hit | ((with_reducible apply lk_miss); (focus (exact str_ne (by decide)))))))))
local macro_rules | `(tactic| fail) => `(tactic| ((with_reducible apply o_inC); (focus (repeat (first | with_reducible exact lk_hit | ((with_reducible apply lk_miss); (focus (exact str_ne (by decide)))))))))
local macro_rules | `(tactic| fail) => `(tactic| ((with_reducible apply o_ninC); (focus (repeat (first | with_reducible exact lk_hit | ((with_reducible apply lk_miss); (focus (exact str_ne (by decide)))))))))
local macro_rules | `(tactic| fail) => `(tactic| ((with_reducible apply o_isinF); (focus rfl); (focus (decide +kernel))))
local macro_rules | `(tactic| fail) => `(tactic| ((with_reducible apply o_isinT); (focus rfl); (focus (decide +kernel))))
local macro_rules | `(tactic| fail) => `(tactic| with_reducible refine i_enm ?_)
local macro_rules | `(tactic| fail) => `(tactic| ((with_reducible apply g_tup); (focus rfl); (focus rfl)))
local macro_rules | `(tactic| fail) => `(tactic| ((with_reducible apply v_dctN); (focus (decide +kernel))))
local macro_rules | `(tactic| fail) => `(tactic| ((with_reducible apply o_len); (focus (exact len_ref (by (first | assumption | exact updS_same | exact upd_at (by assumption) (by assumption)))))))
local macro_rules | `(tactic| fail) => `(tactic| ((with_reducible apply o_tuple); (focus (first | rfl | exact items_ref (by (first | assumption | exact updS_same | exact upd_at (by assumption) (by assumption)))))))
local macro_rules | `(tactic| fail) => `(tactic| ((with_reducible apply o_get2); (focus (first | assumption | exact updS_same | exact upd_at (by assumption) (by assumption))); (focus rfl); (focus (repeat (first | with_reducible exact getD_hit | with_reducible exact getD_nil | ((with_reducible apply getD_miss); (focus (exact str_ne (by decide)))))))))
local macro_rules | `(tactic| fail) => `(tactic| ((with_reducible apply o_get1); (focus (first | assumption | exact updS_same | exact upd_at (by assumption) (by assumption))); (focus rfl); (focus (repeat (first | with_reducible exact getD_hit | with_reducible exact getD_nil | ((with_reducible apply getD_miss); (focus (exact str_ne (by decide)))))))))
local macro_rules | `(tactic| fail) => `(tactic| (refine And.intro ?_ ?_; (focus (first | exact recvL (by (first | assumption | exact updS_same | exact upd_at (by assumption) (by assumption))) rfl | exact recvD (by (first | assumption | exact updS_same | exact upd_at (by assumption) (by assumption))) rfl))))
local macro_rules | `(tactic| fail) => `(tactic| ((with_reducible apply o_subD); (focus (first | assumption | exact updS_same | exact upd_at (by assumption) (by assumption))); (focus rfl); (focus (repeat (first | with_reducible exact lookD_hit | ((with_reducible apply look_miss); (focus (exact str_ne (by decide)))))))))
local macro_rules | `(tactic| fail) => `(tactic| ((with_reducible apply c_ndF); (focus (((try simp only [List.length_cons, List.length_nil, List.length_append, List.length_map]); omega)))))
local macro_rules | `(tactic| fail) => `(tactic| ((with_reducible apply c_ndT); (focus (((try simp only [List.length_cons, List.length_nil, List.length_append, List.length_map]); omega)))))
local macro_rules | `(tactic| fail) => `(tactic| with_reducible refine o_intB ?_)
local macro_rules | `(tactic| fail) => `(tactic| ((with_reducible apply c_decF); (focus (((try simp only [List.length_cons, List.length_nil, List.length_append, List.length_map]); omega)))))
local macro_rules | `(tactic| fail) => `(tactic| ((with_reducible apply c_decT); (focus (((try simp only [List.length_cons, List.length_nil, List.length_append, List.length_map]); omega)))))
local macro_rules | `(tactic| fail) => `(tactic| with_reducible refine c_notf ?_)
local macro_rules | `(tactic| fail) => `(tactic| with_reducible refine c_nott ?_)
local macro_rules | `(tactic| fail) => `(tactic| with_reducible refine o_eqI ?_)
local macro_rules | `(tactic| fail) => `(tactic| ((with_reducible apply o_eqIf); (focus (((try simp only [List.length_cons, List.length_nil, List.length_append, List.length_map]); omega)))))
local macro_rules | `(tactic| fail) => `(tactic| ((with_reducible apply o_eqIt); (focus (((try simp only [List.length_cons, List.length_nil, List.length_append, List.length_map]); omega)))))
local macro_rules | `(tactic| fail) => `(tactic| with_reducible refine o_isB ?_)
local macro_rules | `(tactic| fail) => `(tactic| with_reducible refine o_isN ?_)
local macro_rules | `(tactic| fail) => `(tactic| with_reducible refine o_isR ?_)
local macro_rules | `(tactic| fail) => `(tactic| with_reducible refine o_eqB ?_)
local macro_rules | `(tactic| fail) => `(tactic| with_reducible refine o_neII ?_)
local macro_rules | `(tactic| fail) => `(tactic| with_reducible refine o_neBB ?_)
local macro_rules | `(tactic| fail) => `(tactic| ((with_reducible apply o_eqSf); (focus decide)))
local macro_rules | `(tactic| fail) => `(tactic| with_reducible refine o_eqSt ?_)
local macro_rules | `(tactic| fail) => `(tactic| ((with_reducible apply o_len); focus (first | rfl | (simp only [lenD]; simp only [*]; done))))
local macro_rules | `(tactic| fail) => `(tactic| ((with_reducible apply o_setL); (focus (first | assumption | exact updS_same | exact upd_at (by assumption) (by assumption))); (focus rfl)))
local macro_rules | `(tactic| fail) => `(tactic| ((with_reducible apply o_subT); focus (rfl)))
local macro_rules | `(tactic| fail) => `(tactic| ((with_reducible apply o_subL); (focus (first | assumption | exact updS_same | exact upd_at (by assumption) (by assumption))); (focus rfl)))
local macro_rules | `(tactic| fail) => `(tactic| ((with_reducible apply o_pow); focus (unfold CPow; omega)))
local macro_rules | `(tactic| fail) => `(tactic| ((with_reducible apply o_mod); focus (omega)))
local macro_rules | `(tactic| fail) => `(tactic| ((with_reducible apply o_div); focus (unfold CDiv; omega)))
local macro_rules | `(tactic| fail) => `(tactic| ((with_reducible apply o_mul); focus (unfold CMul; omega)))
local macro_rules | `(tactic| fail) => `(tactic| ((with_reducible apply v_glob); focus (first | assumption | rfl)))
local macro_rules | `(tactic| fail) => `(tactic| ((with_reducible apply t_var); focus (rfl)))
local macro_rules | `(tactic| fail) => `(tactic| ((with_reducible apply v_var); focus (rfl)))
local macro_rules | `(tactic| fail) => `(tactic| with_reducible refine c_false ?_)
local macro_rules | `(tactic| fail) => `(tactic| with_reducible refine c_true ?_)
local macro_rules | `(tactic| fail) => `(tactic| with_reducible refine o_ge ?_)
local macro_rules | `(tactic| fail) => `(tactic| with_reducible refine o_gt ?_)
local macro_rules | `(tactic| fail) => `(tactic| with_reducible refine o_le ?_)
local macro_rules | `(tactic| fail) => `(tactic| with_reducible refine o_lt ?_)
local macro_rules | `(tactic| fail) => `(tactic| with_reducible refine o_sub ?_)
local macro_rules | `(tactic| fail) => `(tactic| with_reducible refine o_add ?_)
local macro_rules | `(tactic| fail) => `(tactic| with_reducible refine i_rng1 ?_)
local macro_rules | `(tactic| fail) => `(tactic| with_reducible refine i_seq ?_)
local macro_rules | `(tactic| fail) => `(tactic| with_reducible refine g_cons ?_)
local macro_rules | `(tactic| fail) => `(tactic| with_reducible refine g_nil ?_)
local macro_rules | `(tactic| fail) => `(tactic| with_reducible refine g_nm ?_)
local macro_rules | `(tactic| fail) => `(tactic| with_reducible refine ts_one ?_)
local macro_rules | `(tactic| fail) => `(tactic| with_reducible refine ts_nil ?_)
local macro_rules | `(tactic| fail) => `(tactic| with_reducible refine tr_int ?_)
local macro_rules | `(tactic| fail) => `(tactic| with_reducible refine tr_bl ?_)
local macro_rules | `(tactic| fail) => `(tactic| with_reducible refine tb_or ?_)
local macro_rules | `(tactic| fail) => `(tactic| with_reducible refine tb_and ?_)
local macro_rules | `(tactic| fail) => `(tactic| with_reducible refine tb_one ?_)
local macro_rules | `(tactic| fail) => `(tactic| with_reducible refine t_chain ?_)
local macro_rules | `(tactic| fail) => `(tactic| with_reducible refine t_sub ?_)
local macro_rules | `(tactic| fail) => `(tactic| with_reducible refine t_blt ?_)
local macro_rules | `(tactic| fail) => `(tactic| with_reducible refine t_call ?_)
local macro_rules | `(tactic| fail) => `(tactic| with_reducible refine t_cmp ?_)
local macro_rules | `(tactic| fail) => `(tactic| with_reducible refine t_nt ?_)
local macro_rules | `(tactic| fail) => `(tactic| with_reducible refine t_bop ?_)
local macro_rules | `(tactic| fail) => `(tactic| with_reducible refine vb_or ?_)
local macro_rules | `(tactic| fail) => `(tactic| with_reducible refine vb_and ?_)
local macro_rules | `(tactic| fail) => `(tactic| with_reducible refine vb_one ?_)
local macro_rules | `(tactic| fail) => `(tactic| with_reducible refine vo_some ?_)
local macro_rules | `(tactic| fail) => `(tactic| with_reducible refine vo_none ?_)
local macro_rules | `(tactic| fail) => `(tactic| with_reducible refine vs_cons ?_)
local macro_rules | `(tactic| fail) => `(tactic| with_reducible refine vs_nil ?_)
local macro_rules | `(tactic| fail) => `(tactic| with_reducible refine v_lc ?_)
local macro_rules | `(tactic| fail) => `(tactic| with_reducible refine v_mth ?_)
local macro_rules | `(tactic| fail) => `(tactic| with_reducible refine v_lzip ?_)
local macro_rules | `(tactic| fail) => `(tactic| with_reducible refine v_lrev ?_)
local macro_rules | `(tactic| fail) => `(tactic| with_reducible refine v_blt ?_)
local macro_rules | `(tactic| fail) => `(tactic| with_reducible refine v_call ?_)
local macro_rules | `(tactic| fail) => `(tactic| with_reducible refine v_slice ?_)
local macro_rules | `(tactic| fail) => `(tactic| with_reducible refine v_sub ?_)
local macro_rules | `(tactic| fail) => `(tactic| with_reducible refine v_lst ?_)
local macro_rules | `(tactic| fail) => `(tactic| with_reducible refine v_tup ?_)
local macro_rules | `(tactic| fail) => `(tactic| with_reducible refine v_ite ?_)
local macro_rules | `(tactic| fail) => `(tactic| with_reducible refine v_nt ?_)
local macro_rules | `(tactic| fail) => `(tactic| with_reducible refine v_bop ?_)
local macro_rules | `(tactic| fail) => `(tactic| with_reducible refine v_cmp ?_)
local macro_rules | `(tactic| fail) => `(tactic| with_reducible refine v_bin ?_)
local macro_rules | `(tactic| fail) => `(tactic| with_reducible refine v_bty ?_)
local macro_rules | `(tactic| fail) => `(tactic| with_reducible refine v_str ?_)
local macro_rules | `(tactic| fail) => `(tactic| with_reducible refine v_non ?_)
local macro_rules | `(tactic| fail) => `(tactic| with_reducible refine v_bl ?_)
local macro_rules | `(tactic| fail) => `(tactic| with_reducible refine v_int ?_)
local macro_rules | `(tactic| fail) => `(tactic| with_reducible refine s_cont ?_)
local macro_rules | `(tactic| fail) => `(tactic| with_reducible refine s_brk ?_)
local macro_rules | `(tactic| fail) => `(tactic| with_reducible refine s_nil ?_)
local macro_rules | `(tactic| fail) => `(tactic| with_reducible refine s_pass ?_)
local macro_rules | `(tactic| fail) => `(tactic| with_reducible refine s_retN ?_)
local macro_rules | `(tactic| fail) => `(tactic| with_reducible refine s_ret ?_)
local macro_rules | `(tactic| fail) => `(tactic| with_reducible refine s_ife ?_)
local macro_rules | `(tactic| fail) => `(tactic| with_reducible refine s_set ?_)
local macro_rules | `(tactic| fail) => `(tactic| with_reducible refine s_par ?_)
local macro_rules | `(tactic| fail) => `(tactic| with_reducible refine s_asg ?_)
local macro_rules | `(tactic| fail) => `(tactic| with_reducible refine s_ex ?_)

theorem spec_draw (hd : defs "_law_draw" = some dLDraw) {a : Addr} {m : Int} (hk : 1 ≤ k) (hF : Flow S a) (hm : 0 < m ∧ m < 1073741824)
    (hq : ∀ r S', 0 ≤ r → r < m → Flow S' a → Off [a] S S' → Q (.int r) S') : sem defs gl k "_law_draw" [.ref a, .int m] S Q E := by
  obtain ⟨k, rfl⟩ : ∃ j, k = j + 1 := ⟨k - 1, by omega⟩
  obtain ⟨x, y, z, hS, hz1, hz2⟩ := hF
  (refine sem_of hd rfl ?_; unfold dLDraw; simp only [startD, List.map_cons, List.map_nil, List.length_cons, List.length_nil, List.replicate_succ, List.replicate_zero, List.cons_append, List.nil_append, Nat.reduceAdd, Nat.reduceSub])
  (repeat fail)
  refine c_dec (fun hx => ?_) (fun hx => ?_)
  · (repeat fail)
    refine hq _ _ (Int.emod_nonneg _ (by omega)) (Int.emod_lt_of_pos _ hm.1) ⟨_, _, _, updS_same, hz1, hz2⟩ (Off.upd (by simp))
  · (repeat fail)
    refine hq _ _ (Int.emod_nonneg _ (by omega)) (Int.emod_lt_of_pos _ hm.1) ⟨_, _, _, updS_same, hz1, hz2⟩ (Off.upd (by simp))
theorem spec_cell (hd : defs "_law_cell" = some dLCell) {ns : List Int} {i : Int} (hk : 1 ≤ k) (hi : 0 ≤ i ∧ i < 1000) (hl : ns.length ≤ 63) (hq : ∀ r, Q (.int r) S) : sem defs gl k "_law_cell" [.kl (ns.map D.int), .int i] S Q E := by
  obtain ⟨k, rfl⟩ : ∃ j, k = j + 1 := ⟨k - 1, by omega⟩
  have h3 : (ns.map D.int).length = ns.length := List.length_map _
  (refine sem_of hd rfl ?_; unfold dLCell; simp only [startD, List.map_cons, List.map_nil, List.length_cons, List.length_nil, List.replicate_succ, List.replicate_zero, List.cons_append, List.nil_append, Nat.reduceAdd, Nat.reduceSub])
  (repeat fail)
  refine c_dec (fun h => ?_) (fun h => ?_)
  · rw [h3] at h
    obtain ⟨z, hz⟩ := atI_ints hi.1 h
    (repeat fail)
    exact o_subK hz (hq _)
  · (repeat fail)
    refine c_dec (fun h2 => ?_) (fun h2 => ?_)
    · obtain ⟨z, hz⟩ := atI_ints (ns := ns) (i := i * 7 % ((ns.map D.int).length : Int)) (Int.emod_nonneg _ (by omega)) (by rw [← h3]; exact Int.emod_lt_of_pos _ h2)
      (repeat fail)
      refine o_subK hz ?_
      (repeat fail)
      exact hq _
    · (repeat fail)
      exact hq _
theorem spec_flow (hd : defs "_law_flow" = some dLFlow) (hd1 : defs "_law_cell" = some dLCell) {ns : List Int} {i : Int} (hk : 2 ≤ k) (hi : 0 ≤ i ∧ i < 1000) (hl : ns.length ≤ 63)
    (hq : ∀ p S', S p = none → Flow S' p → Off [] S S' → Q (.ref p) S') : sem defs gl k "_law_flow" [.kl (ns.map D.int), .int i] S Q E := by
  obtain ⟨k, rfl⟩ : ∃ j, k = j + 1 := ⟨k - 1, by omega⟩
  (refine sem_of hd rfl ?_; unfold dLFlow; simp only [startD, List.map_cons, List.map_nil, List.length_cons, List.length_nil, List.replicate_succ, List.replicate_zero, List.cons_append, List.nil_append, Nat.reduceAdd, Nat.reduceSub])
  (repeat fail)
  refine spec_cell hd1 (by omega) hi hl fun r => ?_
  (repeat fail)
  refine c_dec (fun h => ?_) (fun h => ?_) <;> ((repeat fail); intro p hp; exact hq p _ hp ⟨_, _, _, updS_same, by omega, by omega⟩ (Off.new hp))
end
end Z

set_option Elab.async false
set_option linter.all false
set_option maxRecDepth 100000
set_option maxHeartbeats 4000000
namespace Z
open PySem PySem.Spec PyProof.Rows L2
theorem str_eq {a b : String} : (Str.ofString a = Str.ofString b) = (a = b) := by
  apply propext
  refine ⟨fun h => ?_, fun h => by rw [h]⟩
  rw [Str.ofString_eq_toList, Str.ofString_eq_toList] at h
  have h1 : (a.toList.map Char.toNat) = (b.toList.map Char.toNat) := by
    have := congrArg (fun s : Str => s.cps.toList) h
    simpa using this
  have h2 : a.toList = b.toList := (List.map_inj_right (fun x y e => Char.toNat_inj.mp e)).mp h1
  exact String.toList_inj.mp h2
theorem str_ne {a b : String} (h : a ≠ b) : Str.ofString a ≠ Str.ofString b := by rw [ne_eq, str_eq]; exact h
theorem strOk_of (s : String) : PyData.strOk (Str.ofString s) = true := by
  rw [Str.ofString_eq_toList]
  unfold PyData.strOk
  simp only [List.all_toArray, List.all_eq_true, List.mem_map, decide_eq_true_eq]
  rintro x ⟨c, _, rfl⟩
  have := c.valid
  unfold UInt32.isValidChar Nat.isValidChar at this
  show c.val.toNat < _
  omega
theorem shS (s : String) : SeqAt.shaped (.str (Str.ofString s)) = true := by
  unfold SeqAt.shaped
  simp only [PyData.canLay0, PyData.depth, strOk_of, Bool.true_and]
  rfl
theorem shI (i : Int) : SeqAt.shaped (.int i) = true := by
  unfold SeqAt.shaped
  simp only [PyData.canLay0, PyData.depth, Bool.true_and]
  rfl
theorem shB (i : Bool) : SeqAt.shaped (.bool i) = true := by
  unfold SeqAt.shaped
  simp only [PyData.canLay0, PyData.depth, Bool.true_and]
  rfl
section
variable {S : Sto} {Q : D → Sto → Prop}
theorem o_eqSt {x : String} (h : Q (.bl true) S) : wCmp .Eq (.str (Str.ofString x)) (.str (Str.ofString x)) S Q := by
  unfold wCmp wEq; simp only [toPS, toP]
  refine ⟨shS x, shS x, ?_⟩
  simpa [PyData.eqv] using h
theorem o_eqSf {x y : String} (n : x ≠ y) (h : Q (.bl false) S) : wCmp .Eq (.str (Str.ofString x)) (.str (Str.ofString y)) S Q := by
  unfold wCmp wEq; simp only [toPS, toP]
  refine ⟨shS x, shS y, ?_⟩
  have e : PyData.eqv (.str (Str.ofString x)) (.str (Str.ofString y)) = false := by simp only [PyData.eqv]; exact beq_eq_false_iff_ne.mpr (str_ne n)
  rw [e]
  exact h
theorem o_isR {a : Addr} (h : Q (.bl false) S) : wCmp .Is (.ref a) .non S Q := h
theorem o_isN (h : Q (.bl true) S) : wCmp .Is .non .non S Q := h
theorem o_isB {a b : Bool} (h : Q (.bl (decide (a = b))) S) : wCmp .Is (.bl a) (.bl b) S Q := h
theorem lookD_hit {k : Str} {v : D} {r : List (Key × D)} : lookD ((.inr k, v) :: r) (.inr k) = some v := by simp [lookD]
theorem lookD_miss {k j : Str} {v : D} {r : List (Key × D)} (n : k ≠ j) : lookD ((.inr k, v) :: r) (.inr j) = lookD r (.inr j) := by simp [lookD, n]
theorem look_miss {k j : Str} {v : D} {w : Option D} {r : List (Key × D)} (n : k ≠ j) (h : lookD r (.inr j) = w) : lookD ((.inr k, v) :: r) (.inr j) = w := (lookD_miss n).trans h
theorem getD_hit {k : Str} {v u : D} {r : List (Key × D)} : (lookD ((.inr k, v) :: r) (.inr k)).getD u = v := by rw [lookD_hit]; rfl
theorem getD_miss {k j : Str} {v u w : D} {r : List (Key × D)} (n : k ≠ j) (h : (lookD r (.inr j)).getD u = w) : (lookD ((.inr k, v) :: r) (.inr j)).getD u = w := by rw [lookD_miss n]; exact h
theorem getD_nil {j : Key} {u : D} : (lookD [] j).getD u = u := rfl
theorem o_eqI {i j : Int} (h : Q (.bl (decide (i = j))) S) : wCmp .Eq (.int i) (.int j) S Q := by
  unfold wCmp wEq; simp only [toPS, toP]
  refine ⟨shI i, shI j, ?_⟩
  have : PyData.eqv (.int i) (.int j) = decide (i = j) := by simp only [PyData.eqv]; by_cases z : i = j <;> simp [z]
  rw [this]
  exact h
theorem o_eqIt {i j : Int} (e : i = j) (h : Q (.bl true) S) : wCmp .Eq (.int i) (.int j) S Q := o_eqI (by rw [decide_eq_true e]; exact h)
theorem o_eqIf {i j : Int} (e : ¬ i = j) (h : Q (.bl false) S) : wCmp .Eq (.int i) (.int j) S Q := o_eqI (by rw [decide_eq_false e]; exact h)
theorem o_get1 {a : Addr} {kvs : List (Key × D)} {d v : D} {key : Key} (e : S a = some (.dct kvs)) (e1 : keyD d = some key) (e2 : (lookD kvs key).getD .non = v) (h : Q v S) : wMth .get (.ref a) [d] S Q := by
  unfold wMth; simp only [e, e1, e2]; exact h
theorem o_get2 {a : Addr} {kvs : List (Key × D)} {d v u : D} {key : Key} (e : S a = some (.dct kvs)) (e1 : keyD d = some key) (e2 : (lookD kvs key).getD u = v) (h : Q v S) : wMth .get (.ref a) [d, u] S Q := by
  unfold wMth; simp only [e, e1, e2]; exact h
theorem o_append {a : Addr} {xs : List D} {d : D} (e : S a = some (.lst xs)) (l : xs.length < sizeLine) (h : Q .non (updS S a (.lst (xs ++ [d])))) : wMth .append (.ref a) [d] S Q := by
  unfold wMth; simp only [e]; exact ⟨l, h⟩
theorem o_pop {a : Addr} {xs : List D} {d : D} (e : S a = some (.lst (xs ++ [d]))) (h : Q d (updS S a (.lst xs))) : wMth .pop (.ref a) [] S Q := by
  unfold wMth; simp only [e]
  rw [show (xs ++ [d])[(xs ++ [d]).length - 1]? = some d by simp, show (xs ++ [d]).dropLast = xs by simp]; exact h
theorem o_extend {a b : Addr} {xs ys : List D} (e : S a = some (.lst xs)) (e2 : S b = some (.lst ys)) (l : xs.length + ys.length ≤ sizeLine) (h : Q .non (updS S a (.lst (xs ++ ys)))) : wMth .extend (.ref a) [.ref b] S Q := by
  unfold wMth; simp only [e, e2]; exact ⟨l, h⟩
theorem recvL {m : Me} {a : Addr} {xs : List D} (e : S a = some (.lst xs)) (h : m.ofDict = false) : okRecv m S (.ref a) = true := by unfold okRecv; simp [e, h]
theorem recvD {m : Me} {a : Addr} {xs : List (Key × D)} (e : S a = some (.dct xs)) (h : m.ofDict = true) : okRecv m S (.ref a) = true := by unfold okRecv; simp [e, h]
theorem o_tuple {d : D} {xs : List D} (e : itemsD S d = some xs) (h : Q (.tup xs) S) : wBlt .tuple [d] S Q := by unfold wBlt; simp only [e]; exact h
theorem items_ref {a : Addr} {xs : List D} (e : S a = some (.lst xs)) : itemsD S (.ref a) = some xs := by unfold itemsD; simp only [e]
theorem len_ref {a : Addr} {xs : List D} (e : S a = some (.lst xs)) : lenD S (.ref a) = some xs.length := by unfold lenD; simp only [e]
theorem o_intB {b : Bool} (h : Q (.int (if b then 1 else 0)) S) : wBlt .int [.bl b] S Q := h
end
theorem str_beq {a b : String} : (Str.ofString a == Str.ofString b) = decide (a = b) := by
  by_cases h : a = b
  · subst h; simp
  · rw [beq_eq_false_iff_ne.mpr (str_ne h)]; simp [h]
theorem lk_hit {β : Type} {k : Str} {v : β} {r : List (Str × β)} : List.lookup k ((k, v) :: r) = some v := by simp [List.lookup_cons]
theorem lk_miss {β : Type} {k j : Str} {v : β} {w : Option β} {r : List (Str × β)} (n : j ≠ k) (h : List.lookup k r = w) : List.lookup k ((j, v) :: r) = w := by
  rw [List.lookup_cons, show (k == j) = false from beq_eq_false_iff_ne.mpr (Ne.symm n)]; exact h
section
variable {S : Sto} {Q : D → Sto → Prop}
theorem o_isinst {d : D} {n t : String} {b : Bool} (e : tyD S d = some t) (e2 : kitB t n = some b) (h : Q (.bl b) S) : wBlt .isinst [d, .ty n] S Q := by unfold wBlt; simp only [e, e2]; exact h
theorem o_isinT {d : D} {n t : String} (e : tyD S d = some t) (e2 : kitB t n = some true) (h : Q (.bl true) S) : wBlt .isinst [d, .ty n] S Q := o_isinst e e2 h
theorem o_isinF {d : D} {n t : String} (e : tyD S d = some t) (e2 : kitB t n = some false) (h : Q (.bl false) S) : wBlt .isinst [d, .ty n] S Q := o_isinst e e2 h
theorem o_ninC {z : Str} {kvs : List (Str × Int)} {i : Int} (e : kvs.lookup z = some i) (h : Q (.bl false) S) : wCmp .NotIn (.str z) (.cd kvs) S Q := by unfold wCmp; simp only [e]; exact h
theorem o_inC {z : Str} {kvs : List (Str × Int)} {i : Int} (e : kvs.lookup z = some i) (h : Q (.bl true) S) : wCmp .In (.str z) (.cd kvs) S Q := by unfold wCmp; simp only [e]; exact h
theorem o_inT {x : D} {ys : List D} {b : Bool} (f : flatD x = true) (g : ys.all flatD = true) (e : inF x ys = b) (h : Q (.bl b) S) : wCmp .In x (.tup ys) S Q := by unfold wCmp; simp only [itemsD, e]; exact .inl ⟨f, g, h⟩
theorem o_sliceT {xs ys : List D} {lo hi : Option Int} (e : cutD xs lo hi = ys) (h : Q (.tup ys) S) : wSlice (.tup xs) lo hi S Q := by unfold wSlice; simp only [e]; exact h
theorem o_lrevT {xs : List D} (h : ∀ p, S p = none → Q (.ref p) (updS S p (.lst xs.reverse))) : wLrev (.tup xs) S Q := h
theorem o_inTt {x : D} {ys : List D} (f : flatD x = true) (g : ys.all flatD = true) (e : inF x ys = true) (h : Q (.bl true) S) : wCmp .In x (.tup ys) S Q := o_inT f g e h
theorem o_inTf {x : D} {ys : List D} (f : flatD x = true) (g : ys.all flatD = true) (e : inF x ys = false) (h : Q (.bl false) S) : wCmp .In x (.tup ys) S Q := o_inT f g e h
end
theorem c_nd {p : Prop} [Decidable p] {A B : Prop} (h1 : p → B) (h2 : ¬ p → A) : if (!decide p) = true then A else B := by
  by_cases h : p
  · simp only [h, decide_true, Bool.not_true, Bool.false_eq_true, if_false]; exact h1 h
  · simp only [h, decide_false, Bool.not_false, if_true]; exact h2 h
theorem c_ndT {p : Prop} [Decidable p] {A B : Prop} (e : p) (h : B) : if (!decide p) = true then A else B := c_nd (fun _ => h) (fun z => absurd e z)
theorem c_ndF {p : Prop} [Decidable p] {A B : Prop} (e : ¬ p) (h : A) : if (!decide p) = true then A else B := c_nd (fun z => absurd z e) (fun _ => h)
inductive Pg where
  | inp (i : Nat) | num (n : Int) | yes | no | plus (n : Int) (a : Pg) | least (a b : Pg) | most (a b : Pg) | atmost (a b : Pg) | not (a : Pg) | both (a b : Pg) | either (a b : Pg) | ife (c a b : Pg)
def Pg.d : Pg → D
  | .inp i => .tup [.str "in", .int i]
  | .num n => .tup [.str "num", .int n]
  | .yes => .tup [.str "yes"]
  | .no => .tup [.str "no"]
  | .plus n a => .tup [.str "plus", .int n, a.d]
  | .least a b => .tup [.str "least", a.d, b.d]
  | .most a b => .tup [.str "most", a.d, b.d]
  | .atmost a b => .tup [.str "atmost", a.d, b.d]
  | .not a => .tup [.str "not", a.d]
  | .both a b => .tup [.str "both", a.d, b.d]
  | .either a b => .tup [.str "either", a.d, b.d]
  | .ife c a b => .tup [.str "if", c.d, a.d, b.d]
def Pg.ok (ks : List Bool) : Bool → Pg → Prop
  | t, .inp i => ks[i]? = some t
  | t, .num _ => t = false
  | t, .yes => t = true
  | t, .no => t = true
  | t, .plus _ a => t = false ∧ a.ok ks false
  | t, .least a b => t = false ∧ a.ok ks false ∧ b.ok ks false
  | t, .most a b => t = false ∧ a.ok ks false ∧ b.ok ks false
  | t, .atmost a b => t = true ∧ a.ok ks false ∧ b.ok ks false
  | t, .not a => t = true ∧ a.ok ks true
  | t, .both a b => t = true ∧ a.ok ks true ∧ b.ok ks true
  | t, .either a b => t = true ∧ a.ok ks true ∧ b.ok ks true
  | t, .ife c a b => c.ok ks true ∧ a.ok ks t ∧ b.ok ks t
def Pg.size : Pg → Nat
  | .inp _ => 1 | .num _ => 1 | .yes => 1 | .no => 1
  | .plus _ a => a.size + 1 | .not a => a.size + 1
  | .least a b => a.size + b.size + 1 | .most a b => a.size + b.size + 1 | .atmost a b => a.size + b.size + 1
  | .both a b => a.size + b.size + 1 | .either a b => a.size + b.size + 1
  | .ife c a b => c.size + a.size + b.size + 1
def Pg.ht : Pg → Nat
  | .inp _ => 1 | .num _ => 1 | .yes => 1 | .no => 1
  | .plus _ a => a.ht + 1 | .not a => a.ht + 1
  | .least a b => max a.ht b.ht + 1 | .most a b => max a.ht b.ht + 1 | .atmost a b => max a.ht b.ht + 1
  | .both a b => max a.ht b.ht + 1 | .either a b => max a.ht b.ht + 1
  | .ife c a b => max c.ht (max a.ht b.ht) + 1
def kS (t : Bool) : Str := if t then "truth" else "num"
def kD (ks : List Bool) : List D := ks.map fun t => .str (kS t)
def World3 (S : Sto) (a : Addr) (ks : List Bool) : Prop := ∃ c i n : Int, S a = some (.dct [(.inr "kinds", .tup (kD ks)), (.inr "cmp", .int c), (.inr "if", .int i), (.inr "any", .int n)])
theorem World3.off {S S' : Sto} {a : Addr} {A : List Addr} {ks : List Bool} (f : World3 S a ks) (h : Off A S S') (n : a ∉ A) : World3 S' a ks := let ⟨x, y, z, e⟩ := f; ⟨x, y, z, h a _ n e⟩
end Z

set_option Elab.async false
set_option linter.all false
set_option maxRecDepth 100000
set_option maxHeartbeats 4000000
namespace Z
open PySem PySem.Spec PyProof.Rows L2
local macro_rules | `(tactic| fail) => `(tactic| refine ⟨Nat.le_of_ble_eq_true rfl, ?_⟩)
local macro_rules | `(tactic| fail) => `(tactic| with_reducible refine ⟨_, rfl, ?_⟩)
local macro_rules | `(tactic| fail) => `(tactic| ((with_reducible apply o_sliceT); (focus rfl)))
local macro_rules | `(tactic| fail) => `(tactic| ((with_reducible apply o_inTf); (focus rfl); (focus rfl); (focus (simp [inF, eqF, str_beq]; done))))
local macro_rules | `(tactic| fail) => `(tactic| ((with_reducible apply o_inTt); (focus rfl); (focus rfl); (focus (simp [inF, eqF, str_beq]; done))))
local macro_rules | `(tactic| fail) => `(tactic| ((with_reducible apply o_subC); (focus ((repeat (first | with_reducible exact lk_hit | ((with_reducible apply lk_miss); (focus (exact str_ne (by decide)))))); done))))
local macro_rules | `(tactic| fail) => `(tactic| ((with_reducible apply o_inC); (focus ((repeat (first | with_reducible exact lk_hit | ((with_reducible apply lk_miss); (focus (exact str_ne (by decide)))))); done))))
local macro_rules | `(tactic| fail) => `(tactic| ((with_reducible apply o_ninC); (focus ((repeat (first | with_reducible exact lk_hit | ((with_reducible apply lk_miss); (focus (exact str_ne (by decide)))))); done))))
local macro_rules | `(tactic| fail) => `(tactic| ((with_reducible apply o_isinF); (focus rfl); (focus (decide +kernel))))
local macro_rules | `(tactic| fail) => `(tactic| ((with_reducible apply o_isinT); (focus rfl); (focus (decide +kernel))))
local macro_rules | `(tactic| fail) => `(tactic| with_reducible refine i_enm ?_)
local macro_rules | `(tactic| fail) => `(tactic| ((with_reducible apply g_tup); (focus rfl); (focus rfl)))
local macro_rules | `(tactic| fail) => `(tactic| ((with_reducible apply v_dctN); (focus (decide +kernel))))
local macro_rules | `(tactic| fail) => `(tactic| ((with_reducible apply o_len); (focus (exact len_ref (by (first | assumption | exact updS_same | exact upd_at (by assumption) (by assumption)))))))
local macro_rules | `(tactic| fail) => `(tactic| ((with_reducible apply o_tuple); (focus (first | rfl | exact items_ref (by (first | assumption | exact updS_same | exact upd_at (by assumption) (by assumption)))))))
local macro_rules | `(tactic| fail) => `(tactic| ((with_reducible apply o_get2); (focus (first | assumption | exact updS_same | exact upd_at (by assumption) (by assumption))); (focus rfl); (focus (repeat (first | with_reducible exact getD_hit | with_reducible exact getD_nil | ((with_reducible apply getD_miss); (focus (exact str_ne (by decide)))))))))
local macro_rules | `(tactic| fail) => `(tactic| ((with_reducible apply o_get1); (focus (first | assumption | exact updS_same | exact upd_at (by assumption) (by assumption))); (focus rfl); (focus (repeat (first | with_reducible exact getD_hit | with_reducible exact getD_nil | ((with_reducible apply getD_miss); (focus (exact str_ne (by decide)))))))))
local macro_rules | `(tactic| fail) => `(tactic| (refine And.intro ?_ ?_; (focus (first | exact recvL (by (first | assumption | exact updS_same | exact upd_at (by assumption) (by assumption))) rfl | exact recvD (by (first | assumption | exact updS_same | exact upd_at (by assumption) (by assumption))) rfl))))
local macro_rules | `(tactic| fail) => `(tactic| ((with_reducible apply o_subD); (focus (first | assumption | exact updS_same | exact upd_at (by assumption) (by assumption))); (focus rfl); (focus (repeat (first | with_reducible exact lookD_hit | ((with_reducible apply look_miss); (focus (exact str_ne (by decide)))))))))
local macro_rules | `(tactic| fail) => `(tactic| ((with_reducible apply c_ndF); (focus (((try simp only [List.length_cons, List.length_nil, List.length_append, List.length_map]); omega)))))
local macro_rules | `(tactic| fail) => `(tactic| ((with_reducible apply c_ndT); (focus (((try simp only [List.length_cons, List.length_nil, List.length_append, List.length_map]); omega)))))
local macro_rules | `(tactic| fail) => `(tactic| with_reducible refine o_intB ?_)
local macro_rules | `(tactic| fail) => `(tactic| ((with_reducible apply c_decF); (focus (((try simp only [List.length_cons, List.length_nil, List.length_append, List.length_map]); omega)))))
local macro_rules | `(tactic| fail) => `(tactic| ((with_reducible apply c_decT); (focus (((try simp only [List.length_cons, List.length_nil, List.length_append, List.length_map]); omega)))))
local macro_rules | `(tactic| fail) => `(tactic| with_reducible refine c_notf ?_)
local macro_rules | `(tactic| fail) => `(tactic| with_reducible refine c_nott ?_)
local macro_rules | `(tactic| fail) => `(tactic| with_reducible refine o_eqI ?_)
local macro_rules | `(tactic| fail) => `(tactic| ((with_reducible apply o_eqIf); (focus (((try simp only [List.length_cons, List.length_nil, List.length_append, List.length_map]); omega)))))
local macro_rules | `(tactic| fail) => `(tactic| ((with_reducible apply o_eqIt); (focus (((try simp only [List.length_cons, List.length_nil, List.length_append, List.length_map]); omega)))))
local macro_rules | `(tactic| fail) => `(tactic| with_reducible refine o_isB ?_)
local macro_rules | `(tactic| fail) => `(tactic| with_reducible refine o_isN ?_)
local macro_rules | `(tactic| fail) => `(tactic| with_reducible refine o_isR ?_)
local macro_rules | `(tactic| fail) => `(tactic| with_reducible refine o_eqB ?_)
local macro_rules | `(tactic| fail) => `(tactic| with_reducible refine o_neII ?_)
local macro_rules | `(tactic| fail) => `(tactic| with_reducible refine o_neBB ?_)
local macro_rules | `(tactic| fail) => `(tactic| ((with_reducible apply o_eqSf); (focus decide)))
local macro_rules | `(tactic| fail) => `(tactic| with_reducible refine o_eqSt ?_)
local macro_rules | `(tactic| fail) => `(tactic| ((with_reducible apply o_len); focus (first | rfl | (simp only [lenD]; simp only [*]; done))))
local macro_rules | `(tactic| fail) => `(tactic| ((with_reducible apply o_setL); (focus (first | assumption | exact updS_same | exact upd_at (by assumption) (by assumption))); (focus rfl)))
local macro_rules | `(tactic| fail) => `(tactic| ((with_reducible apply o_subT); focus (rfl)))
local macro_rules | `(tactic| fail) => `(tactic| ((with_reducible apply o_subL); (focus (first | assumption | exact updS_same | exact upd_at (by assumption) (by assumption))); (focus rfl)))
local macro_rules | `(tactic| fail) => `(tactic| ((with_reducible apply o_pow); focus (unfold CPow; omega)))
local macro_rules | `(tactic| fail) => `(tactic| ((with_reducible apply o_mod); focus (omega)))
local macro_rules | `(tactic| fail) => `(tactic| ((with_reducible apply o_div); focus (unfold CDiv; omega)))
local macro_rules | `(tactic| fail) => `(tactic| ((with_reducible apply o_mul); focus (unfold CMul; omega)))
local macro_rules | `(tactic| fail) => `(tactic| ((with_reducible apply v_glob); focus (first | assumption | rfl)))
local macro_rules | `(tactic| fail) => `(tactic| ((with_reducible apply t_var); focus (rfl)))
local macro_rules | `(tactic| fail) => `(tactic| ((with_reducible apply v_var); focus (rfl)))
local macro_rules | `(tactic| fail) => `(tactic| with_reducible refine c_false ?_)
local macro_rules | `(tactic| fail) => `(tactic| with_reducible refine c_true ?_)
local macro_rules | `(tactic| fail) => `(tactic| with_reducible refine o_ge ?_)
local macro_rules | `(tactic| fail) => `(tactic| with_reducible refine o_gt ?_)
local macro_rules | `(tactic| fail) => `(tactic| with_reducible refine o_le ?_)
local macro_rules | `(tactic| fail) => `(tactic| with_reducible refine o_lt ?_)
local macro_rules | `(tactic| fail) => `(tactic| with_reducible refine o_sub ?_)
local macro_rules | `(tactic| fail) => `(tactic| with_reducible refine o_add ?_)
local macro_rules | `(tactic| fail) => `(tactic| with_reducible refine o_sub1 ?_)
local macro_rules | `(tactic| fail) => `(tactic| with_reducible refine o_sub0 ?_)
local macro_rules | `(tactic| fail) => `(tactic| with_reducible refine i_rng1 ?_)
local macro_rules | `(tactic| fail) => `(tactic| with_reducible refine i_seq ?_)
local macro_rules | `(tactic| fail) => `(tactic| with_reducible refine g_cons ?_)
local macro_rules | `(tactic| fail) => `(tactic| with_reducible refine g_nil ?_)
local macro_rules | `(tactic| fail) => `(tactic| with_reducible refine g_nm ?_)
local macro_rules | `(tactic| fail) => `(tactic| with_reducible refine ts_one ?_)
local macro_rules | `(tactic| fail) => `(tactic| with_reducible refine ts_nil ?_)
local macro_rules | `(tactic| fail) => `(tactic| with_reducible refine tr_int ?_)
local macro_rules | `(tactic| fail) => `(tactic| with_reducible refine tr_bl ?_)
local macro_rules | `(tactic| fail) => `(tactic| with_reducible refine tb_or ?_)
local macro_rules | `(tactic| fail) => `(tactic| with_reducible refine tb_and ?_)
local macro_rules | `(tactic| fail) => `(tactic| with_reducible refine tb_one ?_)
local macro_rules | `(tactic| fail) => `(tactic| with_reducible refine t_chain ?_)
local macro_rules | `(tactic| fail) => `(tactic| with_reducible refine t_sub ?_)
local macro_rules | `(tactic| fail) => `(tactic| with_reducible refine t_blt ?_)
local macro_rules | `(tactic| fail) => `(tactic| with_reducible refine t_call ?_)
local macro_rules | `(tactic| fail) => `(tactic| with_reducible refine t_cmp ?_)
local macro_rules | `(tactic| fail) => `(tactic| with_reducible refine t_nt ?_)
local macro_rules | `(tactic| fail) => `(tactic| with_reducible refine t_bop ?_)
local macro_rules | `(tactic| fail) => `(tactic| with_reducible refine vb_or ?_)
local macro_rules | `(tactic| fail) => `(tactic| with_reducible refine vb_and ?_)
local macro_rules | `(tactic| fail) => `(tactic| with_reducible refine vb_one ?_)
local macro_rules | `(tactic| fail) => `(tactic| with_reducible refine vo_some ?_)
local macro_rules | `(tactic| fail) => `(tactic| with_reducible refine vo_none ?_)
local macro_rules | `(tactic| fail) => `(tactic| with_reducible refine vs_cons ?_)
local macro_rules | `(tactic| fail) => `(tactic| with_reducible refine vs_nil ?_)
local macro_rules | `(tactic| fail) => `(tactic| with_reducible refine s_try ?_)
local macro_rules | `(tactic| fail) => `(tactic| with_reducible refine v_atr ?_)
local macro_rules | `(tactic| fail) => `(tactic| with_reducible refine v_isx ?_)
local macro_rules | `(tactic| fail) => `(tactic| with_reducible refine v_back ?_)
local macro_rules | `(tactic| fail) => `(tactic| with_reducible refine v_lc ?_)
local macro_rules | `(tactic| fail) => `(tactic| with_reducible refine v_mth ?_)
local macro_rules | `(tactic| fail) => `(tactic| with_reducible refine v_lzip ?_)
local macro_rules | `(tactic| fail) => `(tactic| with_reducible refine v_lrev ?_)
local macro_rules | `(tactic| fail) => `(tactic| with_reducible refine v_blt ?_)
local macro_rules | `(tactic| fail) => `(tactic| with_reducible refine v_call ?_)
local macro_rules | `(tactic| fail) => `(tactic| with_reducible refine v_slice ?_)
local macro_rules | `(tactic| fail) => `(tactic| with_reducible refine v_sub ?_)
local macro_rules | `(tactic| fail) => `(tactic| with_reducible refine v_lst ?_)
local macro_rules | `(tactic| fail) => `(tactic| with_reducible refine v_tup ?_)
local macro_rules | `(tactic| fail) => `(tactic| with_reducible refine v_ite ?_)
local macro_rules | `(tactic| fail) => `(tactic| with_reducible refine v_nt ?_)
local macro_rules | `(tactic| fail) => `(tactic| with_reducible refine v_bop ?_)
local macro_rules | `(tactic| fail) => `(tactic| with_reducible refine v_cmp ?_)
local macro_rules | `(tactic| fail) => `(tactic| with_reducible refine v_bin ?_)
local macro_rules | `(tactic| fail) => `(tactic| with_reducible refine v_bty ?_)
local macro_rules | `(tactic| fail) => `(tactic| with_reducible refine v_str ?_)
local macro_rules | `(tactic| fail) => `(tactic| with_reducible refine v_non ?_)
local macro_rules | `(tactic| fail) => `(tactic| with_reducible refine v_bl ?_)
local macro_rules | `(tactic| fail) => `(tactic| with_reducible refine v_int ?_)
local macro_rules | `(tactic| fail) => `(tactic| with_reducible refine s_cont ?_)
local macro_rules | `(tactic| fail) => `(tactic| with_reducible refine s_brk ?_)
local macro_rules | `(tactic| fail) => `(tactic| with_reducible refine s_nil ?_)
local macro_rules | `(tactic| fail) => `(tactic| with_reducible refine s_pass ?_)
local macro_rules | `(tactic| fail) => `(tactic| with_reducible refine s_retN ?_)
local macro_rules | `(tactic| fail) => `(tactic| with_reducible refine s_ret ?_)
local macro_rules | `(tactic| fail) => `(tactic| with_reducible refine s_ife ?_)
local macro_rules | `(tactic| fail) => `(tactic| with_reducible refine s_set ?_)
local macro_rules | `(tactic| fail) => `(tactic| with_reducible refine s_par ?_)
local macro_rules | `(tactic| fail) => `(tactic| with_reducible refine s_asg ?_)
local macro_rules | `(tactic| fail) => `(tactic| with_reducible refine s_ex ?_)

section
variable {defs : Str → Option DefT} {gl : Str → Option D} {k : Nat} {S : Sto} {Q : D → Sto → Prop} {E : Exc → Sto → Prop}
theorem Flow.ne {a w : Addr} {ks : List Bool} (F : Flow S a) (W : World3 S w ks) : w ≠ a := fun z => by
  obtain ⟨_, _, _, e, _⟩ := F
  obtain ⟨_, _, _, e2⟩ := W
  rw [z, e] at e2
  cases e2
theorem kD_len {ks : List Bool} : (kD ks).length = ks.length := List.length_map _
theorem kS_eq {a b : Bool} : wCmp .Eq (.str (kS a)) (.str (kS b)) S Q = Q (.bl (a == b)) S := by
  unfold wCmp wEq
  have n1 : (Str.ofString "num" == Str.ofString "truth") = false := beq_eq_false_iff_ne.mpr (str_ne (by decide))
  have n2 : (Str.ofString "truth" == Str.ofString "num") = false := beq_eq_false_iff_ne.mpr (str_ne (by decide))
  cases a <;> cases b <;> simp only [kS, toPS, toP, shS, PyData.eqv] <;> simp [shS, n1, n2]
theorem Flow.new {a p : Addr} {o : Ob} (F : Flow S a) (hp : S p = none) : Flow (updS S p o) a := F.off (Off.new (A := []) hp) (by simp)
end
end Z

set_option Elab.async false
set_option linter.all false
set_option maxRecDepth 100000
set_option maxHeartbeats 4000000
namespace Z
open PySem PySem.Spec PyProof.Rows L2
local macro_rules | `(tactic| fail) => `(tactic| refine ⟨Nat.le_of_ble_eq_true rfl, ?_⟩)
local macro_rules | `(tactic| fail) => `(tactic| with_reducible refine ⟨_, rfl, ?_⟩)
local macro_rules | `(tactic| fail) => `(tactic| ((with_reducible apply o_sliceT); (focus rfl)))
local macro_rules | `(tactic| fail) => `(tactic| ((with_reducible apply o_inTf); (focus rfl); (focus rfl); (focus (simp [inF, eqF, str_beq]; done))))
local macro_rules | `(tactic| fail) => `(tactic| ((with_reducible apply o_inTt); (focus rfl); (focus rfl); (focus (simp [inF, eqF, str_beq]; done))))
local macro_rules | `(tactic| fail) => `(tactic| ((with_reducible apply o_subC); (focus ((repeat (first | with_reducible exact lk_hit | ((with_reducible apply lk_miss); (focus (exact str_ne (by decide)))))); done))))
local macro_rules | `(tactic| fail) => `(tactic| ((with_reducible apply o_inC); (focus ((repeat (first | with_reducible exact lk_hit | ((with_reducible apply lk_miss); (focus (exact str_ne (by decide)))))); done))))
local macro_rules | `(tactic| fail) => `(tactic| ((with_reducible apply o_ninC); (focus ((repeat (first | with_reducible exact lk_hit | ((with_reducible apply lk_miss); (focus (exact str_ne (by decide)))))); done))))
local macro_rules | `(tactic| fail) => `(tactic| ((with_reducible apply o_isinF); (focus rfl); (focus (decide +kernel))))
local macro_rules | `(tactic| fail) => `(tactic| ((with_reducible apply o_isinT); (focus rfl); (focus (decide +kernel))))
local macro_rules | `(tactic| fail) => `(tactic| with_reducible refine i_enm ?_)
local macro_rules | `(tactic| fail) => `(tactic| ((with_reducible apply g_tup); (focus rfl); (focus rfl)))
local macro_rules | `(tactic| fail) => `(tactic| ((with_reducible apply v_dctN); (focus (decide +kernel))))
local macro_rules | `(tactic| fail) => `(tactic| ((with_reducible apply o_len); (focus (exact len_ref (by (first | assumption | exact updS_same | exact upd_at (by assumption) (by assumption)))))))
local macro_rules | `(tactic| fail) => `(tactic| ((with_reducible apply o_tuple); (focus (first | rfl | exact items_ref (by (first | assumption | exact updS_same | exact upd_at (by assumption) (by assumption)))))))
local macro_rules | `(tactic| fail) => `(tactic| ((with_reducible apply o_get2); (focus (first | assumption | exact updS_same | exact upd_at (by assumption) (by assumption))); (focus rfl); (focus ((repeat (first | with_reducible exact getD_hit | with_reducible exact getD_nil | ((with_reducible apply getD_miss); (focus (exact str_ne (by decide)))))); done))))
local macro_rules | `(tactic| fail) => `(tactic| ((with_reducible apply o_get1); (focus (first | assumption | exact updS_same | exact upd_at (by assumption) (by assumption))); (focus rfl); (focus ((repeat (first | with_reducible exact getD_hit | with_reducible exact getD_nil | ((with_reducible apply getD_miss); (focus (exact str_ne (by decide)))))); done))))
local macro_rules | `(tactic| fail) => `(tactic| (refine And.intro ?_ ?_; (focus (first | exact recvL (by (first | assumption | exact updS_same | exact upd_at (by assumption) (by assumption))) rfl | exact recvD (by (first | assumption | exact updS_same | exact upd_at (by assumption) (by assumption))) rfl))))
local macro_rules | `(tactic| fail) => `(tactic| ((with_reducible apply o_subD); (focus (first | assumption | exact updS_same | exact upd_at (by assumption) (by assumption))); (focus rfl); (focus ((repeat (first | with_reducible exact lookD_hit | ((with_reducible apply look_miss); (focus (exact str_ne (by decide)))))); done))))
local macro_rules | `(tactic| fail) => `(tactic| ((with_reducible apply c_ndF); (focus (((try simp only [List.length_cons, List.length_nil, List.length_append, List.length_map]); omega)))))
local macro_rules | `(tactic| fail) => `(tactic| ((with_reducible apply c_ndT); (focus (((try simp only [List.length_cons, List.length_nil, List.length_append, List.length_map]); omega)))))
local macro_rules | `(tactic| fail) => `(tactic| with_reducible refine o_intB ?_)
local macro_rules | `(tactic| fail) => `(tactic| ((with_reducible apply c_decF); (focus (((try simp only [List.length_cons, List.length_nil, List.length_append, List.length_map]); omega)))))
local macro_rules | `(tactic| fail) => `(tactic| ((with_reducible apply c_decT); (focus (((try simp only [List.length_cons, List.length_nil, List.length_append, List.length_map]); omega)))))
local macro_rules | `(tactic| fail) => `(tactic| with_reducible refine c_notf ?_)
local macro_rules | `(tactic| fail) => `(tactic| with_reducible refine c_nott ?_)
local macro_rules | `(tactic| fail) => `(tactic| with_reducible refine o_eqI ?_)
local macro_rules | `(tactic| fail) => `(tactic| ((with_reducible apply o_eqIf); (focus (((try simp only [List.length_cons, List.length_nil, List.length_append, List.length_map]); omega)))))
local macro_rules | `(tactic| fail) => `(tactic| ((with_reducible apply o_eqIt); (focus (((try simp only [List.length_cons, List.length_nil, List.length_append, List.length_map]); omega)))))
local macro_rules | `(tactic| fail) => `(tactic| with_reducible refine o_isB ?_)
local macro_rules | `(tactic| fail) => `(tactic| with_reducible refine o_isN ?_)
local macro_rules | `(tactic| fail) => `(tactic| with_reducible refine o_isR ?_)
local macro_rules | `(tactic| fail) => `(tactic| with_reducible refine o_eqB ?_)
local macro_rules | `(tactic| fail) => `(tactic| with_reducible refine o_neII ?_)
local macro_rules | `(tactic| fail) => `(tactic| with_reducible refine o_neBB ?_)
local macro_rules | `(tactic| fail) => `(tactic| ((with_reducible apply o_eqSf); (focus decide)))
local macro_rules | `(tactic| fail) => `(tactic| with_reducible refine o_eqSt ?_)
local macro_rules | `(tactic| fail) => `(tactic| ((with_reducible apply o_len); focus (first | rfl | (simp only [lenD]; simp only [*]; done))))
local macro_rules | `(tactic| fail) => `(tactic| ((with_reducible apply o_setL); (focus (first | assumption | exact updS_same | exact upd_at (by assumption) (by assumption))); (focus rfl)))
local macro_rules | `(tactic| fail) => `(tactic| ((with_reducible apply o_subT); focus (rfl)))
local macro_rules | `(tactic| fail) => `(tactic| ((with_reducible apply o_subL); (focus (first | assumption | exact updS_same | exact upd_at (by assumption) (by assumption))); (focus rfl)))
local macro_rules | `(tactic| fail) => `(tactic| ((with_reducible apply o_pow); focus (unfold CPow; omega)))
local macro_rules | `(tactic| fail) => `(tactic| ((with_reducible apply o_mod); focus (omega)))
local macro_rules | `(tactic| fail) => `(tactic| ((with_reducible apply o_div); focus (unfold CDiv; omega)))
local macro_rules | `(tactic| fail) => `(tactic| ((with_reducible apply o_mul); focus (unfold CMul; omega)))
local macro_rules | `(tactic| fail) => `(tactic| ((with_reducible apply v_glob); focus (first | assumption | rfl)))
local macro_rules | `(tactic| fail) => `(tactic| ((with_reducible apply t_var); focus (rfl)))
local macro_rules | `(tactic| fail) => `(tactic| ((with_reducible apply v_var); focus (rfl)))
local macro_rules | `(tactic| fail) => `(tactic| with_reducible refine c_false ?_)
local macro_rules | `(tactic| fail) => `(tactic| with_reducible refine c_true ?_)
local macro_rules | `(tactic| fail) => `(tactic| with_reducible refine o_ge ?_)
local macro_rules | `(tactic| fail) => `(tactic| with_reducible refine o_gt ?_)
local macro_rules | `(tactic| fail) => `(tactic| with_reducible refine o_le ?_)
local macro_rules | `(tactic| fail) => `(tactic| with_reducible refine o_lt ?_)
local macro_rules | `(tactic| fail) => `(tactic| with_reducible refine o_sub ?_)
local macro_rules | `(tactic| fail) => `(tactic| with_reducible refine o_add ?_)
local macro_rules | `(tactic| fail) => `(tactic| with_reducible refine o_sub1 ?_)
local macro_rules | `(tactic| fail) => `(tactic| with_reducible refine o_sub0 ?_)
local macro_rules | `(tactic| fail) => `(tactic| with_reducible refine i_rng1 ?_)
local macro_rules | `(tactic| fail) => `(tactic| with_reducible refine i_seq ?_)
local macro_rules | `(tactic| fail) => `(tactic| with_reducible refine g_cons ?_)
local macro_rules | `(tactic| fail) => `(tactic| with_reducible refine g_nil ?_)
local macro_rules | `(tactic| fail) => `(tactic| with_reducible refine g_nm ?_)
local macro_rules | `(tactic| fail) => `(tactic| with_reducible refine ts_one ?_)
local macro_rules | `(tactic| fail) => `(tactic| with_reducible refine ts_nil ?_)
local macro_rules | `(tactic| fail) => `(tactic| with_reducible refine tr_int ?_)
local macro_rules | `(tactic| fail) => `(tactic| with_reducible refine tr_bl ?_)
local macro_rules | `(tactic| fail) => `(tactic| with_reducible refine tb_or ?_)
local macro_rules | `(tactic| fail) => `(tactic| with_reducible refine tb_and ?_)
local macro_rules | `(tactic| fail) => `(tactic| with_reducible refine tb_one ?_)
local macro_rules | `(tactic| fail) => `(tactic| with_reducible refine t_chain ?_)
local macro_rules | `(tactic| fail) => `(tactic| with_reducible refine t_sub ?_)
local macro_rules | `(tactic| fail) => `(tactic| with_reducible refine t_blt ?_)
local macro_rules | `(tactic| fail) => `(tactic| with_reducible refine t_call ?_)
local macro_rules | `(tactic| fail) => `(tactic| with_reducible refine t_cmp ?_)
local macro_rules | `(tactic| fail) => `(tactic| with_reducible refine t_nt ?_)
local macro_rules | `(tactic| fail) => `(tactic| with_reducible refine t_bop ?_)
local macro_rules | `(tactic| fail) => `(tactic| with_reducible refine vb_or ?_)
local macro_rules | `(tactic| fail) => `(tactic| with_reducible refine vb_and ?_)
local macro_rules | `(tactic| fail) => `(tactic| with_reducible refine vb_one ?_)
local macro_rules | `(tactic| fail) => `(tactic| with_reducible refine vo_some ?_)
local macro_rules | `(tactic| fail) => `(tactic| with_reducible refine vo_none ?_)
local macro_rules | `(tactic| fail) => `(tactic| with_reducible refine vs_cons ?_)
local macro_rules | `(tactic| fail) => `(tactic| with_reducible refine vs_nil ?_)
local macro_rules | `(tactic| fail) => `(tactic| with_reducible refine s_try ?_)
local macro_rules | `(tactic| fail) => `(tactic| with_reducible refine v_atr ?_)
local macro_rules | `(tactic| fail) => `(tactic| with_reducible refine v_isx ?_)
local macro_rules | `(tactic| fail) => `(tactic| with_reducible refine v_back ?_)
local macro_rules | `(tactic| fail) => `(tactic| with_reducible refine v_lc ?_)
local macro_rules | `(tactic| fail) => `(tactic| with_reducible refine v_mth ?_)
local macro_rules | `(tactic| fail) => `(tactic| with_reducible refine v_lzip ?_)
local macro_rules | `(tactic| fail) => `(tactic| with_reducible refine v_lrev ?_)
local macro_rules | `(tactic| fail) => `(tactic| with_reducible refine v_blt ?_)
local macro_rules | `(tactic| fail) => `(tactic| with_reducible refine v_call ?_)
local macro_rules | `(tactic| fail) => `(tactic| with_reducible refine v_slice ?_)
local macro_rules | `(tactic| fail) => `(tactic| with_reducible refine v_sub ?_)
local macro_rules | `(tactic| fail) => `(tactic| with_reducible refine v_lst ?_)
local macro_rules | `(tactic| fail) => `(tactic| with_reducible refine v_tup ?_)
local macro_rules | `(tactic| fail) => `(tactic| with_reducible refine v_ite ?_)
local macro_rules | `(tactic| fail) => `(tactic| with_reducible refine v_nt ?_)
local macro_rules | `(tactic| fail) => `(tactic| with_reducible refine v_bop ?_)
local macro_rules | `(tactic| fail) => `(tactic| with_reducible refine v_cmp ?_)
local macro_rules | `(tactic| fail) => `(tactic| with_reducible refine v_bin ?_)
local macro_rules | `(tactic| fail) => `(tactic| with_reducible refine v_bty ?_)
local macro_rules | `(tactic| fail) => `(tactic| with_reducible refine v_str ?_)
local macro_rules | `(tactic| fail) => `(tactic| with_reducible refine v_non ?_)
local macro_rules | `(tactic| fail) => `(tactic| with_reducible refine v_bl ?_)
local macro_rules | `(tactic| fail) => `(tactic| with_reducible refine v_int ?_)
local macro_rules | `(tactic| fail) => `(tactic| with_reducible refine s_cont ?_)
local macro_rules | `(tactic| fail) => `(tactic| with_reducible refine s_brk ?_)
local macro_rules | `(tactic| fail) => `(tactic| with_reducible refine s_nil ?_)
local macro_rules | `(tactic| fail) => `(tactic| with_reducible refine s_pass ?_)
local macro_rules | `(tactic| fail) => `(tactic| with_reducible refine s_retN ?_)
local macro_rules | `(tactic| fail) => `(tactic| with_reducible refine s_ret ?_)
local macro_rules | `(tactic| fail) => `(tactic| with_reducible refine s_ife ?_)
local macro_rules | `(tactic| fail) => `(tactic| with_reducible refine s_set ?_)
local macro_rules | `(tactic| fail) => `(tactic| with_reducible refine s_par ?_)
local macro_rules | `(tactic| fail) => `(tactic| with_reducible refine s_asg ?_)
local macro_rules | `(tactic| fail) => `(tactic| with_reducible refine s_ex ?_)

theorem i_enm {C : Cw} {ex : EX} {σ : StD} {S : Sto} {e : T} {R : List D → (Sto → Prop) → Sto → Prop} (h : wpE C ex e σ S fun d S1 => (∃ a ds, d = .ref a ∧ S1 a = some (.lst ds) ∧ R ((List.range ds.length).zipWith (fun i d => pairD (.int (i : Nat)) d) ds) (fun S => S a = some (.lst ds)) S1) ∨ ∃ ds, d = .tup ds ∧ R ((List.range ds.length).zipWith (fun i d => pairD (.int (i : Nat)) d) ds) (fun _ => True) S1) : wpI C ex (.enm e) σ S R := by
  unfold wpI
  have : (fun (d : D) S1 => (∃ a ds, d = .ref a ∧ S1 a = some (.lst ds) ∧ R ((List.range ds.length).zipWith (fun i d => pairD (.int (i : Nat)) d) ds) (fun S => S a = some (.lst ds)) S1) ∨ ∃ ds, d = .tup ds ∧ R ((List.range ds.length).zipWith (fun i d => pairD (.int (i : Nat)) d) ds) (fun _ => True) S1)
      = (fun (d : D) (S1 : Sto) => match d with | .ref a => (match S1 a with | some (.lst ds) => R ((List.range ds.length).zipWith (fun i d => pairD (.int (i : Nat)) d) ds) (fun S => S a = some (.lst ds)) S1 | _ => False) | .tup ds => R ((List.range ds.length).zipWith (fun i d => pairD (.int (i : Nat)) d) ds) (fun _ => True) S1 | _ => False) := by
    funext d S1
    cases d <;> simp
    rename_i a
    cases h1 : S1 a with
    | none => simp
    | some o => cases o <;> simp
  rw [this] at h
  exact h
def enl (i : Nat) : List Bool → List D
  | [] => []
  | b :: r => pairD (.int i) (.str (kS b)) :: enl (i + 1) r
theorem enl_of : ∀ (bs : List Bool) (i : Nat), (List.range' i bs.length).zipWith (fun i d => pairD (.int (i : Nat)) d) (kD bs) = enl i bs
  | [], i => rfl
  | b :: r, i => by
    have := enl_of r (i + 1)
    simp only [List.length_cons, List.range'_succ, kD, List.map_cons, List.zipWith_cons_cons, enl] at this ⊢
    rw [this]
def Kids (ks : List Bool) : List Bool → List Pg → Prop
  | [], [] => True
  | b :: bs, c :: cs => c.ok ks b ∧ Kids ks bs cs
  | _, _ => False
theorem Kids.snoc {ks : List Bool} {b : Bool} {c : Pg} (h : c.ok ks b) : ∀ {bs : List Bool} {cs : List Pg}, Kids ks bs cs → Kids ks (bs ++ [b]) (cs ++ [c])
  | [], [], _ => ⟨h, trivial⟩
  | _ :: _, _ :: _, ⟨h1, h2⟩ => ⟨h1, Kids.snoc h h2⟩
theorem Kids.len {ks : List Bool} : ∀ {bs : List Bool} {cs : List Pg}, Kids ks bs cs → cs.length = bs.length
  | [], [], _ => rfl
  | _ :: _, _ :: _, ⟨_, h2⟩ => by rw [List.length_cons, List.length_cons, h2.len]
section
variable {defs : Str → Option DefT} {gl : Str → Option D} {k : Nat} {S : Sto} {Q : D → Sto → Prop} {E : Exc → Sto → Prop}
end
end Z

set_option Elab.async false
set_option linter.all false
set_option maxRecDepth 100000
set_option maxHeartbeats 4000000
namespace Z
open PySem PySem.Spec PyProof.Rows L2
def mkD : List Str → List D → List (Key × D)
  | k :: ks, d :: ds => (.inr k, d) :: mkD ks ds
  | _, _ => []
theorem mkD_fold : ∀ (ks : List Str) (ds : List D) (acc : List (Key × D)), ks.Nodup → (∀ k ∈ ks, ∀ p ∈ acc, p.1 ≠ .inr k) → (ks.zip ds).foldl (fun acc kv => putD acc (.inr kv.1) kv.2) acc = acc ++ mkD ks ds
  | [], _, acc, _, _ => by simp [mkD]
  | k :: ks, [], acc, _, _ => by simp [mkD]
  | k :: ks, d :: ds, acc, nd, h => by
    have e : putD acc (.inr k) d = acc ++ [(.inr k, d)] := by
      unfold putD
      rw [if_neg]
      intro z
      obtain ⟨p, hp, e⟩ := List.any_eq_true.mp z
      exact h k List.mem_cons_self p hp (of_decide_eq_true e)
    rw [List.zip_cons_cons, List.foldl_cons]
    show List.foldl _ (putD acc (.inr k) d) _ = _
    rw [e, mkD_fold ks ds _ (List.nodup_cons.mp nd).2 fun j hj p hp => ?_]
    · rw [List.append_assoc]; rfl
    · rcases List.mem_append.mp hp with hp | hp
      · exact h j (List.mem_cons_of_mem _ hj) p hp
      · rw [List.mem_singleton.mp hp]
        intro z
        cases z
        exact (List.nodup_cons.mp nd).1 hj
theorem v_dctN {C : Cw} {ex : EX} {σ : StD} {S : Sto} {Q : D → Sto → Prop} {ks : List Str} {vs : List T} (nd : ks.Nodup) (h : wpEs C ex vs σ S fun ds S1 => ds.length = ks.length ∧ ∀ p, S1 p = none → Q (.ref p) (updS S1 p (.dct (mkD ks ds)))) : wpE C ex (.dct ks vs) σ S Q := by
  refine v_dct ?_
  have : (fun (ds : List D) S1 => ds.length = ks.length ∧ ∀ p, S1 p = none → Q (.ref p) (updS S1 p (.dct (mkD ks ds)))) = (fun ds S1 => ds.length = ks.length ∧ ∀ p, S1 p = none → Q (.ref p) (updS S1 p (.dct ((ks.zip ds).foldl (fun acc kv => putD acc (.inr kv.1) kv.2) [])))) := by
    funext ds S1
    rw [mkD_fold ks ds [] nd (fun _ _ p hp => nomatch hp)]
    rfl
  rw [this] at h
  exact h
local macro_rules | `(tactic| fail) => `(tactic| refine ⟨Nat.le_of_ble_eq_true rfl, ?_⟩)
local macro_rules | `(tactic| fail) => `(tactic| with_reducible refine ⟨_, rfl, ?_⟩)
local macro_rules | `(tactic| fail) => `(tactic| ((with_reducible apply o_sliceT); (focus rfl)))
local macro_rules | `(tactic| fail) => `(tactic| ((with_reducible apply o_inTf); (focus rfl); (focus rfl); (focus (simp [inF, eqF, str_beq]; done))))
local macro_rules | `(tactic| fail) => `(tactic| ((with_reducible apply o_inTt); (focus rfl); (focus rfl); (focus (simp [inF, eqF, str_beq]; done))))
local macro_rules | `(tactic| fail) => `(tactic| ((with_reducible apply o_subC); (focus (repeat (first | with_reducible exact lk_hit | ((with_reducible apply lk_miss); (focus (exact str_ne (by decide)))))))))
local macro_rules | `(tactic| fail) => `(tactic| ((with_reducible apply o_inC); (focus (repeat (first | with_reducible exact lk_hit | ((with_reducible apply lk_miss); (focus (exact str_ne (by decide)))))))))
local macro_rules | `(tactic| fail) => `(tactic| ((with_reducible apply o_ninC); (focus (repeat (first | with_reducible exact lk_hit | ((with_reducible apply lk_miss); (focus (exact str_ne (by decide)))))))))
local macro_rules | `(tactic| fail) => `(tactic| ((with_reducible apply o_isinF); (focus rfl); (focus (decide +kernel))))
local macro_rules | `(tactic| fail) => `(tactic| ((with_reducible apply o_isinT); (focus rfl); (focus (decide +kernel))))
local macro_rules | `(tactic| fail) => `(tactic| with_reducible refine i_enm ?_)
local macro_rules | `(tactic| fail) => `(tactic| ((with_reducible apply g_tup); (focus rfl); (focus rfl)))
local macro_rules | `(tactic| fail) => `(tactic| ((with_reducible apply v_dctN); (focus (decide +kernel))))
local macro_rules | `(tactic| fail) => `(tactic| ((with_reducible apply o_len); (focus (exact len_ref (by (first | assumption | exact updS_same | exact upd_at (by assumption) (by assumption)))))))
local macro_rules | `(tactic| fail) => `(tactic| ((with_reducible apply o_tuple); (focus (first | rfl | exact items_ref (by (first | assumption | exact updS_same | exact upd_at (by assumption) (by assumption)))))))
local macro_rules | `(tactic| fail) => `(tactic| ((with_reducible apply o_get2); (focus (first | assumption | exact updS_same | exact upd_at (by assumption) (by assumption))); (focus rfl); (focus (repeat (first | with_reducible exact getD_hit | with_reducible exact getD_nil | ((with_reducible apply getD_miss); (focus (exact str_ne (by decide)))))))))
local macro_rules | `(tactic| fail) => `(tactic| ((with_reducible apply o_get1); (focus (first | assumption | exact updS_same | exact upd_at (by assumption) (by assumption))); (focus rfl); (focus (repeat (first | with_reducible exact getD_hit | with_reducible exact getD_nil | ((with_reducible apply getD_miss); (focus (exact str_ne (by decide)))))))))
local macro_rules | `(tactic| fail) => `(tactic| (refine And.intro ?_ ?_; (focus (first | exact recvL (by (first | assumption | exact updS_same | exact upd_at (by assumption) (by assumption))) rfl | exact recvD (by (first | assumption | exact updS_same | exact upd_at (by assumption) (by assumption))) rfl))))
local macro_rules | `(tactic| fail) => `(tactic| ((with_reducible apply o_subD); (focus (first | assumption | exact updS_same | exact upd_at (by assumption) (by assumption))); (focus rfl); (focus (repeat (first | with_reducible exact lookD_hit | ((with_reducible apply look_miss); (focus (exact str_ne (by decide)))))))))
local macro_rules | `(tactic| fail) => `(tactic| ((with_reducible apply c_ndF); (focus (((try simp only [List.length_cons, List.length_nil, List.length_append, List.length_map]); omega)))))
local macro_rules | `(tactic| fail) => `(tactic| ((with_reducible apply c_ndT); (focus (((try simp only [List.length_cons, List.length_nil, List.length_append, List.length_map]); omega)))))
local macro_rules | `(tactic| fail) => `(tactic| with_reducible refine o_intB ?_)
local macro_rules | `(tactic| fail) => `(tactic| ((with_reducible apply c_decF); (focus (((try simp only [List.length_cons, List.length_nil, List.length_append, List.length_map]); omega)))))
local macro_rules | `(tactic| fail) => `(tactic| ((with_reducible apply c_decT); (focus (((try simp only [List.length_cons, List.length_nil, List.length_append, List.length_map]); omega)))))
local macro_rules | `(tactic| fail) => `(tactic| with_reducible refine c_notf ?_)
local macro_rules | `(tactic| fail) => `(tactic| with_reducible refine c_nott ?_)
local macro_rules | `(tactic| fail) => `(tactic| with_reducible refine o_eqI ?_)
local macro_rules | `(tactic| fail) => `(tactic| ((with_reducible apply o_eqIf); (focus (((try simp only [List.length_cons, List.length_nil, List.length_append, List.length_map]); omega)))))
local macro_rules | `(tactic| fail) => `(tactic| ((with_reducible apply o_eqIt); (focus (((try simp only [List.length_cons, List.length_nil, List.length_append, List.length_map]); omega)))))
local macro_rules | `(tactic| fail) => `(tactic| with_reducible refine o_isB ?_)
local macro_rules | `(tactic| fail) => `(tactic| with_reducible refine o_isN ?_)
local macro_rules | `(tactic| fail) => `(tactic| with_reducible refine o_isR ?_)
local macro_rules | `(tactic| fail) => `(tactic| with_reducible refine o_eqB ?_)
local macro_rules | `(tactic| fail) => `(tactic| with_reducible refine o_neII ?_)
local macro_rules | `(tactic| fail) => `(tactic| with_reducible refine o_neBB ?_)
local macro_rules | `(tactic| fail) => `(tactic| ((with_reducible apply o_eqSf); (focus decide)))
local macro_rules | `(tactic| fail) => `(tactic| with_reducible refine o_eqSt ?_)
local macro_rules | `(tactic| fail) => `(tactic| ((with_reducible apply o_len); focus (first | rfl | (simp only [lenD]; simp only [*]; done))))
local macro_rules | `(tactic| fail) => `(tactic| ((with_reducible apply o_setL); (focus (first | assumption | exact updS_same | exact upd_at (by assumption) (by assumption))); (focus rfl)))
local macro_rules | `(tactic| fail) => `(tactic| ((with_reducible apply o_subT); focus (rfl)))
local macro_rules | `(tactic| fail) => `(tactic| ((with_reducible apply o_subL); (focus (first | assumption | exact updS_same | exact upd_at (by assumption) (by assumption))); (focus rfl)))
local macro_rules | `(tactic| fail) => `(tactic| ((with_reducible apply o_pow); focus (unfold CPow; omega)))
local macro_rules | `(tactic| fail) => `(tactic| ((with_reducible apply o_mod); focus (omega)))
local macro_rules | `(tactic| fail) => `(tactic| ((with_reducible apply o_div); focus (unfold CDiv; omega)))
local macro_rules | `(tactic| fail) => `(tactic| ((with_reducible apply o_mul); focus (unfold CMul; omega)))
local macro_rules | `(tactic| fail) => `(tactic| ((with_reducible apply v_glob); focus (first | assumption | rfl)))
local macro_rules | `(tactic| fail) => `(tactic| ((with_reducible apply t_var); focus (rfl)))
local macro_rules | `(tactic| fail) => `(tactic| ((with_reducible apply v_var); focus (rfl)))
local macro_rules | `(tactic| fail) => `(tactic| with_reducible refine c_false ?_)
local macro_rules | `(tactic| fail) => `(tactic| with_reducible refine c_true ?_)
local macro_rules | `(tactic| fail) => `(tactic| with_reducible refine o_ge ?_)
local macro_rules | `(tactic| fail) => `(tactic| with_reducible refine o_gt ?_)
local macro_rules | `(tactic| fail) => `(tactic| with_reducible refine o_le ?_)
local macro_rules | `(tactic| fail) => `(tactic| with_reducible refine o_lt ?_)
local macro_rules | `(tactic| fail) => `(tactic| with_reducible refine o_sub ?_)
local macro_rules | `(tactic| fail) => `(tactic| with_reducible refine o_add ?_)
local macro_rules | `(tactic| fail) => `(tactic| with_reducible refine i_rng1 ?_)
local macro_rules | `(tactic| fail) => `(tactic| with_reducible refine i_seq ?_)
local macro_rules | `(tactic| fail) => `(tactic| with_reducible refine g_cons ?_)
local macro_rules | `(tactic| fail) => `(tactic| with_reducible refine g_nil ?_)
local macro_rules | `(tactic| fail) => `(tactic| with_reducible refine g_nm ?_)
local macro_rules | `(tactic| fail) => `(tactic| with_reducible refine ts_one ?_)
local macro_rules | `(tactic| fail) => `(tactic| with_reducible refine ts_nil ?_)
local macro_rules | `(tactic| fail) => `(tactic| with_reducible refine tr_int ?_)
local macro_rules | `(tactic| fail) => `(tactic| with_reducible refine tr_bl ?_)
local macro_rules | `(tactic| fail) => `(tactic| with_reducible refine tb_or ?_)
local macro_rules | `(tactic| fail) => `(tactic| with_reducible refine tb_and ?_)
local macro_rules | `(tactic| fail) => `(tactic| with_reducible refine tb_one ?_)
local macro_rules | `(tactic| fail) => `(tactic| with_reducible refine t_chain ?_)
local macro_rules | `(tactic| fail) => `(tactic| with_reducible refine t_sub ?_)
local macro_rules | `(tactic| fail) => `(tactic| with_reducible refine t_blt ?_)
local macro_rules | `(tactic| fail) => `(tactic| with_reducible refine t_call ?_)
local macro_rules | `(tactic| fail) => `(tactic| with_reducible refine t_cmp ?_)
local macro_rules | `(tactic| fail) => `(tactic| with_reducible refine t_nt ?_)
local macro_rules | `(tactic| fail) => `(tactic| with_reducible refine t_bop ?_)
local macro_rules | `(tactic| fail) => `(tactic| with_reducible refine vb_or ?_)
local macro_rules | `(tactic| fail) => `(tactic| with_reducible refine vb_and ?_)
local macro_rules | `(tactic| fail) => `(tactic| with_reducible refine vb_one ?_)
local macro_rules | `(tactic| fail) => `(tactic| with_reducible refine vo_some ?_)
local macro_rules | `(tactic| fail) => `(tactic| with_reducible refine vo_none ?_)
local macro_rules | `(tactic| fail) => `(tactic| with_reducible refine vs_cons ?_)
local macro_rules | `(tactic| fail) => `(tactic| with_reducible refine vs_nil ?_)
local macro_rules | `(tactic| fail) => `(tactic| with_reducible refine v_lc ?_)
local macro_rules | `(tactic| fail) => `(tactic| with_reducible refine v_mth ?_)
local macro_rules | `(tactic| fail) => `(tactic| with_reducible refine v_lzip ?_)
local macro_rules | `(tactic| fail) => `(tactic| with_reducible refine v_lrev ?_)
local macro_rules | `(tactic| fail) => `(tactic| with_reducible refine v_blt ?_)
local macro_rules | `(tactic| fail) => `(tactic| with_reducible refine v_call ?_)
local macro_rules | `(tactic| fail) => `(tactic| with_reducible refine v_slice ?_)
local macro_rules | `(tactic| fail) => `(tactic| with_reducible refine v_sub ?_)
local macro_rules | `(tactic| fail) => `(tactic| with_reducible refine v_lst ?_)
local macro_rules | `(tactic| fail) => `(tactic| with_reducible refine v_tup ?_)
local macro_rules | `(tactic| fail) => `(tactic| with_reducible refine v_ite ?_)
local macro_rules | `(tactic| fail) => `(tactic| with_reducible refine v_nt ?_)
local macro_rules | `(tactic| fail) => `(tactic| with_reducible refine v_bop ?_)
local macro_rules | `(tactic| fail) => `(tactic| with_reducible refine v_cmp ?_)
local macro_rules | `(tactic| fail) => `(tactic| with_reducible refine v_bin ?_)
local macro_rules | `(tactic| fail) => `(tactic| with_reducible refine v_bty ?_)
local macro_rules | `(tactic| fail) => `(tactic| with_reducible refine v_str ?_)
local macro_rules | `(tactic| fail) => `(tactic| with_reducible refine v_non ?_)
local macro_rules | `(tactic| fail) => `(tactic| with_reducible refine v_bl ?_)
local macro_rules | `(tactic| fail) => `(tactic| with_reducible refine v_int ?_)
local macro_rules | `(tactic| fail) => `(tactic| with_reducible refine s_cont ?_)
local macro_rules | `(tactic| fail) => `(tactic| with_reducible refine s_brk ?_)
local macro_rules | `(tactic| fail) => `(tactic| with_reducible refine s_nil ?_)
local macro_rules | `(tactic| fail) => `(tactic| with_reducible refine s_pass ?_)
local macro_rules | `(tactic| fail) => `(tactic| with_reducible refine s_retN ?_)
local macro_rules | `(tactic| fail) => `(tactic| with_reducible refine s_ret ?_)
local macro_rules | `(tactic| fail) => `(tactic| with_reducible refine s_ife ?_)
local macro_rules | `(tactic| fail) => `(tactic| with_reducible refine s_set ?_)
local macro_rules | `(tactic| fail) => `(tactic| with_reducible refine s_par ?_)
local macro_rules | `(tactic| fail) => `(tactic| with_reducible refine s_asg ?_)
local macro_rules | `(tactic| fail) => `(tactic| with_reducible refine s_ex ?_)

section
variable {defs : Str → Option DefT} {gl : Str → Option D} {k : Nat} {S : Sto} {Q : D → Sto → Prop} {E : Exc → Sto → Prop}
theorem World3.new {a p : Addr} {o : Ob} {ks : List Bool} (F : World3 S a ks) (hp : S p = none) : World3 (updS S p o) a ks := F.off (Off.new (A := []) hp) (by simp)
structure St3 (a w : Addr) (ks : List Bool) (S S' : Sto) : Prop where
  F : Flow S' a
  W : World3 S' w ks
  o : Off [a, w] S S'
theorem St3.new {a w p : Addr} {ks : List Bool} {S S' : Sto} (I : St3 a w ks S S') (hp : S' p = none) (ob : Ob) : St3 a w ks S (updS S' p ob) := ⟨I.F.new hp, I.W.new hp, I.o.trans (Off.new hp)⟩
end
end Z

set_option Elab.async false
set_option linter.all false
set_option maxRecDepth 100000
set_option maxHeartbeats 400000
namespace Z
open PySem PySem.Spec PyProof.Rows L2
local macro_rules | `(tactic| fail) => `(tactic| refine ⟨Nat.le_of_ble_eq_true rfl, ?_⟩)
local macro_rules | `(tactic| fail) => `(tactic| with_reducible refine ⟨_, rfl, ?_⟩)
local macro_rules | `(tactic| fail) => `(tactic| ((with_reducible apply o_sliceT); (focus rfl)))
local macro_rules | `(tactic| fail) => `(tactic| ((with_reducible apply o_inTf); (focus rfl); (focus rfl); (focus (simp [inF, eqF, str_beq]; done))))
local macro_rules | `(tactic| fail) => `(tactic| ((with_reducible apply o_inTt); (focus rfl); (focus rfl); (focus (simp [inF, eqF, str_beq]; done))))
local macro_rules | `(tactic| fail) => `(tactic| ((with_reducible apply o_subC); (focus (repeat (first | with_reducible exact lk_hit | ((with_reducible apply lk_miss); (focus (exact str_ne (by decide)))))))))
local macro_rules | `(tactic| fail) => `(tactic| ((with_reducible apply o_inC); (focus (repeat (first | with_reducible exact lk_hit | ((with_reducible apply lk_miss); (focus (exact str_ne (by decide)))))))))
local macro_rules | `(tactic| fail) => `(tactic| ((with_reducible apply o_ninC); (focus (repeat (first | with_reducible exact lk_hit | ((with_reducible apply lk_miss); (focus (exact str_ne (by decide)))))))))
local macro_rules | `(tactic| fail) => `(tactic| ((with_reducible apply o_isinF); (focus rfl); (focus (decide +kernel))))
local macro_rules | `(tactic| fail) => `(tactic| ((with_reducible apply o_isinT); (focus rfl); (focus (decide +kernel))))
local macro_rules | `(tactic| fail) => `(tactic| with_reducible refine i_enm ?_)
local macro_rules | `(tactic| fail) => `(tactic| ((with_reducible apply g_tup); (focus rfl); (focus rfl)))
local macro_rules | `(tactic| fail) => `(tactic| ((with_reducible apply v_dctN); (focus (decide +kernel))))
local macro_rules | `(tactic| fail) => `(tactic| ((with_reducible apply o_len); (focus (exact len_ref (by (first | assumption | exact updS_same | exact upd_at (by assumption) (by assumption)))))))
local macro_rules | `(tactic| fail) => `(tactic| ((with_reducible apply o_tuple); (focus (first | rfl | exact items_ref (by (first | assumption | exact updS_same | exact upd_at (by assumption) (by assumption)))))))
local macro_rules | `(tactic| fail) => `(tactic| ((with_reducible apply o_get2); (focus (first | assumption | exact updS_same | exact upd_at (by assumption) (by assumption))); (focus rfl); (focus (repeat (first | with_reducible exact getD_hit | with_reducible exact getD_nil | ((with_reducible apply getD_miss); (focus (exact str_ne (by decide)))))))))
local macro_rules | `(tactic| fail) => `(tactic| ((with_reducible apply o_get1); (focus (first | assumption | exact updS_same | exact upd_at (by assumption) (by assumption))); (focus rfl); (focus (repeat (first | with_reducible exact getD_hit | with_reducible exact getD_nil | ((with_reducible apply getD_miss); (focus (exact str_ne (by decide)))))))))
local macro_rules | `(tactic| fail) => `(tactic| (refine And.intro ?_ ?_; (focus (first | exact recvL (by (first | assumption | exact updS_same | exact upd_at (by assumption) (by assumption))) rfl | exact recvD (by (first | assumption | exact updS_same | exact upd_at (by assumption) (by assumption))) rfl))))
local macro_rules | `(tactic| fail) => `(tactic| ((with_reducible apply o_subD); (focus (first | assumption | exact updS_same | exact upd_at (by assumption) (by assumption))); (focus rfl); (focus (repeat (first | with_reducible exact lookD_hit | ((with_reducible apply look_miss); (focus (exact str_ne (by decide)))))))))
local macro_rules | `(tactic| fail) => `(tactic| ((with_reducible apply c_ndF); (focus (((try simp only [List.length_cons, List.length_nil, List.length_append, List.length_map]); omega)))))
local macro_rules | `(tactic| fail) => `(tactic| ((with_reducible apply c_ndT); (focus (((try simp only [List.length_cons, List.length_nil, List.length_append, List.length_map]); omega)))))
local macro_rules | `(tactic| fail) => `(tactic| with_reducible refine o_intB ?_)
local macro_rules | `(tactic| fail) => `(tactic| ((with_reducible apply c_decF); (focus (((try simp only [List.length_cons, List.length_nil, List.length_append, List.length_map]); omega)))))
local macro_rules | `(tactic| fail) => `(tactic| ((with_reducible apply c_decT); (focus (((try simp only [List.length_cons, List.length_nil, List.length_append, List.length_map]); omega)))))
local macro_rules | `(tactic| fail) => `(tactic| with_reducible refine c_notf ?_)
local macro_rules | `(tactic| fail) => `(tactic| with_reducible refine c_nott ?_)
local macro_rules | `(tactic| fail) => `(tactic| with_reducible refine o_eqI ?_)
local macro_rules | `(tactic| fail) => `(tactic| ((with_reducible apply o_eqIf); (focus (((try simp only [List.length_cons, List.length_nil, List.length_append, List.length_map]); omega)))))
local macro_rules | `(tactic| fail) => `(tactic| ((with_reducible apply o_eqIt); (focus (((try simp only [List.length_cons, List.length_nil, List.length_append, List.length_map]); omega)))))
local macro_rules | `(tactic| fail) => `(tactic| with_reducible refine o_isB ?_)
local macro_rules | `(tactic| fail) => `(tactic| with_reducible refine o_isN ?_)
local macro_rules | `(tactic| fail) => `(tactic| with_reducible refine o_isR ?_)
local macro_rules | `(tactic| fail) => `(tactic| with_reducible refine o_eqB ?_)
local macro_rules | `(tactic| fail) => `(tactic| with_reducible refine o_neII ?_)
local macro_rules | `(tactic| fail) => `(tactic| with_reducible refine o_neBB ?_)
local macro_rules | `(tactic| fail) => `(tactic| ((with_reducible apply o_eqSf); (focus decide)))
local macro_rules | `(tactic| fail) => `(tactic| with_reducible refine o_eqSt ?_)
local macro_rules | `(tactic| fail) => `(tactic| ((with_reducible apply o_len); focus (first | rfl | (simp only [lenD]; simp only [*]; done))))
local macro_rules | `(tactic| fail) => `(tactic| ((with_reducible apply o_setL); (focus (first | assumption | exact updS_same | exact upd_at (by assumption) (by assumption))); (focus rfl)))
local macro_rules | `(tactic| fail) => `(tactic| ((with_reducible apply o_subT); focus (rfl)))
local macro_rules | `(tactic| fail) => `(tactic| ((with_reducible apply o_subL); (focus (first | assumption | exact updS_same | exact upd_at (by assumption) (by assumption))); (focus rfl)))
local macro_rules | `(tactic| fail) => `(tactic| ((with_reducible apply o_pow); focus (unfold CPow; omega)))
local macro_rules | `(tactic| fail) => `(tactic| ((with_reducible apply o_mod); focus (omega)))
local macro_rules | `(tactic| fail) => `(tactic| ((with_reducible apply o_div); focus (unfold CDiv; omega)))
local macro_rules | `(tactic| fail) => `(tactic| ((with_reducible apply o_mul); focus (unfold CMul; omega)))
local macro_rules | `(tactic| fail) => `(tactic| ((with_reducible apply v_glob); focus (first | assumption | rfl)))
local macro_rules | `(tactic| fail) => `(tactic| ((with_reducible apply t_var); focus (rfl)))
local macro_rules | `(tactic| fail) => `(tactic| ((with_reducible apply v_var); focus (rfl)))
local macro_rules | `(tactic| fail) => `(tactic| with_reducible refine c_false ?_)
local macro_rules | `(tactic| fail) => `(tactic| with_reducible refine c_true ?_)
local macro_rules | `(tactic| fail) => `(tactic| with_reducible refine o_ge ?_)
local macro_rules | `(tactic| fail) => `(tactic| with_reducible refine o_gt ?_)
local macro_rules | `(tactic| fail) => `(tactic| with_reducible refine o_le ?_)
local macro_rules | `(tactic| fail) => `(tactic| with_reducible refine o_lt ?_)
local macro_rules | `(tactic| fail) => `(tactic| with_reducible refine o_sub ?_)
local macro_rules | `(tactic| fail) => `(tactic| with_reducible refine o_add ?_)
local macro_rules | `(tactic| fail) => `(tactic| with_reducible refine i_rng1 ?_)
local macro_rules | `(tactic| fail) => `(tactic| with_reducible refine i_seq ?_)
local macro_rules | `(tactic| fail) => `(tactic| with_reducible refine g_cons ?_)
local macro_rules | `(tactic| fail) => `(tactic| with_reducible refine g_nil ?_)
local macro_rules | `(tactic| fail) => `(tactic| with_reducible refine g_nm ?_)
local macro_rules | `(tactic| fail) => `(tactic| with_reducible refine ts_one ?_)
local macro_rules | `(tactic| fail) => `(tactic| with_reducible refine ts_nil ?_)
local macro_rules | `(tactic| fail) => `(tactic| with_reducible refine tr_int ?_)
local macro_rules | `(tactic| fail) => `(tactic| with_reducible refine tr_bl ?_)
local macro_rules | `(tactic| fail) => `(tactic| with_reducible refine tb_or ?_)
local macro_rules | `(tactic| fail) => `(tactic| with_reducible refine tb_and ?_)
local macro_rules | `(tactic| fail) => `(tactic| with_reducible refine tb_one ?_)
local macro_rules | `(tactic| fail) => `(tactic| with_reducible refine t_chain ?_)
local macro_rules | `(tactic| fail) => `(tactic| with_reducible refine t_sub ?_)
local macro_rules | `(tactic| fail) => `(tactic| with_reducible refine t_blt ?_)
local macro_rules | `(tactic| fail) => `(tactic| with_reducible refine t_call ?_)
local macro_rules | `(tactic| fail) => `(tactic| with_reducible refine t_cmp ?_)
local macro_rules | `(tactic| fail) => `(tactic| with_reducible refine t_nt ?_)
local macro_rules | `(tactic| fail) => `(tactic| with_reducible refine t_bop ?_)
local macro_rules | `(tactic| fail) => `(tactic| with_reducible refine vb_or ?_)
local macro_rules | `(tactic| fail) => `(tactic| with_reducible refine vb_and ?_)
local macro_rules | `(tactic| fail) => `(tactic| with_reducible refine vb_one ?_)
local macro_rules | `(tactic| fail) => `(tactic| with_reducible refine vo_some ?_)
local macro_rules | `(tactic| fail) => `(tactic| with_reducible refine vo_none ?_)
local macro_rules | `(tactic| fail) => `(tactic| with_reducible refine vs_cons ?_)
local macro_rules | `(tactic| fail) => `(tactic| with_reducible refine vs_nil ?_)
local macro_rules | `(tactic| fail) => `(tactic| with_reducible refine v_lc ?_)
local macro_rules | `(tactic| fail) => `(tactic| with_reducible refine v_mth ?_)
local macro_rules | `(tactic| fail) => `(tactic| with_reducible refine v_lzip ?_)
local macro_rules | `(tactic| fail) => `(tactic| with_reducible refine v_lrev ?_)
local macro_rules | `(tactic| fail) => `(tactic| with_reducible refine v_blt ?_)
local macro_rules | `(tactic| fail) => `(tactic| with_reducible refine v_call ?_)
local macro_rules | `(tactic| fail) => `(tactic| with_reducible refine v_slice ?_)
local macro_rules | `(tactic| fail) => `(tactic| with_reducible refine v_sub ?_)
local macro_rules | `(tactic| fail) => `(tactic| with_reducible refine v_lst ?_)
local macro_rules | `(tactic| fail) => `(tactic| with_reducible refine v_tup ?_)
local macro_rules | `(tactic| fail) => `(tactic| with_reducible refine v_ite ?_)
local macro_rules | `(tactic| fail) => `(tactic| with_reducible refine v_nt ?_)
local macro_rules | `(tactic| fail) => `(tactic| with_reducible refine v_bop ?_)
local macro_rules | `(tactic| fail) => `(tactic| with_reducible refine v_cmp ?_)
local macro_rules | `(tactic| fail) => `(tactic| with_reducible refine v_bin ?_)
local macro_rules | `(tactic| fail) => `(tactic| with_reducible refine v_bty ?_)
local macro_rules | `(tactic| fail) => `(tactic| with_reducible refine v_str ?_)
local macro_rules | `(tactic| fail) => `(tactic| with_reducible refine v_non ?_)
local macro_rules | `(tactic| fail) => `(tactic| with_reducible refine v_bl ?_)
local macro_rules | `(tactic| fail) => `(tactic| with_reducible refine v_int ?_)
local macro_rules | `(tactic| fail) => `(tactic| with_reducible refine s_cont ?_)
local macro_rules | `(tactic| fail) => `(tactic| with_reducible refine s_brk ?_)
local macro_rules | `(tactic| fail) => `(tactic| with_reducible refine s_nil ?_)
local macro_rules | `(tactic| fail) => `(tactic| with_reducible refine s_pass ?_)
local macro_rules | `(tactic| fail) => `(tactic| with_reducible refine s_retN ?_)
local macro_rules | `(tactic| fail) => `(tactic| with_reducible refine s_ret ?_)
local macro_rules | `(tactic| fail) => `(tactic| with_reducible refine s_ife ?_)
local macro_rules | `(tactic| fail) => `(tactic| with_reducible refine s_set ?_)
local macro_rules | `(tactic| fail) => `(tactic| with_reducible refine s_par ?_)
local macro_rules | `(tactic| fail) => `(tactic| with_reducible refine s_asg ?_)
local macro_rules | `(tactic| fail) => `(tactic| with_reducible refine s_ex ?_)

section
variable {defs : Str → Option DefT} {gl : Str → Option D} {k : Nat} {S : Sto} {Q : D → Sto → Prop} {E : Exc → Sto → Prop}
end
end Z

set_option Elab.async false
set_option linter.all false
set_option maxRecDepth 100000
set_option maxHeartbeats 400000
namespace Z
open PySem PySem.Spec PyProof.Rows L2
local macro_rules | `(tactic| fail) => `(tactic| ((with_reducible refine And.intro ?_ ?_); (focus (exact Nat.le_of_ble_eq_true rfl))))
local macro_rules | `(tactic| fail) => `(tactic| with_reducible refine ⟨_, rfl, ?_⟩)
local macro_rules | `(tactic| fail) => `(tactic| ((with_reducible apply o_sliceT); (focus rfl)))
local macro_rules | `(tactic| fail) => `(tactic| ((with_reducible apply o_inTf); (focus rfl); (focus rfl); (focus (simp [inF, eqF, str_beq]; done))))
local macro_rules | `(tactic| fail) => `(tactic| ((with_reducible apply o_inTt); (focus rfl); (focus rfl); (focus (simp [inF, eqF, str_beq]; done))))
local macro_rules | `(tactic| fail) => `(tactic| ((with_reducible apply o_subC); (focus ((repeat (first | with_reducible exact lk_hit | ((with_reducible apply lk_miss); (focus (exact str_ne (by decide)))))); done))))
local macro_rules | `(tactic| fail) => `(tactic| ((with_reducible apply o_inC); (focus ((repeat (first | with_reducible exact lk_hit | ((with_reducible apply lk_miss); (focus (exact str_ne (by decide)))))); done))))
local macro_rules | `(tactic| fail) => `(tactic| ((with_reducible apply o_ninC); (focus ((repeat (first | with_reducible exact lk_hit | ((with_reducible apply lk_miss); (focus (exact str_ne (by decide)))))); done))))
local macro_rules | `(tactic| fail) => `(tactic| ((with_reducible apply o_isinF); (focus rfl); (focus (decide +kernel))))
local macro_rules | `(tactic| fail) => `(tactic| ((with_reducible apply o_isinT); (focus rfl); (focus (decide +kernel))))
local macro_rules | `(tactic| fail) => `(tactic| with_reducible refine i_enm ?_)
local macro_rules | `(tactic| fail) => `(tactic| ((with_reducible apply g_tup); (focus rfl); (focus rfl)))
local macro_rules | `(tactic| fail) => `(tactic| ((with_reducible apply v_dctN); (focus (decide +kernel))))
local macro_rules | `(tactic| fail) => `(tactic| ((with_reducible apply o_len); (focus (exact len_ref (by (first | assumption | exact updS_same | exact upd_at (by assumption) (by assumption)))))))
local macro_rules | `(tactic| fail) => `(tactic| ((with_reducible apply o_tuple); (focus (first | rfl | exact items_ref (by (first | assumption | exact updS_same | exact upd_at (by assumption) (by assumption)))))))
local macro_rules | `(tactic| fail) => `(tactic| ((with_reducible apply o_get2); (focus (first | assumption | exact updS_same | exact upd_at (by assumption) (by assumption))); (focus rfl); (focus ((repeat (first | with_reducible exact getD_hit | with_reducible exact getD_nil | ((with_reducible apply getD_miss); (focus (exact str_ne (by decide)))))); done))))
local macro_rules | `(tactic| fail) => `(tactic| ((with_reducible apply o_get1); (focus (first | assumption | exact updS_same | exact upd_at (by assumption) (by assumption))); (focus rfl); (focus ((repeat (first | with_reducible exact getD_hit | with_reducible exact getD_nil | ((with_reducible apply getD_miss); (focus (exact str_ne (by decide)))))); done))))
local macro_rules | `(tactic| fail) => `(tactic| ((with_reducible refine And.intro ?_ ?_); (focus (first | exact recvL (by (first | assumption | exact updS_same | exact upd_at (by assumption) (by assumption))) rfl | exact recvD (by (first | assumption | exact updS_same | exact upd_at (by assumption) (by assumption))) rfl))))
local macro_rules | `(tactic| fail) => `(tactic| ((with_reducible apply o_subD); (focus (first | assumption | exact updS_same | exact upd_at (by assumption) (by assumption))); (focus rfl); (focus ((repeat (first | with_reducible exact lookD_hit | ((with_reducible apply look_miss); (focus (exact str_ne (by decide)))))); done))))
local macro_rules | `(tactic| fail) => `(tactic| ((with_reducible apply c_ndF); (focus (((try simp only [List.length_cons, List.length_nil, List.length_append, List.length_map]); omega)))))
local macro_rules | `(tactic| fail) => `(tactic| ((with_reducible apply c_ndT); (focus (((try simp only [List.length_cons, List.length_nil, List.length_append, List.length_map]); omega)))))
local macro_rules | `(tactic| fail) => `(tactic| with_reducible refine o_intB ?_)
local macro_rules | `(tactic| fail) => `(tactic| ((with_reducible apply c_decF); (focus (((try simp only [List.length_cons, List.length_nil, List.length_append, List.length_map]); omega)))))
local macro_rules | `(tactic| fail) => `(tactic| ((with_reducible apply c_decT); (focus (((try simp only [List.length_cons, List.length_nil, List.length_append, List.length_map]); omega)))))
local macro_rules | `(tactic| fail) => `(tactic| with_reducible refine c_notf ?_)
local macro_rules | `(tactic| fail) => `(tactic| with_reducible refine c_nott ?_)
local macro_rules | `(tactic| fail) => `(tactic| with_reducible refine o_eqI ?_)
local macro_rules | `(tactic| fail) => `(tactic| ((with_reducible apply o_eqIf); (focus (((try simp only [List.length_cons, List.length_nil, List.length_append, List.length_map]); omega)))))
local macro_rules | `(tactic| fail) => `(tactic| ((with_reducible apply o_eqIt); (focus (((try simp only [List.length_cons, List.length_nil, List.length_append, List.length_map]); omega)))))
local macro_rules | `(tactic| fail) => `(tactic| with_reducible refine o_isB ?_)
local macro_rules | `(tactic| fail) => `(tactic| with_reducible refine o_isN ?_)
local macro_rules | `(tactic| fail) => `(tactic| with_reducible refine o_isR ?_)
local macro_rules | `(tactic| fail) => `(tactic| with_reducible refine o_eqB ?_)
local macro_rules | `(tactic| fail) => `(tactic| ((with_reducible apply o_neIf); (focus (((try simp only [List.length_cons, List.length_nil, List.length_append, List.length_map]); omega)))))
local macro_rules | `(tactic| fail) => `(tactic| ((with_reducible apply o_neIt); (focus (((try simp only [List.length_cons, List.length_nil, List.length_append, List.length_map]); omega)))))
local macro_rules | `(tactic| fail) => `(tactic| with_reducible refine o_neII ?_)
local macro_rules | `(tactic| fail) => `(tactic| with_reducible refine o_neBB ?_)
local macro_rules | `(tactic| fail) => `(tactic| ((with_reducible apply o_eqSf); (focus decide)))
local macro_rules | `(tactic| fail) => `(tactic| ((with_reducible apply o_atr); (focus rfl)))
local macro_rules | `(tactic| fail) => `(tactic| with_reducible refine o_isx ?_)
local macro_rules | `(tactic| fail) => `(tactic| with_reducible refine o_eqSt ?_)
local macro_rules | `(tactic| fail) => `(tactic| ((with_reducible apply o_len); focus (first | rfl | (simp only [lenD]; simp only [*]; done))))
local macro_rules | `(tactic| fail) => `(tactic| ((with_reducible apply o_setL); (focus (first | assumption | exact updS_same | exact upd_at (by assumption) (by assumption))); (focus rfl)))
local macro_rules | `(tactic| fail) => `(tactic| ((with_reducible refine And.intro ?_ ?_); (focus (first | exact selfOk (by (first | assumption | exact updS_same | exact upd_at (by assumption) (by assumption))) rfl | exact insOk (by (first | assumption | exact updS_same | exact upd_at (by assumption) (by assumption)))))))
local macro_rules | `(tactic| fail) => `(tactic| ((with_reducible apply o_setf); (focus (first | assumption | exact updS_same | exact upd_at (by assumption) (by assumption))); (focus (exact Nat.le_of_ble_eq_true rfl))))
local macro_rules | `(tactic| fail) => `(tactic| ((with_reducible apply o_fld); (focus (first | assumption | exact updS_same | exact upd_at (by assumption) (by assumption))); (focus rfl)))
local macro_rules | `(tactic| fail) => `(tactic| ((with_reducible apply o_subT); focus (rfl)))
local macro_rules | `(tactic| fail) => `(tactic| ((with_reducible apply o_subL); (focus (first | assumption | exact updS_same | exact upd_at (by assumption) (by assumption))); (focus rfl)))
local macro_rules | `(tactic| fail) => `(tactic| ((with_reducible apply o_pow); focus (unfold CPow; omega)))
local macro_rules | `(tactic| fail) => `(tactic| ((with_reducible apply o_mod); focus (omega)))
local macro_rules | `(tactic| fail) => `(tactic| ((with_reducible apply o_div); focus (unfold CDiv; omega)))
local macro_rules | `(tactic| fail) => `(tactic| ((with_reducible apply o_mul); focus (unfold CMul; omega)))
local macro_rules | `(tactic| fail) => `(tactic| ((with_reducible apply v_glob); focus (first | assumption | rfl)))
local macro_rules | `(tactic| fail) => `(tactic| ((with_reducible apply t_var); focus (rfl)))
local macro_rules | `(tactic| fail) => `(tactic| ((with_reducible apply v_var); focus (rfl)))
local macro_rules | `(tactic| fail) => `(tactic| with_reducible refine c_false ?_)
local macro_rules | `(tactic| fail) => `(tactic| with_reducible refine c_true ?_)
local macro_rules | `(tactic| fail) => `(tactic| with_reducible refine o_ge ?_)
local macro_rules | `(tactic| fail) => `(tactic| with_reducible refine o_gt ?_)
local macro_rules | `(tactic| fail) => `(tactic| with_reducible refine o_le ?_)
local macro_rules | `(tactic| fail) => `(tactic| with_reducible refine o_lt ?_)
local macro_rules | `(tactic| fail) => `(tactic| with_reducible refine o_sub ?_)
local macro_rules | `(tactic| fail) => `(tactic| with_reducible refine o_add ?_)
local macro_rules | `(tactic| fail) => `(tactic| with_reducible refine o_sub1 ?_)
local macro_rules | `(tactic| fail) => `(tactic| with_reducible refine o_sub0 ?_)
local macro_rules | `(tactic| fail) => `(tactic| with_reducible refine i_rng1 ?_)
local macro_rules | `(tactic| fail) => `(tactic| with_reducible refine i_seq ?_)
local macro_rules | `(tactic| fail) => `(tactic| with_reducible refine g_cons ?_)
local macro_rules | `(tactic| fail) => `(tactic| with_reducible refine g_nil ?_)
local macro_rules | `(tactic| fail) => `(tactic| with_reducible refine g_nm ?_)
local macro_rules | `(tactic| fail) => `(tactic| with_reducible refine ts_one ?_)
local macro_rules | `(tactic| fail) => `(tactic| with_reducible refine ts_nil ?_)
local macro_rules | `(tactic| fail) => `(tactic| with_reducible refine tr_int ?_)
local macro_rules | `(tactic| fail) => `(tactic| with_reducible refine tr_bl ?_)
local macro_rules | `(tactic| fail) => `(tactic| with_reducible refine tb_or ?_)
local macro_rules | `(tactic| fail) => `(tactic| with_reducible refine tb_and ?_)
local macro_rules | `(tactic| fail) => `(tactic| with_reducible refine tb_one ?_)
local macro_rules | `(tactic| fail) => `(tactic| with_reducible refine t_chain ?_)
local macro_rules | `(tactic| fail) => `(tactic| with_reducible refine t_sub ?_)
local macro_rules | `(tactic| fail) => `(tactic| with_reducible refine t_blt ?_)
local macro_rules | `(tactic| fail) => `(tactic| with_reducible refine t_call ?_)
local macro_rules | `(tactic| fail) => `(tactic| with_reducible refine t_cmp ?_)
local macro_rules | `(tactic| fail) => `(tactic| with_reducible refine t_nt ?_)
local macro_rules | `(tactic| fail) => `(tactic| with_reducible refine t_bop ?_)
local macro_rules | `(tactic| fail) => `(tactic| with_reducible refine vb_or ?_)
local macro_rules | `(tactic| fail) => `(tactic| with_reducible refine vb_and ?_)
local macro_rules | `(tactic| fail) => `(tactic| with_reducible refine vb_one ?_)
local macro_rules | `(tactic| fail) => `(tactic| with_reducible refine vo_some ?_)
local macro_rules | `(tactic| fail) => `(tactic| with_reducible refine vo_none ?_)
local macro_rules | `(tactic| fail) => `(tactic| with_reducible refine vs_cons ?_)
local macro_rules | `(tactic| fail) => `(tactic| with_reducible refine vs_nil ?_)
local macro_rules | `(tactic| fail) => `(tactic| with_reducible refine s_try ?_)
local macro_rules | `(tactic| fail) => `(tactic| with_reducible refine s_setf ?_)
local macro_rules | `(tactic| fail) => `(tactic| with_reducible refine v_eqo ?_)
local macro_rules | `(tactic| fail) => `(tactic| with_reducible refine t_isc ?_)
local macro_rules | `(tactic| fail) => `(tactic| with_reducible refine v_isc ?_)
local macro_rules | `(tactic| fail) => `(tactic| with_reducible refine t_meth ?_)
local macro_rules | `(tactic| fail) => `(tactic| with_reducible refine v_meth ?_)
local macro_rules | `(tactic| fail) => `(tactic| with_reducible refine v_new ?_)
local macro_rules | `(tactic| fail) => `(tactic| with_reducible refine v_fld ?_)
local macro_rules | `(tactic| fail) => `(tactic| with_reducible refine v_atr ?_)
local macro_rules | `(tactic| fail) => `(tactic| with_reducible refine v_isx ?_)
local macro_rules | `(tactic| fail) => `(tactic| with_reducible refine v_back ?_)
local macro_rules | `(tactic| fail) => `(tactic| with_reducible refine v_lc ?_)
local macro_rules | `(tactic| fail) => `(tactic| with_reducible refine v_mth ?_)
local macro_rules | `(tactic| fail) => `(tactic| with_reducible refine v_lzip ?_)
local macro_rules | `(tactic| fail) => `(tactic| with_reducible refine v_lrev ?_)
local macro_rules | `(tactic| fail) => `(tactic| with_reducible refine v_blt ?_)
local macro_rules | `(tactic| fail) => `(tactic| with_reducible refine v_call ?_)
local macro_rules | `(tactic| fail) => `(tactic| with_reducible refine v_slice ?_)
local macro_rules | `(tactic| fail) => `(tactic| with_reducible refine v_sub ?_)
local macro_rules | `(tactic| fail) => `(tactic| with_reducible refine v_lst ?_)
local macro_rules | `(tactic| fail) => `(tactic| with_reducible refine v_tup ?_)
local macro_rules | `(tactic| fail) => `(tactic| with_reducible refine v_ite ?_)
local macro_rules | `(tactic| fail) => `(tactic| with_reducible refine v_nt ?_)
local macro_rules | `(tactic| fail) => `(tactic| with_reducible refine v_bop ?_)
local macro_rules | `(tactic| fail) => `(tactic| with_reducible refine v_cmp ?_)
local macro_rules | `(tactic| fail) => `(tactic| with_reducible refine v_bin ?_)
local macro_rules | `(tactic| fail) => `(tactic| with_reducible refine v_bty ?_)
local macro_rules | `(tactic| fail) => `(tactic| with_reducible refine v_str ?_)
local macro_rules | `(tactic| fail) => `(tactic| with_reducible refine v_non ?_)
local macro_rules | `(tactic| fail) => `(tactic| with_reducible refine v_bl ?_)
local macro_rules | `(tactic| fail) => `(tactic| with_reducible refine v_int ?_)
local macro_rules | `(tactic| fail) => `(tactic| with_reducible refine s_cont ?_)
local macro_rules | `(tactic| fail) => `(tactic| with_reducible refine s_brk ?_)
local macro_rules | `(tactic| fail) => `(tactic| with_reducible refine s_nil ?_)
local macro_rules | `(tactic| fail) => `(tactic| with_reducible refine s_pass ?_)
local macro_rules | `(tactic| fail) => `(tactic| with_reducible refine s_retN ?_)
local macro_rules | `(tactic| fail) => `(tactic| with_reducible refine s_ret ?_)
local macro_rules | `(tactic| fail) => `(tactic| with_reducible refine s_ife ?_)
local macro_rules | `(tactic| fail) => `(tactic| with_reducible refine s_set ?_)
local macro_rules | `(tactic| fail) => `(tactic| with_reducible refine s_par ?_)
local macro_rules | `(tactic| fail) => `(tactic| with_reducible refine s_asg ?_)
local macro_rules | `(tactic| fail) => `(tactic| with_reducible refine s_ex ?_)

def Pg.kids : Pg → List Pg
  | .inp _ => [] | .num _ => [] | .yes => [] | .no => []
  | .plus _ a => [a] | .not a => [a]
  | .least a b => [a, b] | .most a b => [a, b] | .atmost a b => [a, b] | .both a b => [a, b] | .either a b => [a, b]
  | .ife c a b => [c, a, b]
def Pg.pre : Pg → List Pg
  | .inp i => [.inp i] | .num n => [.num n] | .yes => [.yes] | .no => [.no]
  | .plus n a => .plus n a :: a.pre | .not a => .not a :: a.pre
  | .least a b => .least a b :: (a.pre ++ b.pre) | .most a b => .most a b :: (a.pre ++ b.pre) | .atmost a b => .atmost a b :: (a.pre ++ b.pre)
  | .both a b => .both a b :: (a.pre ++ b.pre) | .either a b => .either a b :: (a.pre ++ b.pre)
  | .ife c a b => .ife c a b :: (c.pre ++ (a.pre ++ b.pre))
theorem Pg.pre_eq (p : Pg) : p.pre = p :: p.kids.flatMap Pg.pre := by cases p <;> simp [Pg.pre, Pg.kids]
theorem Pg.pre_len (p : Pg) : p.pre.length = p.size := by induction p <;> simp [Pg.pre, Pg.size, *] <;> omega
theorem Pg.kids_size (p : Pg) : p.size = (p.kids.map Pg.size).sum + 1 := by cases p <;> simp [Pg.size, Pg.kids] <;> omega
abbrev partsG : D := .cd [("in", 0), ("num", 0), ("yes", 0), ("no", 0), ("plus", 1), ("least", 2), ("most", 2), ("atmost", 2), ("not", 1), ("both", 2), ("either", 2), ("if", 3)]
abbrev numG : D := .tup [.str "in", .str "num", .str "plus"]
section
variable {defs : Str → Option DefT} {gl : Str → Option D} {k : Nat} {S : Sto} {Q : D → Sto → Prop} {E : Exc → Sto → Prop}
theorem spec_whole (hd : defs "is_whole" = some dIsWhole) {i : Int} (hk : 1 ≤ k) (hq : Q (.bl true) S) : sem defs gl k "is_whole" [.int i] S Q E := by
  obtain ⟨k, rfl⟩ : ∃ j, k = j + 1 := ⟨k - 1, by omega⟩
  (refine sem_of hd rfl ?_; unfold dIsWhole; simp only [startD, List.map_cons, List.map_nil, List.length_cons, List.length_nil, List.replicate_succ, List.replicate_zero, List.cons_append, List.nil_append, Nat.reduceAdd, Nat.reduceSub])
  (repeat fail)
  exact hq
theorem spec_has_form (hd : defs "has_form" = some dHasForm) (hd1 : defs "is_whole" = some dIsWhole) (gP : gl "PARTS" = some partsG) (gN : gl "NUMBERED" = some numG) {p : Pg} (hk : 2 ≤ k) (hq : Q (.bl true) S) : sem defs gl k "has_form" [p.d] S Q E := by
  obtain ⟨k, rfl⟩ : ∃ j, k = j + 1 := ⟨k - 1, by omega⟩
  cases p
  all_goals
    simp only [Pg.d]
    (refine sem_of hd rfl ?_; unfold dHasForm; simp only [startD, List.map_cons, List.map_nil, List.length_cons, List.length_nil, List.replicate_succ, List.replicate_zero, List.cons_append, List.nil_append, Nat.reduceAdd, Nat.reduceSub])
    (repeat fail)
    first | exact hq | (refine spec_whole hd1 (by omega) ?_; (repeat fail); exact hq)
theorem spec_parts_of (hd : defs "parts_of" = some dPartsOf) (gP : gl "PARTS" = some partsG) {p : Pg} (hk : 1 ≤ k) (hq : Q (.tup (p.kids.map Pg.d)) S) : sem defs gl k "parts_of" [p.d] S Q E := by
  obtain ⟨k, rfl⟩ : ∃ j, k = j + 1 := ⟨k - 1, by omega⟩
  cases p
  all_goals
    simp only [Pg.d]
    (refine sem_of hd rfl ?_; unfold dPartsOf; simp only [startD, List.map_cons, List.map_nil, List.length_cons, List.length_nil, List.replicate_succ, List.replicate_zero, List.cons_append, List.nil_append, Nat.reduceAdd, Nat.reduceSub])
    (repeat fail)
    exact hq
theorem flat_rev {st : List Pg} {q : Pg} : (st ++ [q]).reverse.flatMap Pg.pre = q :: ((st ++ q.kids.reverse).reverse.flatMap Pg.pre) := by
  rw [List.reverse_append, List.reverse_append, List.reverse_reverse]
  simp only [List.reverse_cons, List.reverse_nil, List.nil_append, List.cons_append, List.flatMap_cons, List.flatMap_append]
  rw [Pg.pre_eq q]
  simp
theorem spec_knots (hd : defs "knots" = some dKnots) (hd1 : defs "has_form" = some dHasForm) (hd2 : defs "is_whole" = some dIsWhole) (hd3 : defs "parts_of" = some dPartsOf) (gP : gl "PARTS" = some partsG) (gN : gl "NUMBERED" = some numG) {p : Pg} (hk : 3 ≤ k) (hs : p.size ≤ 1000000)
    (hq : ∀ fp S', S fp = none → S' fp = some (.lst (p.pre.map Pg.d)) → Off [] S S' → Q (.ref fp) S') : sem defs gl k "knots" [p.d] S Q E := by
  obtain ⟨k, rfl⟩ : ∃ j, k = j + 1 := ⟨k - 1, by omega⟩
  (refine sem_of hd rfl ?_; unfold dKnots; simp only [startD, List.map_cons, List.map_nil, List.length_cons, List.length_nil, List.replicate_succ, List.replicate_zero, List.cons_append, List.nil_append, Nat.reduceAdd, Nat.reduceSub])
  (repeat fail)
  intro fp hf
  (repeat fail)
  intro lp hl
  (repeat fail)
  have hlf : lp ≠ fp := fun z => by subst z; rw [updS_same] at hl; cases hl
  refine s_whil (fun m σ S' => ∃ (dn st : List Pg) (x : Option D), p.pre = dn ++ st.reverse.flatMap Pg.pre ∧ m = (st.reverse.flatMap Pg.pre).length ∧ S' fp = some (.lst (dn.map Pg.d)) ∧ S' lp = some (.lst (st.map Pg.d)) ∧ Off [fp, lp] S S' ∧ σ = [some p.d, some (.ref fp), some (.ref lp), x]) p.pre.length ?_ ?_
  · refine ⟨[], [p], none, by simp, by simp, upd_at hl updS_same, updS_same, ((Off.new hf).trans (Off.new hl)), rfl⟩
  · rintro m σ S' ⟨dn, st, x, h1, h2, h3, h4, h5, rfl⟩
    have hlen := congrArg List.length h1
    rw [List.length_append, Pg.pre_len] at hlen
    rcases List.eq_nil_or_concat st with rfl | ⟨st, q, rfl⟩
    · (repeat fail)
      have hlS : S lp = none := by rw [updS_ne hlf] at hl; exact hl
      refine hq fp S' hf (by rw [h1]; simpa using h3) (Off.drop (p := lp) (Off.drop (p := fp) h5 hf) hlS)
    · rw [List.concat_eq_append] at h1 h2 h4 hlen
      rw [List.map_append, List.map_cons, List.map_nil] at h4
      rw [flat_rev, List.length_cons] at hlen h2
      rw [flat_rev] at h1
      have hst : (st ++ [q]).length ≤ ((st ++ [q]).reverse.flatMap Pg.pre).length := by
        have : ∀ l : List Pg, l.length ≤ (l.flatMap Pg.pre).length := fun l => by
          induction l with
          | nil => simp
          | cons a l ih =>
            rw [List.flatMap_cons, List.length_append, List.length_cons, Pg.pre_eq a, List.length_cons]
            omega
        have := this (st ++ [q]).reverse
        rwa [List.length_reverse] at this
      rw [flat_rev, List.length_cons, List.length_append, List.length_singleton] at hst
      (repeat fail)
      refine o_pop h4 ?_
      have e3 : updS S' lp (.lst (st.map Pg.d)) fp = some (.lst (dn.map Pg.d)) := by rw [updS_ne (Ne.symm hlf)]; exact h3
      (repeat fail)
      refine o_append e3 (by rw [sizeLine_eq, List.length_map]; omega) ?_
      (repeat fail)
      refine spec_has_form hd1 hd2 gP gN (by omega) ?_
      have e4 : updS (updS S' lp (.lst (st.map Pg.d))) fp (.lst (dn.map Pg.d ++ [q.d])) lp = some (.lst (st.map Pg.d)) := by rw [updS_ne hlf]; exact updS_same
      have e5 : updS (updS S' lp (.lst (st.map Pg.d))) fp (.lst (dn.map Pg.d ++ [q.d])) fp = some (.lst (dn.map Pg.d ++ [q.d])) := updS_same
      have o5 : Off [fp, lp] S (updS (updS S' lp (.lst (st.map Pg.d))) fp (.lst (dn.map Pg.d ++ [q.d]))) := (h5.trans (Off.upd (by simp))).trans (Off.upd (by simp))
      generalize updS (updS S' lp (.lst (st.map Pg.d))) fp (.lst (dn.map Pg.d ++ [q.d])) = S2 at e4 e5 o5
      (repeat fail)
      refine spec_parts_of hd3 gP (by omega) ?_
      refine o_lrevT ?_
      intro r hr
      (repeat fail)
      have hrl : r ≠ lp := fun z => by subst z; rw [hr] at e4; cases e4
      have hrf : r ≠ fp := fun z => by subst z; rw [hr] at e5; cases e5
      have kl : q.kids.length ≤ 3 := by cases q <;> simp [Pg.kids]
      refine o_extend (upd_at hr e4) updS_same (by rw [sizeLine_eq, List.length_map, List.length_reverse, List.length_map]; omega) ?_
      (repeat fail)
      refine ⟨_, ?_, dn ++ [q], st ++ q.kids.reverse, _, ?_, rfl, ?_, ?_, ?_, rfl⟩
      · rw [h2]; exact Nat.lt_succ_self _
      · rw [h1]; simp
      · rw [updS_ne (Ne.symm hlf), upd_at hr e5]; simp
      · rw [updS_same]; simp
      · exact (o5.trans (Off.new hr)).trans (Off.upd (by simp))
end
end Z

set_option Elab.async false
set_option linter.all false
set_option maxRecDepth 100000
set_option maxHeartbeats 400000
namespace Z
open PySem PySem.Spec PyProof.Rows L2
local macro_rules | `(tactic| fail) => `(tactic| refine ⟨Nat.le_of_ble_eq_true rfl, ?_⟩)
local macro_rules | `(tactic| fail) => `(tactic| with_reducible refine ⟨_, rfl, ?_⟩)
local macro_rules | `(tactic| fail) => `(tactic| ((with_reducible apply o_sliceT); (focus rfl)))
local macro_rules | `(tactic| fail) => `(tactic| ((with_reducible apply o_inTf); (focus rfl); (focus rfl); (focus (simp [inF, eqF, str_beq]; done))))
local macro_rules | `(tactic| fail) => `(tactic| ((with_reducible apply o_inTt); (focus rfl); (focus rfl); (focus (simp [inF, eqF, str_beq]; done))))
local macro_rules | `(tactic| fail) => `(tactic| ((with_reducible apply o_subC); (focus (repeat (first | with_reducible exact lk_hit | ((with_reducible apply lk_miss); (focus (exact str_ne (by decide)))))))))
local macro_rules | `(tactic| fail) => `(tactic| ((with_reducible apply o_inC); (focus (repeat (first | with_reducible exact lk_hit | ((with_reducible apply lk_miss); (focus (exact str_ne (by decide)))))))))
local macro_rules | `(tactic| fail) => `(tactic| ((with_reducible apply o_ninC); (focus (repeat (first | with_reducible exact lk_hit | ((with_reducible apply lk_miss); (focus (exact str_ne (by decide)))))))))
local macro_rules | `(tactic| fail) => `(tactic| ((with_reducible apply o_isinF); (focus rfl); (focus (decide +kernel))))
local macro_rules | `(tactic| fail) => `(tactic| ((with_reducible apply o_isinT); (focus rfl); (focus (decide +kernel))))
local macro_rules | `(tactic| fail) => `(tactic| with_reducible refine i_enm ?_)
local macro_rules | `(tactic| fail) => `(tactic| ((with_reducible apply g_tup); (focus rfl); (focus rfl)))
local macro_rules | `(tactic| fail) => `(tactic| ((with_reducible apply v_dctN); (focus (decide +kernel))))
local macro_rules | `(tactic| fail) => `(tactic| ((with_reducible apply o_len); (focus (exact len_ref (by (first | assumption | exact updS_same | exact upd_at (by assumption) (by assumption)))))))
local macro_rules | `(tactic| fail) => `(tactic| ((with_reducible apply o_tuple); (focus (first | rfl | exact items_ref (by (first | assumption | exact updS_same | exact upd_at (by assumption) (by assumption)))))))
local macro_rules | `(tactic| fail) => `(tactic| ((with_reducible apply o_get2); (focus (first | assumption | exact updS_same | exact upd_at (by assumption) (by assumption))); (focus rfl); (focus (repeat (first | with_reducible exact getD_hit | with_reducible exact getD_nil | ((with_reducible apply getD_miss); (focus (exact str_ne (by decide)))))))))
local macro_rules | `(tactic| fail) => `(tactic| ((with_reducible apply o_get1); (focus (first | assumption | exact updS_same | exact upd_at (by assumption) (by assumption))); (focus rfl); (focus (repeat (first | with_reducible exact getD_hit | with_reducible exact getD_nil | ((with_reducible apply getD_miss); (focus (exact str_ne (by decide)))))))))
local macro_rules | `(tactic| fail) => `(tactic| (refine And.intro ?_ ?_; (focus (first | exact recvL (by (first | assumption | exact updS_same | exact upd_at (by assumption) (by assumption))) rfl | exact recvD (by (first | assumption | exact updS_same | exact upd_at (by assumption) (by assumption))) rfl))))
local macro_rules | `(tactic| fail) => `(tactic| ((with_reducible apply o_subD); (focus (first | assumption | exact updS_same | exact upd_at (by assumption) (by assumption))); (focus rfl); (focus (repeat (first | with_reducible exact lookD_hit | ((with_reducible apply look_miss); (focus (exact str_ne (by decide)))))))))
local macro_rules | `(tactic| fail) => `(tactic| ((with_reducible apply c_ndF); (focus (((try simp only [List.length_cons, List.length_nil, List.length_append, List.length_map]); omega)))))
local macro_rules | `(tactic| fail) => `(tactic| ((with_reducible apply c_ndT); (focus (((try simp only [List.length_cons, List.length_nil, List.length_append, List.length_map]); omega)))))
local macro_rules | `(tactic| fail) => `(tactic| with_reducible refine o_intB ?_)
local macro_rules | `(tactic| fail) => `(tactic| ((with_reducible apply c_decF); (focus (((try simp only [List.length_cons, List.length_nil, List.length_append, List.length_map]); omega)))))
local macro_rules | `(tactic| fail) => `(tactic| ((with_reducible apply c_decT); (focus (((try simp only [List.length_cons, List.length_nil, List.length_append, List.length_map]); omega)))))
local macro_rules | `(tactic| fail) => `(tactic| with_reducible refine c_notf ?_)
local macro_rules | `(tactic| fail) => `(tactic| with_reducible refine c_nott ?_)
local macro_rules | `(tactic| fail) => `(tactic| with_reducible refine o_eqI ?_)
local macro_rules | `(tactic| fail) => `(tactic| ((with_reducible apply o_eqIf); (focus (((try simp only [List.length_cons, List.length_nil, List.length_append, List.length_map]); omega)))))
local macro_rules | `(tactic| fail) => `(tactic| ((with_reducible apply o_eqIt); (focus (((try simp only [List.length_cons, List.length_nil, List.length_append, List.length_map]); omega)))))
local macro_rules | `(tactic| fail) => `(tactic| with_reducible refine o_isB ?_)
local macro_rules | `(tactic| fail) => `(tactic| with_reducible refine o_isN ?_)
local macro_rules | `(tactic| fail) => `(tactic| with_reducible refine o_isR ?_)
local macro_rules | `(tactic| fail) => `(tactic| with_reducible refine o_eqB ?_)
local macro_rules | `(tactic| fail) => `(tactic| with_reducible refine o_neII ?_)
local macro_rules | `(tactic| fail) => `(tactic| with_reducible refine o_neBB ?_)
local macro_rules | `(tactic| fail) => `(tactic| ((with_reducible apply o_eqSf); (focus decide)))
local macro_rules | `(tactic| fail) => `(tactic| with_reducible refine o_eqSt ?_)
local macro_rules | `(tactic| fail) => `(tactic| ((with_reducible apply o_len); focus (first | rfl | (simp only [lenD]; simp only [*]; done))))
local macro_rules | `(tactic| fail) => `(tactic| ((with_reducible apply o_setL); (focus (first | assumption | exact updS_same | exact upd_at (by assumption) (by assumption))); (focus rfl)))
local macro_rules | `(tactic| fail) => `(tactic| ((with_reducible apply o_subT); focus (rfl)))
local macro_rules | `(tactic| fail) => `(tactic| ((with_reducible apply o_subL); (focus (first | assumption | exact updS_same | exact upd_at (by assumption) (by assumption))); (focus rfl)))
local macro_rules | `(tactic| fail) => `(tactic| ((with_reducible apply o_pow); focus (unfold CPow; omega)))
local macro_rules | `(tactic| fail) => `(tactic| ((with_reducible apply o_mod); focus (omega)))
local macro_rules | `(tactic| fail) => `(tactic| ((with_reducible apply o_div); focus (unfold CDiv; omega)))
local macro_rules | `(tactic| fail) => `(tactic| ((with_reducible apply o_mul); focus (unfold CMul; omega)))
local macro_rules | `(tactic| fail) => `(tactic| ((with_reducible apply v_glob); focus (first | assumption | rfl)))
local macro_rules | `(tactic| fail) => `(tactic| ((with_reducible apply t_var); focus (rfl)))
local macro_rules | `(tactic| fail) => `(tactic| ((with_reducible apply v_var); focus (rfl)))
local macro_rules | `(tactic| fail) => `(tactic| with_reducible refine c_false ?_)
local macro_rules | `(tactic| fail) => `(tactic| with_reducible refine c_true ?_)
local macro_rules | `(tactic| fail) => `(tactic| with_reducible refine o_ge ?_)
local macro_rules | `(tactic| fail) => `(tactic| with_reducible refine o_gt ?_)
local macro_rules | `(tactic| fail) => `(tactic| with_reducible refine o_le ?_)
local macro_rules | `(tactic| fail) => `(tactic| with_reducible refine o_lt ?_)
local macro_rules | `(tactic| fail) => `(tactic| with_reducible refine o_sub ?_)
local macro_rules | `(tactic| fail) => `(tactic| with_reducible refine o_add ?_)
local macro_rules | `(tactic| fail) => `(tactic| with_reducible refine i_rng1 ?_)
local macro_rules | `(tactic| fail) => `(tactic| with_reducible refine i_seq ?_)
local macro_rules | `(tactic| fail) => `(tactic| with_reducible refine g_cons ?_)
local macro_rules | `(tactic| fail) => `(tactic| with_reducible refine g_nil ?_)
local macro_rules | `(tactic| fail) => `(tactic| with_reducible refine g_nm ?_)
local macro_rules | `(tactic| fail) => `(tactic| with_reducible refine ts_one ?_)
local macro_rules | `(tactic| fail) => `(tactic| with_reducible refine ts_nil ?_)
local macro_rules | `(tactic| fail) => `(tactic| with_reducible refine tr_int ?_)
local macro_rules | `(tactic| fail) => `(tactic| with_reducible refine tr_bl ?_)
local macro_rules | `(tactic| fail) => `(tactic| with_reducible refine tb_or ?_)
local macro_rules | `(tactic| fail) => `(tactic| with_reducible refine tb_and ?_)
local macro_rules | `(tactic| fail) => `(tactic| with_reducible refine tb_one ?_)
local macro_rules | `(tactic| fail) => `(tactic| with_reducible refine t_chain ?_)
local macro_rules | `(tactic| fail) => `(tactic| with_reducible refine t_sub ?_)
local macro_rules | `(tactic| fail) => `(tactic| with_reducible refine t_blt ?_)
local macro_rules | `(tactic| fail) => `(tactic| with_reducible refine t_call ?_)
local macro_rules | `(tactic| fail) => `(tactic| with_reducible refine t_cmp ?_)
local macro_rules | `(tactic| fail) => `(tactic| with_reducible refine t_nt ?_)
local macro_rules | `(tactic| fail) => `(tactic| with_reducible refine t_bop ?_)
local macro_rules | `(tactic| fail) => `(tactic| with_reducible refine vb_or ?_)
local macro_rules | `(tactic| fail) => `(tactic| with_reducible refine vb_and ?_)
local macro_rules | `(tactic| fail) => `(tactic| with_reducible refine vb_one ?_)
local macro_rules | `(tactic| fail) => `(tactic| with_reducible refine vo_some ?_)
local macro_rules | `(tactic| fail) => `(tactic| with_reducible refine vo_none ?_)
local macro_rules | `(tactic| fail) => `(tactic| with_reducible refine vs_cons ?_)
local macro_rules | `(tactic| fail) => `(tactic| with_reducible refine vs_nil ?_)
local macro_rules | `(tactic| fail) => `(tactic| with_reducible refine v_lc ?_)
local macro_rules | `(tactic| fail) => `(tactic| with_reducible refine v_mth ?_)
local macro_rules | `(tactic| fail) => `(tactic| with_reducible refine v_lzip ?_)
local macro_rules | `(tactic| fail) => `(tactic| with_reducible refine v_lrev ?_)
local macro_rules | `(tactic| fail) => `(tactic| with_reducible refine v_blt ?_)
local macro_rules | `(tactic| fail) => `(tactic| with_reducible refine v_call ?_)
local macro_rules | `(tactic| fail) => `(tactic| with_reducible refine v_slice ?_)
local macro_rules | `(tactic| fail) => `(tactic| with_reducible refine v_sub ?_)
local macro_rules | `(tactic| fail) => `(tactic| with_reducible refine v_lst ?_)
local macro_rules | `(tactic| fail) => `(tactic| with_reducible refine v_tup ?_)
local macro_rules | `(tactic| fail) => `(tactic| with_reducible refine v_ite ?_)
local macro_rules | `(tactic| fail) => `(tactic| with_reducible refine v_nt ?_)
local macro_rules | `(tactic| fail) => `(tactic| with_reducible refine v_bop ?_)
local macro_rules | `(tactic| fail) => `(tactic| with_reducible refine v_cmp ?_)
local macro_rules | `(tactic| fail) => `(tactic| with_reducible refine v_bin ?_)
local macro_rules | `(tactic| fail) => `(tactic| with_reducible refine v_bty ?_)
local macro_rules | `(tactic| fail) => `(tactic| with_reducible refine v_str ?_)
local macro_rules | `(tactic| fail) => `(tactic| with_reducible refine v_non ?_)
local macro_rules | `(tactic| fail) => `(tactic| with_reducible refine v_bl ?_)
local macro_rules | `(tactic| fail) => `(tactic| with_reducible refine v_int ?_)
local macro_rules | `(tactic| fail) => `(tactic| with_reducible refine s_cont ?_)
local macro_rules | `(tactic| fail) => `(tactic| with_reducible refine s_brk ?_)
local macro_rules | `(tactic| fail) => `(tactic| with_reducible refine s_nil ?_)
local macro_rules | `(tactic| fail) => `(tactic| with_reducible refine s_pass ?_)
local macro_rules | `(tactic| fail) => `(tactic| with_reducible refine s_retN ?_)
local macro_rules | `(tactic| fail) => `(tactic| with_reducible refine s_ret ?_)
local macro_rules | `(tactic| fail) => `(tactic| with_reducible refine s_ife ?_)
local macro_rules | `(tactic| fail) => `(tactic| with_reducible refine s_set ?_)
local macro_rules | `(tactic| fail) => `(tactic| with_reducible refine s_par ?_)
local macro_rules | `(tactic| fail) => `(tactic| with_reducible refine s_asg ?_)
local macro_rules | `(tactic| fail) => `(tactic| with_reducible refine s_ex ?_)

def Pg.ev (env : List D) : Pg → D
  | .inp i => (env[i]?).getD .non
  | .num n => .int n
  | .yes => .bl true
  | .no => .bl false
  | .plus n a => match a.ev env with | .int x => .int (n + x) | _ => .non
  | .least a b => match a.ev env, b.ev env with | .int x, .int y => .int (if y < x then y else x) | _, _ => .non
  | .most a b => match a.ev env, b.ev env with | .int x, .int y => .int (if x < y then y else x) | _, _ => .non
  | .atmost a b => match a.ev env, b.ev env with | .int x, .int y => .bl (decide (x ≤ y)) | _, _ => .non
  | .not a => match a.ev env with | .bl x => .bl (!x) | _ => .non
  | .both a b => match a.ev env, b.ev env with | .bl x, .bl y => .bl (x && y) | _, _ => .non
  | .either a b => match a.ev env, b.ev env with | .bl x, .bl y => .bl (x || y) | _, _ => .non
  | .ife c a b => match c.ev env with | .bl x => if x then a.ev env else b.ev env | _ => .non
def VOk : Bool → D → Prop
  | false, d => ∃ n, d = .int n
  | true, d => ∃ b, d = .bl b
def EnvOk (ks : List Bool) (env : List D) : Prop := env.length = ks.length ∧ ∀ (i : Nat) t, ks[i]? = some t → ∃ v, env[i]? = some v ∧ VOk t v
theorem ev_ok {ks : List Bool} {env : List D} (he : EnvOk ks env) : ∀ (p : Pg) (t : Bool), p.ok ks t → VOk t (p.ev env)
  | .inp i, t, h => by obtain ⟨v, e, r⟩ := he.2 i t h; simp only [Pg.ev, e]; exact r
  | .num n, t, h => by cases h; exact ⟨_, rfl⟩
  | .yes, t, h => by cases h; exact ⟨_, rfl⟩
  | .no, t, h => by cases h; exact ⟨_, rfl⟩
  | .plus n a, t, h => by obtain ⟨rfl, h1⟩ := h; obtain ⟨x, e⟩ := ev_ok he a _ h1; simp only [Pg.ev, e]; exact ⟨_, rfl⟩
  | .least a b, t, h => by obtain ⟨rfl, h1, h2⟩ := h; obtain ⟨x, e⟩ := ev_ok he a _ h1; obtain ⟨y, e2⟩ := ev_ok he b _ h2; simp only [Pg.ev, e, e2]; exact ⟨_, rfl⟩
  | .most a b, t, h => by obtain ⟨rfl, h1, h2⟩ := h; obtain ⟨x, e⟩ := ev_ok he a _ h1; obtain ⟨y, e2⟩ := ev_ok he b _ h2; simp only [Pg.ev, e, e2]; exact ⟨_, rfl⟩
  | .atmost a b, t, h => by obtain ⟨rfl, h1, h2⟩ := h; obtain ⟨x, e⟩ := ev_ok he a _ h1; obtain ⟨y, e2⟩ := ev_ok he b _ h2; simp only [Pg.ev, e, e2]; exact ⟨_, rfl⟩
  | .not a, t, h => by obtain ⟨rfl, h1⟩ := h; obtain ⟨x, e⟩ := ev_ok he a _ h1; simp only [Pg.ev, e]; exact ⟨_, rfl⟩
  | .both a b, t, h => by obtain ⟨rfl, h1, h2⟩ := h; obtain ⟨x, e⟩ := ev_ok he a _ h1; obtain ⟨y, e2⟩ := ev_ok he b _ h2; simp only [Pg.ev, e, e2]; exact ⟨_, rfl⟩
  | .either a b, t, h => by obtain ⟨rfl, h1, h2⟩ := h; obtain ⟨x, e⟩ := ev_ok he a _ h1; obtain ⟨y, e2⟩ := ev_ok he b _ h2; simp only [Pg.ev, e, e2]; exact ⟨_, rfl⟩
  | .ife c a b, t, h => by
    obtain ⟨h0, h1, h2⟩ := h
    obtain ⟨x, e⟩ := ev_ok he c _ h0
    simp only [Pg.ev, e]
    cases x
    · exact ev_ok he b _ h2
    · exact ev_ok he a _ h1
theorem tree_forG {turn : D → (StD → Sto → Prop) → StD → Sto → Prop} {G : Sto → Prop} {F : StD → Sto → Prop} {Inv : List D → StD → Sto → Prop} {ks : List Bool} {fv : Pg → D} (hg : ∀ Dl σ S, Inv Dl σ S → G S)
    (HN : ∀ (q : Pg) t D0 σ S (N : StD → Sto → Prop), q.ok ks t → Inv (D0 ++ (q.kids.map fv).reverse) σ S → D0.length ≤ 1000000 → (∀ σ' S', Inv (D0 ++ [fv q]) σ' S' → N σ' S') → turn q.d N σ S) :
    ∀ (q : Pg) t D0 rest σ S, q.ok ks t → Inv D0 σ S → D0.length + q.size ≤ 1000000 → (∀ σ' S', Inv (D0 ++ [fv q]) σ' S' → forL turn G F rest σ' S') → forL turn G F ((q.pre.map Pg.d).reverse ++ rest) σ S := by
  have node : ∀ (q : Pg) t D0 rest σ S, q.ok ks t → Inv (D0 ++ (q.kids.map fv).reverse) σ S → D0.length ≤ 1000000 → (∀ σ' S', Inv (D0 ++ [fv q]) σ' S' → forL turn G F rest σ' S') → forL turn G F (q.d :: rest) σ S := fun q t D0 rest σ S h1 h2 h3 h4 => ⟨hg _ _ _ h2, HN q t D0 σ S _ h1 h2 h3 h4⟩
  have one : ∀ (q a : Pg) t ta D0 rest σ S, q.kids = [a] → q.pre = q :: a.pre → q.size = a.size + 1 → q.ok ks t → a.ok ks ta → (∀ t D0 rest σ S, a.ok ks t → Inv D0 σ S → D0.length + a.size ≤ 1000000 → (∀ σ' S', Inv (D0 ++ [fv a]) σ' S' → forL turn G F rest σ' S') → forL turn G F ((a.pre.map Pg.d).reverse ++ rest) σ S) →
      Inv D0 σ S → D0.length + q.size ≤ 1000000 → (∀ σ' S', Inv (D0 ++ [fv q]) σ' S' → forL turn G F rest σ' S') → forL turn G F ((q.pre.map Pg.d).reverse ++ rest) σ S := fun q a t ta D0 rest σ S k1 k2 k3 h1 ha ih h2 h3 h4 => by
    rw [k2, List.map_cons, List.reverse_cons, List.append_assoc]
    refine ih ta D0 _ σ S ha h2 (by omega) fun σ1 S1 i1 => ?_
    exact node q t D0 rest σ1 S1 h1 (by rw [k1]; exact i1) (by omega) h4
  have two : ∀ (q a b : Pg) t ta tb D0 rest σ S, q.kids = [a, b] → q.pre = q :: (a.pre ++ b.pre) → q.size = a.size + b.size + 1 → q.ok ks t → a.ok ks ta → b.ok ks tb → (∀ t D0 rest σ S, a.ok ks t → Inv D0 σ S → D0.length + a.size ≤ 1000000 → (∀ σ' S', Inv (D0 ++ [fv a]) σ' S' → forL turn G F rest σ' S') → forL turn G F ((a.pre.map Pg.d).reverse ++ rest) σ S) →
      (∀ t D0 rest σ S, b.ok ks t → Inv D0 σ S → D0.length + b.size ≤ 1000000 → (∀ σ' S', Inv (D0 ++ [fv b]) σ' S' → forL turn G F rest σ' S') → forL turn G F ((b.pre.map Pg.d).reverse ++ rest) σ S) →
      Inv D0 σ S → D0.length + q.size ≤ 1000000 → (∀ σ' S', Inv (D0 ++ [fv q]) σ' S' → forL turn G F rest σ' S') → forL turn G F ((q.pre.map Pg.d).reverse ++ rest) σ S := fun q a b t ta tb D0 rest σ S k1 k2 k3 h1 ha hb iha ihb h2 h3 h4 => by
    have sa := a.pre_len
    rw [k2, List.map_cons, List.reverse_cons, List.map_append, List.reverse_append, List.append_assoc, List.append_assoc]
    have pa : 1 ≤ a.size := by rw [a.kids_size]; omega
    refine ihb tb D0 _ σ S hb h2 (by omega) fun σ1 S1 i1 => ?_
    refine iha ta _ _ σ1 S1 ha i1 (by rw [List.length_append, List.length_singleton]; omega) fun σ2 S2 i2 => ?_
    exact node q t D0 rest σ2 S2 h1 (by rw [k1]; simpa using i2) (by omega) h4
  intro q
  induction q with
  | inp i => intro t D0 rest σ S h1 h2 h3 h4; exact node (.inp i) t D0 rest σ S h1 (by simpa [Pg.kids] using h2) (by omega) h4
  | num i => intro t D0 rest σ S h1 h2 h3 h4; exact node (.num i) t D0 rest σ S h1 (by simpa [Pg.kids] using h2) (by omega) h4
  | yes => intro t D0 rest σ S h1 h2 h3 h4; exact node .yes t D0 rest σ S h1 (by simpa [Pg.kids] using h2) (by omega) h4
  | no => intro t D0 rest σ S h1 h2 h3 h4; exact node .no t D0 rest σ S h1 (by simpa [Pg.kids] using h2) (by omega) h4
  | plus n a ih => intro t D0 rest σ S h1 h2 h3 h4; exact one _ a t false D0 rest σ S rfl rfl rfl h1 h1.2 ih h2 h3 h4
  | not a ih => intro t D0 rest σ S h1 h2 h3 h4; exact one _ a t true D0 rest σ S rfl rfl rfl h1 h1.2 ih h2 h3 h4
  | least a b iha ihb => intro t D0 rest σ S h1 h2 h3 h4; exact two _ a b t false false D0 rest σ S rfl rfl rfl h1 h1.2.1 h1.2.2 iha ihb h2 h3 h4
  | most a b iha ihb => intro t D0 rest σ S h1 h2 h3 h4; exact two _ a b t false false D0 rest σ S rfl rfl rfl h1 h1.2.1 h1.2.2 iha ihb h2 h3 h4
  | atmost a b iha ihb => intro t D0 rest σ S h1 h2 h3 h4; exact two _ a b t false false D0 rest σ S rfl rfl rfl h1 h1.2.1 h1.2.2 iha ihb h2 h3 h4
  | both a b iha ihb => intro t D0 rest σ S h1 h2 h3 h4; exact two _ a b t true true D0 rest σ S rfl rfl rfl h1 h1.2.1 h1.2.2 iha ihb h2 h3 h4
  | either a b iha ihb => intro t D0 rest σ S h1 h2 h3 h4; exact two _ a b t true true D0 rest σ S rfl rfl rfl h1 h1.2.1 h1.2.2 iha ihb h2 h3 h4
  | ife c a b ihc iha ihb =>
    intro t D0 rest σ S h1 h2 h3 h4
    obtain ⟨g0, g1, g2⟩ := id h1
    simp only [Pg.size] at h3
    rw [show (Pg.ife c a b).pre = .ife c a b :: (c.pre ++ (a.pre ++ b.pre)) from rfl, List.map_cons, List.reverse_cons, List.map_append, List.reverse_append, List.map_append, List.reverse_append, List.append_assoc, List.append_assoc, List.append_assoc]
    refine ihb t D0 _ σ S g2 h2 (by omega) fun σ1 S1 i1 => ?_
    have pa : 1 ≤ a.size := by rw [a.kids_size]; omega
    have pc : 1 ≤ c.size := by rw [c.kids_size]; omega
    refine iha t _ _ σ1 S1 g1 i1 (by rw [List.length_append, List.length_singleton]; omega) fun σ2 S2 i2 => ?_
    refine ihc true _ _ σ2 S2 g0 i2 (by rw [List.length_append, List.length_append, List.length_singleton, List.length_singleton]; omega) fun σ3 S3 i3 => ?_
    exact node (.ife c a b) t D0 rest σ3 S3 h1 (by simpa [Pg.kids] using i3) (by omega) h4
theorem tree_for {turn : D → (StD → Sto → Prop) → StD → Sto → Prop} {G : Sto → Prop} {F : StD → Sto → Prop} {Inv : List D → StD → Sto → Prop} {ks : List Bool} {env : List D} (hg : ∀ Dl σ S, Inv Dl σ S → G S)
    (HN : ∀ (q : Pg) t D0 σ S (N : StD → Sto → Prop), q.ok ks t → Inv (D0 ++ (q.kids.map (Pg.ev env)).reverse) σ S → D0.length ≤ 1000000 → (∀ σ' S', Inv (D0 ++ [q.ev env]) σ' S' → N σ' S') → turn q.d N σ S) :
    ∀ (q : Pg) t D0 rest σ S, q.ok ks t → Inv D0 σ S → D0.length + q.size ≤ 1000000 → (∀ σ' S', Inv (D0 ++ [q.ev env]) σ' S' → forL turn G F rest σ' S') → forL turn G F ((q.pre.map Pg.d).reverse ++ rest) σ S := tree_forG (fv := Pg.ev env) hg HN
theorem lc_pop {C : Cw} {Q : D → Sto → Prop} {dp : Addr} {x0 x1 x3 x4 x5 : Option D} : ∀ (vs D0 acc ds : List D) (S : Sto), ds.length = vs.length → S dp = some (.lst (D0 ++ vs.reverse)) → acc.length + vs.length ≤ 1000 →
    (∀ p S', S' dp = some (.lst D0) → Off [dp] S S' → S' p = none → Q (.ref p) (updS S' p (.lst (acc ++ vs)))) →
    lcL (fun d S2 k => wpG (.nm 5) d (wipeD [x0, x1, some (.ref dp), x3, x4, x5] (List.map (fun x => x.2) [((Str.ofString "part"), 5)])) S2 fun σ2 => wpTs C [] σ2 S2 fun b S3 => if b = true then wpE C (fun _ _ _ => False) (.mth .pop (.var 2) []) σ2 S3 fun v S4 => k (some v) S4 else k none S3) (fun _ => True) Q ds acc S
  | [], D0, acc, ds, S, hl, e, ha, hq => by
    cases ds with
    | cons d ds => cases hl
    | nil =>
      refine ⟨trivial, fun p hp => ?_⟩
      have := hq p S (by simpa using e) (Off.refl _ _) hp
      simpa using this
  | v :: vs, D0, acc, ds, S, hl, e, ha, hq => by
    cases ds with
    | nil => cases hl
    | cons d ds =>
      rw [List.length_cons] at ha
      have e' : S dp = some (.lst ((D0 ++ vs.reverse) ++ [v])) := by rw [e]; simp
      refine ⟨trivial, by rw [sizeLine_eq]; omega, ?_⟩
      simp only [List.map_cons, List.map_nil, wipeD, List.set_cons_zero, List.set_cons_succ]
      (repeat fail)
      refine o_pop e' ?_
      refine lc_pop (x5 := x5) vs D0 (acc ++ [v]) ds _ (by simpa using hl) updS_same (by rw [List.length_append, List.length_singleton]; omega) fun p S' h1 h2 h3 => ?_
      have := hq p S' h1 ((Off.upd (by simp)).trans h2) h3
      simpa using this
end Z

set_option Elab.async false
set_option linter.all false
set_option maxRecDepth 100000
set_option maxHeartbeats 400000
namespace Z
open PySem PySem.Spec PyProof.Rows L2
local macro_rules | `(tactic| fail) => `(tactic| refine ⟨Nat.le_of_ble_eq_true rfl, ?_⟩)
local macro_rules | `(tactic| fail) => `(tactic| with_reducible refine ⟨_, rfl, ?_⟩)
local macro_rules | `(tactic| fail) => `(tactic| ((with_reducible apply o_sliceT); (focus rfl)))
local macro_rules | `(tactic| fail) => `(tactic| ((with_reducible apply o_inTf); (focus rfl); (focus rfl); (focus (simp [inF, eqF, str_beq]; done))))
local macro_rules | `(tactic| fail) => `(tactic| ((with_reducible apply o_inTt); (focus rfl); (focus rfl); (focus (simp [inF, eqF, str_beq]; done))))
local macro_rules | `(tactic| fail) => `(tactic| ((with_reducible apply o_subC); (focus (repeat (first | with_reducible exact lk_hit | ((with_reducible apply lk_miss); (focus (exact str_ne (by decide)))))))))
local macro_rules | `(tactic| fail) => `(tactic| ((with_reducible apply o_inC); (focus (repeat (first | with_reducible exact lk_hit | ((with_reducible apply lk_miss); (focus (exact str_ne (by decide)))))))))
local macro_rules | `(tactic| fail) => `(tactic| ((with_reducible apply o_ninC); (focus (repeat (first | with_reducible exact lk_hit | ((with_reducible apply lk_miss); (focus (exact str_ne (by decide)))))))))
local macro_rules | `(tactic| fail) => `(tactic| ((with_reducible apply o_isinF); (focus rfl); (focus (decide +kernel))))
local macro_rules | `(tactic| fail) => `(tactic| ((with_reducible apply o_isinT); (focus rfl); (focus (decide +kernel))))
local macro_rules | `(tactic| fail) => `(tactic| with_reducible refine i_enm ?_)
local macro_rules | `(tactic| fail) => `(tactic| ((with_reducible apply g_tup); (focus rfl); (focus rfl)))
local macro_rules | `(tactic| fail) => `(tactic| ((with_reducible apply v_dctN); (focus (decide +kernel))))
local macro_rules | `(tactic| fail) => `(tactic| ((with_reducible apply o_len); (focus (exact len_ref (by (first | assumption | exact updS_same | exact upd_at (by assumption) (by assumption)))))))
local macro_rules | `(tactic| fail) => `(tactic| ((with_reducible apply o_tuple); (focus (first | rfl | exact items_ref (by (first | assumption | exact updS_same | exact upd_at (by assumption) (by assumption)))))))
local macro_rules | `(tactic| fail) => `(tactic| ((with_reducible apply o_get2); (focus (first | assumption | exact updS_same | exact upd_at (by assumption) (by assumption))); (focus rfl); (focus (repeat (first | with_reducible exact getD_hit | with_reducible exact getD_nil | ((with_reducible apply getD_miss); (focus (exact str_ne (by decide)))))))))
local macro_rules | `(tactic| fail) => `(tactic| ((with_reducible apply o_get1); (focus (first | assumption | exact updS_same | exact upd_at (by assumption) (by assumption))); (focus rfl); (focus (repeat (first | with_reducible exact getD_hit | with_reducible exact getD_nil | ((with_reducible apply getD_miss); (focus (exact str_ne (by decide)))))))))
local macro_rules | `(tactic| fail) => `(tactic| (refine And.intro ?_ ?_; (focus (first | exact recvL (by (first | assumption | exact updS_same | exact upd_at (by assumption) (by assumption))) rfl | exact recvD (by (first | assumption | exact updS_same | exact upd_at (by assumption) (by assumption))) rfl))))
local macro_rules | `(tactic| fail) => `(tactic| ((with_reducible apply o_subD); (focus (first | assumption | exact updS_same | exact upd_at (by assumption) (by assumption))); (focus rfl); (focus (repeat (first | with_reducible exact lookD_hit | ((with_reducible apply look_miss); (focus (exact str_ne (by decide)))))))))
local macro_rules | `(tactic| fail) => `(tactic| ((with_reducible apply c_ndF); (focus (((try simp only [List.length_cons, List.length_nil, List.length_append, List.length_map]); omega)))))
local macro_rules | `(tactic| fail) => `(tactic| ((with_reducible apply c_ndT); (focus (((try simp only [List.length_cons, List.length_nil, List.length_append, List.length_map]); omega)))))
local macro_rules | `(tactic| fail) => `(tactic| with_reducible refine o_intB ?_)
local macro_rules | `(tactic| fail) => `(tactic| ((with_reducible apply c_decF); (focus (((try simp only [List.length_cons, List.length_nil, List.length_append, List.length_map]); omega)))))
local macro_rules | `(tactic| fail) => `(tactic| ((with_reducible apply c_decT); (focus (((try simp only [List.length_cons, List.length_nil, List.length_append, List.length_map]); omega)))))
local macro_rules | `(tactic| fail) => `(tactic| with_reducible refine c_notf ?_)
local macro_rules | `(tactic| fail) => `(tactic| with_reducible refine c_nott ?_)
local macro_rules | `(tactic| fail) => `(tactic| with_reducible refine o_eqI ?_)
local macro_rules | `(tactic| fail) => `(tactic| ((with_reducible apply o_eqIf); (focus (((try simp only [List.length_cons, List.length_nil, List.length_append, List.length_map]); omega)))))
local macro_rules | `(tactic| fail) => `(tactic| ((with_reducible apply o_eqIt); (focus (((try simp only [List.length_cons, List.length_nil, List.length_append, List.length_map]); omega)))))
local macro_rules | `(tactic| fail) => `(tactic| with_reducible refine o_isB ?_)
local macro_rules | `(tactic| fail) => `(tactic| with_reducible refine o_isN ?_)
local macro_rules | `(tactic| fail) => `(tactic| with_reducible refine o_isR ?_)
local macro_rules | `(tactic| fail) => `(tactic| with_reducible refine o_eqB ?_)
local macro_rules | `(tactic| fail) => `(tactic| with_reducible refine o_neII ?_)
local macro_rules | `(tactic| fail) => `(tactic| with_reducible refine o_neBB ?_)
local macro_rules | `(tactic| fail) => `(tactic| ((with_reducible apply o_eqSf); (focus decide)))
local macro_rules | `(tactic| fail) => `(tactic| with_reducible refine o_eqSt ?_)
local macro_rules | `(tactic| fail) => `(tactic| ((with_reducible apply o_len); focus (first | rfl | (simp only [lenD]; simp only [*]; done))))
local macro_rules | `(tactic| fail) => `(tactic| ((with_reducible apply o_setL); (focus (first | assumption | exact updS_same | exact upd_at (by assumption) (by assumption))); (focus rfl)))
local macro_rules | `(tactic| fail) => `(tactic| ((with_reducible apply o_subT); focus (rfl)))
local macro_rules | `(tactic| fail) => `(tactic| ((with_reducible apply o_subL); (focus (first | assumption | exact updS_same | exact upd_at (by assumption) (by assumption))); (focus rfl)))
local macro_rules | `(tactic| fail) => `(tactic| ((with_reducible apply o_pow); focus (unfold CPow; omega)))
local macro_rules | `(tactic| fail) => `(tactic| ((with_reducible apply o_mod); focus (omega)))
local macro_rules | `(tactic| fail) => `(tactic| ((with_reducible apply o_div); focus (unfold CDiv; omega)))
local macro_rules | `(tactic| fail) => `(tactic| ((with_reducible apply o_mul); focus (unfold CMul; omega)))
local macro_rules | `(tactic| fail) => `(tactic| ((with_reducible apply v_glob); focus (first | assumption | rfl)))
local macro_rules | `(tactic| fail) => `(tactic| ((with_reducible apply t_var); focus (rfl)))
local macro_rules | `(tactic| fail) => `(tactic| ((with_reducible apply v_var); focus (rfl)))
local macro_rules | `(tactic| fail) => `(tactic| with_reducible refine c_false ?_)
local macro_rules | `(tactic| fail) => `(tactic| with_reducible refine c_true ?_)
local macro_rules | `(tactic| fail) => `(tactic| with_reducible refine o_ge ?_)
local macro_rules | `(tactic| fail) => `(tactic| with_reducible refine o_gt ?_)
local macro_rules | `(tactic| fail) => `(tactic| with_reducible refine o_le ?_)
local macro_rules | `(tactic| fail) => `(tactic| with_reducible refine o_lt ?_)
local macro_rules | `(tactic| fail) => `(tactic| with_reducible refine o_sub ?_)
local macro_rules | `(tactic| fail) => `(tactic| with_reducible refine o_add ?_)
local macro_rules | `(tactic| fail) => `(tactic| with_reducible refine i_rng1 ?_)
local macro_rules | `(tactic| fail) => `(tactic| with_reducible refine i_seq ?_)
local macro_rules | `(tactic| fail) => `(tactic| with_reducible refine g_cons ?_)
local macro_rules | `(tactic| fail) => `(tactic| with_reducible refine g_nil ?_)
local macro_rules | `(tactic| fail) => `(tactic| with_reducible refine g_nm ?_)
local macro_rules | `(tactic| fail) => `(tactic| with_reducible refine ts_one ?_)
local macro_rules | `(tactic| fail) => `(tactic| with_reducible refine ts_nil ?_)
local macro_rules | `(tactic| fail) => `(tactic| with_reducible refine tr_int ?_)
local macro_rules | `(tactic| fail) => `(tactic| with_reducible refine tr_bl ?_)
local macro_rules | `(tactic| fail) => `(tactic| with_reducible refine tb_or ?_)
local macro_rules | `(tactic| fail) => `(tactic| with_reducible refine tb_and ?_)
local macro_rules | `(tactic| fail) => `(tactic| with_reducible refine tb_one ?_)
local macro_rules | `(tactic| fail) => `(tactic| with_reducible refine t_chain ?_)
local macro_rules | `(tactic| fail) => `(tactic| with_reducible refine t_sub ?_)
local macro_rules | `(tactic| fail) => `(tactic| with_reducible refine t_blt ?_)
local macro_rules | `(tactic| fail) => `(tactic| with_reducible refine t_call ?_)
local macro_rules | `(tactic| fail) => `(tactic| with_reducible refine t_cmp ?_)
local macro_rules | `(tactic| fail) => `(tactic| with_reducible refine t_nt ?_)
local macro_rules | `(tactic| fail) => `(tactic| with_reducible refine t_bop ?_)
local macro_rules | `(tactic| fail) => `(tactic| with_reducible refine vb_or ?_)
local macro_rules | `(tactic| fail) => `(tactic| with_reducible refine vb_and ?_)
local macro_rules | `(tactic| fail) => `(tactic| with_reducible refine vb_one ?_)
local macro_rules | `(tactic| fail) => `(tactic| with_reducible refine vo_some ?_)
local macro_rules | `(tactic| fail) => `(tactic| with_reducible refine vo_none ?_)
local macro_rules | `(tactic| fail) => `(tactic| with_reducible refine vs_cons ?_)
local macro_rules | `(tactic| fail) => `(tactic| with_reducible refine vs_nil ?_)
local macro_rules | `(tactic| fail) => `(tactic| with_reducible refine v_lc ?_)
local macro_rules | `(tactic| fail) => `(tactic| with_reducible refine v_mth ?_)
local macro_rules | `(tactic| fail) => `(tactic| with_reducible refine v_lzip ?_)
local macro_rules | `(tactic| fail) => `(tactic| with_reducible refine v_lrev ?_)
local macro_rules | `(tactic| fail) => `(tactic| with_reducible refine v_blt ?_)
local macro_rules | `(tactic| fail) => `(tactic| with_reducible refine v_call ?_)
local macro_rules | `(tactic| fail) => `(tactic| with_reducible refine v_slice ?_)
local macro_rules | `(tactic| fail) => `(tactic| with_reducible refine v_sub ?_)
local macro_rules | `(tactic| fail) => `(tactic| with_reducible refine v_lst ?_)
local macro_rules | `(tactic| fail) => `(tactic| with_reducible refine v_tup ?_)
local macro_rules | `(tactic| fail) => `(tactic| with_reducible refine v_ite ?_)
local macro_rules | `(tactic| fail) => `(tactic| with_reducible refine v_nt ?_)
local macro_rules | `(tactic| fail) => `(tactic| with_reducible refine v_bop ?_)
local macro_rules | `(tactic| fail) => `(tactic| with_reducible refine v_cmp ?_)
local macro_rules | `(tactic| fail) => `(tactic| with_reducible refine v_bin ?_)
local macro_rules | `(tactic| fail) => `(tactic| with_reducible refine v_bty ?_)
local macro_rules | `(tactic| fail) => `(tactic| with_reducible refine v_str ?_)
local macro_rules | `(tactic| fail) => `(tactic| with_reducible refine v_non ?_)
local macro_rules | `(tactic| fail) => `(tactic| with_reducible refine v_bl ?_)
local macro_rules | `(tactic| fail) => `(tactic| with_reducible refine v_int ?_)
local macro_rules | `(tactic| fail) => `(tactic| with_reducible refine s_cont ?_)
local macro_rules | `(tactic| fail) => `(tactic| with_reducible refine s_brk ?_)
local macro_rules | `(tactic| fail) => `(tactic| with_reducible refine s_nil ?_)
local macro_rules | `(tactic| fail) => `(tactic| with_reducible refine s_pass ?_)
local macro_rules | `(tactic| fail) => `(tactic| with_reducible refine s_retN ?_)
local macro_rules | `(tactic| fail) => `(tactic| with_reducible refine s_ret ?_)
local macro_rules | `(tactic| fail) => `(tactic| with_reducible refine s_ife ?_)
local macro_rules | `(tactic| fail) => `(tactic| with_reducible refine s_set ?_)
local macro_rules | `(tactic| fail) => `(tactic| with_reducible refine s_par ?_)
local macro_rules | `(tactic| fail) => `(tactic| with_reducible refine s_asg ?_)
local macro_rules | `(tactic| fail) => `(tactic| with_reducible refine s_ex ?_)

section
variable {S : Sto} {Q : D → Sto → Prop}
theorem o_min2 {a : Addr} {x y : Int} (e : S a = some (.lst [.int x, .int y])) (h : Q (.int (if y < x then y else x)) S) : wBlt .min [.ref a] S Q := by
  unfold wBlt
  simp only [e, intsOf, Option.map_some]
  refine ⟨Nat.le_of_ble_eq_true rfl, fun m h1 h2 => ?_⟩
  have a1 := h2 x (by simp)
  have a2 := h2 y (by simp)
  simp only [List.mem_cons, List.not_mem_nil, or_false] at h1
  have : m = if y < x then y else x := by split <;> omega
  rw [this]
  exact h
theorem o_max2 {a : Addr} {x y : Int} (e : S a = some (.lst [.int x, .int y])) (h : Q (.int (if x < y then y else x)) S) : wBlt .max [.ref a] S Q := by
  unfold wBlt
  simp only [e, intsOf, Option.map_some]
  refine ⟨Nat.le_of_ble_eq_true rfl, fun m h1 h2 => ?_⟩
  have a1 := h2 x (by simp)
  have a2 := h2 y (by simp)
  simp only [List.mem_cons, List.not_mem_nil, or_false] at h1
  have : m = if x < y then y else x := by split <;> omega
  rw [this]
  exact h
theorem i_rev {C : Cw} {ex : EX} {σ : StD} {S : Sto} {e : T} {R : List D → (Sto → Prop) → Sto → Prop} (h : wpE C ex e σ S fun d S1 => (∃ ds, d = .tup ds ∧ R ds.reverse (fun _ => True) S1) ∨ ∃ a ds, d = .ref a ∧ S1 a = some (.lst ds) ∧ R ds.reverse (fun S => S a = some (.lst ds)) S1) : wpI C ex (.rev e) σ S R := by
  unfold wpI
  have : (fun (d : D) S1 => (∃ ds, d = .tup ds ∧ R ds.reverse (fun _ => True) S1) ∨ ∃ a ds, d = .ref a ∧ S1 a = some (.lst ds) ∧ R ds.reverse (fun S => S a = some (.lst ds)) S1)
      = (fun (d : D) (S1 : Sto) => match d with | .tup ds => R ds.reverse (fun _ => True) S1 | .ref a => (match S1 a with | some (.lst ds) => R ds.reverse (fun S => S a = some (.lst ds)) S1 | _ => False) | _ => False) := by
    funext d S1
    cases d <;> simp
    rename_i a
    cases h1 : S1 a with
    | none => simp
    | some o => cases o <;> simp
  rw [this] at h
  exact h
end
section
variable {defs : Str → Option DefT} {gl : Str → Option D} {k : Nat} {S : Sto} {Q : D → Sto → Prop} {E : Exc → Sto → Prop}
theorem spec_made_of (hd : defs "made_of" = some dMadeOf) {ks : List Bool} {env : List D} (he : EnvOk ks env) {q : Pg} {t : Bool} {pp : Addr} {w : String} (hk : 1 ≤ k) (hok : q.ok ks t) (hS : S pp = some (.lst (q.kids.map (Pg.ev env))))
    (hw : (∃ a b, q = .least a b ∧ w = "least") ∨ (∃ a b, q = .most a b ∧ w = "most") ∨ (∃ a b, q = .atmost a b ∧ w = "atmost") ∨ (∃ a, q = .not a ∧ w = "not") ∨ (∃ a b, q = .both a b ∧ w = "both") ∨ (∃ a b, q = .either a b ∧ w = "either") ∨ (∃ c a b, q = .ife c a b ∧ w = "if"))
    (hq : Q (q.ev env) S) : sem defs gl k "made_of" [.str (Str.ofString w), .ref pp] S Q E := by
  obtain ⟨k, rfl⟩ : ∃ j, k = j + 1 := ⟨k - 1, by omega⟩
  rcases hw with ⟨a, b, rfl, rfl⟩ | ⟨a, b, rfl, rfl⟩ | ⟨a, b, rfl, rfl⟩ | ⟨a, rfl, rfl⟩ | ⟨a, b, rfl, rfl⟩ | ⟨a, b, rfl, rfl⟩ | ⟨c, a, b, rfl, rfl⟩
  · obtain ⟨_, h1, h2⟩ := hok
    obtain ⟨x, e1⟩ := ev_ok he a _ h1
    obtain ⟨y, e2⟩ := ev_ok he b _ h2
    simp only [Pg.kids, List.map_cons, List.map_nil, e1, e2] at hS
    simp only [Pg.ev, e1, e2] at hq
    (refine sem_of hd rfl ?_; unfold dMadeOf; simp only [startD, List.map_cons, List.map_nil, List.length_cons, List.length_nil, List.replicate_succ, List.replicate_zero, List.cons_append, List.nil_append, Nat.reduceAdd, Nat.reduceSub])
    (repeat fail)
    exact o_min2 hS hq
  · obtain ⟨_, h1, h2⟩ := hok
    obtain ⟨x, e1⟩ := ev_ok he a _ h1
    obtain ⟨y, e2⟩ := ev_ok he b _ h2
    simp only [Pg.kids, List.map_cons, List.map_nil, e1, e2] at hS
    simp only [Pg.ev, e1, e2] at hq
    (refine sem_of hd rfl ?_; unfold dMadeOf; simp only [startD, List.map_cons, List.map_nil, List.length_cons, List.length_nil, List.replicate_succ, List.replicate_zero, List.cons_append, List.nil_append, Nat.reduceAdd, Nat.reduceSub])
    (repeat fail)
    exact o_max2 hS hq
  · obtain ⟨_, h1, h2⟩ := hok
    obtain ⟨x, e1⟩ := ev_ok he a _ h1
    obtain ⟨y, e2⟩ := ev_ok he b _ h2
    simp only [Pg.kids, List.map_cons, List.map_nil, e1, e2] at hS
    simp only [Pg.ev, e1, e2] at hq
    (refine sem_of hd rfl ?_; unfold dMadeOf; simp only [startD, List.map_cons, List.map_nil, List.length_cons, List.length_nil, List.replicate_succ, List.replicate_zero, List.cons_append, List.nil_append, Nat.reduceAdd, Nat.reduceSub])
    (repeat fail)
    exact hq
  · obtain ⟨_, h1⟩ := hok
    obtain ⟨x, e1⟩ := ev_ok he a _ h1
    simp only [Pg.kids, List.map_cons, List.map_nil, e1] at hS
    simp only [Pg.ev, e1] at hq
    (refine sem_of hd rfl ?_; unfold dMadeOf; simp only [startD, List.map_cons, List.map_nil, List.length_cons, List.length_nil, List.replicate_succ, List.replicate_zero, List.cons_append, List.nil_append, Nat.reduceAdd, Nat.reduceSub])
    (repeat fail)
    exact hq
  · obtain ⟨_, h1, h2⟩ := hok
    obtain ⟨x, e1⟩ := ev_ok he a _ h1
    obtain ⟨y, e2⟩ := ev_ok he b _ h2
    simp only [Pg.kids, List.map_cons, List.map_nil, e1, e2] at hS
    simp only [Pg.ev, e1, e2] at hq
    cases x <;> ((refine sem_of hd rfl ?_; unfold dMadeOf; simp only [startD, List.map_cons, List.map_nil, List.length_cons, List.length_nil, List.replicate_succ, List.replicate_zero, List.cons_append, List.nil_append, Nat.reduceAdd, Nat.reduceSub]); (repeat fail); exact hq)
  · obtain ⟨_, h1, h2⟩ := hok
    obtain ⟨x, e1⟩ := ev_ok he a _ h1
    obtain ⟨y, e2⟩ := ev_ok he b _ h2
    simp only [Pg.kids, List.map_cons, List.map_nil, e1, e2] at hS
    simp only [Pg.ev, e1, e2] at hq
    cases x <;> ((refine sem_of hd rfl ?_; unfold dMadeOf; simp only [startD, List.map_cons, List.map_nil, List.length_cons, List.length_nil, List.replicate_succ, List.replicate_zero, List.cons_append, List.nil_append, Nat.reduceAdd, Nat.reduceSub]); (repeat fail); exact hq)
  · obtain ⟨h0, h1, h2⟩ := hok
    obtain ⟨x, e0⟩ := ev_ok he c _ h0
    simp only [Pg.kids, List.map_cons, List.map_nil, e0] at hS
    simp only [Pg.ev, e0] at hq
    cases x <;> ((refine sem_of hd rfl ?_; unfold dMadeOf; simp only [startD, List.map_cons, List.map_nil, List.length_cons, List.length_nil, List.replicate_succ, List.replicate_zero, List.cons_append, List.nil_append, Nat.reduceAdd, Nat.reduceSub]); (repeat fail); exact hq)
def ValI (S0 : Sto) (dp kp : Addr) (kl env : List D) (pd : D) (Dl : List D) (σ : StD) (S : Sto) : Prop :=
  S dp = some (.lst Dl) ∧ S kp = some (.lst kl) ∧ Off [dp] S0 S ∧ ∃ x3 x4, σ = [some pd, some (.tup env), some (.ref dp), x3, x4, none]
theorem val_node (hdm : defs "made_of" = some dMadeOf) (gP : gl "PARTS" = some partsG) {ks : List Bool} {env : List D} (he : EnvOk ks env) {S0 : Sto} {dp kp : Addr} {kl : List D} {pd : D} (hne : kp ≠ dp) {ex : EX} {nx : StD → Sto → Prop} {rt : D → Sto → Prop} {bk : StD → Sto → Prop} (hk : 1 ≤ k)
    (q : Pg) (t : Bool) (D0 : List D) (σ : StD) (S : Sto) (N : StD → Sto → Prop) (hok : q.ok ks t) (hI : ValI S0 dp kp kl env pd (D0 ++ (q.kids.map (Pg.ev env)).reverse) σ S) (hl : D0.length ≤ 1000000) (hN : ∀ σ' S', ValI S0 dp kp kl env pd (D0 ++ [q.ev env]) σ' S' → N σ' S') :
    wpG (.nm 3) q.d σ S fun σ' => wpSs ⟨sem defs gl k, gl⟩ ex [.asg (.nm 4) (.lc (.nm 5) (.rng1 (.sub (.glob "PARTS") (.sub (.var 3) (.int 0)))) [] [("part", 5)] (.mth .pop (.var 2) [])), .ife (.cmp .Eq (.sub (.var 3) (.int 0)) (.str "in")) [.ex (.mth .append (.var 2) [(.sub (.var 1) (.sub (.var 3) (.int 1)))])] [.ife (.cmp .Eq (.sub (.var 3) (.int 0)) (.str "num")) [.ex (.mth .append (.var 2) [(.sub (.var 3) (.int 1))])] [.ife (.bop .Or [(.cmp .Eq (.sub (.var 3) (.int 0)) (.str "yes")), (.cmp .Eq (.sub (.var 3) (.int 0)) (.str "no"))]) [.ex (.mth .append (.var 2) [(.cmp .Eq (.sub (.var 3) (.int 0)) (.str "yes"))])] [.ife (.cmp .Eq (.sub (.var 3) (.int 0)) (.str "plus")) [.ex (.mth .append (.var 2) [(.bin .Add (.sub (.var 3) (.int 1)) (.sub (.var 4) (.int 0)))])] [.ex (.mth .append (.var 2) [(.call "made_of" [(.sub (.var 3) (.int 0)), (.var 4)])])]]]]] { nx := N, rt := rt, bk := bk, ct := N } σ' S := by
  obtain ⟨h1, h2, h3, x3, x4, rfl⟩ := hI
  have fin : ∀ {p : Addr} {S' : Sto}, S' dp = some (.lst D0) → Off [dp] S S' → S' p = none → N [some pd, some (.tup env), some (.ref dp), some q.d, some (.ref p), none] (updS (updS S' p (.lst (q.kids.map (Pg.ev env)))) dp (.lst (D0 ++ [q.ev env]))) := fun {p S'} g1 g2 g3 => by
    refine hN _ _ ⟨updS_same, ?_, ?_, _, _, rfl⟩
    · rw [updS_ne hne]; exact upd_at g3 (g2 kp _ (by simpa using hne) h2)
    · exact ((h3.trans g2).trans (Off.new g3)).trans (Off.upd (by simp))
  have lenD0 : D0.length < sizeLine := by rw [sizeLine_eq]; omega
  cases q with
  | inp i =>
    obtain ⟨v, ev, hv⟩ := he.2 i t hok
    have ee : Pg.ev env (.inp i) = v := by simp [Pg.ev, ev]
    rw [ee] at fin
    simp only [Pg.d]
    (repeat fail)
    refine ⟨by omega, by omega, ?_⟩
    refine lc_pop _ D0 [] _ S (by simp [Pg.kids]) h1 (by simp [Pg.kids]) fun p S' g1 g2 g3 => ?_
    rw [List.nil_append]
    have e1 := upd_at (u := .lst ((Pg.inp i).kids.map (Pg.ev env))) g3 g1
    (repeat fail)
    refine o_subT (atI_nat ev) ?_
    (repeat fail)
    refine o_append e1 lenD0 ?_
    (repeat fail)
    exact fin g1 g2 g3
  | num n =>
    simp only [Pg.d]
    (repeat fail)
    refine ⟨by omega, by omega, ?_⟩
    refine lc_pop _ D0 [] _ S (by simp [Pg.kids]) h1 (by simp [Pg.kids]) fun p S' g1 g2 g3 => ?_
    rw [List.nil_append]
    have e1 := upd_at (u := .lst ((Pg.num n).kids.map (Pg.ev env))) g3 g1
    (repeat fail)
    refine o_append e1 lenD0 ?_
    (repeat fail)
    exact fin g1 g2 g3
  | yes =>
    simp only [Pg.d]
    (repeat fail)
    refine ⟨by omega, by omega, ?_⟩
    refine lc_pop _ D0 [] _ S (by simp [Pg.kids]) h1 (by simp [Pg.kids]) fun p S' g1 g2 g3 => ?_
    rw [List.nil_append]
    have e1 := upd_at (u := .lst (Pg.yes.kids.map (Pg.ev env))) g3 g1
    (repeat fail)
    refine o_append e1 lenD0 ?_
    (repeat fail)
    exact fin g1 g2 g3
  | no =>
    simp only [Pg.d]
    (repeat fail)
    refine ⟨by omega, by omega, ?_⟩
    refine lc_pop _ D0 [] _ S (by simp [Pg.kids]) h1 (by simp [Pg.kids]) fun p S' g1 g2 g3 => ?_
    rw [List.nil_append]
    have e1 := upd_at (u := .lst (Pg.no.kids.map (Pg.ev env))) g3 g1
    (repeat fail)
    refine o_append e1 lenD0 ?_
    (repeat fail)
    exact fin g1 g2 g3
  | plus n a =>
    obtain ⟨x, ea⟩ := ev_ok he a _ hok.2
    have ee : Pg.ev env (.plus n a) = .int (n + x) := by simp [Pg.ev, ea]
    have ek : (Pg.plus n a).kids.map (Pg.ev env) = [.int x] := by simp [Pg.kids, ea]
    rw [ee, ek] at fin
    rw [ek] at h1
    simp only [Pg.d]
    (repeat fail)
    refine ⟨by omega, by omega, ?_⟩
    refine lc_pop _ D0 [] _ S (by simp [Pg.kids]) h1 (by simp [Pg.kids]) fun p S' g1 g2 g3 => ?_
    rw [List.nil_append]
    have e1 := upd_at (u := .lst [.int x]) g3 g1
    (repeat fail)
    refine o_append e1 lenD0 ?_
    (repeat fail)
    exact fin g1 g2 g3
  | least a b =>
    simp only [Pg.d]
    (repeat fail)
    refine ⟨by omega, by omega, ?_⟩
    refine lc_pop _ D0 [] _ S (by simp [Pg.kids]) h1 (by simp [Pg.kids]) fun p S' g1 g2 g3 => ?_
    rw [List.nil_append]
    have e1 := upd_at (u := .lst ((Pg.least a b).kids.map (Pg.ev env))) g3 g1
    (repeat fail)
    refine spec_made_of hdm he (q := (.least a b)) (w := "least") hk hok updS_same (.inl ⟨a, b, rfl, rfl⟩) ?_
    (repeat fail)
    refine o_append e1 lenD0 ?_
    (repeat fail)
    exact fin g1 g2 g3
  | most a b =>
    simp only [Pg.d]
    (repeat fail)
    refine ⟨by omega, by omega, ?_⟩
    refine lc_pop _ D0 [] _ S (by simp [Pg.kids]) h1 (by simp [Pg.kids]) fun p S' g1 g2 g3 => ?_
    rw [List.nil_append]
    have e1 := upd_at (u := .lst ((Pg.most a b).kids.map (Pg.ev env))) g3 g1
    (repeat fail)
    refine spec_made_of hdm he (q := (.most a b)) (w := "most") hk hok updS_same (.inr (.inl ⟨a, b, rfl, rfl⟩)) ?_
    (repeat fail)
    refine o_append e1 lenD0 ?_
    (repeat fail)
    exact fin g1 g2 g3
  | atmost a b =>
    simp only [Pg.d]
    (repeat fail)
    refine ⟨by omega, by omega, ?_⟩
    refine lc_pop _ D0 [] _ S (by simp [Pg.kids]) h1 (by simp [Pg.kids]) fun p S' g1 g2 g3 => ?_
    rw [List.nil_append]
    have e1 := upd_at (u := .lst ((Pg.atmost a b).kids.map (Pg.ev env))) g3 g1
    (repeat fail)
    refine spec_made_of hdm he (q := (.atmost a b)) (w := "atmost") hk hok updS_same (.inr (.inr (.inl ⟨a, b, rfl, rfl⟩))) ?_
    (repeat fail)
    refine o_append e1 lenD0 ?_
    (repeat fail)
    exact fin g1 g2 g3
  | not a =>
    simp only [Pg.d]
    (repeat fail)
    refine ⟨by omega, by omega, ?_⟩
    refine lc_pop _ D0 [] _ S (by simp [Pg.kids]) h1 (by simp [Pg.kids]) fun p S' g1 g2 g3 => ?_
    rw [List.nil_append]
    have e1 := upd_at (u := .lst ((Pg.not a).kids.map (Pg.ev env))) g3 g1
    (repeat fail)
    refine spec_made_of hdm he (q := (.not a)) (w := "not") hk hok updS_same (.inr (.inr (.inr (.inl ⟨a, rfl, rfl⟩)))) ?_
    (repeat fail)
    refine o_append e1 lenD0 ?_
    (repeat fail)
    exact fin g1 g2 g3
  | both a b =>
    simp only [Pg.d]
    (repeat fail)
    refine ⟨by omega, by omega, ?_⟩
    refine lc_pop _ D0 [] _ S (by simp [Pg.kids]) h1 (by simp [Pg.kids]) fun p S' g1 g2 g3 => ?_
    rw [List.nil_append]
    have e1 := upd_at (u := .lst ((Pg.both a b).kids.map (Pg.ev env))) g3 g1
    (repeat fail)
    refine spec_made_of hdm he (q := (.both a b)) (w := "both") hk hok updS_same (.inr (.inr (.inr (.inr (.inl ⟨a, b, rfl, rfl⟩))))) ?_
    (repeat fail)
    refine o_append e1 lenD0 ?_
    (repeat fail)
    exact fin g1 g2 g3
  | either a b =>
    simp only [Pg.d]
    (repeat fail)
    refine ⟨by omega, by omega, ?_⟩
    refine lc_pop _ D0 [] _ S (by simp [Pg.kids]) h1 (by simp [Pg.kids]) fun p S' g1 g2 g3 => ?_
    rw [List.nil_append]
    have e1 := upd_at (u := .lst ((Pg.either a b).kids.map (Pg.ev env))) g3 g1
    (repeat fail)
    refine spec_made_of hdm he (q := (.either a b)) (w := "either") hk hok updS_same (.inr (.inr (.inr (.inr (.inr (.inl ⟨a, b, rfl, rfl⟩)))))) ?_
    (repeat fail)
    refine o_append e1 lenD0 ?_
    (repeat fail)
    exact fin g1 g2 g3
  | ife c a b =>
    simp only [Pg.d]
    (repeat fail)
    refine ⟨by omega, by omega, ?_⟩
    refine lc_pop _ D0 [] _ S (by simp [Pg.kids]) h1 (by simp [Pg.kids]) fun p S' g1 g2 g3 => ?_
    rw [List.nil_append]
    have e1 := upd_at (u := .lst ((Pg.ife c a b).kids.map (Pg.ev env))) g3 g1
    (repeat fail)
    refine spec_made_of hdm he (q := (.ife c a b)) (w := "if") hk hok updS_same (.inr (.inr (.inr (.inr (.inr (.inr (⟨c, a, b, rfl, rfl⟩))))))) ?_
    (repeat fail)
    refine o_append e1 lenD0 ?_
    (repeat fail)
    exact fin g1 g2 g3
end
end Z

set_option Elab.async false
set_option linter.all false
set_option maxRecDepth 100000
set_option maxHeartbeats 400000
namespace Z
open PySem PySem.Spec PyProof.Rows L2
theorem o_eqB {S : Sto} {Q : D → Sto → Prop} {a b : Bool} (h : Q (.bl (a == b)) S) : wCmp .Eq (.bl a) (.bl b) S Q := by
  unfold wCmp wEq; simp only [toPS, toP]
  refine ⟨shB a, shB b, ?_⟩
  have e : PyData.eqv (.bool a) (.bool b) = (a == b) := by simp only [PyData.eqv]
  rw [e]
  exact h
local macro_rules | `(tactic| fail) => `(tactic| refine ⟨Nat.le_of_ble_eq_true rfl, ?_⟩)
local macro_rules | `(tactic| fail) => `(tactic| with_reducible refine ⟨_, rfl, ?_⟩)
local macro_rules | `(tactic| fail) => `(tactic| ((with_reducible apply o_sliceT); (focus rfl)))
local macro_rules | `(tactic| fail) => `(tactic| ((with_reducible apply o_inTf); (focus rfl); (focus rfl); (focus (simp [inF, eqF, str_beq]; done))))
local macro_rules | `(tactic| fail) => `(tactic| ((with_reducible apply o_inTt); (focus rfl); (focus rfl); (focus (simp [inF, eqF, str_beq]; done))))
local macro_rules | `(tactic| fail) => `(tactic| ((with_reducible apply o_subC); (focus (repeat (first | with_reducible exact lk_hit | ((with_reducible apply lk_miss); (focus (exact str_ne (by decide)))))))))
local macro_rules | `(tactic| fail) => `(tactic| ((with_reducible apply o_inC); (focus (repeat (first | with_reducible exact lk_hit | ((with_reducible apply lk_miss); (focus (exact str_ne (by decide)))))))))
local macro_rules | `(tactic| fail) => `(tactic| ((with_reducible apply o_ninC); (focus (repeat (first | with_reducible exact lk_hit | ((with_reducible apply lk_miss); (focus (exact str_ne (by decide)))))))))
local macro_rules | `(tactic| fail) => `(tactic| ((with_reducible apply o_isinF); (focus rfl); (focus (decide +kernel))))
local macro_rules | `(tactic| fail) => `(tactic| ((with_reducible apply o_isinT); (focus rfl); (focus (decide +kernel))))
local macro_rules | `(tactic| fail) => `(tactic| with_reducible refine i_enm ?_)
local macro_rules | `(tactic| fail) => `(tactic| ((with_reducible apply g_tup); (focus rfl); (focus rfl)))
local macro_rules | `(tactic| fail) => `(tactic| ((with_reducible apply v_dctN); (focus (decide +kernel))))
local macro_rules | `(tactic| fail) => `(tactic| ((with_reducible apply o_len); (focus (exact len_ref (by (first | assumption | exact updS_same | exact upd_at (by assumption) (by assumption)))))))
local macro_rules | `(tactic| fail) => `(tactic| ((with_reducible apply o_tuple); (focus (first | rfl | exact items_ref (by (first | assumption | exact updS_same | exact upd_at (by assumption) (by assumption)))))))
local macro_rules | `(tactic| fail) => `(tactic| ((with_reducible apply o_get2); (focus (first | assumption | exact updS_same | exact upd_at (by assumption) (by assumption))); (focus rfl); (focus (repeat (first | with_reducible exact getD_hit | with_reducible exact getD_nil | ((with_reducible apply getD_miss); (focus (exact str_ne (by decide)))))))))
local macro_rules | `(tactic| fail) => `(tactic| ((with_reducible apply o_get1); (focus (first | assumption | exact updS_same | exact upd_at (by assumption) (by assumption))); (focus rfl); (focus (repeat (first | with_reducible exact getD_hit | with_reducible exact getD_nil | ((with_reducible apply getD_miss); (focus (exact str_ne (by decide)))))))))
local macro_rules | `(tactic| fail) => `(tactic| (refine And.intro ?_ ?_; (focus (first | exact recvL (by (first | assumption | exact updS_same | exact upd_at (by assumption) (by assumption))) rfl | exact recvD (by (first | assumption | exact updS_same | exact upd_at (by assumption) (by assumption))) rfl))))
local macro_rules | `(tactic| fail) => `(tactic| ((with_reducible apply o_subD); (focus (first | assumption | exact updS_same | exact upd_at (by assumption) (by assumption))); (focus rfl); (focus (repeat (first | with_reducible exact lookD_hit | ((with_reducible apply look_miss); (focus (exact str_ne (by decide)))))))))
local macro_rules | `(tactic| fail) => `(tactic| ((with_reducible apply c_ndF); (focus (((try simp only [List.length_cons, List.length_nil, List.length_append, List.length_map]); omega)))))
local macro_rules | `(tactic| fail) => `(tactic| ((with_reducible apply c_ndT); (focus (((try simp only [List.length_cons, List.length_nil, List.length_append, List.length_map]); omega)))))
local macro_rules | `(tactic| fail) => `(tactic| with_reducible refine o_intB ?_)
local macro_rules | `(tactic| fail) => `(tactic| ((with_reducible apply c_decF); (focus (((try simp only [List.length_cons, List.length_nil, List.length_append, List.length_map]); omega)))))
local macro_rules | `(tactic| fail) => `(tactic| ((with_reducible apply c_decT); (focus (((try simp only [List.length_cons, List.length_nil, List.length_append, List.length_map]); omega)))))
local macro_rules | `(tactic| fail) => `(tactic| with_reducible refine c_notf ?_)
local macro_rules | `(tactic| fail) => `(tactic| with_reducible refine c_nott ?_)
local macro_rules | `(tactic| fail) => `(tactic| with_reducible refine o_eqI ?_)
local macro_rules | `(tactic| fail) => `(tactic| ((with_reducible apply o_eqIf); (focus (((try simp only [List.length_cons, List.length_nil, List.length_append, List.length_map]); omega)))))
local macro_rules | `(tactic| fail) => `(tactic| ((with_reducible apply o_eqIt); (focus (((try simp only [List.length_cons, List.length_nil, List.length_append, List.length_map]); omega)))))
local macro_rules | `(tactic| fail) => `(tactic| with_reducible refine o_isB ?_)
local macro_rules | `(tactic| fail) => `(tactic| with_reducible refine o_isN ?_)
local macro_rules | `(tactic| fail) => `(tactic| with_reducible refine o_isR ?_)
local macro_rules | `(tactic| fail) => `(tactic| with_reducible refine o_eqB ?_)
local macro_rules | `(tactic| fail) => `(tactic| with_reducible refine o_neII ?_)
local macro_rules | `(tactic| fail) => `(tactic| with_reducible refine o_neBB ?_)
local macro_rules | `(tactic| fail) => `(tactic| ((with_reducible apply o_eqSf); (focus decide)))
local macro_rules | `(tactic| fail) => `(tactic| with_reducible refine o_eqSt ?_)
local macro_rules | `(tactic| fail) => `(tactic| ((with_reducible apply o_len); focus (first | rfl | (simp only [lenD]; simp only [*]; done))))
local macro_rules | `(tactic| fail) => `(tactic| ((with_reducible apply o_setL); (focus (first | assumption | exact updS_same | exact upd_at (by assumption) (by assumption))); (focus rfl)))
local macro_rules | `(tactic| fail) => `(tactic| ((with_reducible apply o_subT); focus (rfl)))
local macro_rules | `(tactic| fail) => `(tactic| ((with_reducible apply o_subL); (focus (first | assumption | exact updS_same | exact upd_at (by assumption) (by assumption))); (focus rfl)))
local macro_rules | `(tactic| fail) => `(tactic| ((with_reducible apply o_pow); focus (unfold CPow; omega)))
local macro_rules | `(tactic| fail) => `(tactic| ((with_reducible apply o_mod); focus (omega)))
local macro_rules | `(tactic| fail) => `(tactic| ((with_reducible apply o_div); focus (unfold CDiv; omega)))
local macro_rules | `(tactic| fail) => `(tactic| ((with_reducible apply o_mul); focus (unfold CMul; omega)))
local macro_rules | `(tactic| fail) => `(tactic| ((with_reducible apply v_glob); focus (first | assumption | rfl)))
local macro_rules | `(tactic| fail) => `(tactic| ((with_reducible apply t_var); focus (rfl)))
local macro_rules | `(tactic| fail) => `(tactic| ((with_reducible apply v_var); focus (rfl)))
local macro_rules | `(tactic| fail) => `(tactic| with_reducible refine c_false ?_)
local macro_rules | `(tactic| fail) => `(tactic| with_reducible refine c_true ?_)
local macro_rules | `(tactic| fail) => `(tactic| with_reducible refine o_ge ?_)
local macro_rules | `(tactic| fail) => `(tactic| with_reducible refine o_gt ?_)
local macro_rules | `(tactic| fail) => `(tactic| with_reducible refine o_le ?_)
local macro_rules | `(tactic| fail) => `(tactic| with_reducible refine o_lt ?_)
local macro_rules | `(tactic| fail) => `(tactic| with_reducible refine o_sub ?_)
local macro_rules | `(tactic| fail) => `(tactic| with_reducible refine o_add ?_)
local macro_rules | `(tactic| fail) => `(tactic| with_reducible refine i_rng1 ?_)
local macro_rules | `(tactic| fail) => `(tactic| with_reducible refine i_seq ?_)
local macro_rules | `(tactic| fail) => `(tactic| with_reducible refine g_cons ?_)
local macro_rules | `(tactic| fail) => `(tactic| with_reducible refine g_nil ?_)
local macro_rules | `(tactic| fail) => `(tactic| with_reducible refine g_nm ?_)
local macro_rules | `(tactic| fail) => `(tactic| with_reducible refine ts_one ?_)
local macro_rules | `(tactic| fail) => `(tactic| with_reducible refine ts_nil ?_)
local macro_rules | `(tactic| fail) => `(tactic| with_reducible refine tr_int ?_)
local macro_rules | `(tactic| fail) => `(tactic| with_reducible refine tr_bl ?_)
local macro_rules | `(tactic| fail) => `(tactic| with_reducible refine tb_or ?_)
local macro_rules | `(tactic| fail) => `(tactic| with_reducible refine tb_and ?_)
local macro_rules | `(tactic| fail) => `(tactic| with_reducible refine tb_one ?_)
local macro_rules | `(tactic| fail) => `(tactic| with_reducible refine t_chain ?_)
local macro_rules | `(tactic| fail) => `(tactic| with_reducible refine t_sub ?_)
local macro_rules | `(tactic| fail) => `(tactic| with_reducible refine t_blt ?_)
local macro_rules | `(tactic| fail) => `(tactic| with_reducible refine t_call ?_)
local macro_rules | `(tactic| fail) => `(tactic| with_reducible refine t_cmp ?_)
local macro_rules | `(tactic| fail) => `(tactic| with_reducible refine t_nt ?_)
local macro_rules | `(tactic| fail) => `(tactic| with_reducible refine t_bop ?_)
local macro_rules | `(tactic| fail) => `(tactic| with_reducible refine vb_or ?_)
local macro_rules | `(tactic| fail) => `(tactic| with_reducible refine vb_and ?_)
local macro_rules | `(tactic| fail) => `(tactic| with_reducible refine vb_one ?_)
local macro_rules | `(tactic| fail) => `(tactic| with_reducible refine vo_some ?_)
local macro_rules | `(tactic| fail) => `(tactic| with_reducible refine vo_none ?_)
local macro_rules | `(tactic| fail) => `(tactic| with_reducible refine vs_cons ?_)
local macro_rules | `(tactic| fail) => `(tactic| with_reducible refine vs_nil ?_)
local macro_rules | `(tactic| fail) => `(tactic| with_reducible refine v_lc ?_)
local macro_rules | `(tactic| fail) => `(tactic| with_reducible refine v_mth ?_)
local macro_rules | `(tactic| fail) => `(tactic| with_reducible refine v_lzip ?_)
local macro_rules | `(tactic| fail) => `(tactic| with_reducible refine v_lrev ?_)
local macro_rules | `(tactic| fail) => `(tactic| with_reducible refine v_blt ?_)
local macro_rules | `(tactic| fail) => `(tactic| with_reducible refine v_call ?_)
local macro_rules | `(tactic| fail) => `(tactic| with_reducible refine v_slice ?_)
local macro_rules | `(tactic| fail) => `(tactic| with_reducible refine v_sub ?_)
local macro_rules | `(tactic| fail) => `(tactic| with_reducible refine v_lst ?_)
local macro_rules | `(tactic| fail) => `(tactic| with_reducible refine v_tup ?_)
local macro_rules | `(tactic| fail) => `(tactic| with_reducible refine v_ite ?_)
local macro_rules | `(tactic| fail) => `(tactic| with_reducible refine v_nt ?_)
local macro_rules | `(tactic| fail) => `(tactic| with_reducible refine v_bop ?_)
local macro_rules | `(tactic| fail) => `(tactic| with_reducible refine v_cmp ?_)
local macro_rules | `(tactic| fail) => `(tactic| with_reducible refine v_bin ?_)
local macro_rules | `(tactic| fail) => `(tactic| with_reducible refine v_bty ?_)
local macro_rules | `(tactic| fail) => `(tactic| with_reducible refine v_str ?_)
local macro_rules | `(tactic| fail) => `(tactic| with_reducible refine v_non ?_)
local macro_rules | `(tactic| fail) => `(tactic| with_reducible refine v_bl ?_)
local macro_rules | `(tactic| fail) => `(tactic| with_reducible refine v_int ?_)
local macro_rules | `(tactic| fail) => `(tactic| with_reducible refine s_cont ?_)
local macro_rules | `(tactic| fail) => `(tactic| with_reducible refine s_brk ?_)
local macro_rules | `(tactic| fail) => `(tactic| with_reducible refine s_nil ?_)
local macro_rules | `(tactic| fail) => `(tactic| with_reducible refine s_pass ?_)
local macro_rules | `(tactic| fail) => `(tactic| with_reducible refine s_retN ?_)
local macro_rules | `(tactic| fail) => `(tactic| with_reducible refine s_ret ?_)
local macro_rules | `(tactic| fail) => `(tactic| with_reducible refine s_ife ?_)
local macro_rules | `(tactic| fail) => `(tactic| with_reducible refine s_set ?_)
local macro_rules | `(tactic| fail) => `(tactic| with_reducible refine s_par ?_)
local macro_rules | `(tactic| fail) => `(tactic| with_reducible refine s_asg ?_)
local macro_rules | `(tactic| fail) => `(tactic| with_reducible refine s_ex ?_)

section
variable {defs : Str → Option DefT} {gl : Str → Option D} {k : Nat} {S : Sto} {Q : D → Sto → Prop} {E : Exc → Sto → Prop}
theorem spec_value (hd : defs "value" = some dValue) (hdm : defs "made_of" = some dMadeOf) (hdk : defs "knots" = some dKnots) (hd1 : defs "has_form" = some dHasForm) (hd2 : defs "is_whole" = some dIsWhole) (hd3 : defs "parts_of" = some dPartsOf) (gP : gl "PARTS" = some partsG) (gN : gl "NUMBERED" = some numG)
    {ks : List Bool} {env : List D} (he : EnvOk ks env) {p : Pg} {t : Bool} (hok : p.ok ks t) (hk : 4 ≤ k) (hs : p.size ≤ 1000000) (hq : ∀ S', Off [] S S' → Q (p.ev env) S') : sem defs gl k "value" [p.d, .tup env] S Q E := by
  obtain ⟨k, rfl⟩ : ∃ j, k = j + 1 := ⟨k - 1, by omega⟩
  (refine sem_of hd rfl ?_; unfold dValue; simp only [startD, List.map_cons, List.map_nil, List.length_cons, List.length_nil, List.replicate_succ, List.replicate_zero, List.cons_append, List.nil_append, Nat.reduceAdd, Nat.reduceSub])
  (repeat fail)
  intro dp hdp
  (repeat fail)
  refine s_fr (i_rev ?_)
  (repeat fail)
  refine spec_knots hdk hd1 hd2 hd3 gP gN (by omega) hs fun kp S1 h1 h2 o1 => ?_
  refine .inr ⟨kp, _, rfl, h2, ?_⟩
  have hne : kp ≠ dp := fun z => by subst z; rw [updS_same] at h1; cases h1
  have e1 : S1 dp = some (.lst []) := o1 dp _ (by simp) updS_same
  rw [← List.append_nil (List.reverse _)]
  refine tree_for (Inv := ValI S1 dp kp (p.pre.map Pg.d) env p.d) (ks := ks) (env := env) (fun Dl σ S hI => hI.2.1) ?_ p t [] [] _ _ hok ⟨e1, h2, Off.refl _ _, _, _, rfl⟩ (by simpa using hs) fun σ' S' hI => ?_
  · intro q t D0 σ S N g1 g2 g3 g4
    exact val_node (nx := fun _ _ => True) hdm gP he hne (by omega) q t D0 σ S N g1 g2 g3 g4
  · obtain ⟨i1, i2, i3, x3, x4, rfl⟩ := hI
    refine ⟨i2, ?_⟩
    simp only [List.nil_append] at i1
    (repeat fail)
    exact hq S' (Off.drop (p := dp) (((Off.new hdp).trans (o1.mono (by simp))).trans i3) hdp)
end
end Z

set_option Elab.async false
set_option linter.all false
set_option maxRecDepth 100000
set_option maxHeartbeats 400000
namespace Z
open PySem PySem.Spec PyProof.Rows L2
section
variable {S : Sto} {Q : D → Sto → Prop}
theorem o_neBB {b : Bool} (h : Q (.bl false) S) : wCmp .NotEq (.bl b) (.bl b) S Q := by
  unfold wCmp wEq; simp only [toPS, toP]
  refine ⟨shB b, shB b, ?_⟩
  have e : PyData.eqv (.bool b) (.bool b) = true := by simp [PyData.eqv]
  rw [e]
  exact h
theorem o_neII {b : Int} (h : Q (.bl false) S) : wCmp .NotEq (.int b) (.int b) S Q := by
  unfold wCmp wEq; simp only [toPS, toP]
  refine ⟨shI b, shI b, ?_⟩
  have e : PyData.eqv (.int b) (.int b) = true := by simp [PyData.eqv]
  rw [e]
  exact h
theorem o_neSS {b : Str} (hb : PyData.strOk b = true) (h : Q (.bl false) S) : wCmp .NotEq (.str b) (.str b) S Q := by
  have sh : SeqAt.shaped (.str b) = true := by
    unfold SeqAt.shaped
    simp only [PyData.canLay0, PyData.depth, hb, Bool.true_and]
    rfl
  unfold wCmp wEq; simp only [toPS, toP]
  refine ⟨sh, sh, ?_⟩
  have e : PyData.eqv (.str b) (.str b) = true := by simp [PyData.eqv]
  rw [e]
  exact h
end
section
variable {defs : Str → Option DefT} {gl : Str → Option D} {k : Nat} {S : Sto} {Q : D → Sto → Prop} {E : Exc → Sto → Prop}
local macro_rules | `(tactic| fail) => `(tactic| refine ⟨Nat.le_of_ble_eq_true rfl, ?_⟩)
local macro_rules | `(tactic| fail) => `(tactic| with_reducible refine ⟨_, rfl, ?_⟩)
local macro_rules | `(tactic| fail) => `(tactic| ((with_reducible apply o_sliceT); (focus rfl)))
local macro_rules | `(tactic| fail) => `(tactic| ((with_reducible apply o_inTf); (focus rfl); (focus rfl); (focus (simp [inF, eqF, str_beq]; done))))
local macro_rules | `(tactic| fail) => `(tactic| ((with_reducible apply o_inTt); (focus rfl); (focus rfl); (focus (simp [inF, eqF, str_beq]; done))))
local macro_rules | `(tactic| fail) => `(tactic| ((with_reducible apply o_subC); (focus (repeat (first | with_reducible exact lk_hit | ((with_reducible apply lk_miss); (focus (exact str_ne (by decide)))))))))
local macro_rules | `(tactic| fail) => `(tactic| ((with_reducible apply o_inC); (focus (repeat (first | with_reducible exact lk_hit | ((with_reducible apply lk_miss); (focus (exact str_ne (by decide)))))))))
local macro_rules | `(tactic| fail) => `(tactic| ((with_reducible apply o_ninC); (focus (repeat (first | with_reducible exact lk_hit | ((with_reducible apply lk_miss); (focus (exact str_ne (by decide)))))))))
local macro_rules | `(tactic| fail) => `(tactic| ((with_reducible apply o_isinF); (focus rfl); (focus (decide +kernel))))
local macro_rules | `(tactic| fail) => `(tactic| ((with_reducible apply o_isinT); (focus rfl); (focus (decide +kernel))))
local macro_rules | `(tactic| fail) => `(tactic| with_reducible refine i_enm ?_)
local macro_rules | `(tactic| fail) => `(tactic| ((with_reducible apply g_tup); (focus rfl); (focus rfl)))
local macro_rules | `(tactic| fail) => `(tactic| ((with_reducible apply v_dctN); (focus (decide +kernel))))
local macro_rules | `(tactic| fail) => `(tactic| ((with_reducible apply o_len); (focus (exact len_ref (by (first | assumption | exact updS_same | exact upd_at (by assumption) (by assumption)))))))
local macro_rules | `(tactic| fail) => `(tactic| ((with_reducible apply o_tuple); (focus (first | rfl | exact items_ref (by (first | assumption | exact updS_same | exact upd_at (by assumption) (by assumption)))))))
local macro_rules | `(tactic| fail) => `(tactic| ((with_reducible apply o_get2); (focus (first | assumption | exact updS_same | exact upd_at (by assumption) (by assumption))); (focus rfl); (focus (repeat (first | with_reducible exact getD_hit | with_reducible exact getD_nil | ((with_reducible apply getD_miss); (focus (exact str_ne (by decide)))))))))
local macro_rules | `(tactic| fail) => `(tactic| ((with_reducible apply o_get1); (focus (first | assumption | exact updS_same | exact upd_at (by assumption) (by assumption))); (focus rfl); (focus (repeat (first | with_reducible exact getD_hit | with_reducible exact getD_nil | ((with_reducible apply getD_miss); (focus (exact str_ne (by decide)))))))))
local macro_rules | `(tactic| fail) => `(tactic| (refine And.intro ?_ ?_; (focus (first | exact recvL (by (first | assumption | exact updS_same | exact upd_at (by assumption) (by assumption))) rfl | exact recvD (by (first | assumption | exact updS_same | exact upd_at (by assumption) (by assumption))) rfl))))
local macro_rules | `(tactic| fail) => `(tactic| ((with_reducible apply o_subD); (focus (first | assumption | exact updS_same | exact upd_at (by assumption) (by assumption))); (focus rfl); (focus (repeat (first | with_reducible exact lookD_hit | ((with_reducible apply look_miss); (focus (exact str_ne (by decide)))))))))
local macro_rules | `(tactic| fail) => `(tactic| ((with_reducible apply c_ndF); (focus (((try simp only [List.length_cons, List.length_nil, List.length_append, List.length_map]); omega)))))
local macro_rules | `(tactic| fail) => `(tactic| ((with_reducible apply c_ndT); (focus (((try simp only [List.length_cons, List.length_nil, List.length_append, List.length_map]); omega)))))
local macro_rules | `(tactic| fail) => `(tactic| with_reducible refine o_intB ?_)
local macro_rules | `(tactic| fail) => `(tactic| ((with_reducible apply c_decF); (focus (((try simp only [List.length_cons, List.length_nil, List.length_append, List.length_map]); omega)))))
local macro_rules | `(tactic| fail) => `(tactic| ((with_reducible apply c_decT); (focus (((try simp only [List.length_cons, List.length_nil, List.length_append, List.length_map]); omega)))))
local macro_rules | `(tactic| fail) => `(tactic| with_reducible refine c_notf ?_)
local macro_rules | `(tactic| fail) => `(tactic| with_reducible refine c_nott ?_)
local macro_rules | `(tactic| fail) => `(tactic| with_reducible refine o_eqI ?_)
local macro_rules | `(tactic| fail) => `(tactic| ((with_reducible apply o_eqIf); (focus (((try simp only [List.length_cons, List.length_nil, List.length_append, List.length_map]); omega)))))
local macro_rules | `(tactic| fail) => `(tactic| ((with_reducible apply o_eqIt); (focus (((try simp only [List.length_cons, List.length_nil, List.length_append, List.length_map]); omega)))))
local macro_rules | `(tactic| fail) => `(tactic| with_reducible refine o_isB ?_)
local macro_rules | `(tactic| fail) => `(tactic| with_reducible refine o_isN ?_)
local macro_rules | `(tactic| fail) => `(tactic| with_reducible refine o_isR ?_)
local macro_rules | `(tactic| fail) => `(tactic| with_reducible refine o_eqB ?_)
local macro_rules | `(tactic| fail) => `(tactic| with_reducible refine o_neII ?_)
local macro_rules | `(tactic| fail) => `(tactic| with_reducible refine o_neBB ?_)
local macro_rules | `(tactic| fail) => `(tactic| ((with_reducible apply o_eqSf); (focus decide)))
local macro_rules | `(tactic| fail) => `(tactic| with_reducible refine o_eqSt ?_)
local macro_rules | `(tactic| fail) => `(tactic| ((with_reducible apply o_len); focus (first | rfl | (simp only [lenD]; simp only [*]; done))))
local macro_rules | `(tactic| fail) => `(tactic| ((with_reducible apply o_setL); (focus (first | assumption | exact updS_same | exact upd_at (by assumption) (by assumption))); (focus rfl)))
local macro_rules | `(tactic| fail) => `(tactic| ((with_reducible apply o_subT); focus (rfl)))
local macro_rules | `(tactic| fail) => `(tactic| ((with_reducible apply o_subL); (focus (first | assumption | exact updS_same | exact upd_at (by assumption) (by assumption))); (focus rfl)))
local macro_rules | `(tactic| fail) => `(tactic| ((with_reducible apply o_pow); focus (unfold CPow; omega)))
local macro_rules | `(tactic| fail) => `(tactic| ((with_reducible apply o_mod); focus (omega)))
local macro_rules | `(tactic| fail) => `(tactic| ((with_reducible apply o_div); focus (unfold CDiv; omega)))
local macro_rules | `(tactic| fail) => `(tactic| ((with_reducible apply o_mul); focus (unfold CMul; omega)))
local macro_rules | `(tactic| fail) => `(tactic| ((with_reducible apply v_glob); focus (first | assumption | rfl)))
local macro_rules | `(tactic| fail) => `(tactic| ((with_reducible apply t_var); focus (rfl)))
local macro_rules | `(tactic| fail) => `(tactic| ((with_reducible apply v_var); focus (rfl)))
local macro_rules | `(tactic| fail) => `(tactic| with_reducible refine c_false ?_)
local macro_rules | `(tactic| fail) => `(tactic| with_reducible refine c_true ?_)
local macro_rules | `(tactic| fail) => `(tactic| with_reducible refine o_ge ?_)
local macro_rules | `(tactic| fail) => `(tactic| with_reducible refine o_gt ?_)
local macro_rules | `(tactic| fail) => `(tactic| with_reducible refine o_le ?_)
local macro_rules | `(tactic| fail) => `(tactic| with_reducible refine o_lt ?_)
local macro_rules | `(tactic| fail) => `(tactic| with_reducible refine o_sub ?_)
local macro_rules | `(tactic| fail) => `(tactic| with_reducible refine o_add ?_)
local macro_rules | `(tactic| fail) => `(tactic| with_reducible refine i_rng1 ?_)
local macro_rules | `(tactic| fail) => `(tactic| with_reducible refine i_seq ?_)
local macro_rules | `(tactic| fail) => `(tactic| with_reducible refine g_cons ?_)
local macro_rules | `(tactic| fail) => `(tactic| with_reducible refine g_nil ?_)
local macro_rules | `(tactic| fail) => `(tactic| with_reducible refine g_nm ?_)
local macro_rules | `(tactic| fail) => `(tactic| with_reducible refine ts_one ?_)
local macro_rules | `(tactic| fail) => `(tactic| with_reducible refine ts_nil ?_)
local macro_rules | `(tactic| fail) => `(tactic| with_reducible refine tr_int ?_)
local macro_rules | `(tactic| fail) => `(tactic| with_reducible refine tr_bl ?_)
local macro_rules | `(tactic| fail) => `(tactic| with_reducible refine tb_or ?_)
local macro_rules | `(tactic| fail) => `(tactic| with_reducible refine tb_and ?_)
local macro_rules | `(tactic| fail) => `(tactic| with_reducible refine tb_one ?_)
local macro_rules | `(tactic| fail) => `(tactic| with_reducible refine t_chain ?_)
local macro_rules | `(tactic| fail) => `(tactic| with_reducible refine t_sub ?_)
local macro_rules | `(tactic| fail) => `(tactic| with_reducible refine t_blt ?_)
local macro_rules | `(tactic| fail) => `(tactic| with_reducible refine t_call ?_)
local macro_rules | `(tactic| fail) => `(tactic| with_reducible refine t_cmp ?_)
local macro_rules | `(tactic| fail) => `(tactic| with_reducible refine t_nt ?_)
local macro_rules | `(tactic| fail) => `(tactic| with_reducible refine t_bop ?_)
local macro_rules | `(tactic| fail) => `(tactic| with_reducible refine vb_or ?_)
local macro_rules | `(tactic| fail) => `(tactic| with_reducible refine vb_and ?_)
local macro_rules | `(tactic| fail) => `(tactic| with_reducible refine vb_one ?_)
local macro_rules | `(tactic| fail) => `(tactic| with_reducible refine vo_some ?_)
local macro_rules | `(tactic| fail) => `(tactic| with_reducible refine vo_none ?_)
local macro_rules | `(tactic| fail) => `(tactic| with_reducible refine vs_cons ?_)
local macro_rules | `(tactic| fail) => `(tactic| with_reducible refine vs_nil ?_)
local macro_rules | `(tactic| fail) => `(tactic| with_reducible refine v_lc ?_)
local macro_rules | `(tactic| fail) => `(tactic| with_reducible refine v_mth ?_)
local macro_rules | `(tactic| fail) => `(tactic| with_reducible refine v_lzip ?_)
local macro_rules | `(tactic| fail) => `(tactic| with_reducible refine v_lrev ?_)
local macro_rules | `(tactic| fail) => `(tactic| with_reducible refine v_blt ?_)
local macro_rules | `(tactic| fail) => `(tactic| with_reducible refine v_call ?_)
local macro_rules | `(tactic| fail) => `(tactic| with_reducible refine v_slice ?_)
local macro_rules | `(tactic| fail) => `(tactic| with_reducible refine v_sub ?_)
local macro_rules | `(tactic| fail) => `(tactic| with_reducible refine v_lst ?_)
local macro_rules | `(tactic| fail) => `(tactic| with_reducible refine v_tup ?_)
local macro_rules | `(tactic| fail) => `(tactic| with_reducible refine v_ite ?_)
local macro_rules | `(tactic| fail) => `(tactic| with_reducible refine v_nt ?_)
local macro_rules | `(tactic| fail) => `(tactic| with_reducible refine v_bop ?_)
local macro_rules | `(tactic| fail) => `(tactic| with_reducible refine v_cmp ?_)
local macro_rules | `(tactic| fail) => `(tactic| with_reducible refine v_bin ?_)
local macro_rules | `(tactic| fail) => `(tactic| with_reducible refine v_bty ?_)
local macro_rules | `(tactic| fail) => `(tactic| with_reducible refine v_str ?_)
local macro_rules | `(tactic| fail) => `(tactic| with_reducible refine v_non ?_)
local macro_rules | `(tactic| fail) => `(tactic| with_reducible refine v_bl ?_)
local macro_rules | `(tactic| fail) => `(tactic| with_reducible refine v_int ?_)
local macro_rules | `(tactic| fail) => `(tactic| with_reducible refine s_cont ?_)
local macro_rules | `(tactic| fail) => `(tactic| with_reducible refine s_brk ?_)
local macro_rules | `(tactic| fail) => `(tactic| with_reducible refine s_nil ?_)
local macro_rules | `(tactic| fail) => `(tactic| with_reducible refine s_pass ?_)
local macro_rules | `(tactic| fail) => `(tactic| with_reducible refine s_retN ?_)
local macro_rules | `(tactic| fail) => `(tactic| with_reducible refine s_ret ?_)
local macro_rules | `(tactic| fail) => `(tactic| with_reducible refine s_ife ?_)
local macro_rules | `(tactic| fail) => `(tactic| with_reducible refine s_set ?_)
local macro_rules | `(tactic| fail) => `(tactic| with_reducible refine s_par ?_)
local macro_rules | `(tactic| fail) => `(tactic| with_reducible refine s_asg ?_)
local macro_rules | `(tactic| fail) => `(tactic| with_reducible refine s_ex ?_)

theorem EnvOk.snoc {ks : List Bool} {env : List D} {t : Bool} {v : D} (h : EnvOk ks env) (hv : VOk t v) : EnvOk (ks ++ [t]) (env ++ [v]) := by
  refine ⟨by simp [h.1], fun i t' hi => ?_⟩
  rcases Nat.lt_trichotomy i ks.length with hl | hl | hl
  · rw [List.getElem?_append_left hl] at hi
    rw [List.getElem?_append_left (by rw [h.1]; exact hl)]
    exact h.2 i t' hi
  · subst hl
    rw [List.getElem?_append_right (Nat.le_refl _), Nat.sub_self] at hi
    rw [List.getElem?_append_right (by rw [h.1]; exact Nat.le_refl _), h.1, Nat.sub_self]
    simp at hi
    subst hi
    exact ⟨v, rfl, hv⟩
  · rw [List.getElem?_eq_none (by rw [List.length_append, List.length_singleton]; omega)] at hi
    cases hi
end
end Z

set_option Elab.async false
set_option linter.all false
set_option maxRecDepth 100000
set_option maxHeartbeats 400000
namespace Z
open PySem PySem.Spec PyProof.Rows L2
section
variable {k : Nat} {S : Sto} {Q : D → Sto → Prop} {E : Exc → Sto → Prop}
end
abbrev tellG : D := .tup [.str "num", .str "plus", .str "least", .str "most"]
abbrev ofNG : D := .tup [.str "plus", .str "least", .str "most", .str "atmost"]
abbrev ofTG : D := .tup [.str "not", .str "both", .str "either"]
def Pg.due (t : Bool) : Pg → List Bool
  | .inp _ => [] | .num _ => [] | .yes => [] | .no => []
  | .plus _ _ => [false] | .not _ => [true]
  | .least _ _ => [false, false] | .most _ _ => [false, false] | .atmost _ _ => [false, false] | .both _ _ => [true, true] | .either _ _ => [true, true]
  | .ife _ _ _ => [true, t, t]
local macro_rules | `(tactic| fail) => `(tactic| ((with_reducible refine And.intro ?_ ?_); (focus (exact Nat.le_of_ble_eq_true rfl))))
local macro_rules | `(tactic| fail) => `(tactic| with_reducible refine ⟨_, rfl, ?_⟩)
local macro_rules | `(tactic| fail) => `(tactic| ((with_reducible apply o_sliceT); (focus rfl)))
local macro_rules | `(tactic| fail) => `(tactic| ((with_reducible apply o_inTf); (focus rfl); (focus rfl); (focus (simp [inF, eqF, str_beq]; done))))
local macro_rules | `(tactic| fail) => `(tactic| ((with_reducible apply o_inTt); (focus rfl); (focus rfl); (focus (simp [inF, eqF, str_beq]; done))))
local macro_rules | `(tactic| fail) => `(tactic| ((with_reducible apply o_subC); (focus ((repeat (first | with_reducible exact lk_hit | ((with_reducible apply lk_miss); (focus (exact str_ne (by decide)))))); done))))
local macro_rules | `(tactic| fail) => `(tactic| ((with_reducible apply o_inC); (focus ((repeat (first | with_reducible exact lk_hit | ((with_reducible apply lk_miss); (focus (exact str_ne (by decide)))))); done))))
local macro_rules | `(tactic| fail) => `(tactic| ((with_reducible apply o_ninC); (focus ((repeat (first | with_reducible exact lk_hit | ((with_reducible apply lk_miss); (focus (exact str_ne (by decide)))))); done))))
local macro_rules | `(tactic| fail) => `(tactic| ((with_reducible apply o_isinF); (focus rfl); (focus (decide +kernel))))
local macro_rules | `(tactic| fail) => `(tactic| ((with_reducible apply o_isinT); (focus rfl); (focus (decide +kernel))))
local macro_rules | `(tactic| fail) => `(tactic| with_reducible refine i_enm ?_)
local macro_rules | `(tactic| fail) => `(tactic| ((with_reducible apply g_tup); (focus rfl); (focus rfl)))
local macro_rules | `(tactic| fail) => `(tactic| ((with_reducible apply v_dctN); (focus (decide +kernel))))
local macro_rules | `(tactic| fail) => `(tactic| ((with_reducible apply o_len); (focus (exact len_ref (by (first | assumption | exact updS_same | exact upd_at (by assumption) (by assumption)))))))
local macro_rules | `(tactic| fail) => `(tactic| ((with_reducible apply o_tuple); (focus (first | rfl | exact items_ref (by (first | assumption | exact updS_same | exact upd_at (by assumption) (by assumption)))))))
local macro_rules | `(tactic| fail) => `(tactic| ((with_reducible apply o_get2); (focus (first | assumption | exact updS_same | exact upd_at (by assumption) (by assumption))); (focus rfl); (focus ((repeat (first | with_reducible exact getD_hit | with_reducible exact getD_nil | ((with_reducible apply getD_miss); (focus (exact str_ne (by decide)))))); done))))
local macro_rules | `(tactic| fail) => `(tactic| ((with_reducible apply o_get1); (focus (first | assumption | exact updS_same | exact upd_at (by assumption) (by assumption))); (focus rfl); (focus ((repeat (first | with_reducible exact getD_hit | with_reducible exact getD_nil | ((with_reducible apply getD_miss); (focus (exact str_ne (by decide)))))); done))))
local macro_rules | `(tactic| fail) => `(tactic| ((with_reducible refine And.intro ?_ ?_); (focus (first | exact recvL (by (first | assumption | exact updS_same | exact upd_at (by assumption) (by assumption))) rfl | exact recvD (by (first | assumption | exact updS_same | exact upd_at (by assumption) (by assumption))) rfl))))
local macro_rules | `(tactic| fail) => `(tactic| ((with_reducible apply o_subD); (focus (first | assumption | exact updS_same | exact upd_at (by assumption) (by assumption))); (focus rfl); (focus ((repeat (first | with_reducible exact lookD_hit | ((with_reducible apply look_miss); (focus (exact str_ne (by decide)))))); done))))
local macro_rules | `(tactic| fail) => `(tactic| ((with_reducible apply c_ndF); (focus (((try simp only [List.length_cons, List.length_nil, List.length_append, List.length_map]); omega)))))
local macro_rules | `(tactic| fail) => `(tactic| ((with_reducible apply c_ndT); (focus (((try simp only [List.length_cons, List.length_nil, List.length_append, List.length_map]); omega)))))
local macro_rules | `(tactic| fail) => `(tactic| with_reducible refine o_intB ?_)
local macro_rules | `(tactic| fail) => `(tactic| ((with_reducible apply c_decF); (focus (((try simp only [List.length_cons, List.length_nil, List.length_append, List.length_map]); omega)))))
local macro_rules | `(tactic| fail) => `(tactic| ((with_reducible apply c_decT); (focus (((try simp only [List.length_cons, List.length_nil, List.length_append, List.length_map]); omega)))))
local macro_rules | `(tactic| fail) => `(tactic| with_reducible refine c_notf ?_)
local macro_rules | `(tactic| fail) => `(tactic| with_reducible refine c_nott ?_)
local macro_rules | `(tactic| fail) => `(tactic| with_reducible refine o_eqI ?_)
local macro_rules | `(tactic| fail) => `(tactic| ((with_reducible apply o_eqIf); (focus (((try simp only [List.length_cons, List.length_nil, List.length_append, List.length_map]); omega)))))
local macro_rules | `(tactic| fail) => `(tactic| ((with_reducible apply o_eqIt); (focus (((try simp only [List.length_cons, List.length_nil, List.length_append, List.length_map]); omega)))))
local macro_rules | `(tactic| fail) => `(tactic| with_reducible refine o_isB ?_)
local macro_rules | `(tactic| fail) => `(tactic| with_reducible refine o_isN ?_)
local macro_rules | `(tactic| fail) => `(tactic| with_reducible refine o_isR ?_)
local macro_rules | `(tactic| fail) => `(tactic| with_reducible refine o_eqB ?_)
local macro_rules | `(tactic| fail) => `(tactic| ((with_reducible apply o_neIf); (focus (((try simp only [List.length_cons, List.length_nil, List.length_append, List.length_map]); omega)))))
local macro_rules | `(tactic| fail) => `(tactic| ((with_reducible apply o_neIt); (focus (((try simp only [List.length_cons, List.length_nil, List.length_append, List.length_map]); omega)))))
local macro_rules | `(tactic| fail) => `(tactic| with_reducible refine o_neII ?_)
local macro_rules | `(tactic| fail) => `(tactic| with_reducible refine o_neBB ?_)
local macro_rules | `(tactic| fail) => `(tactic| ((with_reducible apply o_eqSf); (focus decide)))
local macro_rules | `(tactic| fail) => `(tactic| ((with_reducible apply o_atr); (focus rfl)))
local macro_rules | `(tactic| fail) => `(tactic| with_reducible refine o_isx ?_)
local macro_rules | `(tactic| fail) => `(tactic| with_reducible refine o_eqSt ?_)
local macro_rules | `(tactic| fail) => `(tactic| ((with_reducible apply o_len); focus (first | rfl | (simp only [lenD]; simp only [*]; done))))
local macro_rules | `(tactic| fail) => `(tactic| ((with_reducible apply o_setL); (focus (first | assumption | exact updS_same | exact upd_at (by assumption) (by assumption))); (focus rfl)))
local macro_rules | `(tactic| fail) => `(tactic| ((with_reducible refine And.intro ?_ ?_); (focus (first | exact selfOk (by (first | assumption | exact updS_same | exact upd_at (by assumption) (by assumption))) rfl | exact insOk (by (first | assumption | exact updS_same | exact upd_at (by assumption) (by assumption)))))))
local macro_rules | `(tactic| fail) => `(tactic| ((with_reducible apply o_setf); (focus (first | assumption | exact updS_same | exact upd_at (by assumption) (by assumption))); (focus (exact Nat.le_of_ble_eq_true rfl))))
local macro_rules | `(tactic| fail) => `(tactic| ((with_reducible apply o_fld); (focus (first | assumption | exact updS_same | exact upd_at (by assumption) (by assumption))); (focus rfl)))
local macro_rules | `(tactic| fail) => `(tactic| ((with_reducible apply o_subT); focus (rfl)))
local macro_rules | `(tactic| fail) => `(tactic| ((with_reducible apply o_subL); (focus (first | assumption | exact updS_same | exact upd_at (by assumption) (by assumption))); (focus rfl)))
local macro_rules | `(tactic| fail) => `(tactic| ((with_reducible apply o_pow); focus (unfold CPow; omega)))
local macro_rules | `(tactic| fail) => `(tactic| ((with_reducible apply o_mod); focus (omega)))
local macro_rules | `(tactic| fail) => `(tactic| ((with_reducible apply o_div); focus (unfold CDiv; omega)))
local macro_rules | `(tactic| fail) => `(tactic| ((with_reducible apply o_mul); focus (unfold CMul; omega)))
local macro_rules | `(tactic| fail) => `(tactic| ((with_reducible apply v_glob); focus (first | assumption | rfl)))
local macro_rules | `(tactic| fail) => `(tactic| ((with_reducible apply t_var); focus (rfl)))
local macro_rules | `(tactic| fail) => `(tactic| ((with_reducible apply v_var); focus (rfl)))
local macro_rules | `(tactic| fail) => `(tactic| with_reducible refine c_false ?_)
local macro_rules | `(tactic| fail) => `(tactic| with_reducible refine c_true ?_)
local macro_rules | `(tactic| fail) => `(tactic| with_reducible refine o_ge ?_)
local macro_rules | `(tactic| fail) => `(tactic| with_reducible refine o_gt ?_)
local macro_rules | `(tactic| fail) => `(tactic| with_reducible refine o_le ?_)
local macro_rules | `(tactic| fail) => `(tactic| with_reducible refine o_lt ?_)
local macro_rules | `(tactic| fail) => `(tactic| with_reducible refine o_sub ?_)
local macro_rules | `(tactic| fail) => `(tactic| with_reducible refine o_add ?_)
local macro_rules | `(tactic| fail) => `(tactic| with_reducible refine o_sub1 ?_)
local macro_rules | `(tactic| fail) => `(tactic| with_reducible refine o_sub0 ?_)
local macro_rules | `(tactic| fail) => `(tactic| with_reducible refine i_rng1 ?_)
local macro_rules | `(tactic| fail) => `(tactic| with_reducible refine i_seq ?_)
local macro_rules | `(tactic| fail) => `(tactic| with_reducible refine g_cons ?_)
local macro_rules | `(tactic| fail) => `(tactic| with_reducible refine g_nil ?_)
local macro_rules | `(tactic| fail) => `(tactic| with_reducible refine g_nm ?_)
local macro_rules | `(tactic| fail) => `(tactic| with_reducible refine ts_one ?_)
local macro_rules | `(tactic| fail) => `(tactic| with_reducible refine ts_nil ?_)
local macro_rules | `(tactic| fail) => `(tactic| with_reducible refine tr_int ?_)
local macro_rules | `(tactic| fail) => `(tactic| with_reducible refine tr_bl ?_)
local macro_rules | `(tactic| fail) => `(tactic| with_reducible refine tb_or ?_)
local macro_rules | `(tactic| fail) => `(tactic| with_reducible refine tb_and ?_)
local macro_rules | `(tactic| fail) => `(tactic| with_reducible refine tb_one ?_)
local macro_rules | `(tactic| fail) => `(tactic| with_reducible refine t_chain ?_)
local macro_rules | `(tactic| fail) => `(tactic| with_reducible refine t_sub ?_)
local macro_rules | `(tactic| fail) => `(tactic| with_reducible refine t_blt ?_)
local macro_rules | `(tactic| fail) => `(tactic| with_reducible refine t_call ?_)
local macro_rules | `(tactic| fail) => `(tactic| with_reducible refine t_cmp ?_)
local macro_rules | `(tactic| fail) => `(tactic| with_reducible refine t_nt ?_)
local macro_rules | `(tactic| fail) => `(tactic| with_reducible refine t_bop ?_)
local macro_rules | `(tactic| fail) => `(tactic| with_reducible refine vb_or ?_)
local macro_rules | `(tactic| fail) => `(tactic| with_reducible refine vb_and ?_)
local macro_rules | `(tactic| fail) => `(tactic| with_reducible refine vb_one ?_)
local macro_rules | `(tactic| fail) => `(tactic| with_reducible refine vo_some ?_)
local macro_rules | `(tactic| fail) => `(tactic| with_reducible refine vo_none ?_)
local macro_rules | `(tactic| fail) => `(tactic| with_reducible refine vs_cons ?_)
local macro_rules | `(tactic| fail) => `(tactic| with_reducible refine vs_nil ?_)
local macro_rules | `(tactic| fail) => `(tactic| with_reducible refine s_try ?_)
local macro_rules | `(tactic| fail) => `(tactic| with_reducible refine s_setf ?_)
local macro_rules | `(tactic| fail) => `(tactic| with_reducible refine v_eqo ?_)
local macro_rules | `(tactic| fail) => `(tactic| with_reducible refine t_isc ?_)
local macro_rules | `(tactic| fail) => `(tactic| with_reducible refine v_isc ?_)
local macro_rules | `(tactic| fail) => `(tactic| with_reducible refine t_meth ?_)
local macro_rules | `(tactic| fail) => `(tactic| with_reducible refine v_meth ?_)
local macro_rules | `(tactic| fail) => `(tactic| with_reducible refine v_new ?_)
local macro_rules | `(tactic| fail) => `(tactic| with_reducible refine v_fld ?_)
local macro_rules | `(tactic| fail) => `(tactic| with_reducible refine v_atr ?_)
local macro_rules | `(tactic| fail) => `(tactic| with_reducible refine v_isx ?_)
local macro_rules | `(tactic| fail) => `(tactic| with_reducible refine v_back ?_)
local macro_rules | `(tactic| fail) => `(tactic| with_reducible refine v_lc ?_)
local macro_rules | `(tactic| fail) => `(tactic| with_reducible refine v_mth ?_)
local macro_rules | `(tactic| fail) => `(tactic| with_reducible refine v_lzip ?_)
local macro_rules | `(tactic| fail) => `(tactic| with_reducible refine v_lrev ?_)
local macro_rules | `(tactic| fail) => `(tactic| with_reducible refine v_blt ?_)
local macro_rules | `(tactic| fail) => `(tactic| with_reducible refine v_call ?_)
local macro_rules | `(tactic| fail) => `(tactic| with_reducible refine v_slice ?_)
local macro_rules | `(tactic| fail) => `(tactic| with_reducible refine v_sub ?_)
local macro_rules | `(tactic| fail) => `(tactic| with_reducible refine v_lst ?_)
local macro_rules | `(tactic| fail) => `(tactic| with_reducible refine v_tup ?_)
local macro_rules | `(tactic| fail) => `(tactic| with_reducible refine v_ite ?_)
local macro_rules | `(tactic| fail) => `(tactic| with_reducible refine v_nt ?_)
local macro_rules | `(tactic| fail) => `(tactic| with_reducible refine v_bop ?_)
local macro_rules | `(tactic| fail) => `(tactic| with_reducible refine v_cmp ?_)
local macro_rules | `(tactic| fail) => `(tactic| with_reducible refine v_bin ?_)
local macro_rules | `(tactic| fail) => `(tactic| with_reducible refine v_bty ?_)
local macro_rules | `(tactic| fail) => `(tactic| with_reducible refine v_str ?_)
local macro_rules | `(tactic| fail) => `(tactic| with_reducible refine v_non ?_)
local macro_rules | `(tactic| fail) => `(tactic| with_reducible refine v_bl ?_)
local macro_rules | `(tactic| fail) => `(tactic| with_reducible refine v_int ?_)
local macro_rules | `(tactic| fail) => `(tactic| with_reducible refine s_cont ?_)
local macro_rules | `(tactic| fail) => `(tactic| with_reducible refine s_brk ?_)
local macro_rules | `(tactic| fail) => `(tactic| with_reducible refine s_nil ?_)
local macro_rules | `(tactic| fail) => `(tactic| with_reducible refine s_pass ?_)
local macro_rules | `(tactic| fail) => `(tactic| with_reducible refine s_retN ?_)
local macro_rules | `(tactic| fail) => `(tactic| with_reducible refine s_ret ?_)
local macro_rules | `(tactic| fail) => `(tactic| with_reducible refine s_ife ?_)
local macro_rules | `(tactic| fail) => `(tactic| with_reducible refine s_set ?_)
local macro_rules | `(tactic| fail) => `(tactic| with_reducible refine s_par ?_)
local macro_rules | `(tactic| fail) => `(tactic| with_reducible refine s_asg ?_)
local macro_rules | `(tactic| fail) => `(tactic| with_reducible refine s_ex ?_)

section
variable {defs : Str → Option DefT} {gl : Str → Option D} {k : Nat} {S : Sto} {Q : D → Sto → Prop} {E : Exc → Sto → Prop}
end
end Z

set_option Elab.async false
set_option linter.all false
set_option maxRecDepth 100000
set_option maxHeartbeats 400000
namespace Z
open PySem PySem.Spec PyProof.Rows L2
local macro_rules | `(tactic| fail) => `(tactic| refine ⟨Nat.le_of_ble_eq_true rfl, ?_⟩)
local macro_rules | `(tactic| fail) => `(tactic| with_reducible refine ⟨_, rfl, ?_⟩)
local macro_rules | `(tactic| fail) => `(tactic| ((with_reducible apply o_sliceT); (focus rfl)))
local macro_rules | `(tactic| fail) => `(tactic| ((with_reducible apply o_inTf); (focus rfl); (focus rfl); (focus (simp [inF, eqF, str_beq]; done))))
local macro_rules | `(tactic| fail) => `(tactic| ((with_reducible apply o_inTt); (focus rfl); (focus rfl); (focus (simp [inF, eqF, str_beq]; done))))
local macro_rules | `(tactic| fail) => `(tactic| ((with_reducible apply o_subC); (focus ((repeat (first | with_reducible exact lk_hit | ((with_reducible apply lk_miss); (focus (exact str_ne (by decide)))))); done))))
local macro_rules | `(tactic| fail) => `(tactic| ((with_reducible apply o_inC); (focus ((repeat (first | with_reducible exact lk_hit | ((with_reducible apply lk_miss); (focus (exact str_ne (by decide)))))); done))))
local macro_rules | `(tactic| fail) => `(tactic| ((with_reducible apply o_ninC); (focus ((repeat (first | with_reducible exact lk_hit | ((with_reducible apply lk_miss); (focus (exact str_ne (by decide)))))); done))))
local macro_rules | `(tactic| fail) => `(tactic| ((with_reducible apply o_isinF); (focus rfl); (focus (decide +kernel))))
local macro_rules | `(tactic| fail) => `(tactic| ((with_reducible apply o_isinT); (focus rfl); (focus (decide +kernel))))
local macro_rules | `(tactic| fail) => `(tactic| with_reducible refine i_enm ?_)
local macro_rules | `(tactic| fail) => `(tactic| ((with_reducible apply g_tup); (focus rfl); (focus rfl)))
local macro_rules | `(tactic| fail) => `(tactic| ((with_reducible apply v_dctN); (focus (decide +kernel))))
local macro_rules | `(tactic| fail) => `(tactic| ((with_reducible apply o_len); (focus (exact len_ref (by (first | assumption | exact updS_same | exact upd_at (by assumption) (by assumption)))))))
local macro_rules | `(tactic| fail) => `(tactic| ((with_reducible apply o_tuple); (focus (first | rfl | exact items_ref (by (first | assumption | exact updS_same | exact upd_at (by assumption) (by assumption)))))))
local macro_rules | `(tactic| fail) => `(tactic| ((with_reducible apply o_get2); (focus (first | assumption | exact updS_same | exact upd_at (by assumption) (by assumption))); (focus rfl); (focus ((repeat (first | with_reducible exact getD_hit | with_reducible exact getD_nil | ((with_reducible apply getD_miss); (focus (exact str_ne (by decide)))))); done))))
local macro_rules | `(tactic| fail) => `(tactic| ((with_reducible apply o_get1); (focus (first | assumption | exact updS_same | exact upd_at (by assumption) (by assumption))); (focus rfl); (focus ((repeat (first | with_reducible exact getD_hit | with_reducible exact getD_nil | ((with_reducible apply getD_miss); (focus (exact str_ne (by decide)))))); done))))
local macro_rules | `(tactic| fail) => `(tactic| (refine And.intro ?_ ?_; (focus (first | exact recvL (by (first | assumption | exact updS_same | exact upd_at (by assumption) (by assumption))) rfl | exact recvD (by (first | assumption | exact updS_same | exact upd_at (by assumption) (by assumption))) rfl))))
local macro_rules | `(tactic| fail) => `(tactic| ((with_reducible apply o_subD); (focus (first | assumption | exact updS_same | exact upd_at (by assumption) (by assumption))); (focus rfl); (focus ((repeat (first | with_reducible exact lookD_hit | ((with_reducible apply look_miss); (focus (exact str_ne (by decide)))))); done))))
local macro_rules | `(tactic| fail) => `(tactic| ((with_reducible apply c_ndF); (focus (((try simp only [List.length_cons, List.length_nil, List.length_append, List.length_map]); omega)))))
local macro_rules | `(tactic| fail) => `(tactic| ((with_reducible apply c_ndT); (focus (((try simp only [List.length_cons, List.length_nil, List.length_append, List.length_map]); omega)))))
local macro_rules | `(tactic| fail) => `(tactic| with_reducible refine o_intB ?_)
local macro_rules | `(tactic| fail) => `(tactic| ((with_reducible apply c_decF); (focus (((try simp only [List.length_cons, List.length_nil, List.length_append, List.length_map]); omega)))))
local macro_rules | `(tactic| fail) => `(tactic| ((with_reducible apply c_decT); (focus (((try simp only [List.length_cons, List.length_nil, List.length_append, List.length_map]); omega)))))
local macro_rules | `(tactic| fail) => `(tactic| with_reducible refine c_notf ?_)
local macro_rules | `(tactic| fail) => `(tactic| with_reducible refine c_nott ?_)
local macro_rules | `(tactic| fail) => `(tactic| with_reducible refine o_eqI ?_)
local macro_rules | `(tactic| fail) => `(tactic| ((with_reducible apply o_eqIf); (focus (((try simp only [List.length_cons, List.length_nil, List.length_append, List.length_map]); omega)))))
local macro_rules | `(tactic| fail) => `(tactic| ((with_reducible apply o_eqIt); (focus (((try simp only [List.length_cons, List.length_nil, List.length_append, List.length_map]); omega)))))
local macro_rules | `(tactic| fail) => `(tactic| with_reducible refine o_isB ?_)
local macro_rules | `(tactic| fail) => `(tactic| with_reducible refine o_isN ?_)
local macro_rules | `(tactic| fail) => `(tactic| with_reducible refine o_isR ?_)
local macro_rules | `(tactic| fail) => `(tactic| with_reducible refine o_eqB ?_)
local macro_rules | `(tactic| fail) => `(tactic| with_reducible refine o_neII ?_)
local macro_rules | `(tactic| fail) => `(tactic| with_reducible refine o_neBB ?_)
local macro_rules | `(tactic| fail) => `(tactic| ((with_reducible apply o_eqSf); (focus decide)))
local macro_rules | `(tactic| fail) => `(tactic| with_reducible refine o_eqSt ?_)
local macro_rules | `(tactic| fail) => `(tactic| ((with_reducible apply o_len); focus (first | rfl | (simp only [lenD]; simp only [*]; done))))
local macro_rules | `(tactic| fail) => `(tactic| ((with_reducible apply o_setL); (focus (first | assumption | exact updS_same | exact upd_at (by assumption) (by assumption))); (focus rfl)))
local macro_rules | `(tactic| fail) => `(tactic| ((with_reducible apply o_subT); focus (rfl)))
local macro_rules | `(tactic| fail) => `(tactic| ((with_reducible apply o_subL); (focus (first | assumption | exact updS_same | exact upd_at (by assumption) (by assumption))); (focus rfl)))
local macro_rules | `(tactic| fail) => `(tactic| ((with_reducible apply o_pow); focus (unfold CPow; omega)))
local macro_rules | `(tactic| fail) => `(tactic| ((with_reducible apply o_mod); focus (omega)))
local macro_rules | `(tactic| fail) => `(tactic| ((with_reducible apply o_div); focus (unfold CDiv; omega)))
local macro_rules | `(tactic| fail) => `(tactic| ((with_reducible apply o_mul); focus (unfold CMul; omega)))
local macro_rules | `(tactic| fail) => `(tactic| ((with_reducible apply v_glob); focus (first | assumption | rfl)))
local macro_rules | `(tactic| fail) => `(tactic| ((with_reducible apply t_var); focus (rfl)))
local macro_rules | `(tactic| fail) => `(tactic| ((with_reducible apply v_var); focus (rfl)))
local macro_rules | `(tactic| fail) => `(tactic| with_reducible refine c_false ?_)
local macro_rules | `(tactic| fail) => `(tactic| with_reducible refine c_true ?_)
local macro_rules | `(tactic| fail) => `(tactic| with_reducible refine o_ge ?_)
local macro_rules | `(tactic| fail) => `(tactic| with_reducible refine o_gt ?_)
local macro_rules | `(tactic| fail) => `(tactic| with_reducible refine o_le ?_)
local macro_rules | `(tactic| fail) => `(tactic| with_reducible refine o_lt ?_)
local macro_rules | `(tactic| fail) => `(tactic| with_reducible refine o_sub ?_)
local macro_rules | `(tactic| fail) => `(tactic| with_reducible refine o_add ?_)
local macro_rules | `(tactic| fail) => `(tactic| with_reducible refine o_sub1 ?_)
local macro_rules | `(tactic| fail) => `(tactic| with_reducible refine o_sub0 ?_)
local macro_rules | `(tactic| fail) => `(tactic| with_reducible refine i_rng1 ?_)
local macro_rules | `(tactic| fail) => `(tactic| with_reducible refine i_seq ?_)
local macro_rules | `(tactic| fail) => `(tactic| with_reducible refine g_cons ?_)
local macro_rules | `(tactic| fail) => `(tactic| with_reducible refine g_nil ?_)
local macro_rules | `(tactic| fail) => `(tactic| with_reducible refine g_nm ?_)
local macro_rules | `(tactic| fail) => `(tactic| with_reducible refine ts_one ?_)
local macro_rules | `(tactic| fail) => `(tactic| with_reducible refine ts_nil ?_)
local macro_rules | `(tactic| fail) => `(tactic| with_reducible refine tr_int ?_)
local macro_rules | `(tactic| fail) => `(tactic| with_reducible refine tr_bl ?_)
local macro_rules | `(tactic| fail) => `(tactic| with_reducible refine tb_or ?_)
local macro_rules | `(tactic| fail) => `(tactic| with_reducible refine tb_and ?_)
local macro_rules | `(tactic| fail) => `(tactic| with_reducible refine tb_one ?_)
local macro_rules | `(tactic| fail) => `(tactic| with_reducible refine t_chain ?_)
local macro_rules | `(tactic| fail) => `(tactic| with_reducible refine t_sub ?_)
local macro_rules | `(tactic| fail) => `(tactic| with_reducible refine t_blt ?_)
local macro_rules | `(tactic| fail) => `(tactic| with_reducible refine t_call ?_)
local macro_rules | `(tactic| fail) => `(tactic| with_reducible refine t_cmp ?_)
local macro_rules | `(tactic| fail) => `(tactic| with_reducible refine t_nt ?_)
local macro_rules | `(tactic| fail) => `(tactic| with_reducible refine t_bop ?_)
local macro_rules | `(tactic| fail) => `(tactic| with_reducible refine vb_or ?_)
local macro_rules | `(tactic| fail) => `(tactic| with_reducible refine vb_and ?_)
local macro_rules | `(tactic| fail) => `(tactic| with_reducible refine vb_one ?_)
local macro_rules | `(tactic| fail) => `(tactic| with_reducible refine vo_some ?_)
local macro_rules | `(tactic| fail) => `(tactic| with_reducible refine vo_none ?_)
local macro_rules | `(tactic| fail) => `(tactic| with_reducible refine vs_cons ?_)
local macro_rules | `(tactic| fail) => `(tactic| with_reducible refine vs_nil ?_)
local macro_rules | `(tactic| fail) => `(tactic| with_reducible refine s_try ?_)
local macro_rules | `(tactic| fail) => `(tactic| with_reducible refine v_atr ?_)
local macro_rules | `(tactic| fail) => `(tactic| with_reducible refine v_isx ?_)
local macro_rules | `(tactic| fail) => `(tactic| with_reducible refine v_back ?_)
local macro_rules | `(tactic| fail) => `(tactic| with_reducible refine v_lc ?_)
local macro_rules | `(tactic| fail) => `(tactic| with_reducible refine v_mth ?_)
local macro_rules | `(tactic| fail) => `(tactic| with_reducible refine v_lzip ?_)
local macro_rules | `(tactic| fail) => `(tactic| with_reducible refine v_lrev ?_)
local macro_rules | `(tactic| fail) => `(tactic| with_reducible refine v_blt ?_)
local macro_rules | `(tactic| fail) => `(tactic| with_reducible refine v_call ?_)
local macro_rules | `(tactic| fail) => `(tactic| with_reducible refine v_slice ?_)
local macro_rules | `(tactic| fail) => `(tactic| with_reducible refine v_sub ?_)
local macro_rules | `(tactic| fail) => `(tactic| with_reducible refine v_lst ?_)
local macro_rules | `(tactic| fail) => `(tactic| with_reducible refine v_tup ?_)
local macro_rules | `(tactic| fail) => `(tactic| with_reducible refine v_ite ?_)
local macro_rules | `(tactic| fail) => `(tactic| with_reducible refine v_nt ?_)
local macro_rules | `(tactic| fail) => `(tactic| with_reducible refine v_bop ?_)
local macro_rules | `(tactic| fail) => `(tactic| with_reducible refine v_cmp ?_)
local macro_rules | `(tactic| fail) => `(tactic| with_reducible refine v_bin ?_)
local macro_rules | `(tactic| fail) => `(tactic| with_reducible refine v_bty ?_)
local macro_rules | `(tactic| fail) => `(tactic| with_reducible refine v_str ?_)
local macro_rules | `(tactic| fail) => `(tactic| with_reducible refine v_non ?_)
local macro_rules | `(tactic| fail) => `(tactic| with_reducible refine v_bl ?_)
local macro_rules | `(tactic| fail) => `(tactic| with_reducible refine v_int ?_)
local macro_rules | `(tactic| fail) => `(tactic| with_reducible refine s_cont ?_)
local macro_rules | `(tactic| fail) => `(tactic| with_reducible refine s_brk ?_)
local macro_rules | `(tactic| fail) => `(tactic| with_reducible refine s_nil ?_)
local macro_rules | `(tactic| fail) => `(tactic| with_reducible refine s_pass ?_)
local macro_rules | `(tactic| fail) => `(tactic| with_reducible refine s_retN ?_)
local macro_rules | `(tactic| fail) => `(tactic| with_reducible refine s_ret ?_)
local macro_rules | `(tactic| fail) => `(tactic| with_reducible refine s_ife ?_)
local macro_rules | `(tactic| fail) => `(tactic| with_reducible refine s_set ?_)
local macro_rules | `(tactic| fail) => `(tactic| with_reducible refine s_par ?_)
local macro_rules | `(tactic| fail) => `(tactic| with_reducible refine s_asg ?_)
local macro_rules | `(tactic| fail) => `(tactic| with_reducible refine s_ex ?_)

section
variable {defs : Str → Option DefT} {gl : Str → Option D} {k : Nat} {S : Sto} {Q : D → Sto → Prop} {E : Exc → Sto → Prop}
structure KFs (defs : Str → Option DefT) (gl : Str → Option D) : Prop where
  kof : defs "kind_of" = some dKindOf
  kno : defs "knots" = some dKnots
  form : defs "has_form" = some dHasForm
  whole : defs "is_whole" = some dIsWhole
  parts : defs "parts_of" = some dPartsOf
  own : defs "own_kind" = some dOwnKind
  due : defs "parts_due" = some dPartsDue
  gP : gl "PARTS" = some partsG
  gN : gl "NUMBERED" = some numG
  gT : gl "TELL_NUMS" = some tellG
  gO : gl "OF_NUMS" = some ofNG
  gU : gl "OF_TRUTHS" = some ofTG
end
end Z

set_option Elab.async false
set_option linter.all false
set_option maxRecDepth 100000
set_option maxHeartbeats 400000
namespace Z
open PySem PySem.Spec PyProof.Rows L2
local macro_rules | `(tactic| fail) => `(tactic| refine ⟨Nat.le_of_ble_eq_true rfl, ?_⟩)
local macro_rules | `(tactic| fail) => `(tactic| with_reducible refine ⟨_, rfl, ?_⟩)
local macro_rules | `(tactic| fail) => `(tactic| ((with_reducible apply o_sliceT); (focus rfl)))
local macro_rules | `(tactic| fail) => `(tactic| ((with_reducible apply o_inTf); (focus rfl); (focus rfl); (focus (simp [inF, eqF, str_beq]; done))))
local macro_rules | `(tactic| fail) => `(tactic| ((with_reducible apply o_inTt); (focus rfl); (focus rfl); (focus (simp [inF, eqF, str_beq]; done))))
local macro_rules | `(tactic| fail) => `(tactic| ((with_reducible apply o_subC); (focus (repeat (first | with_reducible exact lk_hit | ((with_reducible apply lk_miss); (focus (exact str_ne (by decide)))))))))
local macro_rules | `(tactic| fail) => `(tactic| ((with_reducible apply o_inC); (focus (repeat (first | with_reducible exact lk_hit | ((with_reducible apply lk_miss); (focus (exact str_ne (by decide)))))))))
local macro_rules | `(tactic| fail) => `(tactic| ((with_reducible apply o_ninC); (focus (repeat (first | with_reducible exact lk_hit | ((with_reducible apply lk_miss); (focus (exact str_ne (by decide)))))))))
local macro_rules | `(tactic| fail) => `(tactic| ((with_reducible apply o_isinF); (focus rfl); (focus (decide +kernel))))
local macro_rules | `(tactic| fail) => `(tactic| ((with_reducible apply o_isinT); (focus rfl); (focus (decide +kernel))))
local macro_rules | `(tactic| fail) => `(tactic| with_reducible refine i_enm ?_)
local macro_rules | `(tactic| fail) => `(tactic| ((with_reducible apply g_tup); (focus rfl); (focus rfl)))
local macro_rules | `(tactic| fail) => `(tactic| ((with_reducible apply v_dctN); (focus (decide +kernel))))
local macro_rules | `(tactic| fail) => `(tactic| ((with_reducible apply o_len); (focus (exact len_ref (by (first | assumption | exact updS_same | exact upd_at (by assumption) (by assumption)))))))
local macro_rules | `(tactic| fail) => `(tactic| ((with_reducible apply o_tuple); (focus (first | rfl | exact items_ref (by (first | assumption | exact updS_same | exact upd_at (by assumption) (by assumption)))))))
local macro_rules | `(tactic| fail) => `(tactic| ((with_reducible apply o_get2); (focus (first | assumption | exact updS_same | exact upd_at (by assumption) (by assumption))); (focus rfl); (focus (repeat (first | with_reducible exact getD_hit | with_reducible exact getD_nil | ((with_reducible apply getD_miss); (focus (exact str_ne (by decide)))))))))
local macro_rules | `(tactic| fail) => `(tactic| ((with_reducible apply o_get1); (focus (first | assumption | exact updS_same | exact upd_at (by assumption) (by assumption))); (focus rfl); (focus (repeat (first | with_reducible exact getD_hit | with_reducible exact getD_nil | ((with_reducible apply getD_miss); (focus (exact str_ne (by decide)))))))))
local macro_rules | `(tactic| fail) => `(tactic| (refine And.intro ?_ ?_; (focus (first | exact recvL (by (first | assumption | exact updS_same | exact upd_at (by assumption) (by assumption))) rfl | exact recvD (by (first | assumption | exact updS_same | exact upd_at (by assumption) (by assumption))) rfl))))
local macro_rules | `(tactic| fail) => `(tactic| ((with_reducible apply o_subD); (focus (first | assumption | exact updS_same | exact upd_at (by assumption) (by assumption))); (focus rfl); (focus (repeat (first | with_reducible exact lookD_hit | ((with_reducible apply look_miss); (focus (exact str_ne (by decide)))))))))
local macro_rules | `(tactic| fail) => `(tactic| ((with_reducible apply c_ndF); (focus (((try simp only [List.length_cons, List.length_nil, List.length_append, List.length_map]); omega)))))
local macro_rules | `(tactic| fail) => `(tactic| ((with_reducible apply c_ndT); (focus (((try simp only [List.length_cons, List.length_nil, List.length_append, List.length_map]); omega)))))
local macro_rules | `(tactic| fail) => `(tactic| with_reducible refine o_intB ?_)
local macro_rules | `(tactic| fail) => `(tactic| ((with_reducible apply c_decF); (focus (((try simp only [List.length_cons, List.length_nil, List.length_append, List.length_map]); omega)))))
local macro_rules | `(tactic| fail) => `(tactic| ((with_reducible apply c_decT); (focus (((try simp only [List.length_cons, List.length_nil, List.length_append, List.length_map]); omega)))))
local macro_rules | `(tactic| fail) => `(tactic| with_reducible refine c_notf ?_)
local macro_rules | `(tactic| fail) => `(tactic| with_reducible refine c_nott ?_)
local macro_rules | `(tactic| fail) => `(tactic| with_reducible refine o_eqI ?_)
local macro_rules | `(tactic| fail) => `(tactic| ((with_reducible apply o_eqIf); (focus (((try simp only [List.length_cons, List.length_nil, List.length_append, List.length_map]); omega)))))
local macro_rules | `(tactic| fail) => `(tactic| ((with_reducible apply o_eqIt); (focus (((try simp only [List.length_cons, List.length_nil, List.length_append, List.length_map]); omega)))))
local macro_rules | `(tactic| fail) => `(tactic| with_reducible refine o_isB ?_)
local macro_rules | `(tactic| fail) => `(tactic| with_reducible refine o_isN ?_)
local macro_rules | `(tactic| fail) => `(tactic| with_reducible refine o_isR ?_)
local macro_rules | `(tactic| fail) => `(tactic| with_reducible refine o_eqB ?_)
local macro_rules | `(tactic| fail) => `(tactic| with_reducible refine o_neII ?_)
local macro_rules | `(tactic| fail) => `(tactic| with_reducible refine o_neBB ?_)
local macro_rules | `(tactic| fail) => `(tactic| ((with_reducible apply o_eqSf); (focus decide)))
local macro_rules | `(tactic| fail) => `(tactic| with_reducible refine o_eqSt ?_)
local macro_rules | `(tactic| fail) => `(tactic| ((with_reducible apply o_len); focus (first | rfl | (simp only [lenD]; simp only [*]; done))))
local macro_rules | `(tactic| fail) => `(tactic| ((with_reducible apply o_setL); (focus (first | assumption | exact updS_same | exact upd_at (by assumption) (by assumption))); (focus rfl)))
local macro_rules | `(tactic| fail) => `(tactic| ((with_reducible apply o_subT); focus (rfl)))
local macro_rules | `(tactic| fail) => `(tactic| ((with_reducible apply o_subL); (focus (first | assumption | exact updS_same | exact upd_at (by assumption) (by assumption))); (focus rfl)))
local macro_rules | `(tactic| fail) => `(tactic| ((with_reducible apply o_pow); focus (unfold CPow; omega)))
local macro_rules | `(tactic| fail) => `(tactic| ((with_reducible apply o_mod); focus (omega)))
local macro_rules | `(tactic| fail) => `(tactic| ((with_reducible apply o_div); focus (unfold CDiv; omega)))
local macro_rules | `(tactic| fail) => `(tactic| ((with_reducible apply o_mul); focus (unfold CMul; omega)))
local macro_rules | `(tactic| fail) => `(tactic| ((with_reducible apply v_glob); focus (first | assumption | rfl)))
local macro_rules | `(tactic| fail) => `(tactic| ((with_reducible apply t_var); focus (rfl)))
local macro_rules | `(tactic| fail) => `(tactic| ((with_reducible apply v_var); focus (rfl)))
local macro_rules | `(tactic| fail) => `(tactic| with_reducible refine c_false ?_)
local macro_rules | `(tactic| fail) => `(tactic| with_reducible refine c_true ?_)
local macro_rules | `(tactic| fail) => `(tactic| with_reducible refine o_ge ?_)
local macro_rules | `(tactic| fail) => `(tactic| with_reducible refine o_gt ?_)
local macro_rules | `(tactic| fail) => `(tactic| with_reducible refine o_le ?_)
local macro_rules | `(tactic| fail) => `(tactic| with_reducible refine o_lt ?_)
local macro_rules | `(tactic| fail) => `(tactic| with_reducible refine o_sub ?_)
local macro_rules | `(tactic| fail) => `(tactic| with_reducible refine o_add ?_)
local macro_rules | `(tactic| fail) => `(tactic| with_reducible refine i_rng1 ?_)
local macro_rules | `(tactic| fail) => `(tactic| with_reducible refine i_seq ?_)
local macro_rules | `(tactic| fail) => `(tactic| with_reducible refine g_cons ?_)
local macro_rules | `(tactic| fail) => `(tactic| with_reducible refine g_nil ?_)
local macro_rules | `(tactic| fail) => `(tactic| with_reducible refine g_nm ?_)
local macro_rules | `(tactic| fail) => `(tactic| with_reducible refine ts_one ?_)
local macro_rules | `(tactic| fail) => `(tactic| with_reducible refine ts_nil ?_)
local macro_rules | `(tactic| fail) => `(tactic| with_reducible refine tr_int ?_)
local macro_rules | `(tactic| fail) => `(tactic| with_reducible refine tr_bl ?_)
local macro_rules | `(tactic| fail) => `(tactic| with_reducible refine tb_or ?_)
local macro_rules | `(tactic| fail) => `(tactic| with_reducible refine tb_and ?_)
local macro_rules | `(tactic| fail) => `(tactic| with_reducible refine tb_one ?_)
local macro_rules | `(tactic| fail) => `(tactic| with_reducible refine t_chain ?_)
local macro_rules | `(tactic| fail) => `(tactic| with_reducible refine t_sub ?_)
local macro_rules | `(tactic| fail) => `(tactic| with_reducible refine t_blt ?_)
local macro_rules | `(tactic| fail) => `(tactic| with_reducible refine t_call ?_)
local macro_rules | `(tactic| fail) => `(tactic| with_reducible refine t_cmp ?_)
local macro_rules | `(tactic| fail) => `(tactic| with_reducible refine t_nt ?_)
local macro_rules | `(tactic| fail) => `(tactic| with_reducible refine t_bop ?_)
local macro_rules | `(tactic| fail) => `(tactic| with_reducible refine vb_or ?_)
local macro_rules | `(tactic| fail) => `(tactic| with_reducible refine vb_and ?_)
local macro_rules | `(tactic| fail) => `(tactic| with_reducible refine vb_one ?_)
local macro_rules | `(tactic| fail) => `(tactic| with_reducible refine vo_some ?_)
local macro_rules | `(tactic| fail) => `(tactic| with_reducible refine vo_none ?_)
local macro_rules | `(tactic| fail) => `(tactic| with_reducible refine vs_cons ?_)
local macro_rules | `(tactic| fail) => `(tactic| with_reducible refine vs_nil ?_)
local macro_rules | `(tactic| fail) => `(tactic| with_reducible refine v_lc ?_)
local macro_rules | `(tactic| fail) => `(tactic| with_reducible refine v_mth ?_)
local macro_rules | `(tactic| fail) => `(tactic| with_reducible refine v_lzip ?_)
local macro_rules | `(tactic| fail) => `(tactic| with_reducible refine v_lrev ?_)
local macro_rules | `(tactic| fail) => `(tactic| with_reducible refine v_blt ?_)
local macro_rules | `(tactic| fail) => `(tactic| with_reducible refine v_call ?_)
local macro_rules | `(tactic| fail) => `(tactic| with_reducible refine v_slice ?_)
local macro_rules | `(tactic| fail) => `(tactic| with_reducible refine v_sub ?_)
local macro_rules | `(tactic| fail) => `(tactic| with_reducible refine v_lst ?_)
local macro_rules | `(tactic| fail) => `(tactic| with_reducible refine v_tup ?_)
local macro_rules | `(tactic| fail) => `(tactic| with_reducible refine v_ite ?_)
local macro_rules | `(tactic| fail) => `(tactic| with_reducible refine v_nt ?_)
local macro_rules | `(tactic| fail) => `(tactic| with_reducible refine v_bop ?_)
local macro_rules | `(tactic| fail) => `(tactic| with_reducible refine v_cmp ?_)
local macro_rules | `(tactic| fail) => `(tactic| with_reducible refine v_bin ?_)
local macro_rules | `(tactic| fail) => `(tactic| with_reducible refine v_bty ?_)
local macro_rules | `(tactic| fail) => `(tactic| with_reducible refine v_str ?_)
local macro_rules | `(tactic| fail) => `(tactic| with_reducible refine v_non ?_)
local macro_rules | `(tactic| fail) => `(tactic| with_reducible refine v_bl ?_)
local macro_rules | `(tactic| fail) => `(tactic| with_reducible refine v_int ?_)
local macro_rules | `(tactic| fail) => `(tactic| with_reducible refine s_cont ?_)
local macro_rules | `(tactic| fail) => `(tactic| with_reducible refine s_brk ?_)
local macro_rules | `(tactic| fail) => `(tactic| with_reducible refine s_nil ?_)
local macro_rules | `(tactic| fail) => `(tactic| with_reducible refine s_pass ?_)
local macro_rules | `(tactic| fail) => `(tactic| with_reducible refine s_retN ?_)
local macro_rules | `(tactic| fail) => `(tactic| with_reducible refine s_ret ?_)
local macro_rules | `(tactic| fail) => `(tactic| with_reducible refine s_ife ?_)
local macro_rules | `(tactic| fail) => `(tactic| with_reducible refine s_set ?_)
local macro_rules | `(tactic| fail) => `(tactic| with_reducible refine s_par ?_)
local macro_rules | `(tactic| fail) => `(tactic| with_reducible refine s_asg ?_)
local macro_rules | `(tactic| fail) => `(tactic| with_reducible refine s_ex ?_)

theorem kids_ht {p c : Pg} (h : c ∈ p.kids) : c.ht < p.ht := by
  cases p <;> simp only [Pg.kids, List.mem_cons, List.not_mem_nil, or_false] at h <;> simp only [Pg.ht]
  all_goals first
    | exact h.elim
    | (subst h; omega)
    | (rcases h with rfl | rfl <;> omega)
    | (rcases h with rfl | rfl | rfl <;> omega)
section
variable {defs : Str → Option DefT} {gl : Str → Option D} {k : Nat} {S : Sto} {Q : D → Sto → Prop} {E : Exc → Sto → Prop}
end
end Z

set_option Elab.async false
set_option linter.all false
set_option maxRecDepth 100000
set_option maxHeartbeats 400000
namespace Z
open PySem PySem.Spec PyProof.Rows L2
end Z

set_option Elab.async false
set_option linter.all false
set_option maxRecDepth 100000
set_option maxHeartbeats 400000
namespace Z
open PySem PySem.Spec PyProof.Rows L2
section
variable {S : Sto} {Q : D → Sto → Prop}
def Pg.tag : Pg → String
  | .inp _ => "in" | .num _ => "num" | .yes => "yes" | .no => "no" | .plus _ _ => "plus" | .least _ _ => "least" | .most _ _ => "most" | .atmost _ _ => "atmost" | .not _ => "not" | .both _ _ => "both" | .either _ _ => "either" | .ife _ _ _ => "if"
def Pg.hd : Pg → List D
  | .inp i => [.str "in", .int i] | .num n => [.str "num", .int n] | .plus n _ => [.str "plus", .int n]
  | p => [.str p.tag]
theorem pg_d (p : Pg) : p.d = .tup (p.hd ++ p.kids.map Pg.d) := by cases p <;> rfl
theorem hd_len (p : Pg) : 1 ≤ p.hd.length ∧ p.hd.length ≤ 2 := by cases p <;> simp [Pg.hd]
theorem o_tag {p : Pg} (h : Q (.str p.tag) S) : wSub p.d (.int 0) S Q := by cases p <;> exact h
theorem pg_lenD {p : Pg} : lenD S p.d = some (p.hd.length + p.kids.length) := by rw [pg_d]; simp [lenD]
theorem o_cutH {p : Pg} {i : Int} (e : i = p.hd.length) (h : Q (.tup p.hd) S) : wSlice p.d none (some i) S Q := by
  subst e
  cases p <;> exact h
theorem o_addT {a b c : List D} (e : a ++ b = c) (l : a.length + b.length ≤ sizeLine) (h : Q (.tup c) S) : wBin .Add (.tup a) (.tup b) S Q := by subst e; exact ⟨l, h⟩
end
def Pg.put (ss : List Pg) : Pg → Pg
  | .inp i => ss.getD i .yes
  | .num n => .num n
  | .yes => .yes
  | .no => .no
  | .plus n a => .plus n (a.put ss)
  | .least a b => .least (a.put ss) (b.put ss)
  | .most a b => .most (a.put ss) (b.put ss)
  | .atmost a b => .atmost (a.put ss) (b.put ss)
  | .not a => .not (a.put ss)
  | .both a b => .both (a.put ss) (b.put ss)
  | .either a b => .either (a.put ss) (b.put ss)
  | .ife c a b => .ife (c.put ss) (a.put ss) (b.put ss)
theorem put_d {ss : List Pg} {p : Pg} (h : ¬ ∃ i, p = .inp i) : (p.put ss).d = .tup (p.hd ++ p.kids.map fun c => (c.put ss).d) := by
  cases p
  case inp i => exact absurd ⟨i, rfl⟩ h
  all_goals rfl
def SOk (ks ks' : List Bool) (ss : List Pg) : Prop := ss.length = ks.length ∧ ∀ (i : Nat) t, ks[i]? = some t → ∃ s, ss[i]? = some s ∧ s.ok ks' t
theorem put_inp {ss : List Pg} {i : Nat} {s : Pg} (h : ss[i]? = some s) : (Pg.inp i).put ss = s := by simp [Pg.put, h]
theorem put_ok {ks ks' : List Bool} {ss : List Pg} (h : SOk ks ks' ss) : ∀ {p : Pg} {t : Bool}, p.ok ks t → (p.put ss).ok ks' t := fun {p} => by
  induction p with
  | inp i => intro t hp; obtain ⟨s, h1, h2⟩ := h.2 i t hp; rw [put_inp h1]; exact h2
  | num i => intro t hp; exact hp
  | yes => intro t hp; exact hp
  | no => intro t hp; exact hp
  | plus n a ih => intro t hp; exact ⟨hp.1, ih hp.2⟩
  | not a ih => intro t hp; exact ⟨hp.1, ih hp.2⟩
  | ife c a b ihc iha ihb => intro t hp; exact ⟨ihc hp.1, iha hp.2.1, ihb hp.2.2⟩
  | _ a b iha ihb => intro t hp; exact ⟨hp.1, iha hp.2.1, ihb hp.2.2⟩
def inps (n : Nat) : List Pg := (List.range n).map Pg.inp
theorem inps_at {n i : Nat} (h : i < n) : (inps n)[i]? = some (.inp i) := by simp [inps, h]
local macro_rules | `(tactic| fail) => `(tactic| ((with_reducible refine And.intro ?_ ?_); (focus (exact Nat.le_of_ble_eq_true rfl))))
local macro_rules | `(tactic| fail) => `(tactic| with_reducible refine ⟨_, rfl, ?_⟩)
local macro_rules | `(tactic| fail) => `(tactic| ((with_reducible apply o_sliceT); (focus rfl)))
local macro_rules | `(tactic| fail) => `(tactic| ((with_reducible apply o_inTf); (focus rfl); (focus rfl); (focus (simp [inF, eqF, str_beq]; done))))
local macro_rules | `(tactic| fail) => `(tactic| ((with_reducible apply o_inTt); (focus rfl); (focus rfl); (focus (simp [inF, eqF, str_beq]; done))))
local macro_rules | `(tactic| fail) => `(tactic| ((with_reducible apply o_subC); (focus ((repeat (first | with_reducible exact lk_hit | ((with_reducible apply lk_miss); (focus (exact str_ne (by decide)))))); done))))
local macro_rules | `(tactic| fail) => `(tactic| ((with_reducible apply o_inC); (focus ((repeat (first | with_reducible exact lk_hit | ((with_reducible apply lk_miss); (focus (exact str_ne (by decide)))))); done))))
local macro_rules | `(tactic| fail) => `(tactic| ((with_reducible apply o_ninC); (focus ((repeat (first | with_reducible exact lk_hit | ((with_reducible apply lk_miss); (focus (exact str_ne (by decide)))))); done))))
local macro_rules | `(tactic| fail) => `(tactic| ((with_reducible apply o_isinF); (focus rfl); (focus (decide +kernel))))
local macro_rules | `(tactic| fail) => `(tactic| ((with_reducible apply o_isinT); (focus rfl); (focus (decide +kernel))))
local macro_rules | `(tactic| fail) => `(tactic| with_reducible refine i_enm ?_)
local macro_rules | `(tactic| fail) => `(tactic| ((with_reducible apply g_tup); (focus rfl); (focus rfl)))
local macro_rules | `(tactic| fail) => `(tactic| ((with_reducible apply v_dctN); (focus (decide +kernel))))
local macro_rules | `(tactic| fail) => `(tactic| ((with_reducible apply o_len); (focus (exact len_ref (by (first | assumption | exact updS_same | exact upd_at (by assumption) (by assumption)))))))
local macro_rules | `(tactic| fail) => `(tactic| ((with_reducible apply o_tuple); (focus (first | rfl | exact items_ref (by (first | assumption | exact updS_same | exact upd_at (by assumption) (by assumption)))))))
local macro_rules | `(tactic| fail) => `(tactic| ((with_reducible apply o_get2); (focus (first | assumption | exact updS_same | exact upd_at (by assumption) (by assumption))); (focus rfl); (focus ((repeat (first | with_reducible exact getD_hit | with_reducible exact getD_nil | ((with_reducible apply getD_miss); (focus (exact str_ne (by decide)))))); done))))
local macro_rules | `(tactic| fail) => `(tactic| ((with_reducible apply o_get1); (focus (first | assumption | exact updS_same | exact upd_at (by assumption) (by assumption))); (focus rfl); (focus ((repeat (first | with_reducible exact getD_hit | with_reducible exact getD_nil | ((with_reducible apply getD_miss); (focus (exact str_ne (by decide)))))); done))))
local macro_rules | `(tactic| fail) => `(tactic| ((with_reducible refine And.intro ?_ ?_); (focus (first | exact recvL (by (first | assumption | exact updS_same | exact upd_at (by assumption) (by assumption))) rfl | exact recvD (by (first | assumption | exact updS_same | exact upd_at (by assumption) (by assumption))) rfl))))
local macro_rules | `(tactic| fail) => `(tactic| ((with_reducible apply o_subD); (focus (first | assumption | exact updS_same | exact upd_at (by assumption) (by assumption))); (focus rfl); (focus ((repeat (first | with_reducible exact lookD_hit | ((with_reducible apply look_miss); (focus (exact str_ne (by decide)))))); done))))
local macro_rules | `(tactic| fail) => `(tactic| ((with_reducible apply c_ndF); (focus (((try simp only [List.length_cons, List.length_nil, List.length_append, List.length_map]); omega)))))
local macro_rules | `(tactic| fail) => `(tactic| ((with_reducible apply c_ndT); (focus (((try simp only [List.length_cons, List.length_nil, List.length_append, List.length_map]); omega)))))
local macro_rules | `(tactic| fail) => `(tactic| with_reducible refine o_intB ?_)
local macro_rules | `(tactic| fail) => `(tactic| ((with_reducible apply c_decF); (focus (((try simp only [List.length_cons, List.length_nil, List.length_append, List.length_map]); omega)))))
local macro_rules | `(tactic| fail) => `(tactic| ((with_reducible apply c_decT); (focus (((try simp only [List.length_cons, List.length_nil, List.length_append, List.length_map]); omega)))))
local macro_rules | `(tactic| fail) => `(tactic| with_reducible refine c_notf ?_)
local macro_rules | `(tactic| fail) => `(tactic| with_reducible refine c_nott ?_)
local macro_rules | `(tactic| fail) => `(tactic| with_reducible refine o_eqI ?_)
local macro_rules | `(tactic| fail) => `(tactic| ((with_reducible apply o_eqIf); (focus (((try simp only [List.length_cons, List.length_nil, List.length_append, List.length_map]); omega)))))
local macro_rules | `(tactic| fail) => `(tactic| ((with_reducible apply o_eqIt); (focus (((try simp only [List.length_cons, List.length_nil, List.length_append, List.length_map]); omega)))))
local macro_rules | `(tactic| fail) => `(tactic| with_reducible refine o_isB ?_)
local macro_rules | `(tactic| fail) => `(tactic| with_reducible refine o_isN ?_)
local macro_rules | `(tactic| fail) => `(tactic| with_reducible refine o_isR ?_)
local macro_rules | `(tactic| fail) => `(tactic| with_reducible refine o_eqB ?_)
local macro_rules | `(tactic| fail) => `(tactic| ((with_reducible apply o_neIf); (focus (((try simp only [List.length_cons, List.length_nil, List.length_append, List.length_map]); omega)))))
local macro_rules | `(tactic| fail) => `(tactic| ((with_reducible apply o_neIt); (focus (((try simp only [List.length_cons, List.length_nil, List.length_append, List.length_map]); omega)))))
local macro_rules | `(tactic| fail) => `(tactic| with_reducible refine o_neII ?_)
local macro_rules | `(tactic| fail) => `(tactic| with_reducible refine o_neBB ?_)
local macro_rules | `(tactic| fail) => `(tactic| ((with_reducible apply o_eqSf); (focus decide)))
local macro_rules | `(tactic| fail) => `(tactic| ((with_reducible apply o_atr); (focus rfl)))
local macro_rules | `(tactic| fail) => `(tactic| with_reducible refine o_isx ?_)
local macro_rules | `(tactic| fail) => `(tactic| with_reducible refine o_eqSt ?_)
local macro_rules | `(tactic| fail) => `(tactic| ((with_reducible apply o_len); focus (first | rfl | (simp only [lenD]; simp only [*]; done))))
local macro_rules | `(tactic| fail) => `(tactic| ((with_reducible apply o_setL); (focus (first | assumption | exact updS_same | exact upd_at (by assumption) (by assumption))); (focus rfl)))
local macro_rules | `(tactic| fail) => `(tactic| ((with_reducible refine And.intro ?_ ?_); (focus (first | exact selfOk (by (first | assumption | exact updS_same | exact upd_at (by assumption) (by assumption))) rfl | exact insOk (by (first | assumption | exact updS_same | exact upd_at (by assumption) (by assumption)))))))
local macro_rules | `(tactic| fail) => `(tactic| ((with_reducible apply o_setf); (focus (first | assumption | exact updS_same | exact upd_at (by assumption) (by assumption))); (focus (exact Nat.le_of_ble_eq_true rfl))))
local macro_rules | `(tactic| fail) => `(tactic| ((with_reducible apply o_fld); (focus (first | assumption | exact updS_same | exact upd_at (by assumption) (by assumption))); (focus rfl)))
local macro_rules | `(tactic| fail) => `(tactic| ((with_reducible apply o_subT); focus (rfl)))
local macro_rules | `(tactic| fail) => `(tactic| ((with_reducible apply o_subL); (focus (first | assumption | exact updS_same | exact upd_at (by assumption) (by assumption))); (focus rfl)))
local macro_rules | `(tactic| fail) => `(tactic| ((with_reducible apply o_pow); focus (unfold CPow; omega)))
local macro_rules | `(tactic| fail) => `(tactic| ((with_reducible apply o_mod); focus (omega)))
local macro_rules | `(tactic| fail) => `(tactic| ((with_reducible apply o_div); focus (unfold CDiv; omega)))
local macro_rules | `(tactic| fail) => `(tactic| ((with_reducible apply o_mul); focus (unfold CMul; omega)))
local macro_rules | `(tactic| fail) => `(tactic| ((with_reducible apply v_glob); focus (first | assumption | rfl)))
local macro_rules | `(tactic| fail) => `(tactic| ((with_reducible apply t_var); focus (rfl)))
local macro_rules | `(tactic| fail) => `(tactic| ((with_reducible apply v_var); focus (rfl)))
local macro_rules | `(tactic| fail) => `(tactic| with_reducible refine c_false ?_)
local macro_rules | `(tactic| fail) => `(tactic| with_reducible refine c_true ?_)
local macro_rules | `(tactic| fail) => `(tactic| with_reducible refine o_ge ?_)
local macro_rules | `(tactic| fail) => `(tactic| with_reducible refine o_gt ?_)
local macro_rules | `(tactic| fail) => `(tactic| with_reducible refine o_le ?_)
local macro_rules | `(tactic| fail) => `(tactic| with_reducible refine o_lt ?_)
local macro_rules | `(tactic| fail) => `(tactic| with_reducible refine o_sub ?_)
local macro_rules | `(tactic| fail) => `(tactic| with_reducible refine o_add ?_)
local macro_rules | `(tactic| fail) => `(tactic| with_reducible refine o_sub1 ?_)
local macro_rules | `(tactic| fail) => `(tactic| with_reducible refine o_sub0 ?_)
local macro_rules | `(tactic| fail) => `(tactic| with_reducible refine i_rng1 ?_)
local macro_rules | `(tactic| fail) => `(tactic| with_reducible refine i_seq ?_)
local macro_rules | `(tactic| fail) => `(tactic| with_reducible refine g_cons ?_)
local macro_rules | `(tactic| fail) => `(tactic| with_reducible refine g_nil ?_)
local macro_rules | `(tactic| fail) => `(tactic| with_reducible refine g_nm ?_)
local macro_rules | `(tactic| fail) => `(tactic| with_reducible refine ts_one ?_)
local macro_rules | `(tactic| fail) => `(tactic| with_reducible refine ts_nil ?_)
local macro_rules | `(tactic| fail) => `(tactic| with_reducible refine tr_int ?_)
local macro_rules | `(tactic| fail) => `(tactic| with_reducible refine tr_bl ?_)
local macro_rules | `(tactic| fail) => `(tactic| with_reducible refine tb_or ?_)
local macro_rules | `(tactic| fail) => `(tactic| with_reducible refine tb_and ?_)
local macro_rules | `(tactic| fail) => `(tactic| with_reducible refine tb_one ?_)
local macro_rules | `(tactic| fail) => `(tactic| with_reducible refine t_chain ?_)
local macro_rules | `(tactic| fail) => `(tactic| with_reducible refine t_sub ?_)
local macro_rules | `(tactic| fail) => `(tactic| with_reducible refine t_blt ?_)
local macro_rules | `(tactic| fail) => `(tactic| with_reducible refine t_call ?_)
local macro_rules | `(tactic| fail) => `(tactic| with_reducible refine t_cmp ?_)
local macro_rules | `(tactic| fail) => `(tactic| with_reducible refine t_nt ?_)
local macro_rules | `(tactic| fail) => `(tactic| with_reducible refine t_bop ?_)
local macro_rules | `(tactic| fail) => `(tactic| with_reducible refine vb_or ?_)
local macro_rules | `(tactic| fail) => `(tactic| with_reducible refine vb_and ?_)
local macro_rules | `(tactic| fail) => `(tactic| with_reducible refine vb_one ?_)
local macro_rules | `(tactic| fail) => `(tactic| with_reducible refine vo_some ?_)
local macro_rules | `(tactic| fail) => `(tactic| with_reducible refine vo_none ?_)
local macro_rules | `(tactic| fail) => `(tactic| with_reducible refine vs_cons ?_)
local macro_rules | `(tactic| fail) => `(tactic| with_reducible refine vs_nil ?_)
local macro_rules | `(tactic| fail) => `(tactic| with_reducible refine s_try ?_)
local macro_rules | `(tactic| fail) => `(tactic| with_reducible refine s_setf ?_)
local macro_rules | `(tactic| fail) => `(tactic| with_reducible refine v_eqo ?_)
local macro_rules | `(tactic| fail) => `(tactic| with_reducible refine t_isc ?_)
local macro_rules | `(tactic| fail) => `(tactic| with_reducible refine v_isc ?_)
local macro_rules | `(tactic| fail) => `(tactic| with_reducible refine t_meth ?_)
local macro_rules | `(tactic| fail) => `(tactic| with_reducible refine v_meth ?_)
local macro_rules | `(tactic| fail) => `(tactic| with_reducible refine v_new ?_)
local macro_rules | `(tactic| fail) => `(tactic| with_reducible refine v_fld ?_)
local macro_rules | `(tactic| fail) => `(tactic| with_reducible refine v_atr ?_)
local macro_rules | `(tactic| fail) => `(tactic| with_reducible refine v_isx ?_)
local macro_rules | `(tactic| fail) => `(tactic| with_reducible refine v_back ?_)
local macro_rules | `(tactic| fail) => `(tactic| with_reducible refine v_lc ?_)
local macro_rules | `(tactic| fail) => `(tactic| with_reducible refine v_mth ?_)
local macro_rules | `(tactic| fail) => `(tactic| with_reducible refine v_lzip ?_)
local macro_rules | `(tactic| fail) => `(tactic| with_reducible refine v_lrev ?_)
local macro_rules | `(tactic| fail) => `(tactic| with_reducible refine v_blt ?_)
local macro_rules | `(tactic| fail) => `(tactic| with_reducible refine v_call ?_)
local macro_rules | `(tactic| fail) => `(tactic| with_reducible refine v_slice ?_)
local macro_rules | `(tactic| fail) => `(tactic| with_reducible refine v_sub ?_)
local macro_rules | `(tactic| fail) => `(tactic| with_reducible refine v_lst ?_)
local macro_rules | `(tactic| fail) => `(tactic| with_reducible refine v_tup ?_)
local macro_rules | `(tactic| fail) => `(tactic| with_reducible refine v_ite ?_)
local macro_rules | `(tactic| fail) => `(tactic| with_reducible refine v_nt ?_)
local macro_rules | `(tactic| fail) => `(tactic| with_reducible refine v_bop ?_)
local macro_rules | `(tactic| fail) => `(tactic| with_reducible refine v_cmp ?_)
local macro_rules | `(tactic| fail) => `(tactic| with_reducible refine v_bin ?_)
local macro_rules | `(tactic| fail) => `(tactic| with_reducible refine v_bty ?_)
local macro_rules | `(tactic| fail) => `(tactic| with_reducible refine v_str ?_)
local macro_rules | `(tactic| fail) => `(tactic| with_reducible refine v_non ?_)
local macro_rules | `(tactic| fail) => `(tactic| with_reducible refine v_bl ?_)
local macro_rules | `(tactic| fail) => `(tactic| with_reducible refine v_int ?_)
local macro_rules | `(tactic| fail) => `(tactic| with_reducible refine s_cont ?_)
local macro_rules | `(tactic| fail) => `(tactic| with_reducible refine s_brk ?_)
local macro_rules | `(tactic| fail) => `(tactic| with_reducible refine s_nil ?_)
local macro_rules | `(tactic| fail) => `(tactic| with_reducible refine s_pass ?_)
local macro_rules | `(tactic| fail) => `(tactic| with_reducible refine s_retN ?_)
local macro_rules | `(tactic| fail) => `(tactic| with_reducible refine s_ret ?_)
local macro_rules | `(tactic| fail) => `(tactic| with_reducible refine s_ife ?_)
local macro_rules | `(tactic| fail) => `(tactic| with_reducible refine s_set ?_)
local macro_rules | `(tactic| fail) => `(tactic| with_reducible refine s_par ?_)
local macro_rules | `(tactic| fail) => `(tactic| with_reducible refine s_asg ?_)
local macro_rules | `(tactic| fail) => `(tactic| with_reducible refine s_ex ?_)

theorem lc_pop7 {C : Cw} {Q : D → Sto → Prop} {dp : Addr} {x0 x1 x3 x4 x5 x6 : Option D} : ∀ (vs D0 acc ds : List D) (S : Sto), ds.length = vs.length → S dp = some (.lst (D0 ++ vs.reverse)) → acc.length + vs.length ≤ 1000 →
    (∀ p S', S' dp = some (.lst D0) → Off [dp] S S' → S' p = none → Q (.ref p) (updS S' p (.lst (acc ++ vs)))) →
    lcL (fun d S2 k => wpG (.nm 6) d (wipeD [x0, x1, some (.ref dp), x3, x4, x5, x6] (List.map (fun x => x.2) [((Str.ofString "part"), 6)])) S2 fun σ2 => wpTs C [] σ2 S2 fun b S3 => if b = true then wpE C (fun _ _ _ => False) (.mth .pop (.var 2) []) σ2 S3 fun v S4 => k (some v) S4 else k none S3) (fun _ => True) Q ds acc S
  | [], D0, acc, ds, S, hl, e, ha, hq => by
    cases ds with
    | cons d ds => cases hl
    | nil =>
      refine ⟨trivial, fun p hp => ?_⟩
      have := hq p S (by simpa using e) (Off.refl _ _) hp
      simpa using this
  | v :: vs, D0, acc, ds, S, hl, e, ha, hq => by
    cases ds with
    | nil => cases hl
    | cons d ds =>
      rw [List.length_cons] at ha
      have e' : S dp = some (.lst ((D0 ++ vs.reverse) ++ [v])) := by rw [e]; simp
      refine ⟨trivial, by rw [sizeLine_eq]; omega, ?_⟩
      simp only [List.map_cons, List.map_nil, wipeD, List.set_cons_zero, List.set_cons_succ]
      (repeat fail)
      refine o_pop e' ?_
      refine lc_pop7 (x6 := x6) vs D0 (acc ++ [v]) ds _ (by simpa using hl) updS_same (by rw [List.length_append, List.length_singleton]; omega) fun p S' h1 h2 h3 => ?_
      have := hq p S' h1 ((Off.upd (by simp)).trans h2) h3
      simpa using this
section
variable {defs : Str → Option DefT} {gl : Str → Option D} {k : Nat} {S : Sto} {Q : D → Sto → Prop} {E : Exc → Sto → Prop}
def PutI (S0 : Sto) (dp kp : Addr) (kl env : List D) (pd : D) (Dl : List D) (σ : StD) (S : Sto) : Prop :=
  S dp = some (.lst Dl) ∧ S kp = some (.lst kl) ∧ Off [dp] S0 S ∧ ∃ x3 x4 x5, σ = [some pd, some (.tup env), some (.ref dp), x3, x4, x5, none]
theorem put_node (gP : gl "PARTS" = some partsG) {ks ks' : List Bool} {ss : List Pg} (hs : SOk ks ks' ss) {S0 : Sto} {dp kp : Addr} {kl : List D} {pd : D} (hne : kp ≠ dp) {ex : EX} {nx : StD → Sto → Prop} {rt : D → Sto → Prop} {bk : StD → Sto → Prop}
    (q : Pg) (t : Bool) (D0 : List D) (σ : StD) (S : Sto) (N : StD → Sto → Prop) (hok : q.ok ks t) (hI : PutI S0 dp kp kl (ss.map Pg.d) pd (D0 ++ (q.kids.map fun c => (c.put ss).d).reverse) σ S) (hl : D0.length ≤ 1000000) (hN : ∀ σ' S', PutI S0 dp kp kl (ss.map Pg.d) pd (D0 ++ [(q.put ss).d]) σ' S' → N σ' S') :
    wpG (.nm 3) q.d σ S fun σ' => wpSs ⟨sem defs gl k, gl⟩ ex [.ife (.cmp .Eq (.sub (.var 3) (.int 0)) (.str "in")) [.ex (.mth .append (.var 2) [(.sub (.var 1) (.sub (.var 3) (.int 1)))])] [.asg (.nm 4) (.sub (.glob "PARTS") (.sub (.var 3) (.int 0))), .asg (.nm 5) (.lc (.nm 6) (.rng1 (.var 4)) [] [("part", 6)] (.mth .pop (.var 2) [])), .ex (.mth .append (.var 2) [(.bin .Add (.slice (.var 3) none (some (.bin .Sub (.blt .len [(.var 3)]) (.var 4)))) (.blt .tuple [(.var 5)]))])]] ⟨N, rt, bk, N⟩ σ' S := by
  obtain ⟨h1, h2, h3, x3, x4, x5, rfl⟩ := hI
  have lenD0 : D0.length < sizeLine := by rw [sizeLine_eq]; omega
  have fin : ∀ {p : Addr} {S' : Sto} {y4 y5 : Option D} {o : Ob}, S' dp = some (.lst D0) → Off [dp] S S' → S' p = none → N [some pd, some (.tup (ss.map Pg.d)), some (.ref dp), some q.d, y4, y5, none] (updS (updS S' p o) dp (.lst (D0 ++ [(q.put ss).d]))) := fun {p S' y4 y5 o} g1 g2 g3 => by
    refine hN _ _ ⟨updS_same, ?_, ?_, _, _, _, rfl⟩
    · rw [updS_ne hne]; exact upd_at g3 (g2 kp _ (by simpa using hne) h2)
    · exact ((h3.trans g2).trans (Off.new g3)).trans (Off.upd (by simp))
  cases q
  case inp i =>
    obtain ⟨s, e1, e2⟩ := hs.2 i t hok
    simp only [Pg.kids, List.map_nil, List.reverse_nil, List.append_nil] at h1
    simp only [Pg.d]
    (repeat fail)
    refine o_subT (atI_nat (v := s.d) (by rw [List.getElem?_map, e1]; rfl)) ?_
    (repeat fail)
    refine o_append h1 lenD0 ?_
    (repeat fail)
    refine hN _ _ ⟨by rw [updS_same, put_inp e1], ?_, h3.trans (Off.upd (by simp)), _, _, _, rfl⟩
    rw [updS_ne hne]; exact h2
  all_goals
    simp only [Pg.d]
    (repeat fail)
    refine ⟨by omega, by omega, ?_⟩
    refine lc_pop7 _ D0 [] _ S (by simp [Pg.kids]) h1 (by simp [Pg.kids]) fun p S' g1 g2 g3 => ?_
    rw [List.nil_append]
    simp only [Pg.kids, List.map_cons, List.map_nil]
    (repeat fail)
    refine o_addT rfl (by rw [sizeLine_eq]; exact Nat.le_of_ble_eq_true rfl) ?_
    (repeat fail)
    refine o_append (upd_at g3 g1) lenD0 ?_
    (repeat fail)
    exact fin g1 g2 g3
structure KF0 (defs : Str → Option DefT) (gl : Str → Option D) : Prop where
  kno : defs "knots" = some dKnots
  form : defs "has_form" = some dHasForm
  whole : defs "is_whole" = some dIsWhole
  parts : defs "parts_of" = some dPartsOf
  gP : gl "PARTS" = some partsG
  gN : gl "NUMBERED" = some numG
theorem KFs.k0 (F : KFs defs gl) : KF0 defs gl := ⟨F.kno, F.form, F.whole, F.parts, F.gP, F.gN⟩
theorem spec_put (hd : defs "put" = some dPut) (F : KF0 defs gl) {ks ks' : List Bool} {ss : List Pg} (hs : SOk ks ks' ss) {p : Pg} {t : Bool} (hok : p.ok ks t) (hk : 4 ≤ k) (hz : p.size ≤ 1000000) (hq : ∀ S', Off [] S S' → Q (p.put ss).d S') : sem defs gl k "put" [p.d, .tup (ss.map Pg.d)] S Q E := by
  obtain ⟨k, rfl⟩ : ∃ j, k = j + 1 := ⟨k - 1, by omega⟩
  (refine sem_of hd rfl ?_; unfold dPut; simp only [startD, List.map_cons, List.map_nil, List.length_cons, List.length_nil, List.replicate_succ, List.replicate_zero, List.cons_append, List.nil_append, Nat.reduceAdd, Nat.reduceSub])
  (repeat fail)
  intro dp hdp
  (repeat fail)
  refine s_fr (i_rev ?_)
  (repeat fail)
  refine spec_knots F.kno F.form F.whole F.parts F.gP F.gN (by omega) hz fun kp S1 h1 h2 o1 => ?_
  refine .inr ⟨kp, _, rfl, h2, ?_⟩
  have hne : kp ≠ dp := fun z => by subst z; rw [updS_same] at h1; cases h1
  have e1 : S1 dp = some (.lst []) := o1 dp _ (by simp) updS_same
  rw [← List.append_nil (List.reverse _)]
  refine tree_forG (Inv := PutI S1 dp kp (p.pre.map Pg.d) (ss.map Pg.d) p.d) (ks := ks) (fv := fun q => (q.put ss).d) (fun Dl σ S hI => hI.2.1) ?_ p t [] [] _ _ hok ⟨e1, h2, Off.refl _ _, _, _, _, rfl⟩ (by simpa using hz) fun σ' S' hI => ?_
  · intro q t D0 σ S N g1 g2 g3 g4
    exact put_node (nx := fun _ _ => True) F.gP hs hne q t D0 σ S N g1 g2 g3 g4
  · obtain ⟨i1, i2, i3, x3, x4, x5, rfl⟩ := hI
    refine ⟨i2, ?_⟩
    simp only [List.nil_append] at i1
    (repeat fail)
    exact hq S' (Off.drop (p := dp) (((Off.new hdp).trans (o1.mono (by simp))).trans i3) hdp)
theorem ok_kid {ks : List Bool} {p c : Pg} {t : Bool} (h : p.ok ks t) (hc : c ∈ p.kids) : ∃ u, c.ok ks u := by
  cases p <;> simp only [Pg.kids, List.mem_cons, List.not_mem_nil, or_false] at hc <;> simp only [Pg.ok] at h
  all_goals first
    | exact hc.elim
    | (subst hc; exact ⟨_, h.2⟩)
    | (rcases hc with rfl | rfl; exact ⟨_, h.2.1⟩; exact ⟨_, h.2.2⟩)
    | (rcases hc with rfl | rfl | rfl; exact ⟨_, h.1⟩; exact ⟨_, h.2.1⟩; exact ⟨_, h.2.2⟩)
end
end Z

set_option Elab.async false
set_option linter.all false
namespace Z
open PySem PySem.Spec PyProof.Rows L2
def dLKindsB : DefT := ⟨2, 4, [
    .asg (.nm 2) (.blt .max [(.call "_law_draw" [(.var 0), (.bin .Add (.var 1) (.int 1))]), (.call "_law_draw" [(.var 0), (.bin .Add (.var 1) (.int 1))])]),
    .ret (.blt .tuple [(.lc (.nm 3) (.rng1 (.var 2)) [] [("_law_k", 3)] (.sub (.lst [(.str "num"), (.str "num"), (.str "num"), (.str "truth")]) (.call "_law_draw" [(.var 0), (.int 4)])))])]⟩
def dLLittle : DefT := ⟨1, 1, [
    .ret (.sub (.lst [(.int 0), (.int 1), (.bin .Sub (.int 0) (.int 1)), (.int 2), (.bin .Sub (.int 0) (.int 2)), (.int 0), (.int 1), (.int 3)]) (.call "_law_draw" [(.var 0), (.int 8)]))]⟩
def dLLeafB : DefT := ⟨3, 6, [
    .asg (.nm 3) (.lc (.tup [(.nm 4), (.nm 5)]) (.enm (.var 1)) [(.cmp .Eq (.var 5) (.var 2))] [("_law_k", 4), ("_law_one", 5)] (.tup [(.str "in"), (.var 4)])),
    .ife (.bop .And [(.cmp .Gt (.blt .len [(.var 3)]) (.int 0)), (.cmp .Gt (.call "_law_draw" [(.var 0), (.int 4)]) (.int 0))]) [.ret (.sub (.var 3) (.call "_law_draw" [(.var 0), (.blt .len [(.var 3)])]))] [],
    .ife (.cmp .Eq (.var 2) (.str "num")) [.ret (.tup [(.str "num"), (.call "_law_little" [(.var 0)])])] [],
    .ret (.sub (.lst [(.tup [(.str "yes")]), (.tup [(.str "no")])]) (.call "_law_draw" [(.var 0), (.int 2)]))]⟩
def dLPlan : DefT := ⟨4, 13, [
    .asg (.nm 4) (.call "_law_draw" [(.var 0), (.int 7)]),
    .ife (.bop .Or [(.cmp .Lt (.var 3) (.int 2)), (.cmp .Eq (.var 4) (.int 0))]) [.ret (.call "_law_leaf" [(.var 0), (.var 1), (.var 2)])] [],
    .ife (.bop .Or [(.cmp .Lt (.var 3) (.int 3)), (.cmp .Eq (.var 4) (.int 1))]) [.asg (.nm 5) (.call "_law_plan" [(.var 0), (.var 1), (.var 2), (.bin .Sub (.var 3) (.int 1))]), .ret (.ite (.cmp .Eq (.var 2) (.str "num")) (.tup [(.str "plus"), (.call "_law_little" [(.var 0)]), (.var 5)]) (.tup [(.str "not"), (.var 5)]))] [],
    .asg (.nm 6) (.bin .Add (.int 1) (.call "_law_draw" [(.var 0), (.bin .Sub (.var 3) (.int 2))])),
    .ife (.bop .And [(.cmp .Eq (.var 4) (.int 2)), (.cmp .Gt (.var 3) (.int 3))]) [.asg (.nm 7) (.bin .Add (.int 1) (.call "_law_draw" [(.var 0), (.bin .Sub (.var 3) (.int 3))])), .par 8 9 (.call "_law_plan" [(.var 0), (.var 1), (.str "truth"), (.var 7)]) (.bin .Add (.int 1) (.call "_law_draw" [(.var 0), (.bin .Sub (.bin .Sub (.var 3) (.int 2)) (.var 7))])), .asg (.nm 10) (.call "_law_plan" [(.var 0), (.var 1), (.var 2), (.var 9)]), .ret (.tup [(.str "if"), (.var 8), (.var 10), (.call "_law_plan" [(.var 0), (.var 1), (.var 2), (.bin .Sub (.bin .Sub (.bin .Sub (.var 3) (.int 1)) (.var 7)) (.var 9))])])] [],
    .asg (.nm 11) (.ite (.bop .Or [(.cmp .Eq (.var 2) (.str "num")), (.cmp .Gt (.var 4) (.int 3))]) (.str "num") (.str "truth")),
    .asg (.nm 12) (.sub (.sub (.lst [(.lst [(.str "least"), (.str "most")]), (.lst [(.str "both"), (.str "either")])]) (.blt .int [(.cmp .Eq (.var 2) (.str "truth"))])) (.call "_law_draw" [(.var 0), (.int 2)])),
    .ife (.bop .And [(.cmp .Eq (.var 2) (.str "truth")), (.cmp .Eq (.var 11) (.str "num"))]) [.asg (.nm 12) (.str "atmost")] [],
    .asg (.nm 10) (.call "_law_plan" [(.var 0), (.var 1), (.var 11), (.var 6)]),
    .ret (.tup [(.var 12), (.var 10), (.call "_law_plan" [(.var 0), (.var 1), (.var 11), (.bin .Sub (.bin .Sub (.var 3) (.int 1)) (.var 6))])])]⟩
def dLInner : DefT := ⟨1, 2, [
    .asg (.nm 1) (.mth .get (.dct ["in", "num", "yes", "no", "plus", "not", "if"] [(.int 0), (.int 0), (.int 0), (.int 0), (.int 1), (.int 1), (.int 3)]) [(.sub (.var 0) (.int 0)), (.int 2)]),
    .ret (.blt .list [(.slice (.var 0) (some (.bin .Sub (.blt .len [(.var 0)]) (.var 1))) none)])]⟩
def dLWorth : DefT := ⟨2, 5, [
    .asg (.nm 2) (.sub (.var 0) (.int 0)),
    .ife (.cmp .Eq (.var 2) (.str "in")) [.ret (.sub (.var 1) (.sub (.var 0) (.int 1)))] [],
    .ife (.cmp .Eq (.var 2) (.str "num")) [.ret (.sub (.var 0) (.int 1))] [],
    .ife (.bop .Or [(.cmp .Eq (.var 2) (.str "yes")), (.cmp .Eq (.var 2) (.str "no"))]) [.ret (.cmp .Eq (.var 2) (.str "yes"))] [],
    .ife (.cmp .Eq (.var 2) (.str "if")) [.ret (.call "_law_worth" [(.sub (.var 0) (.bin .Add (.int 2) (.blt .int [(.nt (.call "_law_worth" [(.sub (.var 0) (.int 1)), (.var 1)]))]))), (.var 1)])] [],
    .asg (.nm 3) (.lc (.nm 4) (.seq (.call "_law_inner" [(.var 0)])) [] [("_law_one", 4)] (.call "_law_worth" [(.var 4), (.var 1)])),
    .ife (.cmp .Eq (.var 2) (.str "plus")) [.ret (.bin .Add (.sub (.var 0) (.int 1)) (.sub (.var 3) (.int 0)))] [],
    .ife (.bop .Or [(.cmp .Eq (.var 2) (.str "least")), (.cmp .Eq (.var 2) (.str "most"))]) [.ret (.sub (.blt .sorted [(.var 3)]) (.blt .int [(.cmp .Eq (.var 2) (.str "most"))]))] [],
    .ife (.cmp .Eq (.var 2) (.str "atmost")) [.ret (.cmp .LtE (.sub (.var 3) (.int 0)) (.sub (.var 3) (.int 1)))] [],
    .ife (.cmp .Eq (.var 2) (.str "not")) [.ret (.nt (.sub (.var 3) (.int 0)))] [],
    .ret (.ite (.cmp .Eq (.var 2) (.str "both")) (.bop .And [(.sub (.var 3) (.int 0)), (.sub (.var 3) (.int 1))]) (.bop .Or [(.sub (.var 3) (.int 0)), (.sub (.var 3) (.int 1))]))]⟩
def dLPut : DefT := ⟨2, 4, [
    .ife (.cmp .Eq (.sub (.var 0) (.int 0)) (.str "in")) [.ret (.sub (.var 1) (.sub (.var 0) (.int 1)))] [],
    .asg (.nm 2) (.lc (.nm 3) (.seq (.call "_law_inner" [(.var 0)])) [] [("_law_one", 3)] (.call "_law_put" [(.var 3), (.var 1)])),
    .ret (.bin .Add (.slice (.var 0) none (some (.bin .Sub (.blt .len [(.var 0)]) (.blt .len [(.var 2)])))) (.blt .tuple [(.var 2)]))]⟩
def dLSomeInputs : DefT := ⟨2, 5, [
    .asg (.nm 2) (.lst []),
    .fr (.nm 3) (.seq (.var 1)) [.asg (.nm 4) (.sub (.lst [(.bin .Sub (.call "_law_draw" [(.var 0), (.int 7)]) (.int 3)), (.bin .Sub (.call "_law_draw" [(.var 0), (.int 2000001)]) (.int 1000000))]) (.call "_law_draw" [(.var 0), (.int 2)])), .ex (.mth .append (.var 2) [(.ite (.cmp .Eq (.var 3) (.str "num")) (.var 4) (.cmp .Eq (.call "_law_draw" [(.var 0), (.int 2)]) (.int 0)))])],
    .ret (.blt .tuple [(.var 2)])]⟩
def dInputsOf : DefT := ⟨1, 2, [
    .ret (.blt .tuple [(.lc (.nm 1) (.rng1 (.var 0)) [] [("k", 1)] (.tup [(.str "in"), (.var 1)]))])]⟩
def dMetBy : DefT := ⟨3, 3, [
    .ret (.call "put" [(.var 0), (.bin .Add (.call "inputs_of" [(.var 2)]) (.tup [(.var 1)]))])]⟩
end Z

set_option Elab.async false
set_option linter.all false
set_option maxRecDepth 100000
set_option maxHeartbeats 4000000
namespace Z
open PySem PySem.Spec PyProof.Rows L2
theorem app_ok {a b : Str} (ha : PyData.strOk a = true) (hb : PyData.strOk b = true) : PyData.strOk (a ++ b) = true := by
  unfold PyData.strOk at *
  show (a.cps ++ b.cps).all _ = true
  rw [Array.all_append, ha, hb]
  rfl
theorem app_len {a b : Str} : (a ++ b).length = a.length + b.length := by
  show (a.cps ++ b.cps).size = a.cps.size + b.cps.size
  rw [Array.size_append]
theorem join_ok {sep : Str} (hs : PyData.strOk sep = true) : ∀ {ts : List Str}, (∀ t ∈ ts, PyData.strOk t = true) → PyData.strOk (Str.join sep ts) = true
  | [], _ => by simp [Str.join, Str.empty, PyData.strOk]
  | [x], h => h x (by simp)
  | x :: y :: r, h => app_ok (app_ok (h x (by simp)) hs) (join_ok hs fun t ht => h t (by simp at ht ⊢; exact .inr ht))
theorem join_len {sep : Str} : ∀ {ts : List Str}, (Str.join sep ts).length ≤ (ts.map fun t => t.length + sep.length).sum
  | [] => Nat.zero_le _
  | [x] => by simp [Str.join]
  | x :: y :: r => by
    have ih := join_len (sep := sep) (ts := y :: r)
    have e : (Str.join sep (x :: y :: r)).length = x.length + sep.length + (Str.join sep (y :: r)).length := by
      show ((x ++ sep) ++ Str.join sep (y :: r)).length = _
      rw [app_len, app_len]
    rw [e, List.map_cons, List.sum_cons]
    omega
theorem tuple_ok {ts : List Str} (h : ∀ t ∈ ts, PyData.strOk t = true) : PyData.strOk (tupleText ts) = true := by
  unfold tupleText
  refine app_ok (app_ok (strOk_of "(") (join_ok (strOk_of ", ") h)) ?_
  split
  · exact strOk_of ",)"
  · exact strOk_of ")"
theorem tuple_len {ts : List Str} : (tupleText ts).length ≤ (ts.map fun t => t.length + 2).sum + 3 := by
  unfold tupleText
  have h1 := join_len (sep := ", ") (ts := ts)
  have h2 : (Str.ofString ", ").length = 2 := by decide
  have h3 : (Str.ofString "(").length = 1 := by decide
  rw [h2] at h1
  rw [app_len, app_len, h3]
  split
  · have : (Str.ofString ",)").length = 2 := by decide
    omega
  · have : (Str.ofString ")").length = 1 := by decide
    omega
mutual
/-- data whose texts and numbers are short -/
def shO : PyData → Prop
  | .none => True
  | .bool _ => True
  | .int i => -10000000 ≤ i ∧ i ≤ 10000000
  | .str x => PyData.strOk (reprText x) = true ∧ (reprText x).length ≤ 20 ∧ PyData.strOk x = true
  | .tuple xs => shOs xs
  | _ => False
def shOs : List PyData → Prop
  | [] => True
  | x :: xs => shO x ∧ shOs xs
end
mutual
def nodes : PyData → Nat
  | .tuple xs => nodess xs + 1
  | _ => 1
def nodess : List PyData → Nat
  | [] => 0
  | x :: xs => nodes x + nodess xs
end
theorem log7 {c : Int} (h : -10000000 ≤ c ∧ c ≤ 10000000) : c.natAbs.log2 < 1920 := by
  by_cases h0 : c.natAbs = 0
  · rw [h0]; decide
  · rw [Nat.log2_lt h0]
    have h24 : c.natAbs < 2 ^ 24 := by omega
    exact Nat.lt_of_lt_of_le h24 (Nat.pow_le_pow_right (by decide) (by decide))
theorem int_len {c : Int} (h : -10000000 ≤ c ∧ c ≤ 10000000) : (Str.ofString (toString c)).length ≤ 20 := by
  have h1 := int_text_length_le10 (a := c) (k := 8) (by omega) (by omega)
  have h2 : (Str.ofString (toString c)).length = (toString c).length := by
    first | exact PySem.ofString_length _ | exact PySem.Spec.ofString_length _ | exact PyProof.ofString_length _ | exact ofString_length _
  omega
mutual
theorem sh_all : ∀ p : PyData, shO p → PyData.strOk p.shown = true ∧ p.shown.length + 2 ≤ 30 * nodes p ∧ p.showable = true ∧ p.canLay0 = true
  | .none, _ => ⟨strOk_of "None", by decide, rfl, rfl⟩
  | .bool b, _ => by cases b <;> exact ⟨strOk_of _, by decide, rfl, rfl⟩
  | .int i, h => ⟨strOk_of (toString i), by have := int_len h; show (Str.ofString (toString i)).length + 2 ≤ 30 * 1; omega, decide_eq_true (log7 h), rfl⟩
  | .str x, h => ⟨h.1, by show (reprText x).length + 2 ≤ 30 * 1; have := h.2.1; omega, rfl, by simpa [PyData.canLay0] using h.2.2⟩
  | .tuple xs, h => by
    obtain ⟨h1, h2, h3, h4⟩ := sh_alls xs (by simpa only [shO] using h)
    refine ⟨tuple_ok h1, ?_, by simpa [PyData.showable] using h3, by simpa [PyData.canLay0] using h4⟩
    show (tupleText (PyData.shownAll xs)).length + 2 ≤ 30 * (nodess xs + 1)
    have := tuple_len (ts := PyData.shownAll xs)
    omega
  | .list _, h => by simp [shO] at h
  | .dict _, h => by simp [shO] at h
theorem sh_alls : ∀ ps : List PyData, shOs ps → (∀ t ∈ PyData.shownAll ps, PyData.strOk t = true) ∧ ((PyData.shownAll ps).map fun t => t.length + 2).sum ≤ 30 * nodess ps ∧ PyData.showableAll ps = true ∧ PyData.canLayAll0 ps = true
  | [], _ => ⟨by simp [PyData.shownAll], by simp [PyData.shownAll], rfl, rfl⟩
  | p :: ps, h => by
    simp only [shOs] at h
    obtain ⟨a1, a2, a3, a4⟩ := sh_all p h.1
    obtain ⟨b1, b2, b3, b4⟩ := sh_alls ps h.2
    refine ⟨fun t ht => ?_, ?_, by simp [PyData.showableAll, a3, b3], by simp [PyData.canLayAll0, a4, b4]⟩
    · simp only [PyData.shownAll, List.mem_cons] at ht
      rcases ht with rfl | ht
      · exact a1
      · exact b1 t ht
    · have hn : 1 ≤ nodes p := by cases p <;> simp [nodes]
      simp only [PyData.shownAll, List.map_cons, List.sum_cons, nodess]
      omega
end
def Pg.nb (B : Int) : Pg → Prop
  | .inp i => (i : Int) ≤ B
  | .num n => -B ≤ n ∧ n ≤ B
  | .yes => True
  | .no => True
  | .plus n a => (-B ≤ n ∧ n ≤ B) ∧ a.nb B
  | .not a => a.nb B
  | .least a b => a.nb B ∧ b.nb B
  | .most a b => a.nb B ∧ b.nb B
  | .atmost a b => a.nb B ∧ b.nb B
  | .both a b => a.nb B ∧ b.nb B
  | .either a b => a.nb B ∧ b.nb B
  | .ife c a b => c.nb B ∧ a.nb B ∧ b.nb B
def Pg.P : Pg → PyData
  | .inp i => .tuple [.str "in", .int i]
  | .num n => .tuple [.str "num", .int n]
  | .yes => .tuple [.str "yes"]
  | .no => .tuple [.str "no"]
  | .plus n a => .tuple [.str "plus", .int n, a.P]
  | .least a b => .tuple [.str "least", a.P, b.P]
  | .most a b => .tuple [.str "most", a.P, b.P]
  | .atmost a b => .tuple [.str "atmost", a.P, b.P]
  | .not a => .tuple [.str "not", a.P]
  | .both a b => .tuple [.str "both", a.P, b.P]
  | .either a b => .tuple [.str "either", a.P, b.P]
  | .ife c a b => .tuple [.str "if", c.P, a.P, b.P]
theorem pg_toP (p : Pg) : toP p.d = some p.P := by
  induction p <;> simp [Pg.d, Pg.P, toP, toPs, *]
theorem pg_P_depth (p : Pg) : p.P.depth ≤ p.ht + 1 := by
  induction p <;> simp only [Pg.P, PyData.depth, PyData.depthAll, Pg.ht] <;> omega
theorem pg_nodes (p : Pg) : nodes p.P ≤ 3 * p.size := by
  induction p <;> simp only [Pg.P, nodes, nodess, Pg.size] <;> omega
theorem shW (w : String) (h : PyData.strOk (reprText (Str.ofString w)) = true ∧ (reprText (Str.ofString w)).length ≤ 20) : shO (.str (Str.ofString w)) := ⟨h.1, h.2, strOk_of w⟩
theorem pg_sh {B : Int} (hB : 0 ≤ B ∧ B ≤ 10000000) (p : Pg) (h : p.nb B) : shO p.P := by
  have w1 := shW "in" (by decide +kernel)
  have w2 := shW "num" (by decide +kernel)
  have w3 := shW "yes" (by decide +kernel)
  have w4 := shW "no" (by decide +kernel)
  have w5 := shW "plus" (by decide +kernel)
  have w6 := shW "least" (by decide +kernel)
  have w7 := shW "most" (by decide +kernel)
  have w8 := shW "atmost" (by decide +kernel)
  have w9 := shW "not" (by decide +kernel)
  have wA := shW "both" (by decide +kernel)
  have wB := shW "either" (by decide +kernel)
  have wC := shW "if" (by decide +kernel)
  induction p with
  | inp i => simp only [Pg.P, shO, shOs]; simp only [Pg.nb] at h; exact ⟨w1, by omega, trivial⟩
  | num i => simp only [Pg.P, shO, shOs]; simp only [Pg.nb] at h; exact ⟨w2, by omega, trivial⟩
  | yes => simp only [Pg.P, shO, shOs]; exact ⟨w3, trivial⟩
  | no => simp only [Pg.P, shO, shOs]; exact ⟨w4, trivial⟩
  | plus n a ih => simp only [Pg.P, shO, shOs]; simp only [Pg.nb] at h; exact ⟨w5, by omega, ih h.2, trivial⟩
  | least a b ia ib => simp only [Pg.P, shO, shOs]; exact ⟨w6, ia h.1, ib h.2, trivial⟩
  | most a b ia ib => simp only [Pg.P, shO, shOs]; exact ⟨w7, ia h.1, ib h.2, trivial⟩
  | atmost a b ia ib => simp only [Pg.P, shO, shOs]; exact ⟨w8, ia h.1, ib h.2, trivial⟩
  | not a ia => simp only [Pg.P, shO, shOs]; exact ⟨w9, ia h, trivial⟩
  | both a b ia ib => simp only [Pg.P, shO, shOs]; exact ⟨wA, ia h.1, ib h.2, trivial⟩
  | either a b ia ib => simp only [Pg.P, shO, shOs]; exact ⟨wB, ia h.1, ib h.2, trivial⟩
  | ife c a b ic ia ib => simp only [Pg.P, shO, shOs]; exact ⟨wC, ic h.1, ia h.2.1, ib h.2.2, trivial⟩
theorem nb_mono {B B' : Int} (hB : B ≤ B') (p : Pg) (h : p.nb B) : p.nb B' := by
  induction p with
  | inp i => simp only [Pg.nb] at *; omega
  | num i => simp only [Pg.nb] at *; omega
  | yes => trivial
  | no => trivial
  | plus n a ih => simp only [Pg.nb] at *; exact ⟨by omega, ih h.2⟩
  | not a ih => exact ih h
  | ife c a b ic ia ib => exact ⟨ic h.1, ia h.2.1, ib h.2.2⟩
  | _ a b ia ib => exact ⟨ia h.1, ib h.2⟩
theorem put_nb {B : Int} {ss : List Pg} (hs : ∀ s ∈ ss, s.nb B) (p : Pg) (h : p.nb B) : (p.put ss).nb B := by
  induction p with
  | inp i =>
    simp only [Pg.put, List.getD_eq_getElem?_getD]
    cases e : ss[i]? with
    | none => trivial
    | some s => exact hs s (List.mem_of_getElem? e)
  | num i => exact h
  | yes => trivial
  | no => trivial
  | plus n a ih => exact ⟨h.1, ih h.2⟩
  | not a ih => exact ih h
  | ife c a b ic ia ib => exact ⟨ic h.1, ia h.2.1, ib h.2.2⟩
  | _ a b ia ib => exact ⟨ia h.1, ib h.2⟩
section
variable {S : Sto} {Q : D → Sto → Prop}
theorem o_reprP {p : Pg} (h : p.nb 1000000) (ht : p.ht ≤ 50) (hz : p.size ≤ 1000) (hq : Q (.str p.P.shown) S) : wBlt .repr [p.d] S Q := by
  have e : toPS S p.d = some p.P := by
    have := pg_toP p
    cases p <;> exact this
  obtain ⟨a1, a2, a3, a4⟩ := sh_all p.P (pg_sh (B := 1000000) ⟨by decide, by decide⟩ p h)
  have h1 := pg_nodes p
  have h2 := pg_P_depth p
  unfold wBlt
  simp only [e]
  exact ⟨a4, a3, by omega, .inr (by rw [sizeLine_eq]; omega), hq⟩
theorem strOk_P {p : Pg} (h : p.nb 1000000) : PyData.strOk p.P.shown = true := (sh_all p.P (pg_sh (B := 1000000) ⟨by decide, by decide⟩ p h)).1
theorem o_neStr {b : Str} (hb : PyData.strOk b = true) (h : Q (.bl false) S) : wCmp .NotEq (.str b) (.str b) S Q := o_neSS hb h
end
end Z

set_option Elab.async false
set_option linter.all false
set_option maxRecDepth 100000
set_option maxHeartbeats 4000000
namespace Z
open PySem PySem.Spec PyProof.Rows L2
section
variable {defs : Str → Option DefT} {gl : Str → Option D} {k : Nat} {S : Sto} {Q : D → Sto → Prop} {E : Exc → Sto → Prop}
theorem flow_ne {a p : Addr} (F : Flow S a) (h : S p = none) : p ≠ a := fun z => by subst z; obtain ⟨_, _, _, e, _⟩ := F; rw [h] at e; cases e
theorem at8 {i : Int} (h : 0 ≤ i ∧ i < 8) : ∃ z : Int, atI [D.int 0, D.int 1, D.int (0 - 1), D.int 2, D.int (0 - 2), D.int 0, D.int 1, D.int 3] i = some (.int z) ∧ -2 ≤ z ∧ z ≤ 3 := by
  have : i = 0 ∨ i = 1 ∨ i = 2 ∨ i = 3 ∨ i = 4 ∨ i = 5 ∨ i = 6 ∨ i = 7 := by omega
  rcases this with rfl | rfl | rfl | rfl | rfl | rfl | rfl | rfl
  · exact ⟨0, rfl, by omega⟩
  · exact ⟨1, rfl, by omega⟩
  · exact ⟨0 - 1, rfl, by omega⟩
  · exact ⟨2, rfl, by omega⟩
  · exact ⟨0 - 2, rfl, by omega⟩
  · exact ⟨0, rfl, by omega⟩
  · exact ⟨1, rfl, by omega⟩
  · exact ⟨3, rfl, by omega⟩
theorem at4k {i : Int} (h : 0 ≤ i ∧ i < 4) : ∃ t : Bool, atI [D.str "num", D.str "num", D.str "num", D.str "truth"] i = some (.str (kS t)) := by
  have : i = 0 ∨ i = 1 ∨ i = 2 ∨ i = 3 := by omega
  rcases this with rfl | rfl | rfl | rfl
  · exact ⟨false, rfl⟩
  · exact ⟨false, rfl⟩
  · exact ⟨false, rfl⟩
  · exact ⟨true, rfl⟩
theorem o_max2i {i j : Int} (h : ∀ c, (c = i ∨ c = j) → Q (.int c) S) : wBlt .max [.int i, .int j] S Q := by
  show Q (.int (if j > i then j else i)) S
  split
  · exact h _ (.inr rfl)
  · exact h _ (.inl rfl)
local macro_rules | `(tactic| fail) => `(tactic| ((with_reducible refine And.intro ?_ ?_); (focus (exact Nat.le_of_ble_eq_true rfl))))
local macro_rules | `(tactic| fail) => `(tactic| with_reducible refine ⟨_, rfl, ?_⟩)
local macro_rules | `(tactic| fail) => `(tactic| ((with_reducible apply o_sliceT); (focus rfl)))
local macro_rules | `(tactic| fail) => `(tactic| ((with_reducible apply o_inTf); (focus rfl); (focus rfl); (focus (simp [inF, eqF, str_beq]; done))))
local macro_rules | `(tactic| fail) => `(tactic| ((with_reducible apply o_inTt); (focus rfl); (focus rfl); (focus (simp [inF, eqF, str_beq]; done))))
local macro_rules | `(tactic| fail) => `(tactic| ((with_reducible apply o_subC); (focus ((repeat (first | with_reducible exact lk_hit | ((with_reducible apply lk_miss); (focus (exact str_ne (by decide)))))); done))))
local macro_rules | `(tactic| fail) => `(tactic| ((with_reducible apply o_inC); (focus ((repeat (first | with_reducible exact lk_hit | ((with_reducible apply lk_miss); (focus (exact str_ne (by decide)))))); done))))
local macro_rules | `(tactic| fail) => `(tactic| ((with_reducible apply o_ninC); (focus ((repeat (first | with_reducible exact lk_hit | ((with_reducible apply lk_miss); (focus (exact str_ne (by decide)))))); done))))
local macro_rules | `(tactic| fail) => `(tactic| ((with_reducible apply o_isinF); (focus rfl); (focus (decide +kernel))))
local macro_rules | `(tactic| fail) => `(tactic| ((with_reducible apply o_isinT); (focus rfl); (focus (decide +kernel))))
local macro_rules | `(tactic| fail) => `(tactic| with_reducible refine i_enm ?_)
local macro_rules | `(tactic| fail) => `(tactic| ((with_reducible apply g_tup); (focus rfl); (focus rfl)))
local macro_rules | `(tactic| fail) => `(tactic| ((with_reducible apply v_dctN); (focus (decide +kernel))))
local macro_rules | `(tactic| fail) => `(tactic| ((with_reducible apply o_len); (focus (exact len_ref (by (first | assumption | exact updS_same | exact upd_at (by assumption) (by assumption)))))))
local macro_rules | `(tactic| fail) => `(tactic| ((with_reducible apply o_tuple); (focus (first | rfl | exact items_ref (by (first | assumption | exact updS_same | exact upd_at (by assumption) (by assumption)))))))
local macro_rules | `(tactic| fail) => `(tactic| ((with_reducible apply o_get2); (focus (first | assumption | exact updS_same | exact upd_at (by assumption) (by assumption))); (focus rfl); (focus ((repeat (first | with_reducible exact getD_hit | with_reducible exact getD_nil | ((with_reducible apply getD_miss); (focus (exact str_ne (by decide)))))); done))))
local macro_rules | `(tactic| fail) => `(tactic| ((with_reducible apply o_get1); (focus (first | assumption | exact updS_same | exact upd_at (by assumption) (by assumption))); (focus rfl); (focus ((repeat (first | with_reducible exact getD_hit | with_reducible exact getD_nil | ((with_reducible apply getD_miss); (focus (exact str_ne (by decide)))))); done))))
local macro_rules | `(tactic| fail) => `(tactic| ((with_reducible refine And.intro ?_ ?_); (focus (first | exact recvL (by (first | assumption | exact updS_same | exact upd_at (by assumption) (by assumption))) rfl | exact recvD (by (first | assumption | exact updS_same | exact upd_at (by assumption) (by assumption))) rfl))))
local macro_rules | `(tactic| fail) => `(tactic| ((with_reducible apply o_subD); (focus (first | assumption | exact updS_same | exact upd_at (by assumption) (by assumption))); (focus rfl); (focus ((repeat (first | with_reducible exact lookD_hit | ((with_reducible apply look_miss); (focus (exact str_ne (by decide)))))); done))))
local macro_rules | `(tactic| fail) => `(tactic| ((with_reducible apply c_ndF); (focus (((try simp only [List.length_cons, List.length_nil, List.length_append, List.length_map]); omega)))))
local macro_rules | `(tactic| fail) => `(tactic| ((with_reducible apply c_ndT); (focus (((try simp only [List.length_cons, List.length_nil, List.length_append, List.length_map]); omega)))))
local macro_rules | `(tactic| fail) => `(tactic| with_reducible refine o_intB ?_)
local macro_rules | `(tactic| fail) => `(tactic| ((with_reducible apply c_decF); (focus (((try simp only [List.length_cons, List.length_nil, List.length_append, List.length_map]); omega)))))
local macro_rules | `(tactic| fail) => `(tactic| ((with_reducible apply c_decT); (focus (((try simp only [List.length_cons, List.length_nil, List.length_append, List.length_map]); omega)))))
local macro_rules | `(tactic| fail) => `(tactic| with_reducible refine c_notf ?_)
local macro_rules | `(tactic| fail) => `(tactic| with_reducible refine c_nott ?_)
local macro_rules | `(tactic| fail) => `(tactic| with_reducible refine o_eqI ?_)
local macro_rules | `(tactic| fail) => `(tactic| ((with_reducible apply o_eqIf); (focus (((try simp only [List.length_cons, List.length_nil, List.length_append, List.length_map]); omega)))))
local macro_rules | `(tactic| fail) => `(tactic| ((with_reducible apply o_eqIt); (focus (((try simp only [List.length_cons, List.length_nil, List.length_append, List.length_map]); omega)))))
local macro_rules | `(tactic| fail) => `(tactic| with_reducible refine o_isB ?_)
local macro_rules | `(tactic| fail) => `(tactic| with_reducible refine o_isN ?_)
local macro_rules | `(tactic| fail) => `(tactic| with_reducible refine o_isR ?_)
local macro_rules | `(tactic| fail) => `(tactic| with_reducible refine o_eqB ?_)
local macro_rules | `(tactic| fail) => `(tactic| ((with_reducible apply o_neIf); (focus (((try simp only [List.length_cons, List.length_nil, List.length_append, List.length_map]); omega)))))
local macro_rules | `(tactic| fail) => `(tactic| ((with_reducible apply o_neIt); (focus (((try simp only [List.length_cons, List.length_nil, List.length_append, List.length_map]); omega)))))
local macro_rules | `(tactic| fail) => `(tactic| with_reducible refine o_neII ?_)
local macro_rules | `(tactic| fail) => `(tactic| with_reducible refine o_neBB ?_)
local macro_rules | `(tactic| fail) => `(tactic| ((with_reducible apply o_eqSf); (focus decide)))
local macro_rules | `(tactic| fail) => `(tactic| ((with_reducible apply o_atr); (focus rfl)))
local macro_rules | `(tactic| fail) => `(tactic| with_reducible refine o_isx ?_)
local macro_rules | `(tactic| fail) => `(tactic| with_reducible refine o_eqSt ?_)
local macro_rules | `(tactic| fail) => `(tactic| ((with_reducible apply o_len); focus (first | rfl | (simp only [lenD]; simp only [*]; done))))
local macro_rules | `(tactic| fail) => `(tactic| ((with_reducible apply o_setL); (focus (first | assumption | exact updS_same | exact upd_at (by assumption) (by assumption))); (focus rfl)))
local macro_rules | `(tactic| fail) => `(tactic| ((with_reducible refine And.intro ?_ ?_); (focus (first | exact selfOk (by (first | assumption | exact updS_same | exact upd_at (by assumption) (by assumption))) rfl | exact insOk (by (first | assumption | exact updS_same | exact upd_at (by assumption) (by assumption)))))))
local macro_rules | `(tactic| fail) => `(tactic| ((with_reducible apply o_setf); (focus (first | assumption | exact updS_same | exact upd_at (by assumption) (by assumption))); (focus (exact Nat.le_of_ble_eq_true rfl))))
local macro_rules | `(tactic| fail) => `(tactic| ((with_reducible apply o_fld); (focus (first | assumption | exact updS_same | exact upd_at (by assumption) (by assumption))); (focus rfl)))
local macro_rules | `(tactic| fail) => `(tactic| ((with_reducible apply o_subT); focus (rfl)))
local macro_rules | `(tactic| fail) => `(tactic| ((with_reducible apply o_subL); (focus (first | assumption | exact updS_same | exact upd_at (by assumption) (by assumption))); (focus rfl)))
local macro_rules | `(tactic| fail) => `(tactic| ((with_reducible apply o_pow); focus (unfold CPow; omega)))
local macro_rules | `(tactic| fail) => `(tactic| ((with_reducible apply o_mod); focus (omega)))
local macro_rules | `(tactic| fail) => `(tactic| ((with_reducible apply o_div); focus (unfold CDiv; omega)))
local macro_rules | `(tactic| fail) => `(tactic| ((with_reducible apply o_mul); focus (unfold CMul; omega)))
local macro_rules | `(tactic| fail) => `(tactic| ((with_reducible apply v_glob); focus (first | assumption | rfl)))
local macro_rules | `(tactic| fail) => `(tactic| ((with_reducible apply t_var); focus (rfl)))
local macro_rules | `(tactic| fail) => `(tactic| ((with_reducible apply v_var); focus (rfl)))
local macro_rules | `(tactic| fail) => `(tactic| with_reducible refine c_false ?_)
local macro_rules | `(tactic| fail) => `(tactic| with_reducible refine c_true ?_)
local macro_rules | `(tactic| fail) => `(tactic| with_reducible refine o_ge ?_)
local macro_rules | `(tactic| fail) => `(tactic| with_reducible refine o_gt ?_)
local macro_rules | `(tactic| fail) => `(tactic| with_reducible refine o_le ?_)
local macro_rules | `(tactic| fail) => `(tactic| with_reducible refine o_lt ?_)
local macro_rules | `(tactic| fail) => `(tactic| with_reducible refine o_sub ?_)
local macro_rules | `(tactic| fail) => `(tactic| with_reducible refine o_add ?_)
local macro_rules | `(tactic| fail) => `(tactic| with_reducible refine o_sub1 ?_)
local macro_rules | `(tactic| fail) => `(tactic| with_reducible refine o_sub0 ?_)
local macro_rules | `(tactic| fail) => `(tactic| with_reducible refine i_rng1 ?_)
local macro_rules | `(tactic| fail) => `(tactic| with_reducible refine i_seq ?_)
local macro_rules | `(tactic| fail) => `(tactic| with_reducible refine g_cons ?_)
local macro_rules | `(tactic| fail) => `(tactic| with_reducible refine g_nil ?_)
local macro_rules | `(tactic| fail) => `(tactic| with_reducible refine g_nm ?_)
local macro_rules | `(tactic| fail) => `(tactic| with_reducible refine ts_one ?_)
local macro_rules | `(tactic| fail) => `(tactic| with_reducible refine ts_nil ?_)
local macro_rules | `(tactic| fail) => `(tactic| with_reducible refine tr_int ?_)
local macro_rules | `(tactic| fail) => `(tactic| with_reducible refine tr_bl ?_)
local macro_rules | `(tactic| fail) => `(tactic| with_reducible refine tb_or ?_)
local macro_rules | `(tactic| fail) => `(tactic| with_reducible refine tb_and ?_)
local macro_rules | `(tactic| fail) => `(tactic| with_reducible refine tb_one ?_)
local macro_rules | `(tactic| fail) => `(tactic| with_reducible refine t_chain ?_)
local macro_rules | `(tactic| fail) => `(tactic| with_reducible refine t_sub ?_)
local macro_rules | `(tactic| fail) => `(tactic| with_reducible refine t_blt ?_)
local macro_rules | `(tactic| fail) => `(tactic| with_reducible refine t_call ?_)
local macro_rules | `(tactic| fail) => `(tactic| with_reducible refine t_cmp ?_)
local macro_rules | `(tactic| fail) => `(tactic| with_reducible refine t_nt ?_)
local macro_rules | `(tactic| fail) => `(tactic| with_reducible refine t_bop ?_)
local macro_rules | `(tactic| fail) => `(tactic| with_reducible refine vb_or ?_)
local macro_rules | `(tactic| fail) => `(tactic| with_reducible refine vb_and ?_)
local macro_rules | `(tactic| fail) => `(tactic| with_reducible refine vb_one ?_)
local macro_rules | `(tactic| fail) => `(tactic| with_reducible refine vo_some ?_)
local macro_rules | `(tactic| fail) => `(tactic| with_reducible refine vo_none ?_)
local macro_rules | `(tactic| fail) => `(tactic| with_reducible refine vs_cons ?_)
local macro_rules | `(tactic| fail) => `(tactic| with_reducible refine vs_nil ?_)
local macro_rules | `(tactic| fail) => `(tactic| with_reducible refine s_try ?_)
local macro_rules | `(tactic| fail) => `(tactic| with_reducible refine s_setf ?_)
local macro_rules | `(tactic| fail) => `(tactic| with_reducible refine v_eqo ?_)
local macro_rules | `(tactic| fail) => `(tactic| with_reducible refine t_isc ?_)
local macro_rules | `(tactic| fail) => `(tactic| with_reducible refine v_isc ?_)
local macro_rules | `(tactic| fail) => `(tactic| with_reducible refine t_meth ?_)
local macro_rules | `(tactic| fail) => `(tactic| with_reducible refine v_meth ?_)
local macro_rules | `(tactic| fail) => `(tactic| with_reducible refine v_new ?_)
local macro_rules | `(tactic| fail) => `(tactic| with_reducible refine v_fld ?_)
local macro_rules | `(tactic| fail) => `(tactic| with_reducible refine v_atr ?_)
local macro_rules | `(tactic| fail) => `(tactic| with_reducible refine v_isx ?_)
local macro_rules | `(tactic| fail) => `(tactic| with_reducible refine v_back ?_)
local macro_rules | `(tactic| fail) => `(tactic| with_reducible refine v_lc ?_)
local macro_rules | `(tactic| fail) => `(tactic| with_reducible refine v_mth ?_)
local macro_rules | `(tactic| fail) => `(tactic| with_reducible refine v_lzip ?_)
local macro_rules | `(tactic| fail) => `(tactic| with_reducible refine v_lrev ?_)
local macro_rules | `(tactic| fail) => `(tactic| with_reducible refine v_blt ?_)
local macro_rules | `(tactic| fail) => `(tactic| with_reducible refine v_call ?_)
local macro_rules | `(tactic| fail) => `(tactic| with_reducible refine v_slice ?_)
local macro_rules | `(tactic| fail) => `(tactic| with_reducible refine v_sub ?_)
local macro_rules | `(tactic| fail) => `(tactic| with_reducible refine v_lst ?_)
local macro_rules | `(tactic| fail) => `(tactic| with_reducible refine v_tup ?_)
local macro_rules | `(tactic| fail) => `(tactic| with_reducible refine v_ite ?_)
local macro_rules | `(tactic| fail) => `(tactic| with_reducible refine v_nt ?_)
local macro_rules | `(tactic| fail) => `(tactic| with_reducible refine v_bop ?_)
local macro_rules | `(tactic| fail) => `(tactic| with_reducible refine v_cmp ?_)
local macro_rules | `(tactic| fail) => `(tactic| with_reducible refine v_bin ?_)
local macro_rules | `(tactic| fail) => `(tactic| with_reducible refine v_bty ?_)
local macro_rules | `(tactic| fail) => `(tactic| with_reducible refine v_str ?_)
local macro_rules | `(tactic| fail) => `(tactic| with_reducible refine v_non ?_)
local macro_rules | `(tactic| fail) => `(tactic| with_reducible refine v_bl ?_)
local macro_rules | `(tactic| fail) => `(tactic| with_reducible refine v_int ?_)
local macro_rules | `(tactic| fail) => `(tactic| with_reducible refine s_cont ?_)
local macro_rules | `(tactic| fail) => `(tactic| with_reducible refine s_brk ?_)
local macro_rules | `(tactic| fail) => `(tactic| with_reducible refine s_nil ?_)
local macro_rules | `(tactic| fail) => `(tactic| with_reducible refine s_pass ?_)
local macro_rules | `(tactic| fail) => `(tactic| with_reducible refine s_retN ?_)
local macro_rules | `(tactic| fail) => `(tactic| with_reducible refine s_ret ?_)
local macro_rules | `(tactic| fail) => `(tactic| with_reducible refine s_ife ?_)
local macro_rules | `(tactic| fail) => `(tactic| with_reducible refine s_set ?_)
local macro_rules | `(tactic| fail) => `(tactic| with_reducible refine s_par ?_)
local macro_rules | `(tactic| fail) => `(tactic| with_reducible refine s_asg ?_)
local macro_rules | `(tactic| fail) => `(tactic| with_reducible refine s_ex ?_)

theorem spec_little (hd : defs "_law_little" = some dLLittle) (hd1 : defs "_law_draw" = some dLDraw) {a : Addr} (hk : 2 ≤ k) (hF : Flow S a)
    (hq : ∀ (z : Int) S', -2 ≤ z → z ≤ 3 → Flow S' a → Off [a] S S' → Q (.int z) S') : sem defs gl k "_law_little" [.ref a] S Q E := by
  obtain ⟨k, rfl⟩ : ∃ j, k = j + 1 := ⟨k - 1, by omega⟩
  (refine sem_of hd rfl ?_; unfold dLLittle; simp only [startD, List.map_cons, List.map_nil, List.length_cons, List.length_nil, List.replicate_succ, List.replicate_zero, List.cons_append, List.nil_append, Nat.reduceAdd, Nat.reduceSub])
  (repeat fail)
  intro lp hlp
  have hne := flow_ne hF hlp
  (repeat fail)
  refine spec_draw hd1 (by omega) (hF.new hlp) (by omega) fun r S1 h1 h2 F1 o1 => ?_
  obtain ⟨z, ez, z1, z2⟩ := at8 ⟨h1, h2⟩
  refine o_subL (o1 lp _ (by simpa using hne) updS_same) ez ?_
  exact hq z _ z1 z2 F1 ((Off.new hlp).trans o1)
theorem spec_kindsB (hd : defs "_law_kinds" = some dLKindsB) (hd1 : defs "_law_draw" = some dLDraw) {a : Addr} {top : Int} (hk : 2 ≤ k) (hF : Flow S a) (ht : 0 ≤ top ∧ top ≤ 10)
    (hq : ∀ (ks : List Bool) S', (ks.length : Int) ≤ top → Flow S' a → Off [a] S S' → Q (.tup (kD ks)) S') : sem defs gl k "_law_kinds" [.ref a, .int top] S Q E := by
  obtain ⟨k, rfl⟩ : ∃ j, k = j + 1 := ⟨k - 1, by omega⟩
  (refine sem_of hd rfl ?_; unfold dLKindsB; simp only [startD, List.map_cons, List.map_nil, List.length_cons, List.length_nil, List.replicate_succ, List.replicate_zero, List.cons_append, List.nil_append, Nat.reduceAdd, Nat.reduceSub])
  (repeat fail)
  refine spec_draw hd1 (by omega) hF (by omega) fun r1 S1 a1 b1 F1 o1 => ?_
  (repeat fail)
  refine spec_draw hd1 (by omega) F1 (by omega) fun r2 S2 a2 b2 F2 o2 => ?_
  (repeat fail)
  refine o_max2i fun c hc => ?_
  (repeat fail)
  refine ⟨by omega, by omega, ?_⟩
  refine lc_ind (fun r acc S' => ∃ ks : List Bool, acc = kD ks ∧ ((ks.length + r.length : Nat) : Int) ≤ top ∧ Flow S' a ∧ Off [a] S S') (fun _ _ _ _ => trivial) ?_ ?_ _ _ _ ⟨[], rfl, by simp; omega, F2, o1.trans o2⟩
  · rintro acc S3 ⟨ks, rfl, hl, F3, o3⟩ p hp
    (repeat fail)
    exact hq ks _ (by simpa using hl) (F3.new hp) (o3.trans (Off.new hp))
  · rintro d r acc S3 K ⟨ks, rfl, hl, F3, o3⟩ hK -
    rw [List.length_cons] at hl
    refine ⟨by rw [kD_len, sizeLine_eq]; omega, ?_⟩
    (repeat fail)
    intro lp hlp
    have hne := flow_ne F3 hlp
    (repeat fail)
    refine spec_draw hd1 (by omega) (F3.new hlp) (by omega) fun r4 S4 h1 h2 F4 o4 => ?_
    obtain ⟨t, et⟩ := at4k ⟨h1, h2⟩
    refine o_subL (o4 lp _ (by simpa using hne) updS_same) et ?_
    refine hK _ _ ⟨ks ++ [t], by simp [kD], by rw [List.length_append, List.length_singleton]; omega, F4, o3.trans ((Off.new hlp).trans o4)⟩
theorem spec_leafP (hd : defs "_law_leaf" = some dLLeafB) (hd1 : defs "_law_draw" = some dLDraw) (hd2 : defs "_law_little" = some dLLittle) {a : Addr} {ks : List Bool} {t : Bool} (hk : 3 ≤ k) (hF : Flow S a) (hks : ks.length ≤ 10)
    (hq : ∀ (p : Pg) S', p.ok ks t → p.size = 1 → p.nb 10 → Flow S' a → Off [a] S S' → Q p.d S') : sem defs gl k "_law_leaf" [.ref a, .tup (kD ks), .str (kS t)] S Q E := by
  obtain ⟨k, rfl⟩ : ∃ j, k = j + 1 := ⟨k - 1, by omega⟩
  (refine sem_of hd rfl ?_; unfold dLLeafB; simp only [startD, List.map_cons, List.map_nil, List.length_cons, List.length_nil, List.replicate_succ, List.replicate_zero, List.cons_append, List.nil_append, Nat.reduceAdd, Nat.reduceSub])
  (repeat fail)
  refine .inr ⟨_, rfl, ?_⟩
  rw [show (List.range (kD ks).length).zipWith (fun i d => pairD (.int (i : Nat)) d) (kD ks) = enl 0 ks by rw [kD_len, List.range_eq_range']; exact enl_of ks 0]
  have hen : ∀ (bs : List Bool) (i : Nat), (∀ j b, bs[j]? = some b → ks[i + j]? = some b) → ∀ d ∈ enl i bs, ∃ (j : Nat) (b : Bool), d = pairD (.int (j : Nat)) (.str (kS b)) ∧ ks[j]? = some b := fun bs => by
    induction bs with
    | nil => intro i _ d hd; cases hd
    | cons b bs ih =>
      intro i h d hd
      simp only [enl, List.mem_cons] at hd
      rcases hd with rfl | hd
      · exact ⟨i, b, rfl, by simpa using h 0 b rfl⟩
      · exact ih (i + 1) (fun j c e => by have := h (j + 1) c (by simpa using e); rw [show i + 1 + j = i + (j + 1) by omega]; exact this) d hd
  have hel : ∀ (bs : List Bool) (i : Nat), (enl i bs).length = bs.length := fun bs => by
    induction bs with
    | nil => intro i; rfl
    | cons b bs ih => intro i; simp [enl, ih]
  refine lc_ind (fun r acc S' => S' = S ∧ acc.length + r.length ≤ 10 ∧ (∀ d ∈ r, ∃ (j : Nat) (b : Bool), d = pairD (.int (j : Nat)) (.str (kS b)) ∧ ks[j]? = some b) ∧ ∀ d ∈ acc, ∃ p : Pg, p.ok ks t ∧ p.size = 1 ∧ p.nb 10 ∧ d = p.d) (fun _ _ _ _ => trivial) ?_ ?_ _ _ _ ⟨rfl, by rw [hel]; simpa using hks, hen ks 0 (fun j b e => by simpa using e), by simp⟩
  · rintro acc S' ⟨rfl, hl, _, hacc⟩ p hp
    have F1 := hF.new (o := .lst acc) hp
    have o1 : Off [a] S' (updS S' p (.lst acc)) := Off.new hp
    have e1 : updS S' p (.lst acc) p = some (.lst acc) := updS_same
    have hpa := flow_ne hF hp
    generalize updS S' p (.lst acc) = S1 at F1 o1 e1
    (repeat fail)
    refine c_dec (fun h0 => ?_) (fun h0 => ?_)
    · (repeat fail)
      refine spec_draw hd1 (by omega) F1 (by omega) fun r3 S3 h3 h4 F3 o3 => ?_
      have e3 := o3 p _ (by simpa using hpa) e1
      (repeat fail)
      refine c_dec (fun h5 => ?_) (fun h5 => ?_)
      · (repeat fail)
        refine spec_draw hd1 (by omega) F3 (by omega) fun r5 S5 h6 h7 F5 o5 => ?_
        have e5 := o5 p _ (by simpa using hpa) e3
        have hlt : r5.toNat < acc.length := by omega
        obtain ⟨q, q1, q2, q3, q4⟩ := hacc acc[r5.toNat] (List.getElem_mem hlt)
        have ei : atI acc r5 = some q.d := by
          obtain ⟨m, rfl⟩ := Int.eq_ofNat_of_zero_le h6
          rw [← q4]
          exact atI_nat (List.getElem?_eq_getElem hlt)
        refine o_subL e5 ei ?_
        exact hq q S5 q1 q2 q3 F5 ((o1.trans o3).trans o5)
      · (repeat fail)
        cases t
        · show wCmp .Eq (.str "num") _ _ _
          (repeat fail)
          refine spec_little hd2 hd1 (by omega) F3 fun z S4 z1 z2 F4 o4 => ?_
          (repeat fail)
          exact hq (.num z) S4 rfl rfl ⟨by omega, by omega⟩ F4 ((o1.trans o3).trans o4)
        · show wCmp .Eq (.str "truth") _ _ _
          (repeat fail)
          intro p2 hp2
          have hpa2 := flow_ne F3 hp2
          (repeat fail)
          refine spec_draw hd1 (by omega) (F3.new hp2) (by omega) fun r4 S4 h5 h6 F4 o4 => ?_
          have e4 := o4 p2 _ (by simpa using hpa2) updS_same
          have o5 : Off [a] S' S4 := (o1.trans o3).trans ((Off.new hp2).trans o4)
          have r4c : r4 = 0 ∨ r4 = 1 := by omega
          rcases r4c with rfl | rfl
          · exact o_subL e4 rfl (hq .yes S4 rfl rfl trivial F4 o5)
          · exact o_subL e4 rfl (hq .no S4 rfl rfl trivial F4 o5)
    · (repeat fail)
      cases t
      · show wCmp .Eq (.str "num") _ _ _
        (repeat fail)
        refine spec_little hd2 hd1 (by omega) F1 fun z S4 z1 z2 F4 o4 => ?_
        (repeat fail)
        exact hq (.num z) S4 rfl rfl ⟨by omega, by omega⟩ F4 (o1.trans o4)
      · show wCmp .Eq (.str "truth") _ _ _
        (repeat fail)
        intro p2 hp2
        have hpa2 := flow_ne F1 hp2
        (repeat fail)
        refine spec_draw hd1 (by omega) (F1.new hp2) (by omega) fun r4 S4 h5 h6 F4 o4 => ?_
        have e4 := o4 p2 _ (by simpa using hpa2) updS_same
        have o5 : Off [a] S' S4 := o1.trans ((Off.new hp2).trans o4)
        have r4c : r4 = 0 ∨ r4 = 1 := by omega
        rcases r4c with rfl | rfl
        · exact o_subL e4 rfl (hq .yes S4 rfl rfl trivial F4 o5)
        · exact o_subL e4 rfl (hq .no S4 rfl rfl trivial F4 o5)
  · rintro d r acc S' K ⟨rfl, hl, hr, hacc⟩ hK1 hK2
    obtain ⟨j, b, rfl, hj⟩ := hr d (by simp)
    rw [List.length_cons] at hl
    refine ⟨by rw [sizeLine_eq]; omega, ?_⟩
    rw [show pairD (.int (j : Nat)) (.str (kS b)) = .tup [.int (j : Nat), .str (kS b)] from rfl]
    (repeat fail)
    rw [kS_eq]
    refine ⟨_, rfl, ?_⟩
    cases hb : b == t with
    | true =>
      have : b = t := by simpa using hb
      subst this
      (repeat fail)
      have hjl : j < ks.length := (List.getElem?_eq_some_iff.mp hj).1
      refine hK1 _ _ ⟨rfl, by rw [List.length_append, List.length_singleton]; omega, fun d hd => hr d (by simp [hd]), fun d hd => ?_⟩
      rcases List.mem_append.mp hd with hd | hd
      · exact hacc d hd
      · rw [List.mem_singleton.mp hd]
        exact ⟨.inp j, hj, rfl, by show (j : Int) ≤ 10; omega, rfl⟩
    | false =>
      (repeat fail)
      exact hK2 _ ⟨rfl, by omega, fun d hd => hr d (by simp [hd]), hacc⟩
end
end Z

set_option Elab.async false
set_option linter.all false
set_option maxRecDepth 100000
set_option maxHeartbeats 4000000
namespace Z
open PySem PySem.Spec PyProof.Rows L2
local macro_rules | `(tactic| fail) => `(tactic| ((with_reducible refine And.intro ?_ ?_); (focus (exact Nat.le_of_ble_eq_true rfl))))
local macro_rules | `(tactic| fail) => `(tactic| with_reducible refine ⟨_, rfl, ?_⟩)
local macro_rules | `(tactic| fail) => `(tactic| ((with_reducible apply o_sliceT); (focus rfl)))
local macro_rules | `(tactic| fail) => `(tactic| ((with_reducible apply o_inTf); (focus rfl); (focus rfl); (focus (simp [inF, eqF, str_beq]; done))))
local macro_rules | `(tactic| fail) => `(tactic| ((with_reducible apply o_inTt); (focus rfl); (focus rfl); (focus (simp [inF, eqF, str_beq]; done))))
local macro_rules | `(tactic| fail) => `(tactic| ((with_reducible apply o_subC); (focus ((repeat (first | with_reducible exact lk_hit | ((with_reducible apply lk_miss); (focus (exact str_ne (by decide)))))); done))))
local macro_rules | `(tactic| fail) => `(tactic| ((with_reducible apply o_inC); (focus ((repeat (first | with_reducible exact lk_hit | ((with_reducible apply lk_miss); (focus (exact str_ne (by decide)))))); done))))
local macro_rules | `(tactic| fail) => `(tactic| ((with_reducible apply o_ninC); (focus ((repeat (first | with_reducible exact lk_hit | ((with_reducible apply lk_miss); (focus (exact str_ne (by decide)))))); done))))
local macro_rules | `(tactic| fail) => `(tactic| ((with_reducible apply o_isinF); (focus rfl); (focus (decide +kernel))))
local macro_rules | `(tactic| fail) => `(tactic| ((with_reducible apply o_isinT); (focus rfl); (focus (decide +kernel))))
local macro_rules | `(tactic| fail) => `(tactic| with_reducible refine i_enm ?_)
local macro_rules | `(tactic| fail) => `(tactic| ((with_reducible apply g_tup); (focus rfl); (focus rfl)))
local macro_rules | `(tactic| fail) => `(tactic| ((with_reducible apply v_dctN); (focus (decide +kernel))))
local macro_rules | `(tactic| fail) => `(tactic| ((with_reducible apply o_len); (focus (exact len_ref (by (first | assumption | exact updS_same | exact upd_at (by assumption) (by assumption)))))))
local macro_rules | `(tactic| fail) => `(tactic| ((with_reducible apply o_tuple); (focus (first | rfl | exact items_ref (by (first | assumption | exact updS_same | exact upd_at (by assumption) (by assumption)))))))
local macro_rules | `(tactic| fail) => `(tactic| ((with_reducible apply o_get2); (focus (first | assumption | exact updS_same | exact upd_at (by assumption) (by assumption))); (focus rfl); (focus ((repeat (first | with_reducible exact getD_hit | with_reducible exact getD_nil | ((with_reducible apply getD_miss); (focus (exact str_ne (by decide)))))); done))))
local macro_rules | `(tactic| fail) => `(tactic| ((with_reducible apply o_get1); (focus (first | assumption | exact updS_same | exact upd_at (by assumption) (by assumption))); (focus rfl); (focus ((repeat (first | with_reducible exact getD_hit | with_reducible exact getD_nil | ((with_reducible apply getD_miss); (focus (exact str_ne (by decide)))))); done))))
local macro_rules | `(tactic| fail) => `(tactic| ((with_reducible refine And.intro ?_ ?_); (focus (first | exact recvL (by (first | assumption | exact updS_same | exact upd_at (by assumption) (by assumption))) rfl | exact recvD (by (first | assumption | exact updS_same | exact upd_at (by assumption) (by assumption))) rfl))))
local macro_rules | `(tactic| fail) => `(tactic| ((with_reducible apply o_subD); (focus (first | assumption | exact updS_same | exact upd_at (by assumption) (by assumption))); (focus rfl); (focus ((repeat (first | with_reducible exact lookD_hit | ((with_reducible apply look_miss); (focus (exact str_ne (by decide)))))); done))))
local macro_rules | `(tactic| fail) => `(tactic| ((with_reducible apply c_ndF); (focus (((try simp only [List.length_cons, List.length_nil, List.length_append, List.length_map]); omega)))))
local macro_rules | `(tactic| fail) => `(tactic| ((with_reducible apply c_ndT); (focus (((try simp only [List.length_cons, List.length_nil, List.length_append, List.length_map]); omega)))))
local macro_rules | `(tactic| fail) => `(tactic| with_reducible refine o_intB ?_)
local macro_rules | `(tactic| fail) => `(tactic| ((with_reducible apply c_decF); (focus (((try simp only [List.length_cons, List.length_nil, List.length_append, List.length_map]); omega)))))
local macro_rules | `(tactic| fail) => `(tactic| ((with_reducible apply c_decT); (focus (((try simp only [List.length_cons, List.length_nil, List.length_append, List.length_map]); omega)))))
local macro_rules | `(tactic| fail) => `(tactic| with_reducible refine c_notf ?_)
local macro_rules | `(tactic| fail) => `(tactic| with_reducible refine c_nott ?_)
local macro_rules | `(tactic| fail) => `(tactic| with_reducible refine o_eqI ?_)
local macro_rules | `(tactic| fail) => `(tactic| ((with_reducible apply o_eqIf); (focus (((try simp only [List.length_cons, List.length_nil, List.length_append, List.length_map]); omega)))))
local macro_rules | `(tactic| fail) => `(tactic| ((with_reducible apply o_eqIt); (focus (((try simp only [List.length_cons, List.length_nil, List.length_append, List.length_map]); omega)))))
local macro_rules | `(tactic| fail) => `(tactic| with_reducible refine o_isB ?_)
local macro_rules | `(tactic| fail) => `(tactic| with_reducible refine o_isN ?_)
local macro_rules | `(tactic| fail) => `(tactic| with_reducible refine o_isR ?_)
local macro_rules | `(tactic| fail) => `(tactic| with_reducible refine o_eqB ?_)
local macro_rules | `(tactic| fail) => `(tactic| ((with_reducible apply o_neIf); (focus (((try simp only [List.length_cons, List.length_nil, List.length_append, List.length_map]); omega)))))
local macro_rules | `(tactic| fail) => `(tactic| ((with_reducible apply o_neIt); (focus (((try simp only [List.length_cons, List.length_nil, List.length_append, List.length_map]); omega)))))
local macro_rules | `(tactic| fail) => `(tactic| with_reducible refine o_neII ?_)
local macro_rules | `(tactic| fail) => `(tactic| with_reducible refine o_neBB ?_)
local macro_rules | `(tactic| fail) => `(tactic| ((with_reducible apply o_eqSf); (focus decide)))
local macro_rules | `(tactic| fail) => `(tactic| ((with_reducible apply o_atr); (focus rfl)))
local macro_rules | `(tactic| fail) => `(tactic| with_reducible refine o_isx ?_)
local macro_rules | `(tactic| fail) => `(tactic| with_reducible refine o_eqSt ?_)
local macro_rules | `(tactic| fail) => `(tactic| ((with_reducible apply o_len); focus (first | rfl | (simp only [lenD]; simp only [*]; done))))
local macro_rules | `(tactic| fail) => `(tactic| ((with_reducible apply o_setL); (focus (first | assumption | exact updS_same | exact upd_at (by assumption) (by assumption))); (focus rfl)))
local macro_rules | `(tactic| fail) => `(tactic| ((with_reducible refine And.intro ?_ ?_); (focus (first | exact selfOk (by (first | assumption | exact updS_same | exact upd_at (by assumption) (by assumption))) rfl | exact insOk (by (first | assumption | exact updS_same | exact upd_at (by assumption) (by assumption)))))))
local macro_rules | `(tactic| fail) => `(tactic| ((with_reducible apply o_setf); (focus (first | assumption | exact updS_same | exact upd_at (by assumption) (by assumption))); (focus (exact Nat.le_of_ble_eq_true rfl))))
local macro_rules | `(tactic| fail) => `(tactic| ((with_reducible apply o_fld); (focus (first | assumption | exact updS_same | exact upd_at (by assumption) (by assumption))); (focus rfl)))
local macro_rules | `(tactic| fail) => `(tactic| ((with_reducible apply o_subT); focus (rfl)))
local macro_rules | `(tactic| fail) => `(tactic| ((with_reducible apply o_subL); (focus (first | assumption | exact updS_same | exact upd_at (by assumption) (by assumption))); (focus rfl)))
local macro_rules | `(tactic| fail) => `(tactic| ((with_reducible apply o_pow); focus (unfold CPow; omega)))
local macro_rules | `(tactic| fail) => `(tactic| ((with_reducible apply o_mod); focus (omega)))
local macro_rules | `(tactic| fail) => `(tactic| ((with_reducible apply o_div); focus (unfold CDiv; omega)))
local macro_rules | `(tactic| fail) => `(tactic| ((with_reducible apply o_mul); focus (unfold CMul; omega)))
local macro_rules | `(tactic| fail) => `(tactic| ((with_reducible apply v_glob); focus (first | assumption | rfl)))
local macro_rules | `(tactic| fail) => `(tactic| ((with_reducible apply t_var); focus (rfl)))
local macro_rules | `(tactic| fail) => `(tactic| ((with_reducible apply v_var); focus (rfl)))
local macro_rules | `(tactic| fail) => `(tactic| with_reducible refine c_false ?_)
local macro_rules | `(tactic| fail) => `(tactic| with_reducible refine c_true ?_)
local macro_rules | `(tactic| fail) => `(tactic| with_reducible refine o_ge ?_)
local macro_rules | `(tactic| fail) => `(tactic| with_reducible refine o_gt ?_)
local macro_rules | `(tactic| fail) => `(tactic| with_reducible refine o_le ?_)
local macro_rules | `(tactic| fail) => `(tactic| with_reducible refine o_lt ?_)
local macro_rules | `(tactic| fail) => `(tactic| with_reducible refine o_sub ?_)
local macro_rules | `(tactic| fail) => `(tactic| with_reducible refine o_add ?_)
local macro_rules | `(tactic| fail) => `(tactic| with_reducible refine o_sub1 ?_)
local macro_rules | `(tactic| fail) => `(tactic| with_reducible refine o_sub0 ?_)
local macro_rules | `(tactic| fail) => `(tactic| with_reducible refine i_rng1 ?_)
local macro_rules | `(tactic| fail) => `(tactic| with_reducible refine i_seq ?_)
local macro_rules | `(tactic| fail) => `(tactic| with_reducible refine g_cons ?_)
local macro_rules | `(tactic| fail) => `(tactic| with_reducible refine g_nil ?_)
local macro_rules | `(tactic| fail) => `(tactic| with_reducible refine g_nm ?_)
local macro_rules | `(tactic| fail) => `(tactic| with_reducible refine ts_one ?_)
local macro_rules | `(tactic| fail) => `(tactic| with_reducible refine ts_nil ?_)
local macro_rules | `(tactic| fail) => `(tactic| with_reducible refine tr_int ?_)
local macro_rules | `(tactic| fail) => `(tactic| with_reducible refine tr_bl ?_)
local macro_rules | `(tactic| fail) => `(tactic| with_reducible refine tb_or ?_)
local macro_rules | `(tactic| fail) => `(tactic| with_reducible refine tb_and ?_)
local macro_rules | `(tactic| fail) => `(tactic| with_reducible refine tb_one ?_)
local macro_rules | `(tactic| fail) => `(tactic| with_reducible refine t_chain ?_)
local macro_rules | `(tactic| fail) => `(tactic| with_reducible refine t_sub ?_)
local macro_rules | `(tactic| fail) => `(tactic| with_reducible refine t_blt ?_)
local macro_rules | `(tactic| fail) => `(tactic| with_reducible refine t_call ?_)
local macro_rules | `(tactic| fail) => `(tactic| with_reducible refine t_cmp ?_)
local macro_rules | `(tactic| fail) => `(tactic| with_reducible refine t_nt ?_)
local macro_rules | `(tactic| fail) => `(tactic| with_reducible refine t_bop ?_)
local macro_rules | `(tactic| fail) => `(tactic| with_reducible refine vb_or ?_)
local macro_rules | `(tactic| fail) => `(tactic| with_reducible refine vb_and ?_)
local macro_rules | `(tactic| fail) => `(tactic| with_reducible refine vb_one ?_)
local macro_rules | `(tactic| fail) => `(tactic| with_reducible refine vo_some ?_)
local macro_rules | `(tactic| fail) => `(tactic| with_reducible refine vo_none ?_)
local macro_rules | `(tactic| fail) => `(tactic| with_reducible refine vs_cons ?_)
local macro_rules | `(tactic| fail) => `(tactic| with_reducible refine vs_nil ?_)
local macro_rules | `(tactic| fail) => `(tactic| with_reducible refine s_try ?_)
local macro_rules | `(tactic| fail) => `(tactic| with_reducible refine s_setf ?_)
local macro_rules | `(tactic| fail) => `(tactic| with_reducible refine v_eqo ?_)
local macro_rules | `(tactic| fail) => `(tactic| with_reducible refine t_isc ?_)
local macro_rules | `(tactic| fail) => `(tactic| with_reducible refine v_isc ?_)
local macro_rules | `(tactic| fail) => `(tactic| with_reducible refine t_meth ?_)
local macro_rules | `(tactic| fail) => `(tactic| with_reducible refine v_meth ?_)
local macro_rules | `(tactic| fail) => `(tactic| with_reducible refine v_new ?_)
local macro_rules | `(tactic| fail) => `(tactic| with_reducible refine v_fld ?_)
local macro_rules | `(tactic| fail) => `(tactic| with_reducible refine v_atr ?_)
local macro_rules | `(tactic| fail) => `(tactic| with_reducible refine v_isx ?_)
local macro_rules | `(tactic| fail) => `(tactic| with_reducible refine v_back ?_)
local macro_rules | `(tactic| fail) => `(tactic| with_reducible refine v_lc ?_)
local macro_rules | `(tactic| fail) => `(tactic| with_reducible refine v_mth ?_)
local macro_rules | `(tactic| fail) => `(tactic| with_reducible refine v_lzip ?_)
local macro_rules | `(tactic| fail) => `(tactic| with_reducible refine v_lrev ?_)
local macro_rules | `(tactic| fail) => `(tactic| with_reducible refine v_blt ?_)
local macro_rules | `(tactic| fail) => `(tactic| with_reducible refine v_call ?_)
local macro_rules | `(tactic| fail) => `(tactic| with_reducible refine v_slice ?_)
local macro_rules | `(tactic| fail) => `(tactic| with_reducible refine v_sub ?_)
local macro_rules | `(tactic| fail) => `(tactic| with_reducible refine v_lst ?_)
local macro_rules | `(tactic| fail) => `(tactic| with_reducible refine v_tup ?_)
local macro_rules | `(tactic| fail) => `(tactic| with_reducible refine v_ite ?_)
local macro_rules | `(tactic| fail) => `(tactic| with_reducible refine v_nt ?_)
local macro_rules | `(tactic| fail) => `(tactic| with_reducible refine v_bop ?_)
local macro_rules | `(tactic| fail) => `(tactic| with_reducible refine v_cmp ?_)
local macro_rules | `(tactic| fail) => `(tactic| with_reducible refine v_bin ?_)
local macro_rules | `(tactic| fail) => `(tactic| with_reducible refine v_bty ?_)
local macro_rules | `(tactic| fail) => `(tactic| with_reducible refine v_str ?_)
local macro_rules | `(tactic| fail) => `(tactic| with_reducible refine v_non ?_)
local macro_rules | `(tactic| fail) => `(tactic| with_reducible refine v_bl ?_)
local macro_rules | `(tactic| fail) => `(tactic| with_reducible refine v_int ?_)
local macro_rules | `(tactic| fail) => `(tactic| with_reducible refine s_cont ?_)
local macro_rules | `(tactic| fail) => `(tactic| with_reducible refine s_brk ?_)
local macro_rules | `(tactic| fail) => `(tactic| with_reducible refine s_nil ?_)
local macro_rules | `(tactic| fail) => `(tactic| with_reducible refine s_pass ?_)
local macro_rules | `(tactic| fail) => `(tactic| with_reducible refine s_retN ?_)
local macro_rules | `(tactic| fail) => `(tactic| with_reducible refine s_ret ?_)
local macro_rules | `(tactic| fail) => `(tactic| with_reducible refine s_ife ?_)
local macro_rules | `(tactic| fail) => `(tactic| with_reducible refine s_set ?_)
local macro_rules | `(tactic| fail) => `(tactic| with_reducible refine s_par ?_)
local macro_rules | `(tactic| fail) => `(tactic| with_reducible refine s_asg ?_)
local macro_rules | `(tactic| fail) => `(tactic| with_reducible refine s_ex ?_)

theorem spec_plan {defs : Str → Option DefT} {gl : Str → Option D} (hd : defs "_law_plan" = some dLPlan) (hd1 : defs "_law_draw" = some dLDraw) (hd2 : defs "_law_little" = some dLLittle) (hd3 : defs "_law_leaf" = some dLLeafB) {a : Addr} {ks : List Bool} (hks : ks.length ≤ 10) : ∀ (n : Nat) {t : Bool} {room : Int} {k : Nat} {S : Sto} {Q : D → Sto → Prop} {E : Exc → Sto → Prop}, 1 ≤ room → room ≤ n → n + 4 ≤ k → Flow S a → room ≤ 100 →
    (∀ (p : Pg) S', p.ok ks t → (p.size : Int) ≤ room → p.nb 10 → Flow S' a → Off [a] S S' → Q p.d S') → sem defs gl k "_law_plan" [.ref a, .tup (kD ks), .str (kS t), .int room] S Q E := by
  intro n
  induction n with
  | zero => intro t room k S Q E h1 h2; exact absurd h2 (by omega)
  | succ n ih =>
    intro t room k S Q E h1 h2 hk hF hr hq
    obtain ⟨k, rfl⟩ : ∃ j, k = j + 1 := ⟨k - 1, by omega⟩
    cases t
    · rw [show kS false = Str.ofString "num" from rfl]
      (refine sem_of hd rfl ?_; unfold dLPlan; simp only [startD, List.map_cons, List.map_nil, List.length_cons, List.length_nil, List.replicate_succ, List.replicate_zero, List.cons_append, List.nil_append, Nat.reduceAdd, Nat.reduceSub])
      (repeat fail)
      refine spec_draw hd1 (by omega) hF (by omega) fun form S1 f0 f1 F1 o1 => ?_
      have leafC : sem defs gl k "_law_leaf" [.ref a, .tup (kD ks), .str (Str.ofString "num")] S1 Q E := spec_leafP (t := false) hd3 hd1 hd2 (by omega) F1 hks fun p S2 p1 p2 p3 F2 o2 => hq p S2 p1 (by omega) p3 F2 (o1.trans o2)
      have oneC : 2 ≤ room → wpSs ⟨sem defs gl k, gl⟩ (fun x _ S' => E x S') [.asg (.nm 5) (.call "_law_plan" [(.var 0), (.var 1), (.var 2), (.bin .Sub (.var 3) (.int 1))]), .ret (.ite (.cmp .Eq (.var 2) (.str "num")) (.tup [(.str "plus"), (.call "_law_little" [(.var 0)]), (.var 5)]) (.tup [(.str "not"), (.var 5)]))] ⟨fun _ S' => Q .non S', Q, fun _ _ => False, fun _ _ => False⟩ [some (.ref a), some (.tup (kD ks)), some (.str (Str.ofString "num")), some (.int room), some (.int form), none, none, none, none, none, none, none, none] S1 := fun h2r => by
        (repeat fail)
        refine ih (t := false) (by omega) (by omega) (by omega) F1 (by omega) fun p S2 p1 p2 p3 F2 o2 => ?_
        (repeat fail)
        refine spec_little hd2 hd1 (by omega) F2 fun z S3 z1 z2 F3 o3 => ?_
        (repeat fail)
        exact hq (.plus z p) S3 ⟨rfl, p1⟩ (by show ((p.size + 1 : Nat) : Int) ≤ room; omega) ⟨⟨by omega, by omega⟩, p3⟩ F3 ((o1.trans o2).trans o3)
      (repeat fail)
      refine c_dec (fun c1 => ?_) (fun c1 => ?_)
      · (repeat fail)
        exact leafC
      (repeat fail)
      refine c_dec (fun c2 => ?_) (fun c2 => ?_)
      · (repeat fail)
        exact leafC
      (repeat fail)
      refine c_dec (fun c3 => ?_) (fun c3 => ?_)
      · exact oneC (by omega)
      (repeat fail)
      refine c_dec (fun c4 => ?_) (fun c4 => ?_)
      · exact oneC (by omega)
      (repeat fail)
      refine spec_draw hd1 (by omega) F1 (by omega) fun g S2 g0 g1 F2 o2 => ?_
      have two : ∀ S3, Flow S3 a → Off [a] S S3 → form ≠ 2 ∨ ¬ 3 < room → wpSs ⟨sem defs gl k, gl⟩ (fun x _ S' => E x S') [
          .asg (.nm 11) (.ite (.bop .Or [(.cmp .Eq (.var 2) (.str "num")), (.cmp .Gt (.var 4) (.int 3))]) (.str "num") (.str "truth")),
          .asg (.nm 12) (.sub (.sub (.lst [(.lst [(.str "least"), (.str "most")]), (.lst [(.str "both"), (.str "either")])]) (.blt .int [(.cmp .Eq (.var 2) (.str "truth"))])) (.call "_law_draw" [(.var 0), (.int 2)])),
          .ife (.bop .And [(.cmp .Eq (.var 2) (.str "truth")), (.cmp .Eq (.var 11) (.str "num"))]) [.asg (.nm 12) (.str "atmost")] [],
          .asg (.nm 10) (.call "_law_plan" [(.var 0), (.var 1), (.var 11), (.var 6)]),
          .ret (.tup [(.var 12), (.var 10), (.call "_law_plan" [(.var 0), (.var 1), (.var 11), (.bin .Sub (.bin .Sub (.var 3) (.int 1)) (.var 6))])])] ⟨fun _ S' => Q .non S', Q, fun _ _ => False, fun _ _ => False⟩ [some (.ref a), some (.tup (kD ks)), some (.str (Str.ofString "num")), some (.int room), some (.int form), none, some (.int (1 + g)), none, none, none, none, none, none] S3 := fun S3 F3 o3 _ => by
        (repeat fail)
        intro q1 hq1
        (repeat fail)
        intro q2 hq2
        (repeat fail)
        intro q3 hq3
        have n1 := flow_ne F3 hq1
        have F4 := F3.new (o := .lst [.str "least", .str "most"]) hq1
        have n2 := flow_ne F4 hq2
        have F5 := F4.new (o := .lst [.str "both", .str "either"]) hq2
        have n3 := flow_ne F5 hq3
        have F6 := F5.new (o := .lst [.ref q1, .ref q2]) hq3
        have x1 := upd_at (u := .lst [.ref q1, .ref q2]) hq3 (upd_at (u := .lst [.str "both", .str "either"]) hq2 (updS_same (S := S3) (a := q1) (o := .lst [.str "least", .str "most"])))
        have x2 := upd_at (u := .lst [.ref q1, .ref q2]) hq3 (updS_same (S := updS S3 q1 (.lst [.str "least", .str "most"])) (a := q2) (o := .lst [.str "both", .str "either"]))
        have x3 := updS_same (S := updS (updS S3 q1 (.lst [.str "least", .str "most"])) q2 (.lst [.str "both", .str "either"])) (a := q3) (o := .lst [.ref q1, .ref q2])
        have o6 : Off [a] S (updS (updS (updS S3 q1 (.lst [.str "least", .str "most"])) q2 (.lst [.str "both", .str "either"])) q3 (.lst [.ref q1, .ref q2])) := ((o3.trans (Off.new hq1)).trans (Off.new hq2)).trans (Off.new hq3)
        generalize updS (updS (updS S3 q1 (.lst [.str "least", .str "most"])) q2 (.lst [.str "both", .str "either"])) q3 (.lst [.ref q1, .ref q2]) = S6 at F6 x1 x2 x3 o6
        (repeat fail)
        refine spec_draw hd1 (by omega) F6 (by omega) fun w S7 w0 w1 F7 o7 => ?_
        have O7 : Off [a] S S7 := o6.trans o7
        have y := o7 q1 _ (by simpa using n1) x1
        have wc : w = 0 ∨ w = 1 := by omega
        rcases wc with rfl | rfl
        · refine o_subL y rfl ?_
          (repeat fail)
          refine ih (t := false) (by omega) (by omega) (by omega) F7 (by omega) fun p S8 p1 p2 p3 F8 o8 => ?_
          (repeat fail)
          refine ih (t := false) (by omega) (by omega) (by omega) F8 (by omega) fun r S9 r1 r2 r3 F9 o9 => ?_
          (repeat fail)
          exact hq (.least p r) S9 ⟨rfl, p1, r1⟩ (by show ((p.size + r.size + 1 : Nat) : Int) ≤ room; omega) ⟨p3, r3⟩ F9 ((O7.trans o8).trans o9)
        · refine o_subL y rfl ?_
          (repeat fail)
          refine ih (t := false) (by omega) (by omega) (by omega) F7 (by omega) fun p S8 p1 p2 p3 F8 o8 => ?_
          (repeat fail)
          refine ih (t := false) (by omega) (by omega) (by omega) F8 (by omega) fun r S9 r1 r2 r3 F9 o9 => ?_
          (repeat fail)
          exact hq (.most p r) S9 ⟨rfl, p1, r1⟩ (by show ((p.size + r.size + 1 : Nat) : Int) ≤ room; omega) ⟨p3, r3⟩ F9 ((O7.trans o8).trans o9)
      (repeat fail)
      refine c_dec (fun c6 => ?_) (fun c6 => ?_)
      rotate_left
      · rw [if_neg Bool.false_ne_true]; exact s_nil (two S2 F2 (o1.trans o2) (.inl c6))
      (repeat fail)
      refine c_dec (fun c7 => ?_) (fun c7 => ?_)
      rotate_left
      · exact s_nil (two S2 F2 (o1.trans o2) (.inr c7))
      (repeat fail)
      refine spec_draw hd1 (by omega) F2 (by omega) fun g2 S3 g20 g21 F3 o3 => ?_
      (repeat fail)
      refine ih (t := true) (by omega) (by omega) (by omega) F3 (by omega) fun p S4 p1 p2 p3 F4 o4 => ?_
      (repeat fail)
      refine spec_draw hd1 (by omega) F4 (by omega) fun g3 S5 g30 g31 F5 o5 => ?_
      (repeat fail)
      refine ih (t := false) (by omega) (by omega) (by omega) F5 (by omega) fun q S6 q1 q2 q3 F6 o6 => ?_
      (repeat fail)
      refine ih (t := false) (by omega) (by omega) (by omega) F6 (by omega) fun r S7 r1 r2 r3 F7 o7 => ?_
      (repeat fail)
      exact hq (.ife p q r) S7 ⟨p1, q1, r1⟩ (by show ((p.size + q.size + r.size + 1 : Nat) : Int) ≤ room; omega) ⟨p3, q3, r3⟩ F7 (((((o1.trans o2).trans o3).trans o4).trans o5).trans (o6.trans o7))
    · rw [show kS true = Str.ofString "truth" from rfl]
      (refine sem_of hd rfl ?_; unfold dLPlan; simp only [startD, List.map_cons, List.map_nil, List.length_cons, List.length_nil, List.replicate_succ, List.replicate_zero, List.cons_append, List.nil_append, Nat.reduceAdd, Nat.reduceSub])
      (repeat fail)
      refine spec_draw hd1 (by omega) hF (by omega) fun form S1 f0 f1 F1 o1 => ?_
      have leafC : sem defs gl k "_law_leaf" [.ref a, .tup (kD ks), .str (Str.ofString "truth")] S1 Q E := spec_leafP (t := true) hd3 hd1 hd2 (by omega) F1 hks fun p S2 p1 p2 p3 F2 o2 => hq p S2 p1 (by omega) p3 F2 (o1.trans o2)
      have oneC : 2 ≤ room → wpSs ⟨sem defs gl k, gl⟩ (fun x _ S' => E x S') [.asg (.nm 5) (.call "_law_plan" [(.var 0), (.var 1), (.var 2), (.bin .Sub (.var 3) (.int 1))]), .ret (.ite (.cmp .Eq (.var 2) (.str "num")) (.tup [(.str "plus"), (.call "_law_little" [(.var 0)]), (.var 5)]) (.tup [(.str "not"), (.var 5)]))] ⟨fun _ S' => Q .non S', Q, fun _ _ => False, fun _ _ => False⟩ [some (.ref a), some (.tup (kD ks)), some (.str (Str.ofString "truth")), some (.int room), some (.int form), none, none, none, none, none, none, none, none] S1 := fun h2r => by
        (repeat fail)
        refine ih (t := true) (by omega) (by omega) (by omega) F1 (by omega) fun p S2 p1 p2 p3 F2 o2 => ?_
        (repeat fail)
        exact hq (.not p) S2 ⟨rfl, p1⟩ (by show ((p.size + 1 : Nat) : Int) ≤ room; omega) p3 F2 (o1.trans o2)
      (repeat fail)
      refine c_dec (fun c1 => ?_) (fun c1 => ?_)
      · (repeat fail)
        exact leafC
      (repeat fail)
      refine c_dec (fun c2 => ?_) (fun c2 => ?_)
      · (repeat fail)
        exact leafC
      (repeat fail)
      refine c_dec (fun c3 => ?_) (fun c3 => ?_)
      · exact oneC (by omega)
      (repeat fail)
      refine c_dec (fun c4 => ?_) (fun c4 => ?_)
      · exact oneC (by omega)
      (repeat fail)
      refine spec_draw hd1 (by omega) F1 (by omega) fun g S2 g0 g1 F2 o2 => ?_
      have two : ∀ S3, Flow S3 a → Off [a] S S3 → form ≠ 2 ∨ ¬ 3 < room → wpSs ⟨sem defs gl k, gl⟩ (fun x _ S' => E x S') [
          .asg (.nm 11) (.ite (.bop .Or [(.cmp .Eq (.var 2) (.str "num")), (.cmp .Gt (.var 4) (.int 3))]) (.str "num") (.str "truth")),
          .asg (.nm 12) (.sub (.sub (.lst [(.lst [(.str "least"), (.str "most")]), (.lst [(.str "both"), (.str "either")])]) (.blt .int [(.cmp .Eq (.var 2) (.str "truth"))])) (.call "_law_draw" [(.var 0), (.int 2)])),
          .ife (.bop .And [(.cmp .Eq (.var 2) (.str "truth")), (.cmp .Eq (.var 11) (.str "num"))]) [.asg (.nm 12) (.str "atmost")] [],
          .asg (.nm 10) (.call "_law_plan" [(.var 0), (.var 1), (.var 11), (.var 6)]),
          .ret (.tup [(.var 12), (.var 10), (.call "_law_plan" [(.var 0), (.var 1), (.var 11), (.bin .Sub (.bin .Sub (.var 3) (.int 1)) (.var 6))])])] ⟨fun _ S' => Q .non S', Q, fun _ _ => False, fun _ _ => False⟩ [some (.ref a), some (.tup (kD ks)), some (.str (Str.ofString "truth")), some (.int room), some (.int form), none, some (.int (1 + g)), none, none, none, none, none, none] S3 := fun S3 F3 o3 _ => by
        (repeat fail)
        refine c_dec (fun c5 => ?_) (fun c5 => ?_)
        · (repeat fail)
          intro q1 hq1
          (repeat fail)
          intro q2 hq2
          (repeat fail)
          intro q3 hq3
          have n1 := flow_ne F3 hq1
          have F4 := F3.new (o := .lst [.str "least", .str "most"]) hq1
          have n2 := flow_ne F4 hq2
          have F5 := F4.new (o := .lst [.str "both", .str "either"]) hq2
          have n3 := flow_ne F5 hq3
          have F6 := F5.new (o := .lst [.ref q1, .ref q2]) hq3
          have x1 := upd_at (u := .lst [.ref q1, .ref q2]) hq3 (upd_at (u := .lst [.str "both", .str "either"]) hq2 (updS_same (S := S3) (a := q1) (o := .lst [.str "least", .str "most"])))
          have x2 := upd_at (u := .lst [.ref q1, .ref q2]) hq3 (updS_same (S := updS S3 q1 (.lst [.str "least", .str "most"])) (a := q2) (o := .lst [.str "both", .str "either"]))
          have x3 := updS_same (S := updS (updS S3 q1 (.lst [.str "least", .str "most"])) q2 (.lst [.str "both", .str "either"])) (a := q3) (o := .lst [.ref q1, .ref q2])
          have o6 : Off [a] S (updS (updS (updS S3 q1 (.lst [.str "least", .str "most"])) q2 (.lst [.str "both", .str "either"])) q3 (.lst [.ref q1, .ref q2])) := ((o3.trans (Off.new hq1)).trans (Off.new hq2)).trans (Off.new hq3)
          generalize updS (updS (updS S3 q1 (.lst [.str "least", .str "most"])) q2 (.lst [.str "both", .str "either"])) q3 (.lst [.ref q1, .ref q2]) = S6 at F6 x1 x2 x3 o6
          (repeat fail)
          refine spec_draw hd1 (by omega) F6 (by omega) fun w S7 w0 w1 F7 o7 => ?_
          have O7 : Off [a] S S7 := o6.trans o7
          have y := o7 q2 _ (by simpa using n2) x2
          have wc : w = 0 ∨ w = 1 := by omega
          rcases wc with rfl | rfl
          · refine o_subL y rfl ?_
            (repeat fail)
            refine ih (t := false) (by omega) (by omega) (by omega) F7 (by omega) fun p S8 p1 p2 p3 F8 o8 => ?_
            (repeat fail)
            refine ih (t := false) (by omega) (by omega) (by omega) F8 (by omega) fun r S9 r1 r2 r3 F9 o9 => ?_
            (repeat fail)
            exact hq (.atmost p r) S9 ⟨rfl, p1, r1⟩ (by show ((p.size + r.size + 1 : Nat) : Int) ≤ room; omega) ⟨p3, r3⟩ F9 ((O7.trans o8).trans o9)
          · refine o_subL y rfl ?_
            (repeat fail)
            refine ih (t := false) (by omega) (by omega) (by omega) F7 (by omega) fun p S8 p1 p2 p3 F8 o8 => ?_
            (repeat fail)
            refine ih (t := false) (by omega) (by omega) (by omega) F8 (by omega) fun r S9 r1 r2 r3 F9 o9 => ?_
            (repeat fail)
            exact hq (.atmost p r) S9 ⟨rfl, p1, r1⟩ (by show ((p.size + r.size + 1 : Nat) : Int) ≤ room; omega) ⟨p3, r3⟩ F9 ((O7.trans o8).trans o9)
        · (repeat fail)
          intro q1 hq1
          (repeat fail)
          intro q2 hq2
          (repeat fail)
          intro q3 hq3
          have n1 := flow_ne F3 hq1
          have F4 := F3.new (o := .lst [.str "least", .str "most"]) hq1
          have n2 := flow_ne F4 hq2
          have F5 := F4.new (o := .lst [.str "both", .str "either"]) hq2
          have n3 := flow_ne F5 hq3
          have F6 := F5.new (o := .lst [.ref q1, .ref q2]) hq3
          have x1 := upd_at (u := .lst [.ref q1, .ref q2]) hq3 (upd_at (u := .lst [.str "both", .str "either"]) hq2 (updS_same (S := S3) (a := q1) (o := .lst [.str "least", .str "most"])))
          have x2 := upd_at (u := .lst [.ref q1, .ref q2]) hq3 (updS_same (S := updS S3 q1 (.lst [.str "least", .str "most"])) (a := q2) (o := .lst [.str "both", .str "either"]))
          have x3 := updS_same (S := updS (updS S3 q1 (.lst [.str "least", .str "most"])) q2 (.lst [.str "both", .str "either"])) (a := q3) (o := .lst [.ref q1, .ref q2])
          have o6 : Off [a] S (updS (updS (updS S3 q1 (.lst [.str "least", .str "most"])) q2 (.lst [.str "both", .str "either"])) q3 (.lst [.ref q1, .ref q2])) := ((o3.trans (Off.new hq1)).trans (Off.new hq2)).trans (Off.new hq3)
          generalize updS (updS (updS S3 q1 (.lst [.str "least", .str "most"])) q2 (.lst [.str "both", .str "either"])) q3 (.lst [.ref q1, .ref q2]) = S6 at F6 x1 x2 x3 o6
          (repeat fail)
          refine spec_draw hd1 (by omega) F6 (by omega) fun w S7 w0 w1 F7 o7 => ?_
          have O7 : Off [a] S S7 := o6.trans o7
          have y := o7 q2 _ (by simpa using n2) x2
          have wc : w = 0 ∨ w = 1 := by omega
          rcases wc with rfl | rfl
          · refine o_subL y rfl ?_
            (repeat fail)
            refine ih (t := true) (by omega) (by omega) (by omega) F7 (by omega) fun p S8 p1 p2 p3 F8 o8 => ?_
            (repeat fail)
            refine ih (t := true) (by omega) (by omega) (by omega) F8 (by omega) fun r S9 r1 r2 r3 F9 o9 => ?_
            (repeat fail)
            exact hq (.both p r) S9 ⟨rfl, p1, r1⟩ (by show ((p.size + r.size + 1 : Nat) : Int) ≤ room; omega) ⟨p3, r3⟩ F9 ((O7.trans o8).trans o9)
          · refine o_subL y rfl ?_
            (repeat fail)
            refine ih (t := true) (by omega) (by omega) (by omega) F7 (by omega) fun p S8 p1 p2 p3 F8 o8 => ?_
            (repeat fail)
            refine ih (t := true) (by omega) (by omega) (by omega) F8 (by omega) fun r S9 r1 r2 r3 F9 o9 => ?_
            (repeat fail)
            exact hq (.either p r) S9 ⟨rfl, p1, r1⟩ (by show ((p.size + r.size + 1 : Nat) : Int) ≤ room; omega) ⟨p3, r3⟩ F9 ((O7.trans o8).trans o9)
      (repeat fail)
      refine c_dec (fun c6 => ?_) (fun c6 => ?_)
      rotate_left
      · rw [if_neg Bool.false_ne_true]; exact s_nil (two S2 F2 (o1.trans o2) (.inl c6))
      (repeat fail)
      refine c_dec (fun c7 => ?_) (fun c7 => ?_)
      rotate_left
      · exact s_nil (two S2 F2 (o1.trans o2) (.inr c7))
      (repeat fail)
      refine spec_draw hd1 (by omega) F2 (by omega) fun g2 S3 g20 g21 F3 o3 => ?_
      (repeat fail)
      refine ih (t := true) (by omega) (by omega) (by omega) F3 (by omega) fun p S4 p1 p2 p3 F4 o4 => ?_
      (repeat fail)
      refine spec_draw hd1 (by omega) F4 (by omega) fun g3 S5 g30 g31 F5 o5 => ?_
      (repeat fail)
      refine ih (t := true) (by omega) (by omega) (by omega) F5 (by omega) fun q S6 q1 q2 q3 F6 o6 => ?_
      (repeat fail)
      refine ih (t := true) (by omega) (by omega) (by omega) F6 (by omega) fun r S7 r1 r2 r3 F7 o7 => ?_
      (repeat fail)
      exact hq (.ife p q r) S7 ⟨p1, q1, r1⟩ (by show ((p.size + q.size + r.size + 1 : Nat) : Int) ≤ room; omega) ⟨p3, q3, r3⟩ F7 (((((o1.trans o2).trans o3).trans o4).trans o5).trans (o6.trans o7))
end Z

set_option Elab.async false
set_option linter.all false
set_option maxRecDepth 100000
set_option maxHeartbeats 4000000
namespace Z
open PySem PySem.Spec PyProof.Rows L2
section
variable {defs : Str → Option DefT} {gl : Str → Option D} {k : Nat} {S : Sto} {Q : D → Sto → Prop} {E : Exc → Sto → Prop}
theorem o_listT3 {xs : List D} (h : ∀ p, S p = none → Q (.ref p) (updS S p (.lst xs))) : wBlt .list [.tup xs] S Q := h
theorem sorted2 {x y : Int} {ns : List Int} (h : ns.Perm [x, y]) (hs : ns.Pairwise (· ≤ ·)) : ns = [if y < x then y else x, if x < y then y else x] := by
  have hl := h.length_eq
  match ns, hl with
  | [a, b], _ =>
    have hab : a ≤ b := by simpa using hs
    have ha : a = x ∨ a = y := by simpa using (h.mem_iff (a := a)).mp (by simp)
    have hx : x = a ∨ x = b := by simpa using (h.mem_iff (a := x)).mpr (by simp)
    have hy : y = a ∨ y = b := by simpa using (h.mem_iff (a := y)).mpr (by simp)
    have hb : b = x ∨ b = y := by simpa using (h.mem_iff (a := b)).mp (by simp)
    have hsum : a + b = x + y := by
      rcases ha with rfl | rfl
      · have := List.perm_singleton.mp ((List.perm_cons a).mp h)
        simp only [List.cons.injEq, and_true] at this
        omega
      · have := List.perm_singleton.mp ((List.perm_cons a).mp (h.trans (List.Perm.swap a x [])))
        simp only [List.cons.injEq, and_true] at this
        omega
    by_cases h1 : y < x
    · rw [if_pos h1, if_neg (by omega)]
      have : a = y := by omega
      have : b = x := by omega
      subst_vars; rfl
    · by_cases h2 : x < y
      · rw [if_neg h1, if_pos h2]
        have : a = x := by omega
        have : b = y := by omega
        subst_vars; rfl
      · rw [if_neg h1, if_neg h2]
        have : a = x := by omega
        have : b = x := by omega
        subst_vars; rfl
theorem o_sorted2 {a : Addr} {x y : Int} (e : S a = some (.lst [.int x, .int y])) (h : ∀ p, S p = none → Q (.ref p) (updS S p (.lst [.int (if y < x then y else x), .int (if x < y then y else x)]))) : wBlt .sorted [.ref a] S Q := by
  unfold wBlt
  simp only [e, intsOf, Option.map_some]
  refine ⟨Nat.le_of_ble_eq_true rfl, fun ns' p hp hs np => ?_⟩
  rw [sorted2 hp hs]
  exact h p np
theorem kidsL {C : Cw} {σ : StD} {kids : List Pg} {ap : Addr} (hS : S ap = some (.lst (kids.map Pg.d))) {fv : Pg → D} (hkl : kids.length ≤ 3) {i : Nat} {nm : Str} {e : T} {R : D → Sto → Prop}
    (IH : ∀ c ∈ kids, ∀ (S1 : Sto) (K : D → Sto → Prop), Off [] S S1 → (∀ S', Off [] S1 S' → K (fv c) S') → wpE C (fun _ _ _ => False) e ((wipeD σ [i]).set i (some c.d)) S1 K)
    (hq : ∀ p S', S' p = none → Off [] S S' → R (.ref p) (updS S' p (.lst (kids.map fv)))) :
    lcL (fun d S2 k => wpG (.nm i) d (wipeD σ (List.map (fun x => x.2) [(nm, i)])) S2 fun σ2 => wpTs C [] σ2 S2 fun b S3 => if b = true then wpE C (fun _ _ _ => False) e σ2 S3 fun v S4 => k (some v) S4 else k none S3) (fun S => S ap = some (.lst (kids.map Pg.d))) R (kids.map Pg.d) [] S := by
  refine lc_ind (fun r acc S' => ∃ dn td : List Pg, kids = dn ++ td ∧ r = td.map Pg.d ∧ acc = dn.map fv ∧ Off [] S S') (fun _ _ S' ⟨_, _, _, _, _, o⟩ => o ap _ (by simp) hS) ?_ ?_ _ _ _ ⟨[], kids, rfl, rfl, rfl, Off.refl _ _⟩
  · rintro acc S' ⟨dn, td, e1, e2, rfl, o⟩ p hp
    cases td with
    | cons c td => cases e2
    | nil => rw [List.append_nil] at e1; subst e1; exact hq p S' hp o
  · rintro d r acc S' K ⟨dn, td, e1, e2, rfl, o⟩ hs hn
    cases td with
    | nil => cases e2
    | cons c td =>
      simp only [List.map_cons, List.cons.injEq] at e2
      obtain ⟨rfl, rfl⟩ := e2
      refine ⟨by rw [sizeLine_eq, List.length_map]; have := congrArg List.length e1; simp only [List.length_append, List.length_cons] at this; omega, ?_⟩
      refine g_nm (ts_nil (c_true ?_))
      refine IH c (by rw [e1]; simp) S' _ o fun S2 o2 => ?_
      exact hs _ _ ⟨dn ++ [c], td, by rw [e1, List.append_assoc]; rfl, rfl, by simp, o.trans o2⟩
local macro_rules | `(tactic| fail) => `(tactic| ((with_reducible refine And.intro ?_ ?_); (focus (exact Nat.le_of_ble_eq_true rfl))))
local macro_rules | `(tactic| fail) => `(tactic| with_reducible refine ⟨_, rfl, ?_⟩)
local macro_rules | `(tactic| fail) => `(tactic| ((with_reducible apply o_sliceT); (focus rfl)))
local macro_rules | `(tactic| fail) => `(tactic| ((with_reducible apply o_inTf); (focus rfl); (focus rfl); (focus (simp [inF, eqF, str_beq]; done))))
local macro_rules | `(tactic| fail) => `(tactic| ((with_reducible apply o_inTt); (focus rfl); (focus rfl); (focus (simp [inF, eqF, str_beq]; done))))
local macro_rules | `(tactic| fail) => `(tactic| ((with_reducible apply o_subC); (focus ((repeat (first | with_reducible exact lk_hit | ((with_reducible apply lk_miss); (focus (exact str_ne (by decide)))))); done))))
local macro_rules | `(tactic| fail) => `(tactic| ((with_reducible apply o_inC); (focus ((repeat (first | with_reducible exact lk_hit | ((with_reducible apply lk_miss); (focus (exact str_ne (by decide)))))); done))))
local macro_rules | `(tactic| fail) => `(tactic| ((with_reducible apply o_ninC); (focus ((repeat (first | with_reducible exact lk_hit | ((with_reducible apply lk_miss); (focus (exact str_ne (by decide)))))); done))))
local macro_rules | `(tactic| fail) => `(tactic| ((with_reducible apply o_isinF); (focus rfl); (focus (decide +kernel))))
local macro_rules | `(tactic| fail) => `(tactic| ((with_reducible apply o_isinT); (focus rfl); (focus (decide +kernel))))
local macro_rules | `(tactic| fail) => `(tactic| with_reducible refine i_enm ?_)
local macro_rules | `(tactic| fail) => `(tactic| ((with_reducible apply g_tup); (focus rfl); (focus rfl)))
local macro_rules | `(tactic| fail) => `(tactic| ((with_reducible apply v_dctN); (focus (decide +kernel))))
local macro_rules | `(tactic| fail) => `(tactic| ((with_reducible apply o_len); (focus (exact len_ref (by (first | assumption | exact updS_same | exact upd_at (by assumption) (by assumption)))))))
local macro_rules | `(tactic| fail) => `(tactic| ((with_reducible apply o_tuple); (focus (first | rfl | exact items_ref (by (first | assumption | exact updS_same | exact upd_at (by assumption) (by assumption)))))))
local macro_rules | `(tactic| fail) => `(tactic| ((with_reducible apply o_get2); (focus (first | assumption | exact updS_same | exact upd_at (by assumption) (by assumption))); (focus rfl); (focus ((repeat (first | with_reducible exact getD_hit | with_reducible exact getD_nil | ((with_reducible apply getD_miss); (focus (exact str_ne (by decide)))))); done))))
local macro_rules | `(tactic| fail) => `(tactic| ((with_reducible apply o_get1); (focus (first | assumption | exact updS_same | exact upd_at (by assumption) (by assumption))); (focus rfl); (focus ((repeat (first | with_reducible exact getD_hit | with_reducible exact getD_nil | ((with_reducible apply getD_miss); (focus (exact str_ne (by decide)))))); done))))
local macro_rules | `(tactic| fail) => `(tactic| ((with_reducible refine And.intro ?_ ?_); (focus (first | exact recvL (by (first | assumption | exact updS_same | exact upd_at (by assumption) (by assumption))) rfl | exact recvD (by (first | assumption | exact updS_same | exact upd_at (by assumption) (by assumption))) rfl))))
local macro_rules | `(tactic| fail) => `(tactic| ((with_reducible apply o_subD); (focus (first | assumption | exact updS_same | exact upd_at (by assumption) (by assumption))); (focus rfl); (focus ((repeat (first | with_reducible exact lookD_hit | ((with_reducible apply look_miss); (focus (exact str_ne (by decide)))))); done))))
local macro_rules | `(tactic| fail) => `(tactic| ((with_reducible apply c_ndF); (focus (((try simp only [List.length_cons, List.length_nil, List.length_append, List.length_map]); omega)))))
local macro_rules | `(tactic| fail) => `(tactic| ((with_reducible apply c_ndT); (focus (((try simp only [List.length_cons, List.length_nil, List.length_append, List.length_map]); omega)))))
local macro_rules | `(tactic| fail) => `(tactic| with_reducible refine o_intB ?_)
local macro_rules | `(tactic| fail) => `(tactic| ((with_reducible apply c_decF); (focus (((try simp only [List.length_cons, List.length_nil, List.length_append, List.length_map]); omega)))))
local macro_rules | `(tactic| fail) => `(tactic| ((with_reducible apply c_decT); (focus (((try simp only [List.length_cons, List.length_nil, List.length_append, List.length_map]); omega)))))
local macro_rules | `(tactic| fail) => `(tactic| with_reducible refine c_notf ?_)
local macro_rules | `(tactic| fail) => `(tactic| with_reducible refine c_nott ?_)
local macro_rules | `(tactic| fail) => `(tactic| with_reducible refine o_eqI ?_)
local macro_rules | `(tactic| fail) => `(tactic| ((with_reducible apply o_eqIf); (focus (((try simp only [List.length_cons, List.length_nil, List.length_append, List.length_map]); omega)))))
local macro_rules | `(tactic| fail) => `(tactic| ((with_reducible apply o_eqIt); (focus (((try simp only [List.length_cons, List.length_nil, List.length_append, List.length_map]); omega)))))
local macro_rules | `(tactic| fail) => `(tactic| with_reducible refine o_isB ?_)
local macro_rules | `(tactic| fail) => `(tactic| with_reducible refine o_isN ?_)
local macro_rules | `(tactic| fail) => `(tactic| with_reducible refine o_isR ?_)
local macro_rules | `(tactic| fail) => `(tactic| with_reducible refine o_eqB ?_)
local macro_rules | `(tactic| fail) => `(tactic| ((with_reducible apply o_neIf); (focus (((try simp only [List.length_cons, List.length_nil, List.length_append, List.length_map]); omega)))))
local macro_rules | `(tactic| fail) => `(tactic| ((with_reducible apply o_neIt); (focus (((try simp only [List.length_cons, List.length_nil, List.length_append, List.length_map]); omega)))))
local macro_rules | `(tactic| fail) => `(tactic| with_reducible refine o_neII ?_)
local macro_rules | `(tactic| fail) => `(tactic| with_reducible refine o_neBB ?_)
local macro_rules | `(tactic| fail) => `(tactic| ((with_reducible apply o_eqSf); (focus decide)))
local macro_rules | `(tactic| fail) => `(tactic| ((with_reducible apply o_atr); (focus rfl)))
local macro_rules | `(tactic| fail) => `(tactic| with_reducible refine o_isx ?_)
local macro_rules | `(tactic| fail) => `(tactic| with_reducible refine o_eqSt ?_)
local macro_rules | `(tactic| fail) => `(tactic| ((with_reducible apply o_len); focus (first | rfl | (simp only [lenD]; simp only [*]; done))))
local macro_rules | `(tactic| fail) => `(tactic| ((with_reducible apply o_setL); (focus (first | assumption | exact updS_same | exact upd_at (by assumption) (by assumption))); (focus rfl)))
local macro_rules | `(tactic| fail) => `(tactic| ((with_reducible refine And.intro ?_ ?_); (focus (first | exact selfOk (by (first | assumption | exact updS_same | exact upd_at (by assumption) (by assumption))) rfl | exact insOk (by (first | assumption | exact updS_same | exact upd_at (by assumption) (by assumption)))))))
local macro_rules | `(tactic| fail) => `(tactic| ((with_reducible apply o_setf); (focus (first | assumption | exact updS_same | exact upd_at (by assumption) (by assumption))); (focus (exact Nat.le_of_ble_eq_true rfl))))
local macro_rules | `(tactic| fail) => `(tactic| ((with_reducible apply o_fld); (focus (first | assumption | exact updS_same | exact upd_at (by assumption) (by assumption))); (focus rfl)))
local macro_rules | `(tactic| fail) => `(tactic| ((with_reducible apply o_subT); focus (rfl)))
local macro_rules | `(tactic| fail) => `(tactic| ((with_reducible apply o_subL); (focus (first | assumption | exact updS_same | exact upd_at (by assumption) (by assumption))); (focus rfl)))
local macro_rules | `(tactic| fail) => `(tactic| ((with_reducible apply o_pow); focus (unfold CPow; omega)))
local macro_rules | `(tactic| fail) => `(tactic| ((with_reducible apply o_mod); focus (omega)))
local macro_rules | `(tactic| fail) => `(tactic| ((with_reducible apply o_div); focus (unfold CDiv; omega)))
local macro_rules | `(tactic| fail) => `(tactic| ((with_reducible apply o_mul); focus (unfold CMul; omega)))
local macro_rules | `(tactic| fail) => `(tactic| ((with_reducible apply v_glob); focus (first | assumption | rfl)))
local macro_rules | `(tactic| fail) => `(tactic| ((with_reducible apply t_var); focus (rfl)))
local macro_rules | `(tactic| fail) => `(tactic| ((with_reducible apply v_var); focus (rfl)))
local macro_rules | `(tactic| fail) => `(tactic| with_reducible refine c_false ?_)
local macro_rules | `(tactic| fail) => `(tactic| with_reducible refine c_true ?_)
local macro_rules | `(tactic| fail) => `(tactic| with_reducible refine o_ge ?_)
local macro_rules | `(tactic| fail) => `(tactic| with_reducible refine o_gt ?_)
local macro_rules | `(tactic| fail) => `(tactic| with_reducible refine o_le ?_)
local macro_rules | `(tactic| fail) => `(tactic| with_reducible refine o_lt ?_)
local macro_rules | `(tactic| fail) => `(tactic| with_reducible refine o_sub ?_)
local macro_rules | `(tactic| fail) => `(tactic| with_reducible refine o_add ?_)
local macro_rules | `(tactic| fail) => `(tactic| with_reducible refine o_sub1 ?_)
local macro_rules | `(tactic| fail) => `(tactic| with_reducible refine o_sub0 ?_)
local macro_rules | `(tactic| fail) => `(tactic| with_reducible refine i_rng1 ?_)
local macro_rules | `(tactic| fail) => `(tactic| with_reducible refine i_seq ?_)
local macro_rules | `(tactic| fail) => `(tactic| with_reducible refine g_cons ?_)
local macro_rules | `(tactic| fail) => `(tactic| with_reducible refine g_nil ?_)
local macro_rules | `(tactic| fail) => `(tactic| with_reducible refine g_nm ?_)
local macro_rules | `(tactic| fail) => `(tactic| with_reducible refine ts_one ?_)
local macro_rules | `(tactic| fail) => `(tactic| with_reducible refine ts_nil ?_)
local macro_rules | `(tactic| fail) => `(tactic| with_reducible refine tr_int ?_)
local macro_rules | `(tactic| fail) => `(tactic| with_reducible refine tr_bl ?_)
local macro_rules | `(tactic| fail) => `(tactic| with_reducible refine tb_or ?_)
local macro_rules | `(tactic| fail) => `(tactic| with_reducible refine tb_and ?_)
local macro_rules | `(tactic| fail) => `(tactic| with_reducible refine tb_one ?_)
local macro_rules | `(tactic| fail) => `(tactic| with_reducible refine t_chain ?_)
local macro_rules | `(tactic| fail) => `(tactic| with_reducible refine t_sub ?_)
local macro_rules | `(tactic| fail) => `(tactic| with_reducible refine t_blt ?_)
local macro_rules | `(tactic| fail) => `(tactic| with_reducible refine t_call ?_)
local macro_rules | `(tactic| fail) => `(tactic| with_reducible refine t_cmp ?_)
local macro_rules | `(tactic| fail) => `(tactic| with_reducible refine t_nt ?_)
local macro_rules | `(tactic| fail) => `(tactic| with_reducible refine t_bop ?_)
local macro_rules | `(tactic| fail) => `(tactic| with_reducible refine vb_or ?_)
local macro_rules | `(tactic| fail) => `(tactic| with_reducible refine vb_and ?_)
local macro_rules | `(tactic| fail) => `(tactic| with_reducible refine vb_one ?_)
local macro_rules | `(tactic| fail) => `(tactic| with_reducible refine vo_some ?_)
local macro_rules | `(tactic| fail) => `(tactic| with_reducible refine vo_none ?_)
local macro_rules | `(tactic| fail) => `(tactic| with_reducible refine vs_cons ?_)
local macro_rules | `(tactic| fail) => `(tactic| with_reducible refine vs_nil ?_)
local macro_rules | `(tactic| fail) => `(tactic| with_reducible refine s_try ?_)
local macro_rules | `(tactic| fail) => `(tactic| with_reducible refine s_setf ?_)
local macro_rules | `(tactic| fail) => `(tactic| with_reducible refine v_eqo ?_)
local macro_rules | `(tactic| fail) => `(tactic| with_reducible refine t_isc ?_)
local macro_rules | `(tactic| fail) => `(tactic| with_reducible refine v_isc ?_)
local macro_rules | `(tactic| fail) => `(tactic| with_reducible refine t_meth ?_)
local macro_rules | `(tactic| fail) => `(tactic| with_reducible refine v_meth ?_)
local macro_rules | `(tactic| fail) => `(tactic| with_reducible refine v_new ?_)
local macro_rules | `(tactic| fail) => `(tactic| with_reducible refine v_fld ?_)
local macro_rules | `(tactic| fail) => `(tactic| with_reducible refine v_atr ?_)
local macro_rules | `(tactic| fail) => `(tactic| with_reducible refine v_isx ?_)
local macro_rules | `(tactic| fail) => `(tactic| with_reducible refine v_back ?_)
local macro_rules | `(tactic| fail) => `(tactic| with_reducible refine v_lc ?_)
local macro_rules | `(tactic| fail) => `(tactic| with_reducible refine v_mth ?_)
local macro_rules | `(tactic| fail) => `(tactic| with_reducible refine v_lzip ?_)
local macro_rules | `(tactic| fail) => `(tactic| with_reducible refine v_lrev ?_)
local macro_rules | `(tactic| fail) => `(tactic| with_reducible refine v_blt ?_)
local macro_rules | `(tactic| fail) => `(tactic| with_reducible refine v_call ?_)
local macro_rules | `(tactic| fail) => `(tactic| with_reducible refine v_slice ?_)
local macro_rules | `(tactic| fail) => `(tactic| with_reducible refine v_sub ?_)
local macro_rules | `(tactic| fail) => `(tactic| with_reducible refine v_lst ?_)
local macro_rules | `(tactic| fail) => `(tactic| with_reducible refine v_tup ?_)
local macro_rules | `(tactic| fail) => `(tactic| with_reducible refine v_ite ?_)
local macro_rules | `(tactic| fail) => `(tactic| with_reducible refine v_nt ?_)
local macro_rules | `(tactic| fail) => `(tactic| with_reducible refine v_bop ?_)
local macro_rules | `(tactic| fail) => `(tactic| with_reducible refine v_cmp ?_)
local macro_rules | `(tactic| fail) => `(tactic| with_reducible refine v_bin ?_)
local macro_rules | `(tactic| fail) => `(tactic| with_reducible refine v_bty ?_)
local macro_rules | `(tactic| fail) => `(tactic| with_reducible refine v_str ?_)
local macro_rules | `(tactic| fail) => `(tactic| with_reducible refine v_non ?_)
local macro_rules | `(tactic| fail) => `(tactic| with_reducible refine v_bl ?_)
local macro_rules | `(tactic| fail) => `(tactic| with_reducible refine v_int ?_)
local macro_rules | `(tactic| fail) => `(tactic| with_reducible refine s_cont ?_)
local macro_rules | `(tactic| fail) => `(tactic| with_reducible refine s_brk ?_)
local macro_rules | `(tactic| fail) => `(tactic| with_reducible refine s_nil ?_)
local macro_rules | `(tactic| fail) => `(tactic| with_reducible refine s_pass ?_)
local macro_rules | `(tactic| fail) => `(tactic| with_reducible refine s_retN ?_)
local macro_rules | `(tactic| fail) => `(tactic| with_reducible refine s_ret ?_)
local macro_rules | `(tactic| fail) => `(tactic| with_reducible refine s_ife ?_)
local macro_rules | `(tactic| fail) => `(tactic| with_reducible refine s_set ?_)
local macro_rules | `(tactic| fail) => `(tactic| with_reducible refine s_par ?_)
local macro_rules | `(tactic| fail) => `(tactic| with_reducible refine s_asg ?_)
local macro_rules | `(tactic| fail) => `(tactic| with_reducible refine s_ex ?_)

theorem spec_inner (hd : defs "_law_inner" = some dLInner) {p : Pg} (hk : 1 ≤ k) (hq : ∀ lp S', S' lp = some (.lst (p.kids.map Pg.d)) → Off [] S S' → Q (.ref lp) S') : sem defs gl k "_law_inner" [p.d] S Q E := by
  obtain ⟨k, rfl⟩ : ∃ j, k = j + 1 := ⟨k - 1, by omega⟩
  cases p
  all_goals
    simp only [Pg.d]
    (refine sem_of hd rfl ?_; unfold dLInner; simp only [startD, List.map_cons, List.map_nil, List.length_cons, List.length_nil, List.replicate_succ, List.replicate_zero, List.cons_append, List.nil_append, Nat.reduceAdd, Nat.reduceSub])
    (repeat fail)
    refine ⟨rfl, fun dp hdp => ⟨recvD updS_same rfl, ?_⟩⟩
    simp only [mkD]
    (repeat fail)
    refine o_listT3 fun lp hlp => ?_
    exact hq lp _ updS_same ((Off.new hdp).trans (Off.new hlp))
end
local macro_rules | `(tactic| fail) => `(tactic| ((with_reducible refine And.intro ?_ ?_); (focus (exact Nat.le_of_ble_eq_true rfl))))
local macro_rules | `(tactic| fail) => `(tactic| with_reducible refine ⟨_, rfl, ?_⟩)
local macro_rules | `(tactic| fail) => `(tactic| ((with_reducible apply o_sliceT); (focus rfl)))
local macro_rules | `(tactic| fail) => `(tactic| ((with_reducible apply o_inTf); (focus rfl); (focus rfl); (focus (simp [inF, eqF, str_beq]; done))))
local macro_rules | `(tactic| fail) => `(tactic| ((with_reducible apply o_inTt); (focus rfl); (focus rfl); (focus (simp [inF, eqF, str_beq]; done))))
local macro_rules | `(tactic| fail) => `(tactic| ((with_reducible apply o_subC); (focus ((repeat (first | with_reducible exact lk_hit | ((with_reducible apply lk_miss); (focus (exact str_ne (by decide)))))); done))))
local macro_rules | `(tactic| fail) => `(tactic| ((with_reducible apply o_inC); (focus ((repeat (first | with_reducible exact lk_hit | ((with_reducible apply lk_miss); (focus (exact str_ne (by decide)))))); done))))
local macro_rules | `(tactic| fail) => `(tactic| ((with_reducible apply o_ninC); (focus ((repeat (first | with_reducible exact lk_hit | ((with_reducible apply lk_miss); (focus (exact str_ne (by decide)))))); done))))
local macro_rules | `(tactic| fail) => `(tactic| ((with_reducible apply o_isinF); (focus rfl); (focus (decide +kernel))))
local macro_rules | `(tactic| fail) => `(tactic| ((with_reducible apply o_isinT); (focus rfl); (focus (decide +kernel))))
local macro_rules | `(tactic| fail) => `(tactic| with_reducible refine i_enm ?_)
local macro_rules | `(tactic| fail) => `(tactic| ((with_reducible apply g_tup); (focus rfl); (focus rfl)))
local macro_rules | `(tactic| fail) => `(tactic| ((with_reducible apply v_dctN); (focus (decide +kernel))))
local macro_rules | `(tactic| fail) => `(tactic| ((with_reducible apply o_len); (focus (exact len_ref (by (first | assumption | exact updS_same | exact upd_at (by assumption) (by assumption)))))))
local macro_rules | `(tactic| fail) => `(tactic| ((with_reducible apply o_tuple); (focus (first | rfl | exact items_ref (by (first | assumption | exact updS_same | exact upd_at (by assumption) (by assumption)))))))
local macro_rules | `(tactic| fail) => `(tactic| ((with_reducible apply o_get2); (focus (first | assumption | exact updS_same | exact upd_at (by assumption) (by assumption))); (focus rfl); (focus ((repeat (first | with_reducible exact getD_hit | with_reducible exact getD_nil | ((with_reducible apply getD_miss); (focus (exact str_ne (by decide)))))); done))))
local macro_rules | `(tactic| fail) => `(tactic| ((with_reducible apply o_get1); (focus (first | assumption | exact updS_same | exact upd_at (by assumption) (by assumption))); (focus rfl); (focus ((repeat (first | with_reducible exact getD_hit | with_reducible exact getD_nil | ((with_reducible apply getD_miss); (focus (exact str_ne (by decide)))))); done))))
local macro_rules | `(tactic| fail) => `(tactic| ((with_reducible refine And.intro ?_ ?_); (focus (first | exact recvL (by (first | assumption | exact updS_same | exact upd_at (by assumption) (by assumption))) rfl | exact recvD (by (first | assumption | exact updS_same | exact upd_at (by assumption) (by assumption))) rfl))))
local macro_rules | `(tactic| fail) => `(tactic| ((with_reducible apply o_subD); (focus (first | assumption | exact updS_same | exact upd_at (by assumption) (by assumption))); (focus rfl); (focus ((repeat (first | with_reducible exact lookD_hit | ((with_reducible apply look_miss); (focus (exact str_ne (by decide)))))); done))))
local macro_rules | `(tactic| fail) => `(tactic| ((with_reducible apply c_ndF); (focus (((try simp only [List.length_cons, List.length_nil, List.length_append, List.length_map]); omega)))))
local macro_rules | `(tactic| fail) => `(tactic| ((with_reducible apply c_ndT); (focus (((try simp only [List.length_cons, List.length_nil, List.length_append, List.length_map]); omega)))))
local macro_rules | `(tactic| fail) => `(tactic| with_reducible refine o_intB ?_)
local macro_rules | `(tactic| fail) => `(tactic| ((with_reducible apply c_decF); (focus (((try simp only [List.length_cons, List.length_nil, List.length_append, List.length_map]); omega)))))
local macro_rules | `(tactic| fail) => `(tactic| ((with_reducible apply c_decT); (focus (((try simp only [List.length_cons, List.length_nil, List.length_append, List.length_map]); omega)))))
local macro_rules | `(tactic| fail) => `(tactic| with_reducible refine c_notf ?_)
local macro_rules | `(tactic| fail) => `(tactic| with_reducible refine c_nott ?_)
local macro_rules | `(tactic| fail) => `(tactic| with_reducible refine o_eqI ?_)
local macro_rules | `(tactic| fail) => `(tactic| ((with_reducible apply o_eqIf); (focus (((try simp only [List.length_cons, List.length_nil, List.length_append, List.length_map]); omega)))))
local macro_rules | `(tactic| fail) => `(tactic| ((with_reducible apply o_eqIt); (focus (((try simp only [List.length_cons, List.length_nil, List.length_append, List.length_map]); omega)))))
local macro_rules | `(tactic| fail) => `(tactic| with_reducible refine o_isB ?_)
local macro_rules | `(tactic| fail) => `(tactic| with_reducible refine o_isN ?_)
local macro_rules | `(tactic| fail) => `(tactic| with_reducible refine o_isR ?_)
local macro_rules | `(tactic| fail) => `(tactic| with_reducible refine o_eqB ?_)
local macro_rules | `(tactic| fail) => `(tactic| ((with_reducible apply o_neIf); (focus (((try simp only [List.length_cons, List.length_nil, List.length_append, List.length_map]); omega)))))
local macro_rules | `(tactic| fail) => `(tactic| ((with_reducible apply o_neIt); (focus (((try simp only [List.length_cons, List.length_nil, List.length_append, List.length_map]); omega)))))
local macro_rules | `(tactic| fail) => `(tactic| with_reducible refine o_neII ?_)
local macro_rules | `(tactic| fail) => `(tactic| with_reducible refine o_neBB ?_)
local macro_rules | `(tactic| fail) => `(tactic| ((with_reducible apply o_eqSf); (focus decide)))
local macro_rules | `(tactic| fail) => `(tactic| ((with_reducible apply o_atr); (focus rfl)))
local macro_rules | `(tactic| fail) => `(tactic| with_reducible refine o_isx ?_)
local macro_rules | `(tactic| fail) => `(tactic| with_reducible refine o_eqSt ?_)
local macro_rules | `(tactic| fail) => `(tactic| ((with_reducible apply o_len); focus (first | rfl | (simp only [lenD]; simp only [*]; done))))
local macro_rules | `(tactic| fail) => `(tactic| ((with_reducible apply o_setL); (focus (first | assumption | exact updS_same | exact upd_at (by assumption) (by assumption))); (focus rfl)))
local macro_rules | `(tactic| fail) => `(tactic| ((with_reducible refine And.intro ?_ ?_); (focus (first | exact selfOk (by (first | assumption | exact updS_same | exact upd_at (by assumption) (by assumption))) rfl | exact insOk (by (first | assumption | exact updS_same | exact upd_at (by assumption) (by assumption)))))))
local macro_rules | `(tactic| fail) => `(tactic| ((with_reducible apply o_setf); (focus (first | assumption | exact updS_same | exact upd_at (by assumption) (by assumption))); (focus (exact Nat.le_of_ble_eq_true rfl))))
local macro_rules | `(tactic| fail) => `(tactic| ((with_reducible apply o_fld); (focus (first | assumption | exact updS_same | exact upd_at (by assumption) (by assumption))); (focus rfl)))
local macro_rules | `(tactic| fail) => `(tactic| ((with_reducible apply o_subT); focus (rfl)))
local macro_rules | `(tactic| fail) => `(tactic| ((with_reducible apply o_subL); (focus (first | assumption | exact updS_same | exact upd_at (by assumption) (by assumption))); (focus rfl)))
local macro_rules | `(tactic| fail) => `(tactic| ((with_reducible apply o_pow); focus (unfold CPow; omega)))
local macro_rules | `(tactic| fail) => `(tactic| ((with_reducible apply o_mod); focus (omega)))
local macro_rules | `(tactic| fail) => `(tactic| ((with_reducible apply o_div); focus (unfold CDiv; omega)))
local macro_rules | `(tactic| fail) => `(tactic| ((with_reducible apply o_mul); focus (unfold CMul; omega)))
local macro_rules | `(tactic| fail) => `(tactic| ((with_reducible apply v_glob); focus (first | assumption | rfl)))
local macro_rules | `(tactic| fail) => `(tactic| ((with_reducible apply t_var); focus (rfl)))
local macro_rules | `(tactic| fail) => `(tactic| ((with_reducible apply v_var); focus (rfl)))
local macro_rules | `(tactic| fail) => `(tactic| with_reducible refine c_false ?_)
local macro_rules | `(tactic| fail) => `(tactic| with_reducible refine c_true ?_)
local macro_rules | `(tactic| fail) => `(tactic| with_reducible refine o_ge ?_)
local macro_rules | `(tactic| fail) => `(tactic| with_reducible refine o_gt ?_)
local macro_rules | `(tactic| fail) => `(tactic| with_reducible refine o_le ?_)
local macro_rules | `(tactic| fail) => `(tactic| with_reducible refine o_lt ?_)
local macro_rules | `(tactic| fail) => `(tactic| with_reducible refine o_sub ?_)
local macro_rules | `(tactic| fail) => `(tactic| with_reducible refine o_add ?_)
local macro_rules | `(tactic| fail) => `(tactic| with_reducible refine o_sub1 ?_)
local macro_rules | `(tactic| fail) => `(tactic| with_reducible refine o_sub0 ?_)
local macro_rules | `(tactic| fail) => `(tactic| with_reducible refine i_rng1 ?_)
local macro_rules | `(tactic| fail) => `(tactic| with_reducible refine i_seq ?_)
local macro_rules | `(tactic| fail) => `(tactic| with_reducible refine g_cons ?_)
local macro_rules | `(tactic| fail) => `(tactic| with_reducible refine g_nil ?_)
local macro_rules | `(tactic| fail) => `(tactic| with_reducible refine g_nm ?_)
local macro_rules | `(tactic| fail) => `(tactic| with_reducible refine ts_one ?_)
local macro_rules | `(tactic| fail) => `(tactic| with_reducible refine ts_nil ?_)
local macro_rules | `(tactic| fail) => `(tactic| with_reducible refine tr_int ?_)
local macro_rules | `(tactic| fail) => `(tactic| with_reducible refine tr_bl ?_)
local macro_rules | `(tactic| fail) => `(tactic| with_reducible refine tb_or ?_)
local macro_rules | `(tactic| fail) => `(tactic| with_reducible refine tb_and ?_)
local macro_rules | `(tactic| fail) => `(tactic| with_reducible refine tb_one ?_)
local macro_rules | `(tactic| fail) => `(tactic| with_reducible refine t_chain ?_)
local macro_rules | `(tactic| fail) => `(tactic| with_reducible refine t_sub ?_)
local macro_rules | `(tactic| fail) => `(tactic| with_reducible refine t_blt ?_)
local macro_rules | `(tactic| fail) => `(tactic| with_reducible refine t_call ?_)
local macro_rules | `(tactic| fail) => `(tactic| with_reducible refine t_cmp ?_)
local macro_rules | `(tactic| fail) => `(tactic| with_reducible refine t_nt ?_)
local macro_rules | `(tactic| fail) => `(tactic| with_reducible refine t_bop ?_)
local macro_rules | `(tactic| fail) => `(tactic| with_reducible refine vb_or ?_)
local macro_rules | `(tactic| fail) => `(tactic| with_reducible refine vb_and ?_)
local macro_rules | `(tactic| fail) => `(tactic| with_reducible refine vb_one ?_)
local macro_rules | `(tactic| fail) => `(tactic| with_reducible refine vo_some ?_)
local macro_rules | `(tactic| fail) => `(tactic| with_reducible refine vo_none ?_)
local macro_rules | `(tactic| fail) => `(tactic| with_reducible refine vs_cons ?_)
local macro_rules | `(tactic| fail) => `(tactic| with_reducible refine vs_nil ?_)
local macro_rules | `(tactic| fail) => `(tactic| with_reducible refine s_try ?_)
local macro_rules | `(tactic| fail) => `(tactic| with_reducible refine s_setf ?_)
local macro_rules | `(tactic| fail) => `(tactic| with_reducible refine v_eqo ?_)
local macro_rules | `(tactic| fail) => `(tactic| with_reducible refine t_isc ?_)
local macro_rules | `(tactic| fail) => `(tactic| with_reducible refine v_isc ?_)
local macro_rules | `(tactic| fail) => `(tactic| with_reducible refine t_meth ?_)
local macro_rules | `(tactic| fail) => `(tactic| with_reducible refine v_meth ?_)
local macro_rules | `(tactic| fail) => `(tactic| with_reducible refine v_new ?_)
local macro_rules | `(tactic| fail) => `(tactic| with_reducible refine v_fld ?_)
local macro_rules | `(tactic| fail) => `(tactic| with_reducible refine v_atr ?_)
local macro_rules | `(tactic| fail) => `(tactic| with_reducible refine v_isx ?_)
local macro_rules | `(tactic| fail) => `(tactic| with_reducible refine v_back ?_)
local macro_rules | `(tactic| fail) => `(tactic| with_reducible refine v_lc ?_)
local macro_rules | `(tactic| fail) => `(tactic| with_reducible refine v_mth ?_)
local macro_rules | `(tactic| fail) => `(tactic| with_reducible refine v_lzip ?_)
local macro_rules | `(tactic| fail) => `(tactic| with_reducible refine v_lrev ?_)
local macro_rules | `(tactic| fail) => `(tactic| with_reducible refine v_blt ?_)
local macro_rules | `(tactic| fail) => `(tactic| with_reducible refine v_call ?_)
local macro_rules | `(tactic| fail) => `(tactic| with_reducible refine v_slice ?_)
local macro_rules | `(tactic| fail) => `(tactic| with_reducible refine v_sub ?_)
local macro_rules | `(tactic| fail) => `(tactic| with_reducible refine v_lst ?_)
local macro_rules | `(tactic| fail) => `(tactic| with_reducible refine v_tup ?_)
local macro_rules | `(tactic| fail) => `(tactic| with_reducible refine v_ite ?_)
local macro_rules | `(tactic| fail) => `(tactic| with_reducible refine v_nt ?_)
local macro_rules | `(tactic| fail) => `(tactic| with_reducible refine v_bop ?_)
local macro_rules | `(tactic| fail) => `(tactic| with_reducible refine v_cmp ?_)
local macro_rules | `(tactic| fail) => `(tactic| with_reducible refine v_bin ?_)
local macro_rules | `(tactic| fail) => `(tactic| with_reducible refine v_bty ?_)
local macro_rules | `(tactic| fail) => `(tactic| with_reducible refine v_str ?_)
local macro_rules | `(tactic| fail) => `(tactic| with_reducible refine v_non ?_)
local macro_rules | `(tactic| fail) => `(tactic| with_reducible refine v_bl ?_)
local macro_rules | `(tactic| fail) => `(tactic| with_reducible refine v_int ?_)
local macro_rules | `(tactic| fail) => `(tactic| with_reducible refine s_cont ?_)
local macro_rules | `(tactic| fail) => `(tactic| with_reducible refine s_brk ?_)
local macro_rules | `(tactic| fail) => `(tactic| with_reducible refine s_nil ?_)
local macro_rules | `(tactic| fail) => `(tactic| with_reducible refine s_pass ?_)
local macro_rules | `(tactic| fail) => `(tactic| with_reducible refine s_retN ?_)
local macro_rules | `(tactic| fail) => `(tactic| with_reducible refine s_ret ?_)
local macro_rules | `(tactic| fail) => `(tactic| with_reducible refine s_ife ?_)
local macro_rules | `(tactic| fail) => `(tactic| with_reducible refine s_set ?_)
local macro_rules | `(tactic| fail) => `(tactic| with_reducible refine s_par ?_)
local macro_rules | `(tactic| fail) => `(tactic| with_reducible refine s_asg ?_)
local macro_rules | `(tactic| fail) => `(tactic| with_reducible refine s_ex ?_)

theorem spec_worth {defs : Str → Option DefT} {gl : Str → Option D} (hd : defs "_law_worth" = some dLWorth) (hd1 : defs "_law_inner" = some dLInner) {ks : List Bool} {env : List D} (he : EnvOk ks env) (p : Pg) : ∀ {t : Bool} {k : Nat} {S : Sto} {Q : D → Sto → Prop} {E : Exc → Sto → Prop}, p.ok ks t → p.ht + 2 ≤ k → (∀ S', Off [] S S' → Q (p.ev env) S') → sem defs gl k "_law_worth" [p.d, .tup env] S Q E := by
  induction p with
  | inp i =>
    intro t k S Q E hok hk hq
    obtain ⟨k, rfl⟩ : ∃ j, k = j + 1 := ⟨k - 1, by omega⟩
    obtain ⟨v, ev, hv⟩ := he.2 i t hok
    have ee : Pg.ev env (.inp i) = v := by simp [Pg.ev, ev]
    rw [ee] at hq
    simp only [Pg.d]
    (refine sem_of hd rfl ?_; unfold dLWorth; simp only [startD, List.map_cons, List.map_nil, List.length_cons, List.length_nil, List.replicate_succ, List.replicate_zero, List.cons_append, List.nil_append, Nat.reduceAdd, Nat.reduceSub])
    (repeat fail)
    exact o_subT (atI_nat ev) (hq S (Off.refl _ _))
  | num n =>
    intro t k S Q E hok hk hq
    obtain ⟨k, rfl⟩ : ∃ j, k = j + 1 := ⟨k - 1, by omega⟩
    simp only [Pg.d]
    (refine sem_of hd rfl ?_; unfold dLWorth; simp only [startD, List.map_cons, List.map_nil, List.length_cons, List.length_nil, List.replicate_succ, List.replicate_zero, List.cons_append, List.nil_append, Nat.reduceAdd, Nat.reduceSub])
    (repeat fail)
    exact hq S (Off.refl _ _)
  | yes =>
    intro t k S Q E hok hk hq
    obtain ⟨k, rfl⟩ : ∃ j, k = j + 1 := ⟨k - 1, by omega⟩
    simp only [Pg.d]
    (refine sem_of hd rfl ?_; unfold dLWorth; simp only [startD, List.map_cons, List.map_nil, List.length_cons, List.length_nil, List.replicate_succ, List.replicate_zero, List.cons_append, List.nil_append, Nat.reduceAdd, Nat.reduceSub])
    (repeat fail)
    exact hq S (Off.refl _ _)
  | no =>
    intro t k S Q E hok hk hq
    obtain ⟨k, rfl⟩ : ∃ j, k = j + 1 := ⟨k - 1, by omega⟩
    simp only [Pg.d]
    (refine sem_of hd rfl ?_; unfold dLWorth; simp only [startD, List.map_cons, List.map_nil, List.length_cons, List.length_nil, List.replicate_succ, List.replicate_zero, List.cons_append, List.nil_append, Nat.reduceAdd, Nat.reduceSub])
    (repeat fail)
    exact hq S (Off.refl _ _)
  | plus n a iha =>
    intro t k S Q E hok hk hq
    obtain ⟨k, rfl⟩ : ∃ j, k = j + 1 := ⟨k - 1, by omega⟩
    simp only [Pg.ht] at hk
    obtain ⟨va, ea⟩ := ev_ok he a _ hok.2
    have ek : (Pg.plus n a).kids.map (Pg.ev env) = [.int va] := by simp [Pg.kids, ea]
    have ee : Pg.ev env (.plus n a) = .int (n + va) := by simp [Pg.ev, ea]
    rw [ee] at hq
    simp only [Pg.d]
    (refine sem_of hd rfl ?_; unfold dLWorth; simp only [startD, List.map_cons, List.map_nil, List.length_cons, List.length_nil, List.replicate_succ, List.replicate_zero, List.cons_append, List.nil_append, Nat.reduceAdd, Nat.reduceSub])
    (repeat fail)
    refine spec_inner hd1 (p := .plus n a) (by omega) fun lp S1 el o1 => (.inr (.inr ⟨_, _, rfl, el, ?_⟩))
    refine kidsL el (fv := Pg.ev env) (by simp [Pg.kids]) ?_ fun p S' hp o => ?_
    · intro c' hc S2 K _ hK
      simp only [wipeD, List.set_cons_zero, List.set_cons_succ]
      (repeat fail)
      simp only [Pg.kids, List.mem_cons, List.not_mem_nil, or_false] at hc
      rcases hc with rfl
      · exact iha hok.2 (by omega) hK
    · rw [ek]
      have o' := (o1.trans o).trans (Off.new (o := .lst [.int va]) hp)
      have el' : updS S' p (.lst [.int va]) p = some (.lst [.int va]) := updS_same
      generalize updS S' p (.lst [.int va]) = S3 at o' el'
      (repeat fail)
      exact hq _ o'
  | not a iha =>
    intro t k S Q E hok hk hq
    obtain ⟨k, rfl⟩ : ∃ j, k = j + 1 := ⟨k - 1, by omega⟩
    simp only [Pg.ht] at hk
    obtain ⟨va, ea⟩ := ev_ok he a _ hok.2
    have ek : (Pg.not a).kids.map (Pg.ev env) = [.bl va] := by simp [Pg.kids, ea]
    have ee : Pg.ev env (.not a) = .bl (!va) := by simp [Pg.ev, ea]
    rw [ee] at hq
    simp only [Pg.d]
    (refine sem_of hd rfl ?_; unfold dLWorth; simp only [startD, List.map_cons, List.map_nil, List.length_cons, List.length_nil, List.replicate_succ, List.replicate_zero, List.cons_append, List.nil_append, Nat.reduceAdd, Nat.reduceSub])
    (repeat fail)
    refine spec_inner hd1 (p := .not a) (by omega) fun lp S1 el o1 => (.inr (.inr ⟨_, _, rfl, el, ?_⟩))
    refine kidsL el (fv := Pg.ev env) (by simp [Pg.kids]) ?_ fun p S' hp o => ?_
    · intro c' hc S2 K _ hK
      simp only [wipeD, List.set_cons_zero, List.set_cons_succ]
      (repeat fail)
      simp only [Pg.kids, List.mem_cons, List.not_mem_nil, or_false] at hc
      rcases hc with rfl
      · exact iha hok.2 (by omega) hK
    · rw [ek]
      have o' := (o1.trans o).trans (Off.new (o := .lst [.bl va]) hp)
      have el' : updS S' p (.lst [.bl va]) p = some (.lst [.bl va]) := updS_same
      generalize updS S' p (.lst [.bl va]) = S3 at o' el'
      (repeat fail)
      exact hq _ o'
  | least a b iha ihb =>
    intro t k S Q E hok hk hq
    obtain ⟨k, rfl⟩ : ∃ j, k = j + 1 := ⟨k - 1, by omega⟩
    simp only [Pg.ht] at hk
    obtain ⟨va, ea⟩ := ev_ok he a _ hok.2.1
    obtain ⟨vb, eb⟩ := ev_ok he b _ hok.2.2
    have ek : (Pg.least a b).kids.map (Pg.ev env) = [.int va, .int vb] := by simp [Pg.kids, ea, eb]
    have ee : Pg.ev env (.least a b) = .int (if vb < va then vb else va) := by simp [Pg.ev, ea, eb]
    rw [ee] at hq
    simp only [Pg.d]
    (refine sem_of hd rfl ?_; unfold dLWorth; simp only [startD, List.map_cons, List.map_nil, List.length_cons, List.length_nil, List.replicate_succ, List.replicate_zero, List.cons_append, List.nil_append, Nat.reduceAdd, Nat.reduceSub])
    (repeat fail)
    refine spec_inner hd1 (p := .least a b) (by omega) fun lp S1 el o1 => (.inr (.inr ⟨_, _, rfl, el, ?_⟩))
    refine kidsL el (fv := Pg.ev env) (by simp [Pg.kids]) ?_ fun p S' hp o => ?_
    · intro c' hc S2 K _ hK
      simp only [wipeD, List.set_cons_zero, List.set_cons_succ]
      (repeat fail)
      simp only [Pg.kids, List.mem_cons, List.not_mem_nil, or_false] at hc
      rcases hc with rfl | rfl
      · exact iha hok.2.1 (by omega) hK
      · exact ihb hok.2.2 (by omega) hK
    · rw [ek]
      have o' := (o1.trans o).trans (Off.new (o := .lst [.int va, .int vb]) hp)
      have el' : updS S' p (.lst [.int va, .int vb]) p = some (.lst [.int va, .int vb]) := updS_same
      generalize updS S' p (.lst [.int va, .int vb]) = S3 at o' el'
      (repeat fail)
      refine o_sorted2 el' fun q hq2 => ?_
      have os := o'.trans (Off.new (o := .lst [.int (if vb < va then vb else va), .int (if va < vb then vb else va)]) hq2)
      (repeat fail)
      exact hq _ os
  | most a b iha ihb =>
    intro t k S Q E hok hk hq
    obtain ⟨k, rfl⟩ : ∃ j, k = j + 1 := ⟨k - 1, by omega⟩
    simp only [Pg.ht] at hk
    obtain ⟨va, ea⟩ := ev_ok he a _ hok.2.1
    obtain ⟨vb, eb⟩ := ev_ok he b _ hok.2.2
    have ek : (Pg.most a b).kids.map (Pg.ev env) = [.int va, .int vb] := by simp [Pg.kids, ea, eb]
    have ee : Pg.ev env (.most a b) = .int (if va < vb then vb else va) := by simp [Pg.ev, ea, eb]
    rw [ee] at hq
    simp only [Pg.d]
    (refine sem_of hd rfl ?_; unfold dLWorth; simp only [startD, List.map_cons, List.map_nil, List.length_cons, List.length_nil, List.replicate_succ, List.replicate_zero, List.cons_append, List.nil_append, Nat.reduceAdd, Nat.reduceSub])
    (repeat fail)
    refine spec_inner hd1 (p := .most a b) (by omega) fun lp S1 el o1 => (.inr (.inr ⟨_, _, rfl, el, ?_⟩))
    refine kidsL el (fv := Pg.ev env) (by simp [Pg.kids]) ?_ fun p S' hp o => ?_
    · intro c' hc S2 K _ hK
      simp only [wipeD, List.set_cons_zero, List.set_cons_succ]
      (repeat fail)
      simp only [Pg.kids, List.mem_cons, List.not_mem_nil, or_false] at hc
      rcases hc with rfl | rfl
      · exact iha hok.2.1 (by omega) hK
      · exact ihb hok.2.2 (by omega) hK
    · rw [ek]
      have o' := (o1.trans o).trans (Off.new (o := .lst [.int va, .int vb]) hp)
      have el' : updS S' p (.lst [.int va, .int vb]) p = some (.lst [.int va, .int vb]) := updS_same
      generalize updS S' p (.lst [.int va, .int vb]) = S3 at o' el'
      (repeat fail)
      refine o_sorted2 el' fun q hq2 => ?_
      have os := o'.trans (Off.new (o := .lst [.int (if vb < va then vb else va), .int (if va < vb then vb else va)]) hq2)
      (repeat fail)
      exact hq _ os
  | atmost a b iha ihb =>
    intro t k S Q E hok hk hq
    obtain ⟨k, rfl⟩ : ∃ j, k = j + 1 := ⟨k - 1, by omega⟩
    simp only [Pg.ht] at hk
    obtain ⟨va, ea⟩ := ev_ok he a _ hok.2.1
    obtain ⟨vb, eb⟩ := ev_ok he b _ hok.2.2
    have ek : (Pg.atmost a b).kids.map (Pg.ev env) = [.int va, .int vb] := by simp [Pg.kids, ea, eb]
    have ee : Pg.ev env (.atmost a b) = .bl (decide (va ≤ vb)) := by simp [Pg.ev, ea, eb]
    rw [ee] at hq
    simp only [Pg.d]
    (refine sem_of hd rfl ?_; unfold dLWorth; simp only [startD, List.map_cons, List.map_nil, List.length_cons, List.length_nil, List.replicate_succ, List.replicate_zero, List.cons_append, List.nil_append, Nat.reduceAdd, Nat.reduceSub])
    (repeat fail)
    refine spec_inner hd1 (p := .atmost a b) (by omega) fun lp S1 el o1 => (.inr (.inr ⟨_, _, rfl, el, ?_⟩))
    refine kidsL el (fv := Pg.ev env) (by simp [Pg.kids]) ?_ fun p S' hp o => ?_
    · intro c' hc S2 K _ hK
      simp only [wipeD, List.set_cons_zero, List.set_cons_succ]
      (repeat fail)
      simp only [Pg.kids, List.mem_cons, List.not_mem_nil, or_false] at hc
      rcases hc with rfl | rfl
      · exact iha hok.2.1 (by omega) hK
      · exact ihb hok.2.2 (by omega) hK
    · rw [ek]
      have o' := (o1.trans o).trans (Off.new (o := .lst [.int va, .int vb]) hp)
      have el' : updS S' p (.lst [.int va, .int vb]) p = some (.lst [.int va, .int vb]) := updS_same
      generalize updS S' p (.lst [.int va, .int vb]) = S3 at o' el'
      (repeat fail)
      exact hq _ o'
  | both a b iha ihb =>
    intro t k S Q E hok hk hq
    obtain ⟨k, rfl⟩ : ∃ j, k = j + 1 := ⟨k - 1, by omega⟩
    simp only [Pg.ht] at hk
    obtain ⟨va, ea⟩ := ev_ok he a _ hok.2.1
    obtain ⟨vb, eb⟩ := ev_ok he b _ hok.2.2
    have ek : (Pg.both a b).kids.map (Pg.ev env) = [.bl va, .bl vb] := by simp [Pg.kids, ea, eb]
    have ee : Pg.ev env (.both a b) = .bl (va && vb) := by simp [Pg.ev, ea, eb]
    rw [ee] at hq
    simp only [Pg.d]
    (refine sem_of hd rfl ?_; unfold dLWorth; simp only [startD, List.map_cons, List.map_nil, List.length_cons, List.length_nil, List.replicate_succ, List.replicate_zero, List.cons_append, List.nil_append, Nat.reduceAdd, Nat.reduceSub])
    (repeat fail)
    refine spec_inner hd1 (p := .both a b) (by omega) fun lp S1 el o1 => (.inr (.inr ⟨_, _, rfl, el, ?_⟩))
    refine kidsL el (fv := Pg.ev env) (by simp [Pg.kids]) ?_ fun p S' hp o => ?_
    · intro c' hc S2 K _ hK
      simp only [wipeD, List.set_cons_zero, List.set_cons_succ]
      (repeat fail)
      simp only [Pg.kids, List.mem_cons, List.not_mem_nil, or_false] at hc
      rcases hc with rfl | rfl
      · exact iha hok.2.1 (by omega) hK
      · exact ihb hok.2.2 (by omega) hK
    · rw [ek]
      have o' := (o1.trans o).trans (Off.new (o := .lst [.bl va, .bl vb]) hp)
      have el' : updS S' p (.lst [.bl va, .bl vb]) p = some (.lst [.bl va, .bl vb]) := updS_same
      generalize updS S' p (.lst [.bl va, .bl vb]) = S3 at o' el'
      (repeat fail)
      cases va
      · (repeat fail)
        exact hq _ o'
      · (repeat fail)
        exact hq _ o'
  | either a b iha ihb =>
    intro t k S Q E hok hk hq
    obtain ⟨k, rfl⟩ : ∃ j, k = j + 1 := ⟨k - 1, by omega⟩
    simp only [Pg.ht] at hk
    obtain ⟨va, ea⟩ := ev_ok he a _ hok.2.1
    obtain ⟨vb, eb⟩ := ev_ok he b _ hok.2.2
    have ek : (Pg.either a b).kids.map (Pg.ev env) = [.bl va, .bl vb] := by simp [Pg.kids, ea, eb]
    have ee : Pg.ev env (.either a b) = .bl (va || vb) := by simp [Pg.ev, ea, eb]
    rw [ee] at hq
    simp only [Pg.d]
    (refine sem_of hd rfl ?_; unfold dLWorth; simp only [startD, List.map_cons, List.map_nil, List.length_cons, List.length_nil, List.replicate_succ, List.replicate_zero, List.cons_append, List.nil_append, Nat.reduceAdd, Nat.reduceSub])
    (repeat fail)
    refine spec_inner hd1 (p := .either a b) (by omega) fun lp S1 el o1 => (.inr (.inr ⟨_, _, rfl, el, ?_⟩))
    refine kidsL el (fv := Pg.ev env) (by simp [Pg.kids]) ?_ fun p S' hp o => ?_
    · intro c' hc S2 K _ hK
      simp only [wipeD, List.set_cons_zero, List.set_cons_succ]
      (repeat fail)
      simp only [Pg.kids, List.mem_cons, List.not_mem_nil, or_false] at hc
      rcases hc with rfl | rfl
      · exact iha hok.2.1 (by omega) hK
      · exact ihb hok.2.2 (by omega) hK
    · rw [ek]
      have o' := (o1.trans o).trans (Off.new (o := .lst [.bl va, .bl vb]) hp)
      have el' : updS S' p (.lst [.bl va, .bl vb]) p = some (.lst [.bl va, .bl vb]) := updS_same
      generalize updS S' p (.lst [.bl va, .bl vb]) = S3 at o' el'
      (repeat fail)
      cases va
      · (repeat fail)
        exact hq _ o'
      · (repeat fail)
        exact hq _ o'
  | ife c a b ihc iha ihb =>
    intro t k S Q E hok hk hq
    obtain ⟨k, rfl⟩ : ∃ j, k = j + 1 := ⟨k - 1, by omega⟩
    simp only [Pg.ht] at hk
    obtain ⟨vc, ec⟩ := ev_ok he c _ hok.1
    have ee : Pg.ev env (.ife c a b) = if vc then a.ev env else b.ev env := by simp [Pg.ev, ec]
    rw [ee] at hq
    simp only [Pg.d]
    (refine sem_of hd rfl ?_; unfold dLWorth; simp only [startD, List.map_cons, List.map_nil, List.length_cons, List.length_nil, List.replicate_succ, List.replicate_zero, List.cons_append, List.nil_append, Nat.reduceAdd, Nat.reduceSub])
    (repeat fail)
    refine ihc hok.1 (by omega) fun S1 o1 => ?_
    rw [ec]
    cases vc
    · (repeat fail)
      refine ihb hok.2.2 (by omega) fun S2 o2 => hq _ (o1.trans o2)
    · (repeat fail)
      refine iha hok.2.1 (by omega) fun S2 o2 => hq _ (o1.trans o2)
end Z

set_option Elab.async false
set_option linter.all false
set_option maxRecDepth 100000
set_option maxHeartbeats 4000000
namespace Z
open PySem PySem.Spec PyProof.Rows L2
section
variable {defs : Str → Option DefT} {gl : Str → Option D} {k : Nat} {S : Sto} {Q : D → Sto → Prop} {E : Exc → Sto → Prop}
theorem v_callK {C : Cw} {ex : EX} {σ : StD} {f : Str} {ts us : List T} {ks : List Str} (h : wpEs C ex ts σ S fun ds S1 => ds.length = ts.length ∧ wpEs C ex us σ S1 fun es S2 => es.length = us.length ∧ C.cal f (ds ++ es) S2 Q fun x S3 => ex x σ S3) : wpE C ex (.callK f ts ks us) σ S Q := by unfold wpE; exact h
local macro_rules | `(tactic| fail) => `(tactic| ((with_reducible refine And.intro ?_ ?_); (focus (exact Nat.le_of_ble_eq_true rfl))))
local macro_rules | `(tactic| fail) => `(tactic| with_reducible refine ⟨_, rfl, ?_⟩)
local macro_rules | `(tactic| fail) => `(tactic| ((with_reducible apply o_sliceT); (focus rfl)))
local macro_rules | `(tactic| fail) => `(tactic| ((with_reducible apply o_inTf); (focus rfl); (focus rfl); (focus (simp [inF, eqF, str_beq]; done))))
local macro_rules | `(tactic| fail) => `(tactic| ((with_reducible apply o_inTt); (focus rfl); (focus rfl); (focus (simp [inF, eqF, str_beq]; done))))
local macro_rules | `(tactic| fail) => `(tactic| ((with_reducible apply o_subC); (focus ((repeat (first | with_reducible exact lk_hit | ((with_reducible apply lk_miss); (focus (exact str_ne (by decide)))))); done))))
local macro_rules | `(tactic| fail) => `(tactic| ((with_reducible apply o_inC); (focus ((repeat (first | with_reducible exact lk_hit | ((with_reducible apply lk_miss); (focus (exact str_ne (by decide)))))); done))))
local macro_rules | `(tactic| fail) => `(tactic| ((with_reducible apply o_ninC); (focus ((repeat (first | with_reducible exact lk_hit | ((with_reducible apply lk_miss); (focus (exact str_ne (by decide)))))); done))))
local macro_rules | `(tactic| fail) => `(tactic| ((with_reducible apply o_isinF); (focus rfl); (focus (decide +kernel))))
local macro_rules | `(tactic| fail) => `(tactic| ((with_reducible apply o_isinT); (focus rfl); (focus (decide +kernel))))
local macro_rules | `(tactic| fail) => `(tactic| with_reducible refine i_enm ?_)
local macro_rules | `(tactic| fail) => `(tactic| ((with_reducible apply g_tup); (focus rfl); (focus rfl)))
local macro_rules | `(tactic| fail) => `(tactic| ((with_reducible apply v_dctN); (focus (decide +kernel))))
local macro_rules | `(tactic| fail) => `(tactic| ((with_reducible apply o_len); (focus (exact len_ref (by (first | assumption | exact updS_same | exact upd_at (by assumption) (by assumption)))))))
local macro_rules | `(tactic| fail) => `(tactic| ((with_reducible apply o_tuple); (focus (first | rfl | exact items_ref (by (first | assumption | exact updS_same | exact upd_at (by assumption) (by assumption)))))))
local macro_rules | `(tactic| fail) => `(tactic| ((with_reducible apply o_get2); (focus (first | assumption | exact updS_same | exact upd_at (by assumption) (by assumption))); (focus rfl); (focus ((repeat (first | with_reducible exact getD_hit | with_reducible exact getD_nil | ((with_reducible apply getD_miss); (focus (exact str_ne (by decide)))))); done))))
local macro_rules | `(tactic| fail) => `(tactic| ((with_reducible apply o_get1); (focus (first | assumption | exact updS_same | exact upd_at (by assumption) (by assumption))); (focus rfl); (focus ((repeat (first | with_reducible exact getD_hit | with_reducible exact getD_nil | ((with_reducible apply getD_miss); (focus (exact str_ne (by decide)))))); done))))
local macro_rules | `(tactic| fail) => `(tactic| ((with_reducible refine And.intro ?_ ?_); (focus (first | exact recvL (by (first | assumption | exact updS_same | exact upd_at (by assumption) (by assumption))) rfl | exact recvD (by (first | assumption | exact updS_same | exact upd_at (by assumption) (by assumption))) rfl))))
local macro_rules | `(tactic| fail) => `(tactic| ((with_reducible apply o_subD); (focus (first | assumption | exact updS_same | exact upd_at (by assumption) (by assumption))); (focus rfl); (focus ((repeat (first | with_reducible exact lookD_hit | ((with_reducible apply look_miss); (focus (exact str_ne (by decide)))))); done))))
local macro_rules | `(tactic| fail) => `(tactic| ((with_reducible apply c_ndF); (focus (((try simp only [List.length_cons, List.length_nil, List.length_append, List.length_map]); omega)))))
local macro_rules | `(tactic| fail) => `(tactic| ((with_reducible apply c_ndT); (focus (((try simp only [List.length_cons, List.length_nil, List.length_append, List.length_map]); omega)))))
local macro_rules | `(tactic| fail) => `(tactic| with_reducible refine o_intB ?_)
local macro_rules | `(tactic| fail) => `(tactic| ((with_reducible apply c_decF); (focus (((try simp only [List.length_cons, List.length_nil, List.length_append, List.length_map]); omega)))))
local macro_rules | `(tactic| fail) => `(tactic| ((with_reducible apply c_decT); (focus (((try simp only [List.length_cons, List.length_nil, List.length_append, List.length_map]); omega)))))
local macro_rules | `(tactic| fail) => `(tactic| with_reducible refine c_notf ?_)
local macro_rules | `(tactic| fail) => `(tactic| with_reducible refine c_nott ?_)
local macro_rules | `(tactic| fail) => `(tactic| with_reducible refine o_eqI ?_)
local macro_rules | `(tactic| fail) => `(tactic| ((with_reducible apply o_eqIf); (focus (((try simp only [List.length_cons, List.length_nil, List.length_append, List.length_map]); omega)))))
local macro_rules | `(tactic| fail) => `(tactic| ((with_reducible apply o_eqIt); (focus (((try simp only [List.length_cons, List.length_nil, List.length_append, List.length_map]); omega)))))
local macro_rules | `(tactic| fail) => `(tactic| with_reducible refine o_isB ?_)
local macro_rules | `(tactic| fail) => `(tactic| with_reducible refine o_isN ?_)
local macro_rules | `(tactic| fail) => `(tactic| with_reducible refine o_isR ?_)
local macro_rules | `(tactic| fail) => `(tactic| with_reducible refine o_eqB ?_)
local macro_rules | `(tactic| fail) => `(tactic| ((with_reducible apply o_neIf); (focus (((try simp only [List.length_cons, List.length_nil, List.length_append, List.length_map]); omega)))))
local macro_rules | `(tactic| fail) => `(tactic| ((with_reducible apply o_neIt); (focus (((try simp only [List.length_cons, List.length_nil, List.length_append, List.length_map]); omega)))))
local macro_rules | `(tactic| fail) => `(tactic| with_reducible refine o_neII ?_)
local macro_rules | `(tactic| fail) => `(tactic| with_reducible refine o_neBB ?_)
local macro_rules | `(tactic| fail) => `(tactic| ((with_reducible apply o_eqSf); (focus decide)))
local macro_rules | `(tactic| fail) => `(tactic| ((with_reducible apply o_atr); (focus rfl)))
local macro_rules | `(tactic| fail) => `(tactic| with_reducible refine o_isx ?_)
local macro_rules | `(tactic| fail) => `(tactic| with_reducible refine o_eqSt ?_)
local macro_rules | `(tactic| fail) => `(tactic| ((with_reducible apply o_len); focus (first | rfl | (simp only [lenD]; simp only [*]; done))))
local macro_rules | `(tactic| fail) => `(tactic| ((with_reducible apply o_setL); (focus (first | assumption | exact updS_same | exact upd_at (by assumption) (by assumption))); (focus rfl)))
local macro_rules | `(tactic| fail) => `(tactic| ((with_reducible refine And.intro ?_ ?_); (focus (first | exact selfOk (by (first | assumption | exact updS_same | exact upd_at (by assumption) (by assumption))) rfl | exact insOk (by (first | assumption | exact updS_same | exact upd_at (by assumption) (by assumption)))))))
local macro_rules | `(tactic| fail) => `(tactic| ((with_reducible apply o_setf); (focus (first | assumption | exact updS_same | exact upd_at (by assumption) (by assumption))); (focus (exact Nat.le_of_ble_eq_true rfl))))
local macro_rules | `(tactic| fail) => `(tactic| ((with_reducible apply o_fld); (focus (first | assumption | exact updS_same | exact upd_at (by assumption) (by assumption))); (focus rfl)))
local macro_rules | `(tactic| fail) => `(tactic| ((with_reducible apply o_subT); focus (rfl)))
local macro_rules | `(tactic| fail) => `(tactic| ((with_reducible apply o_subL); (focus (first | assumption | exact updS_same | exact upd_at (by assumption) (by assumption))); (focus rfl)))
local macro_rules | `(tactic| fail) => `(tactic| ((with_reducible apply o_pow); focus (unfold CPow; omega)))
local macro_rules | `(tactic| fail) => `(tactic| ((with_reducible apply o_mod); focus (omega)))
local macro_rules | `(tactic| fail) => `(tactic| ((with_reducible apply o_div); focus (unfold CDiv; omega)))
local macro_rules | `(tactic| fail) => `(tactic| ((with_reducible apply o_mul); focus (unfold CMul; omega)))
local macro_rules | `(tactic| fail) => `(tactic| ((with_reducible apply v_glob); focus (first | assumption | rfl)))
local macro_rules | `(tactic| fail) => `(tactic| ((with_reducible apply t_var); focus (rfl)))
local macro_rules | `(tactic| fail) => `(tactic| ((with_reducible apply v_var); focus (rfl)))
local macro_rules | `(tactic| fail) => `(tactic| with_reducible refine c_false ?_)
local macro_rules | `(tactic| fail) => `(tactic| with_reducible refine c_true ?_)
local macro_rules | `(tactic| fail) => `(tactic| with_reducible refine o_ge ?_)
local macro_rules | `(tactic| fail) => `(tactic| with_reducible refine o_gt ?_)
local macro_rules | `(tactic| fail) => `(tactic| with_reducible refine o_le ?_)
local macro_rules | `(tactic| fail) => `(tactic| with_reducible refine o_lt ?_)
local macro_rules | `(tactic| fail) => `(tactic| with_reducible refine o_sub ?_)
local macro_rules | `(tactic| fail) => `(tactic| with_reducible refine o_add ?_)
local macro_rules | `(tactic| fail) => `(tactic| with_reducible refine o_sub1 ?_)
local macro_rules | `(tactic| fail) => `(tactic| with_reducible refine o_sub0 ?_)
local macro_rules | `(tactic| fail) => `(tactic| with_reducible refine i_rng1 ?_)
local macro_rules | `(tactic| fail) => `(tactic| with_reducible refine i_seq ?_)
local macro_rules | `(tactic| fail) => `(tactic| with_reducible refine g_cons ?_)
local macro_rules | `(tactic| fail) => `(tactic| with_reducible refine g_nil ?_)
local macro_rules | `(tactic| fail) => `(tactic| with_reducible refine g_nm ?_)
local macro_rules | `(tactic| fail) => `(tactic| with_reducible refine ts_one ?_)
local macro_rules | `(tactic| fail) => `(tactic| with_reducible refine ts_nil ?_)
local macro_rules | `(tactic| fail) => `(tactic| with_reducible refine tr_int ?_)
local macro_rules | `(tactic| fail) => `(tactic| with_reducible refine tr_bl ?_)
local macro_rules | `(tactic| fail) => `(tactic| with_reducible refine tb_or ?_)
local macro_rules | `(tactic| fail) => `(tactic| with_reducible refine tb_and ?_)
local macro_rules | `(tactic| fail) => `(tactic| with_reducible refine tb_one ?_)
local macro_rules | `(tactic| fail) => `(tactic| with_reducible refine t_chain ?_)
local macro_rules | `(tactic| fail) => `(tactic| with_reducible refine t_sub ?_)
local macro_rules | `(tactic| fail) => `(tactic| with_reducible refine t_blt ?_)
local macro_rules | `(tactic| fail) => `(tactic| with_reducible refine t_call ?_)
local macro_rules | `(tactic| fail) => `(tactic| with_reducible refine t_cmp ?_)
local macro_rules | `(tactic| fail) => `(tactic| with_reducible refine t_nt ?_)
local macro_rules | `(tactic| fail) => `(tactic| with_reducible refine t_bop ?_)
local macro_rules | `(tactic| fail) => `(tactic| with_reducible refine vb_or ?_)
local macro_rules | `(tactic| fail) => `(tactic| with_reducible refine vb_and ?_)
local macro_rules | `(tactic| fail) => `(tactic| with_reducible refine vb_one ?_)
local macro_rules | `(tactic| fail) => `(tactic| with_reducible refine vo_some ?_)
local macro_rules | `(tactic| fail) => `(tactic| with_reducible refine vo_none ?_)
local macro_rules | `(tactic| fail) => `(tactic| with_reducible refine vs_cons ?_)
local macro_rules | `(tactic| fail) => `(tactic| with_reducible refine vs_nil ?_)
local macro_rules | `(tactic| fail) => `(tactic| with_reducible refine s_try ?_)
local macro_rules | `(tactic| fail) => `(tactic| with_reducible refine s_setf ?_)
local macro_rules | `(tactic| fail) => `(tactic| with_reducible refine v_eqo ?_)
local macro_rules | `(tactic| fail) => `(tactic| with_reducible refine t_isc ?_)
local macro_rules | `(tactic| fail) => `(tactic| with_reducible refine v_isc ?_)
local macro_rules | `(tactic| fail) => `(tactic| with_reducible refine t_meth ?_)
local macro_rules | `(tactic| fail) => `(tactic| with_reducible refine v_meth ?_)
local macro_rules | `(tactic| fail) => `(tactic| with_reducible refine v_new ?_)
local macro_rules | `(tactic| fail) => `(tactic| with_reducible refine v_fld ?_)
local macro_rules | `(tactic| fail) => `(tactic| with_reducible refine v_atr ?_)
local macro_rules | `(tactic| fail) => `(tactic| with_reducible refine v_isx ?_)
local macro_rules | `(tactic| fail) => `(tactic| with_reducible refine v_back ?_)
local macro_rules | `(tactic| fail) => `(tactic| with_reducible refine v_lc ?_)
local macro_rules | `(tactic| fail) => `(tactic| with_reducible refine v_mth ?_)
local macro_rules | `(tactic| fail) => `(tactic| with_reducible refine v_lzip ?_)
local macro_rules | `(tactic| fail) => `(tactic| with_reducible refine v_lrev ?_)
local macro_rules | `(tactic| fail) => `(tactic| with_reducible refine v_blt ?_)
local macro_rules | `(tactic| fail) => `(tactic| with_reducible refine v_call ?_)
local macro_rules | `(tactic| fail) => `(tactic| with_reducible refine v_slice ?_)
local macro_rules | `(tactic| fail) => `(tactic| with_reducible refine v_sub ?_)
local macro_rules | `(tactic| fail) => `(tactic| with_reducible refine v_lst ?_)
local macro_rules | `(tactic| fail) => `(tactic| with_reducible refine v_tup ?_)
local macro_rules | `(tactic| fail) => `(tactic| with_reducible refine v_ite ?_)
local macro_rules | `(tactic| fail) => `(tactic| with_reducible refine v_nt ?_)
local macro_rules | `(tactic| fail) => `(tactic| with_reducible refine v_bop ?_)
local macro_rules | `(tactic| fail) => `(tactic| with_reducible refine v_cmp ?_)
local macro_rules | `(tactic| fail) => `(tactic| with_reducible refine v_bin ?_)
local macro_rules | `(tactic| fail) => `(tactic| with_reducible refine v_bty ?_)
local macro_rules | `(tactic| fail) => `(tactic| with_reducible refine v_str ?_)
local macro_rules | `(tactic| fail) => `(tactic| with_reducible refine v_non ?_)
local macro_rules | `(tactic| fail) => `(tactic| with_reducible refine v_bl ?_)
local macro_rules | `(tactic| fail) => `(tactic| with_reducible refine v_int ?_)
local macro_rules | `(tactic| fail) => `(tactic| with_reducible refine s_cont ?_)
local macro_rules | `(tactic| fail) => `(tactic| with_reducible refine s_brk ?_)
local macro_rules | `(tactic| fail) => `(tactic| with_reducible refine s_nil ?_)
local macro_rules | `(tactic| fail) => `(tactic| with_reducible refine s_pass ?_)
local macro_rules | `(tactic| fail) => `(tactic| with_reducible refine s_retN ?_)
local macro_rules | `(tactic| fail) => `(tactic| with_reducible refine s_ret ?_)
local macro_rules | `(tactic| fail) => `(tactic| with_reducible refine s_ife ?_)
local macro_rules | `(tactic| fail) => `(tactic| with_reducible refine s_set ?_)
local macro_rules | `(tactic| fail) => `(tactic| with_reducible refine s_par ?_)
local macro_rules | `(tactic| fail) => `(tactic| with_reducible refine s_asg ?_)
local macro_rules | `(tactic| fail) => `(tactic| with_reducible refine s_ex ?_)

theorem spec_some_inputs (hd : defs "_law_some_inputs" = some dLSomeInputs) (hd1 : defs "_law_draw" = some dLDraw) {a : Addr} {ks : List Bool} (hks : ks.length ≤ 10) (hk : 2 ≤ k) (hF : Flow S a)
    (hq : ∀ (env : List D) S', EnvOk ks env → Flow S' a → Off [a] S S' → Q (.tup env) S') : sem defs gl k "_law_some_inputs" [.ref a, .tup (kD ks)] S Q E := by
  obtain ⟨k, rfl⟩ : ∃ j, k = j + 1 := ⟨k - 1, by omega⟩
  (refine sem_of hd rfl ?_; unfold dLSomeInputs; simp only [startD, List.map_cons, List.map_nil, List.length_cons, List.length_nil, List.replicate_succ, List.replicate_zero, List.cons_append, List.nil_append, Nat.reduceAdd, Nat.reduceSub])
  (repeat fail)
  intro fp hf
  have nfa := flow_ne hF hf
  (repeat fail)
  refine s_fr (i_seq ?_)
  (repeat fail)
  refine .inl ⟨_, rfl, ?_⟩
  refine for_ind (fun r σ S' => ∃ (k1 k2 : List Bool) (env : List D) (x3 x4 : Option D), ks = k1 ++ k2 ∧ r = kD k2 ∧ EnvOk k1 env ∧ Flow S' a ∧ S' fp = some (.lst env) ∧ Off [a, fp] S S' ∧ σ = [some (.ref a), some (.tup (kD ks)), some (.ref fp), x3, x4]) (fun _ _ _ _ => trivial) ?_ ?_ _ _ _ ⟨[], ks, [], _, _, rfl, rfl, ⟨rfl, fun i t h => by simp at h⟩, hF.new hf, updS_same, Off.new hf, rfl⟩
  · rintro σ S' ⟨k1, k2, env, x3, x4, h1, h2, h3, h4, h5, h6, rfl⟩
    cases k2 with
    | cons t k2 => cases h2
    | nil =>
      rw [List.append_nil] at h1
      subst h1
      (repeat fail)
      exact hq env S' h3 h4 (Off.drop (p := fp) (h6.mono (by simp)) hf)
  · rintro d r σ S' N ⟨k1, k2, env, x3, x4, h1, h2, h3, h4, h5, h6, rfl⟩ hN
    cases k2 with
    | nil => cases h2
    | cons t k2 =>
      simp only [kD, List.map_cons, List.cons.injEq] at h2
      obtain ⟨rfl, rfl⟩ := h2
      have hkl : k1.length < 10 := by rw [h1, List.length_append, List.length_cons] at hks; omega
      have hel := h3.1
      (repeat fail)
      refine spec_draw hd1 (by omega) h4 (by omega) fun r1 S1 b1 b2 F1 o1 => ?_
      (repeat fail)
      refine spec_draw hd1 (by omega) F1 (by omega) fun r2 S2 c1 c2 F2 o2 => ?_
      (repeat fail)
      intro p1 g1
      have np := flow_ne F2 g1
      (repeat fail)
      refine spec_draw hd1 (by omega) (F2.new g1) (by omega) fun r3 S3 d1 d2 F3 o3 => ?_
      have e3 := o3 p1 _ (by simpa using np) updS_same
      have O3 : Off [a, fp] S S3 := ((h6.trans (o1.mono (by simp))).trans (o2.mono (by simp))).trans ((Off.new g1).trans (o3.mono (by simp)))
      have f3 : S3 fp = some (.lst env) := o3 fp _ (by simpa using nfa) (upd_at g1 (o2 fp _ (by simpa using nfa) (o1 fp _ (by simpa using nfa) h5)))
      have hn : ∃ z : Int, atI [D.int (r1 - 3), D.int (r2 - 1000000)] r3 = some (.int z) := by
        have : r3 = 0 ∨ r3 = 1 := by omega
        rcases this with rfl | rfl
        · exact ⟨_, rfl⟩
        · exact ⟨_, rfl⟩
      obtain ⟨z, ez⟩ := hn
      refine o_subL e3 ez ?_
      cases t
      · rw [show kS false = Str.ofString "num" from rfl]
        (repeat fail)
        refine o_append f3 (by rw [sizeLine_eq]; omega) ?_
        (repeat fail)
        refine hN _ _ ⟨k1 ++ [false], k2, env ++ [.int z], _, _, by rw [h1]; simp, rfl, h3.snoc ⟨z, rfl⟩, F3.off (Off.upd (A := [fp]) (by simp)) (by simpa using Ne.symm nfa), updS_same, O3.trans (Off.upd (by simp)), rfl⟩
      · rw [show kS true = Str.ofString "truth" from rfl]
        (repeat fail)
        refine spec_draw hd1 (by omega) F3 (by omega) fun r4 S4 i1 i2 F4 o4 => ?_
        have f4 := o4 fp _ (by simpa using nfa) f3
        (repeat fail)
        refine o_append f4 (by rw [sizeLine_eq]; omega) ?_
        (repeat fail)
        refine hN _ _ ⟨k1 ++ [true], k2, env ++ [.bl (decide (r4 = 0))], _, _, by rw [h1]; simp, rfl, h3.snoc ⟨_, rfl⟩, F4.off (Off.upd (A := [fp]) (by simp)) (by simpa using Ne.symm nfa), updS_same, (O3.trans (o4.mono (by simp))).trans (Off.upd (by simp)), rfl⟩
theorem spec_inputs_of (hd : defs "inputs_of" = some dInputsOf) {n : Nat} (hk : 1 ≤ k) (hn : n ≤ 100) (hq : ∀ S', Off [] S S' → Q (.tup ((inps n).map Pg.d)) S') : sem defs gl k "inputs_of" [.int n] S Q E := by
  obtain ⟨k, rfl⟩ : ∃ j, k = j + 1 := ⟨k - 1, by omega⟩
  (refine sem_of hd rfl ?_; unfold dInputsOf; simp only [startD, List.map_cons, List.map_nil, List.length_cons, List.length_nil, List.replicate_succ, List.replicate_zero, List.cons_append, List.nil_append, Nat.reduceAdd, Nat.reduceSub])
  (repeat fail)
  refine ⟨by omega, by omega, ?_⟩
  rw [Int.toNat_natCast]
  refine lc_ind (fun r acc S' => ∃ dn td : List Nat, List.range n = dn ++ td ∧ r = td.map (fun i => D.int (i : Nat)) ∧ acc = dn.map (fun i => (Pg.inp i).d) ∧ S' = S) (fun _ _ _ _ => trivial) ?_ ?_ _ _ _ ⟨[], _, rfl, rfl, rfl, rfl⟩
  · rintro acc S1 ⟨dn, td, er, e1, rfl, rfl⟩ p hp
    have htd : td = [] := by cases td with | nil => rfl | cons _ _ => cases e1
    subst htd
    rw [List.append_nil] at er
    subst er
    (repeat fail)
    have : (List.range n).map (fun i => (Pg.inp i).d) = (inps n).map Pg.d := by unfold inps; rw [List.map_map]; rfl
    rw [this]
    exact hq _ (Off.new hp)
  · rintro d r acc S1 K ⟨dn, td, er, e1, rfl, rfl⟩ hK -
    cases td with
    | nil => cases e1
    | cons q td =>
      simp only [List.map_cons, List.cons.injEq] at e1
      obtain ⟨rfl, rfl⟩ := e1
      refine ⟨by rw [List.length_map, sizeLine_eq]; have := congrArg List.length er; simp at this; omega, ?_⟩
      (repeat fail)
      exact hK _ _ ⟨dn ++ [q], td, by rw [er]; simp, rfl, by simp [Pg.d], rfl⟩
theorem spec_met_by (hd : defs "met_by" = some dMetBy) (hd1 : defs "inputs_of" = some dInputsOf) (hd2 : defs "put" = some dPut) (F : KF0 defs gl) {ks : List Bool} {t : Bool} {wish p : Pg} (hk : 6 ≤ k) (hks : ks.length ≤ 10) (hw : wish.ok (ks ++ [t]) true) (hp : p.ok ks t) (hz : wish.size ≤ 1000)
    (hq : ∀ S', Off [] S S' → Q (wish.put (inps ks.length ++ [p])).d S') : sem defs gl k "met_by" [wish.d, p.d, .int (ks.length : Nat)] S Q E := by
  obtain ⟨k, rfl⟩ : ∃ j, k = j + 1 := ⟨k - 1, by omega⟩
  (refine sem_of hd rfl ?_; unfold dMetBy; simp only [startD, List.map_cons, List.map_nil, List.length_cons, List.length_nil, List.replicate_succ, List.replicate_zero, List.cons_append, List.nil_append, Nat.reduceAdd, Nat.reduceSub])
  (repeat fail)
  refine spec_inputs_of hd1 (by omega) (by omega) fun S1 o1 => ?_
  (repeat fail)
  refine o_addT (c := (inps ks.length ++ [p]).map Pg.d) (by simp) (by rw [sizeLine_eq]; simp [inps]; omega) ?_
  (repeat fail)
  have hs : SOk (ks ++ [t]) ks (inps ks.length ++ [p]) := by
    refine ⟨by simp [inps], fun i u e => ?_⟩
    by_cases hi : i < ks.length
    · rw [List.getElem?_append_left hi] at e
      exact ⟨.inp i, by rw [List.getElem?_append_left (by simpa [inps] using hi)]; exact inps_at hi, e⟩
    · rw [List.getElem?_append_right (by omega)] at e
      have h0 : i - ks.length = 0 := by
        by_cases z : i - ks.length = 0
        · exact z
        · rw [List.getElem?_eq_none (by simp; omega)] at e; cases e
      rw [h0] at e
      simp at e
      subst e
      exact ⟨p, by rw [List.getElem?_append_right (by simp [inps]; omega)]; simp [inps, h0], hp⟩
  exact spec_put hd2 F hs hw (by omega) (by omega) fun S2 o2 => hq S2 (o1.trans o2)
end
local macro_rules | `(tactic| fail) => `(tactic| ((with_reducible refine And.intro ?_ ?_); (focus (exact Nat.le_of_ble_eq_true rfl))))
local macro_rules | `(tactic| fail) => `(tactic| with_reducible refine ⟨_, rfl, ?_⟩)
local macro_rules | `(tactic| fail) => `(tactic| ((with_reducible apply o_sliceT); (focus rfl)))
local macro_rules | `(tactic| fail) => `(tactic| ((with_reducible apply o_inTf); (focus rfl); (focus rfl); (focus (simp [inF, eqF, str_beq]; done))))
local macro_rules | `(tactic| fail) => `(tactic| ((with_reducible apply o_inTt); (focus rfl); (focus rfl); (focus (simp [inF, eqF, str_beq]; done))))
local macro_rules | `(tactic| fail) => `(tactic| ((with_reducible apply o_subC); (focus ((repeat (first | with_reducible exact lk_hit | ((with_reducible apply lk_miss); (focus (exact str_ne (by decide)))))); done))))
local macro_rules | `(tactic| fail) => `(tactic| ((with_reducible apply o_inC); (focus ((repeat (first | with_reducible exact lk_hit | ((with_reducible apply lk_miss); (focus (exact str_ne (by decide)))))); done))))
local macro_rules | `(tactic| fail) => `(tactic| ((with_reducible apply o_ninC); (focus ((repeat (first | with_reducible exact lk_hit | ((with_reducible apply lk_miss); (focus (exact str_ne (by decide)))))); done))))
local macro_rules | `(tactic| fail) => `(tactic| ((with_reducible apply o_isinF); (focus rfl); (focus (decide +kernel))))
local macro_rules | `(tactic| fail) => `(tactic| ((with_reducible apply o_isinT); (focus rfl); (focus (decide +kernel))))
local macro_rules | `(tactic| fail) => `(tactic| with_reducible refine i_enm ?_)
local macro_rules | `(tactic| fail) => `(tactic| ((with_reducible apply g_tup); (focus rfl); (focus rfl)))
local macro_rules | `(tactic| fail) => `(tactic| ((with_reducible apply v_dctN); (focus (decide +kernel))))
local macro_rules | `(tactic| fail) => `(tactic| ((with_reducible apply o_len); (focus (exact len_ref (by (first | assumption | exact updS_same | exact upd_at (by assumption) (by assumption)))))))
local macro_rules | `(tactic| fail) => `(tactic| ((with_reducible apply o_tuple); (focus (first | rfl | exact items_ref (by (first | assumption | exact updS_same | exact upd_at (by assumption) (by assumption)))))))
local macro_rules | `(tactic| fail) => `(tactic| ((with_reducible apply o_get2); (focus (first | assumption | exact updS_same | exact upd_at (by assumption) (by assumption))); (focus rfl); (focus ((repeat (first | with_reducible exact getD_hit | with_reducible exact getD_nil | ((with_reducible apply getD_miss); (focus (exact str_ne (by decide)))))); done))))
local macro_rules | `(tactic| fail) => `(tactic| ((with_reducible apply o_get1); (focus (first | assumption | exact updS_same | exact upd_at (by assumption) (by assumption))); (focus rfl); (focus ((repeat (first | with_reducible exact getD_hit | with_reducible exact getD_nil | ((with_reducible apply getD_miss); (focus (exact str_ne (by decide)))))); done))))
local macro_rules | `(tactic| fail) => `(tactic| ((with_reducible refine And.intro ?_ ?_); (focus (first | exact recvL (by (first | assumption | exact updS_same | exact upd_at (by assumption) (by assumption))) rfl | exact recvD (by (first | assumption | exact updS_same | exact upd_at (by assumption) (by assumption))) rfl))))
local macro_rules | `(tactic| fail) => `(tactic| ((with_reducible apply o_subD); (focus (first | assumption | exact updS_same | exact upd_at (by assumption) (by assumption))); (focus rfl); (focus ((repeat (first | with_reducible exact lookD_hit | ((with_reducible apply look_miss); (focus (exact str_ne (by decide)))))); done))))
local macro_rules | `(tactic| fail) => `(tactic| ((with_reducible apply c_ndF); (focus (((try simp only [List.length_cons, List.length_nil, List.length_append, List.length_map]); omega)))))
local macro_rules | `(tactic| fail) => `(tactic| ((with_reducible apply c_ndT); (focus (((try simp only [List.length_cons, List.length_nil, List.length_append, List.length_map]); omega)))))
local macro_rules | `(tactic| fail) => `(tactic| with_reducible refine o_intB ?_)
local macro_rules | `(tactic| fail) => `(tactic| ((with_reducible apply c_decF); (focus (((try simp only [List.length_cons, List.length_nil, List.length_append, List.length_map]); omega)))))
local macro_rules | `(tactic| fail) => `(tactic| ((with_reducible apply c_decT); (focus (((try simp only [List.length_cons, List.length_nil, List.length_append, List.length_map]); omega)))))
local macro_rules | `(tactic| fail) => `(tactic| with_reducible refine c_notf ?_)
local macro_rules | `(tactic| fail) => `(tactic| with_reducible refine c_nott ?_)
local macro_rules | `(tactic| fail) => `(tactic| with_reducible refine o_eqI ?_)
local macro_rules | `(tactic| fail) => `(tactic| ((with_reducible apply o_eqIf); (focus (((try simp only [List.length_cons, List.length_nil, List.length_append, List.length_map]); omega)))))
local macro_rules | `(tactic| fail) => `(tactic| ((with_reducible apply o_eqIt); (focus (((try simp only [List.length_cons, List.length_nil, List.length_append, List.length_map]); omega)))))
local macro_rules | `(tactic| fail) => `(tactic| with_reducible refine o_isB ?_)
local macro_rules | `(tactic| fail) => `(tactic| with_reducible refine o_isN ?_)
local macro_rules | `(tactic| fail) => `(tactic| with_reducible refine o_isR ?_)
local macro_rules | `(tactic| fail) => `(tactic| with_reducible refine o_eqB ?_)
local macro_rules | `(tactic| fail) => `(tactic| ((with_reducible apply o_neIf); (focus (((try simp only [List.length_cons, List.length_nil, List.length_append, List.length_map]); omega)))))
local macro_rules | `(tactic| fail) => `(tactic| ((with_reducible apply o_neIt); (focus (((try simp only [List.length_cons, List.length_nil, List.length_append, List.length_map]); omega)))))
local macro_rules | `(tactic| fail) => `(tactic| with_reducible refine o_neII ?_)
local macro_rules | `(tactic| fail) => `(tactic| with_reducible refine o_neBB ?_)
local macro_rules | `(tactic| fail) => `(tactic| ((with_reducible apply o_eqSf); (focus decide)))
local macro_rules | `(tactic| fail) => `(tactic| ((with_reducible apply o_atr); (focus rfl)))
local macro_rules | `(tactic| fail) => `(tactic| with_reducible refine o_isx ?_)
local macro_rules | `(tactic| fail) => `(tactic| with_reducible refine o_eqSt ?_)
local macro_rules | `(tactic| fail) => `(tactic| ((with_reducible apply o_len); focus (first | rfl | (simp only [lenD]; simp only [*]; done))))
local macro_rules | `(tactic| fail) => `(tactic| ((with_reducible apply o_setL); (focus (first | assumption | exact updS_same | exact upd_at (by assumption) (by assumption))); (focus rfl)))
local macro_rules | `(tactic| fail) => `(tactic| ((with_reducible refine And.intro ?_ ?_); (focus (first | exact selfOk (by (first | assumption | exact updS_same | exact upd_at (by assumption) (by assumption))) rfl | exact insOk (by (first | assumption | exact updS_same | exact upd_at (by assumption) (by assumption)))))))
local macro_rules | `(tactic| fail) => `(tactic| ((with_reducible apply o_setf); (focus (first | assumption | exact updS_same | exact upd_at (by assumption) (by assumption))); (focus (exact Nat.le_of_ble_eq_true rfl))))
local macro_rules | `(tactic| fail) => `(tactic| ((with_reducible apply o_fld); (focus (first | assumption | exact updS_same | exact upd_at (by assumption) (by assumption))); (focus rfl)))
local macro_rules | `(tactic| fail) => `(tactic| ((with_reducible apply o_subT); focus (rfl)))
local macro_rules | `(tactic| fail) => `(tactic| ((with_reducible apply o_subL); (focus (first | assumption | exact updS_same | exact upd_at (by assumption) (by assumption))); (focus rfl)))
local macro_rules | `(tactic| fail) => `(tactic| ((with_reducible apply o_pow); focus (unfold CPow; omega)))
local macro_rules | `(tactic| fail) => `(tactic| ((with_reducible apply o_mod); focus (omega)))
local macro_rules | `(tactic| fail) => `(tactic| ((with_reducible apply o_div); focus (unfold CDiv; omega)))
local macro_rules | `(tactic| fail) => `(tactic| ((with_reducible apply o_mul); focus (unfold CMul; omega)))
local macro_rules | `(tactic| fail) => `(tactic| ((with_reducible apply v_glob); focus (first | assumption | rfl)))
local macro_rules | `(tactic| fail) => `(tactic| ((with_reducible apply t_var); focus (rfl)))
local macro_rules | `(tactic| fail) => `(tactic| ((with_reducible apply v_var); focus (rfl)))
local macro_rules | `(tactic| fail) => `(tactic| with_reducible refine c_false ?_)
local macro_rules | `(tactic| fail) => `(tactic| with_reducible refine c_true ?_)
local macro_rules | `(tactic| fail) => `(tactic| with_reducible refine o_ge ?_)
local macro_rules | `(tactic| fail) => `(tactic| with_reducible refine o_gt ?_)
local macro_rules | `(tactic| fail) => `(tactic| with_reducible refine o_le ?_)
local macro_rules | `(tactic| fail) => `(tactic| with_reducible refine o_lt ?_)
local macro_rules | `(tactic| fail) => `(tactic| with_reducible refine o_sub ?_)
local macro_rules | `(tactic| fail) => `(tactic| with_reducible refine o_add ?_)
local macro_rules | `(tactic| fail) => `(tactic| with_reducible refine o_sub1 ?_)
local macro_rules | `(tactic| fail) => `(tactic| with_reducible refine o_sub0 ?_)
local macro_rules | `(tactic| fail) => `(tactic| with_reducible refine i_rng1 ?_)
local macro_rules | `(tactic| fail) => `(tactic| with_reducible refine i_seq ?_)
local macro_rules | `(tactic| fail) => `(tactic| with_reducible refine g_cons ?_)
local macro_rules | `(tactic| fail) => `(tactic| with_reducible refine g_nil ?_)
local macro_rules | `(tactic| fail) => `(tactic| with_reducible refine g_nm ?_)
local macro_rules | `(tactic| fail) => `(tactic| with_reducible refine ts_one ?_)
local macro_rules | `(tactic| fail) => `(tactic| with_reducible refine ts_nil ?_)
local macro_rules | `(tactic| fail) => `(tactic| with_reducible refine tr_int ?_)
local macro_rules | `(tactic| fail) => `(tactic| with_reducible refine tr_bl ?_)
local macro_rules | `(tactic| fail) => `(tactic| with_reducible refine tb_or ?_)
local macro_rules | `(tactic| fail) => `(tactic| with_reducible refine tb_and ?_)
local macro_rules | `(tactic| fail) => `(tactic| with_reducible refine tb_one ?_)
local macro_rules | `(tactic| fail) => `(tactic| with_reducible refine t_chain ?_)
local macro_rules | `(tactic| fail) => `(tactic| with_reducible refine t_sub ?_)
local macro_rules | `(tactic| fail) => `(tactic| with_reducible refine t_blt ?_)
local macro_rules | `(tactic| fail) => `(tactic| with_reducible refine t_call ?_)
local macro_rules | `(tactic| fail) => `(tactic| with_reducible refine t_cmp ?_)
local macro_rules | `(tactic| fail) => `(tactic| with_reducible refine t_nt ?_)
local macro_rules | `(tactic| fail) => `(tactic| with_reducible refine t_bop ?_)
local macro_rules | `(tactic| fail) => `(tactic| with_reducible refine vb_or ?_)
local macro_rules | `(tactic| fail) => `(tactic| with_reducible refine vb_and ?_)
local macro_rules | `(tactic| fail) => `(tactic| with_reducible refine vb_one ?_)
local macro_rules | `(tactic| fail) => `(tactic| with_reducible refine vo_some ?_)
local macro_rules | `(tactic| fail) => `(tactic| with_reducible refine vo_none ?_)
local macro_rules | `(tactic| fail) => `(tactic| with_reducible refine vs_cons ?_)
local macro_rules | `(tactic| fail) => `(tactic| with_reducible refine vs_nil ?_)
local macro_rules | `(tactic| fail) => `(tactic| with_reducible refine s_try ?_)
local macro_rules | `(tactic| fail) => `(tactic| with_reducible refine s_setf ?_)
local macro_rules | `(tactic| fail) => `(tactic| with_reducible refine v_eqo ?_)
local macro_rules | `(tactic| fail) => `(tactic| with_reducible refine t_isc ?_)
local macro_rules | `(tactic| fail) => `(tactic| with_reducible refine v_isc ?_)
local macro_rules | `(tactic| fail) => `(tactic| with_reducible refine t_meth ?_)
local macro_rules | `(tactic| fail) => `(tactic| with_reducible refine v_meth ?_)
local macro_rules | `(tactic| fail) => `(tactic| with_reducible refine v_new ?_)
local macro_rules | `(tactic| fail) => `(tactic| with_reducible refine v_fld ?_)
local macro_rules | `(tactic| fail) => `(tactic| with_reducible refine v_atr ?_)
local macro_rules | `(tactic| fail) => `(tactic| with_reducible refine v_isx ?_)
local macro_rules | `(tactic| fail) => `(tactic| with_reducible refine v_back ?_)
local macro_rules | `(tactic| fail) => `(tactic| with_reducible refine v_lc ?_)
local macro_rules | `(tactic| fail) => `(tactic| with_reducible refine v_mth ?_)
local macro_rules | `(tactic| fail) => `(tactic| with_reducible refine v_lzip ?_)
local macro_rules | `(tactic| fail) => `(tactic| with_reducible refine v_lrev ?_)
local macro_rules | `(tactic| fail) => `(tactic| with_reducible refine v_blt ?_)
local macro_rules | `(tactic| fail) => `(tactic| with_reducible refine v_call ?_)
local macro_rules | `(tactic| fail) => `(tactic| with_reducible refine v_slice ?_)
local macro_rules | `(tactic| fail) => `(tactic| with_reducible refine v_sub ?_)
local macro_rules | `(tactic| fail) => `(tactic| with_reducible refine v_lst ?_)
local macro_rules | `(tactic| fail) => `(tactic| with_reducible refine v_tup ?_)
local macro_rules | `(tactic| fail) => `(tactic| with_reducible refine v_ite ?_)
local macro_rules | `(tactic| fail) => `(tactic| with_reducible refine v_nt ?_)
local macro_rules | `(tactic| fail) => `(tactic| with_reducible refine v_bop ?_)
local macro_rules | `(tactic| fail) => `(tactic| with_reducible refine v_cmp ?_)
local macro_rules | `(tactic| fail) => `(tactic| with_reducible refine v_bin ?_)
local macro_rules | `(tactic| fail) => `(tactic| with_reducible refine v_bty ?_)
local macro_rules | `(tactic| fail) => `(tactic| with_reducible refine v_str ?_)
local macro_rules | `(tactic| fail) => `(tactic| with_reducible refine v_non ?_)
local macro_rules | `(tactic| fail) => `(tactic| with_reducible refine v_bl ?_)
local macro_rules | `(tactic| fail) => `(tactic| with_reducible refine v_int ?_)
local macro_rules | `(tactic| fail) => `(tactic| with_reducible refine s_cont ?_)
local macro_rules | `(tactic| fail) => `(tactic| with_reducible refine s_brk ?_)
local macro_rules | `(tactic| fail) => `(tactic| with_reducible refine s_nil ?_)
local macro_rules | `(tactic| fail) => `(tactic| with_reducible refine s_pass ?_)
local macro_rules | `(tactic| fail) => `(tactic| with_reducible refine s_retN ?_)
local macro_rules | `(tactic| fail) => `(tactic| with_reducible refine s_ret ?_)
local macro_rules | `(tactic| fail) => `(tactic| with_reducible refine s_ife ?_)
local macro_rules | `(tactic| fail) => `(tactic| with_reducible refine s_set ?_)
local macro_rules | `(tactic| fail) => `(tactic| with_reducible refine s_par ?_)
local macro_rules | `(tactic| fail) => `(tactic| with_reducible refine s_asg ?_)
local macro_rules | `(tactic| fail) => `(tactic| with_reducible refine s_ex ?_)

theorem spec_lputP {defs : Str → Option DefT} {gl : Str → Option D} (hd : defs "_law_put" = some dLPut) (hd1 : defs "_law_inner" = some dLInner) {ks ks' : List Bool} {ss : List Pg} (hs : SOk ks ks' ss) {sp : Addr} : ∀ (n : Nat) (p : Pg) {t : Bool} {k : Nat} {S : Sto} {Q : D → Sto → Prop} {E : Exc → Sto → Prop}, p.ht ≤ n → p.ok ks t → n + 2 ≤ k → S sp = some (.lst (ss.map Pg.d)) → (∀ S', Off [] S S' → Q (p.put ss).d S') → sem defs gl k "_law_put" [p.d, .ref sp] S Q E := by
  intro n
  induction n with
  | zero => intro p t k S Q E h; cases p <;> simp [Pg.ht] at h
  | succ n ih =>
    intro p t k S Q E hh hok hk hS hq
    obtain ⟨k, rfl⟩ : ∃ j, k = j + 1 := ⟨k - 1, by omega⟩
    by_cases hin : ∃ i, p = .inp i
    · obtain ⟨i, rfl⟩ := hin
      obtain ⟨s, e1, e2⟩ := hs.2 i t hok
      simp only [Pg.d]
      (refine sem_of hd rfl ?_; unfold dLPut; simp only [startD, List.map_cons, List.map_nil, List.length_cons, List.length_nil, List.replicate_succ, List.replicate_zero, List.cons_append, List.nil_append, Nat.reduceAdd, Nat.reduceSub])
      (repeat fail)
      refine o_subL hS (atI_nat (v := s.d) (by rw [List.getElem?_map, e1]; rfl)) ?_
      rw [← put_inp e1]
      exact hq _ (Off.refl _ _)
    · have hin' : p.tag ≠ "in" := by
        intro h
        cases p <;> simp [Pg.tag] at h
        exact hin ⟨_, rfl⟩
      have hkl : p.kids.length ≤ 3 := by cases p <;> simp [Pg.kids]
      (refine sem_of hd rfl ?_; unfold dLPut; simp only [startD, List.map_cons, List.map_nil, List.length_cons, List.length_nil, List.replicate_succ, List.replicate_zero, List.cons_append, List.nil_append, Nat.reduceAdd, Nat.reduceSub])
      (repeat fail)
      refine o_tag ?_
      (repeat fail)
      refine o_eqSf hin' ?_
      (repeat fail)
      refine spec_inner hd1 (by omega) fun lp S1 el o1 => (.inr (.inr ⟨_, _, rfl, el, ?_⟩))
      refine kidsL el hkl (fv := fun c => (c.put ss).d) (fun c hc S' K oo hK => ?_) fun p' S' hp' o' => ?_
      · obtain ⟨u, hu⟩ := ok_kid hok hc
        simp only [wipeD, List.set_cons_zero, List.set_cons_succ]
        (repeat fail)
        exact ih c (by have := kids_ht hc; omega) hu (by omega) ((o1.trans oo) sp _ (by simp) hS) hK
      · have x' : updS S' p' (.lst (p.kids.map fun c => (c.put ss).d)) p' = some (.lst (p.kids.map fun c => (c.put ss).d)) := updS_same
        have oo := (o1.trans o').trans (Off.new (o := .lst (p.kids.map fun c => (c.put ss).d)) hp')
        generalize updS S' p' (.lst (p.kids.map fun c => (c.put ss).d)) = S3 at x' oo
        (repeat fail)
        refine o_len pg_lenD ?_
        (repeat fail)
        refine o_cutH (by simp only [List.length_map]; omega) ?_
        (repeat fail)
        refine o_addT rfl (by simp only [List.length_map]; have := hd_len p; rw [sizeLine_eq]; omega) ?_
        rw [← put_d hin]
        exact hq _ oo
theorem ev_put {ks ks' : List Bool} {ss : List Pg} {env : List D} (hs : SOk ks ks' ss) : ∀ (p : Pg) (t : Bool), p.ok ks t → (p.put ss).ev env = p.ev (ss.map (Pg.ev env)) := fun p => by
  induction p with
  | inp i =>
    intro t h
    obtain ⟨s, e1, e2⟩ := hs.2 i t h
    rw [put_inp e1]
    simp [Pg.ev, e1]
  | num n => intro t h; rfl
  | yes => intro t h; rfl
  | no => intro t h; rfl
  | plus n a ih => intro t h; simp only [Pg.put, Pg.ev, ih _ h.2]
  | not a ih => intro t h; simp only [Pg.put, Pg.ev, ih _ h.2]
  | ife c a b ic ia ib => intro t h; simp only [Pg.put, Pg.ev, ic _ h.1, ia _ h.2.1, ib _ h.2.2]
  | _ a b ia ib => intro t h; simp only [Pg.put, Pg.ev, ia _ h.2.1, ib _ h.2.2]
end Z

set_option Elab.async false
set_option linter.all false
set_option maxRecDepth 100000
set_option maxHeartbeats 4000000
namespace Z
open PySem PySem.Spec PyProof.Rows L2



def dLaw : DefT := ⟨1, 11, [
    .asg (.nm 1) (.lst []),
    .fr (.nm 2) (.rng1 (.blt .max [(.int 1), (.blt .min [(.int 6), (.blt .len [(.var 0)])])])) [.asg (.nm 3) (.call "_law_flow" [(.var 0), (.var 2)]), .asg (.nm 4) (.call "_law_kinds" [(.var 3), (.int 3)]), .asg (.nm 5) (.sub (.lst [(.str "num"), (.str "num"), (.str "truth")]) (.call "_law_draw" [(.var 3), (.int 3)])), .asg (.nm 6) (.call "_law_plan" [(.var 3), (.bin .Add (.var 4) (.tup [(.var 5)])), (.str "truth"), (.bin .Add (.int 1) (.call "_law_draw" [(.var 3), (.int 14)]))]), .asg (.nm 7) (.call "_law_plan" [(.var 3), (.var 4), (.var 5), (.bin .Add (.int 1) (.call "_law_draw" [(.var 3), (.int 8)]))]), .ex (.mth .append (.var 1) [(.tup [(.var 4), (.var 6), (.var 7), (.call "_law_some_inputs" [(.var 3), (.var 4)])])])],
    .fr (.tup [(.nm 4), (.nm 6), (.nm 7), (.nm 8)]) (.seq (.bin .Add (.var 1) (.slice (.var 1) none (some (.int 2))))) [.asg (.nm 9) (.call "_law_put" [(.var 6), (.bin .Add (.lc (.nm 2) (.rng1 (.blt .len [(.var 4)])) [] [("_law_k", 2)] (.tup [(.str "in"), (.var 2)])) (.lst [(.var 7)]))]), .asg (.nm 10) (.callK "met_by" [(.var 6), (.var 7)] ["many"] [(.blt .len [(.var 4)])]), .ife (.cmp .NotEq (.blt .repr [(.var 10)]) (.blt .repr [(.var 9)])) [.ret (.bl false)] [], .ife (.cmp .NotEq (.blt .repr [(.call "value" [(.var 10), (.var 8)])]) (.blt .repr [(.call "_law_worth" [(.var 6), (.bin .Add (.var 8) (.tup [(.call "_law_worth" [(.var 7), (.var 8)])]))])])) [.ret (.bl false)] []],
    .ret (.bl true)]⟩
def table : List (Str × DefT) := [("is_whole", dIsWhole), ("has_form", dHasForm), ("parts_of", dPartsOf), ("knots", dKnots), ("put", dPut), ("made_of", dMadeOf), ("value", dValue), ("inputs_of", dInputsOf), ("met_by", dMetBy), ("_law_cell", dLCell), ("_law_flow", dLFlow), ("_law_draw", dLDraw), ("_law_kinds", dLKindsB), ("_law_little", dLLittle), ("_law_leaf", dLLeafB), ("_law_plan", dLPlan), ("_law_inner", dLInner), ("_law_worth", dLWorth), ("_law_put", dLPut), ("_law_some_inputs", dLSomeInputs), ("law", dLaw)]
def defs (f : Str) : Option DefT := table.lookup f
theorem df_dIsWhole : defs "is_whole" = some dIsWhole := by rfl
theorem df_dHasForm : defs "has_form" = some dHasForm := by rfl
theorem df_dPartsOf : defs "parts_of" = some dPartsOf := by rfl
theorem df_dKnots : defs "knots" = some dKnots := by rfl
theorem df_dPut : defs "put" = some dPut := by rfl
theorem df_dMadeOf : defs "made_of" = some dMadeOf := by rfl
theorem df_dValue : defs "value" = some dValue := by rfl
theorem df_dInputsOf : defs "inputs_of" = some dInputsOf := by rfl
theorem df_dMetBy : defs "met_by" = some dMetBy := by rfl
theorem df_dLCell : defs "_law_cell" = some dLCell := by rfl
theorem df_dLFlow : defs "_law_flow" = some dLFlow := by rfl
theorem df_dLDraw : defs "_law_draw" = some dLDraw := by rfl
theorem df_dLKindsB : defs "_law_kinds" = some dLKindsB := by rfl
theorem df_dLLittle : defs "_law_little" = some dLLittle := by rfl
theorem df_dLLeafB : defs "_law_leaf" = some dLLeafB := by rfl
theorem df_dLPlan : defs "_law_plan" = some dLPlan := by rfl
theorem df_dLInner : defs "_law_inner" = some dLInner := by rfl
theorem df_dLWorth : defs "_law_worth" = some dLWorth := by rfl
theorem df_dLPut : defs "_law_put" = some dLPut := by rfl
theorem df_dLSomeInputs : defs "_law_some_inputs" = some dLSomeInputs := by rfl
theorem df_dLaw : defs "law" = some dLaw := by rfl
end Z

set_option Elab.async false
set_option linter.all false
set_option maxRecDepth 100000
set_option maxHeartbeats 4000000
namespace Z
open PySem PySem.Spec PyProof.Rows L2
def glT : List (Str × D) := [("PARTS", .cd [("in", 0), ("num", 0), ("yes", 0), ("no", 0), ("plus", 1), ("least", 2), ("most", 2), ("atmost", 2), ("not", 1), ("both", 2), ("either", 2), ("if", 3)]), ("NUMBERED", .tup [.str "in", .str "num", .str "plus"])]
def gl (x : Str) : Option D := glT.lookup x
theorem gl_PARTS : gl "PARTS" = some (.cd [("in", 0), ("num", 0), ("yes", 0), ("no", 0), ("plus", 1), ("least", 2), ("most", 2), ("atmost", 2), ("not", 1), ("both", 2), ("either", 2), ("if", 3)]) := by rfl
theorem gl_NUMBERED : gl "NUMBERED" = some (.tup [.str "in", .str "num", .str "plus"]) := by rfl
section
variable {k : Nat} {S : Sto} {Q : D → Sto → Prop} {E : Exc → Sto → Prop}
theorem kf0 : KF0 defs gl := ⟨df_dKnots, df_dHasForm, df_dIsWhole, df_dPartsOf, gl_PARTS, gl_NUMBERED⟩
theorem o_minP {i j : Int} (h : ∀ c, (c = i ∨ c = j) → c ≤ i → c ≤ j → Q (.int c) S) : wBlt .min [.int i, .int j] S Q := by
  show Q (.int (if j < i then j else i)) S
  split
  · exact h _ (.inr rfl) (by omega) (by omega)
  · exact h _ (.inl rfl) (by omega) (by omega)
theorem o_sliceLP {a : Addr} {xs : List D} {lo hi : Option Int} (e : S a = some (.lst xs)) (h : ∀ p, S p = none → Q (.ref p) (updS S p (.lst (cutD xs lo hi)))) : wSlice (.ref a) lo hi S Q := by unfold wSlice; simp only [e]; exact h
theorem o_addLP {a b : Addr} {xs ys : List D} (e : S a = some (.lst xs)) (e2 : S b = some (.lst ys)) (l : xs.length + ys.length ≤ sizeLine) (h : ∀ p, S p = none → Q (.ref p) (updS S p (.lst (xs ++ ys)))) : wBin .Add (.ref a) (.ref b) S Q := by unfold wBin; simp only [e, e2]; exact ⟨l, h⟩
theorem cut_memP {xs : List D} {lo hi : Option Int} : ∀ d ∈ cutD xs lo hi, d ∈ xs := fun d hd => List.mem_of_mem_drop (List.mem_of_mem_take hd)
theorem cut_lenP {xs : List D} {lo hi : Option Int} : (cutD xs lo hi).length ≤ xs.length := by
  unfold cutD
  rw [List.length_take, List.length_drop]
  omega
theorem o_reprB {b : Bool} (h : Q (.str (PyData.bool b).shown) S) : wBlt .repr [.bl b] S Q := by
  unfold wBlt
  simp only [toPS, toP]
  exact ⟨rfl, rfl, by simp [PyData.depth], .inl rfl, h⟩
theorem shown_b {b : Bool} : PyData.strOk (PyData.bool b).shown = true := by cases b <;> exact strOk_of _
theorem ht_sizeP (p : Pg) : p.ht ≤ p.size := by
  induction p <;> simp only [Pg.ht, Pg.size] <;> omega
theorem put_htP {H : Nat} {ss : List Pg} (h1 : 1 ≤ H) (hs : ∀ s ∈ ss, s.ht ≤ H) (p : Pg) : (p.put ss).ht ≤ p.ht + H := by
  induction p with
  | inp i =>
    simp only [Pg.put, List.getD_eq_getElem?_getD]
    cases e : ss[i]? with
    | none => simp only [Option.getD_none, Pg.ht]; omega
    | some s => have := hs s (List.mem_of_getElem? e); simp only [Option.getD_some, Pg.ht]; omega
  | _ => simp only [Pg.put, Pg.ht] at *; omega
theorem put_szP {M : Nat} {ss : List Pg} (h1 : 1 ≤ M) (hs : ∀ s ∈ ss, s.size ≤ M) (p : Pg) : (p.put ss).size ≤ p.size * M := by
  induction p with
  | inp i =>
    simp only [Pg.put, List.getD_eq_getElem?_getD]
    cases e : ss[i]? with
    | none => simp only [Option.getD_none, Pg.size]; omega
    | some s => have := hs s (List.mem_of_getElem? e); simp only [Option.getD_some, Pg.size]; omega
  | _ => simp only [Pg.put, Pg.size, Nat.add_mul, Nat.one_mul] at *; omega
theorem sok_in {ks : List Bool} {t : Bool} {p : Pg} (hp : p.ok ks t) : SOk (ks ++ [t]) ks (inps ks.length ++ [p]) := by
  refine ⟨by simp [inps], fun i u e => ?_⟩
  by_cases hi : i < ks.length
  · rw [List.getElem?_append_left hi] at e
    exact ⟨.inp i, by rw [List.getElem?_append_left (by simpa [inps] using hi)]; exact inps_at hi, e⟩
  · rw [List.getElem?_append_right (by omega)] at e
    have h0 : i - ks.length = 0 := by
      by_cases z : i - ks.length = 0
      · exact z
      · rw [List.getElem?_eq_none (by simp; omega)] at e; cases e
    rw [h0] at e
    simp at e
    subst e
    exact ⟨p, by rw [List.getElem?_append_right (by simp [inps]; omega)]; simp [inps, h0], hp⟩
theorem in_ev {env : List D} {p : Pg} {n : Nat} (h : env.length = n) : (inps n ++ [p]).map (Pg.ev env) = env ++ [p.ev env] := by
  rw [List.map_append]
  congr 1
  subst h
  refine List.ext_getElem? fun i => ?_
  by_cases hi : i < env.length
  · rw [List.getElem?_map, inps_at hi]
    simp [Pg.ev, hi]
  · rw [List.getElem?_eq_none (by simp [inps]; omega), List.getElem?_eq_none (by omega)]
theorem in_all {P : Pg → Prop} {n : Nat} {p : Pg} (h1 : ∀ i, i < n → P (.inp i)) (h2 : P p) : ∀ s ∈ inps n ++ [p], P s := fun s hs => by
  rcases List.mem_append.mp hs with hs | hs
  · obtain ⟨i, hi, rfl⟩ := List.mem_map.mp hs
    exact h1 i (List.mem_range.mp hi)
  · obtain rfl := List.mem_singleton.mp hs
    exact h2
theorem at3k {i : Int} (h : 0 ≤ i ∧ i < 3) : ∃ t : Bool, atI [D.str "num", D.str "num", D.str "truth"] i = some (.str (kS t)) := by
  have : i = 0 ∨ i = 1 ∨ i = 2 := by omega
  rcases this with rfl | rfl | rfl
  · exact ⟨false, rfl⟩
  · exact ⟨false, rfl⟩
  · exact ⟨true, rfl⟩
def AskP (d : D) : Prop := ∃ (ks : List Bool) (t : Bool) (w p : Pg) (env : List D), d = .tup [.tup (kD ks), w.d, p.d, .tup env] ∧ ks.length ≤ 3 ∧ w.ok (ks ++ [t]) true ∧ w.size ≤ 14 ∧ w.nb 10 ∧ p.ok ks t ∧ p.size ≤ 8 ∧ p.nb 10 ∧ EnvOk ks env
local macro_rules | `(tactic| fail) => `(tactic| ((with_reducible refine And.intro ?_ ?_); (focus (exact Nat.le_of_ble_eq_true rfl))))
local macro_rules | `(tactic| fail) => `(tactic| with_reducible refine ⟨_, rfl, ?_⟩)
local macro_rules | `(tactic| fail) => `(tactic| ((with_reducible apply o_sliceT); (focus rfl)))
local macro_rules | `(tactic| fail) => `(tactic| ((with_reducible apply o_inTf); (focus rfl); (focus rfl); (focus (simp [inF, eqF, str_beq]; done))))
local macro_rules | `(tactic| fail) => `(tactic| ((with_reducible apply o_inTt); (focus rfl); (focus rfl); (focus (simp [inF, eqF, str_beq]; done))))
local macro_rules | `(tactic| fail) => `(tactic| ((with_reducible apply o_subC); (focus ((repeat (first | with_reducible exact lk_hit | ((with_reducible apply lk_miss); (focus (exact str_ne (by decide)))))); done))))
local macro_rules | `(tactic| fail) => `(tactic| ((with_reducible apply o_inC); (focus ((repeat (first | with_reducible exact lk_hit | ((with_reducible apply lk_miss); (focus (exact str_ne (by decide)))))); done))))
local macro_rules | `(tactic| fail) => `(tactic| ((with_reducible apply o_ninC); (focus ((repeat (first | with_reducible exact lk_hit | ((with_reducible apply lk_miss); (focus (exact str_ne (by decide)))))); done))))
local macro_rules | `(tactic| fail) => `(tactic| ((with_reducible apply o_isinF); (focus rfl); (focus (decide +kernel))))
local macro_rules | `(tactic| fail) => `(tactic| ((with_reducible apply o_isinT); (focus rfl); (focus (decide +kernel))))
local macro_rules | `(tactic| fail) => `(tactic| with_reducible refine i_enm ?_)
local macro_rules | `(tactic| fail) => `(tactic| ((with_reducible apply g_tup); (focus rfl); (focus rfl)))
local macro_rules | `(tactic| fail) => `(tactic| ((with_reducible apply v_dctN); (focus (decide +kernel))))
local macro_rules | `(tactic| fail) => `(tactic| ((with_reducible apply o_len); (focus (exact len_ref (by (first | assumption | exact updS_same | exact upd_at (by assumption) (by assumption)))))))
local macro_rules | `(tactic| fail) => `(tactic| ((with_reducible apply o_tuple); (focus (first | rfl | exact items_ref (by (first | assumption | exact updS_same | exact upd_at (by assumption) (by assumption)))))))
local macro_rules | `(tactic| fail) => `(tactic| ((with_reducible apply o_get2); (focus (first | assumption | exact updS_same | exact upd_at (by assumption) (by assumption))); (focus rfl); (focus ((repeat (first | with_reducible exact getD_hit | with_reducible exact getD_nil | ((with_reducible apply getD_miss); (focus (exact str_ne (by decide)))))); done))))
local macro_rules | `(tactic| fail) => `(tactic| ((with_reducible apply o_get1); (focus (first | assumption | exact updS_same | exact upd_at (by assumption) (by assumption))); (focus rfl); (focus ((repeat (first | with_reducible exact getD_hit | with_reducible exact getD_nil | ((with_reducible apply getD_miss); (focus (exact str_ne (by decide)))))); done))))
local macro_rules | `(tactic| fail) => `(tactic| ((with_reducible refine And.intro ?_ ?_); (focus (first | exact recvL (by (first | assumption | exact updS_same | exact upd_at (by assumption) (by assumption))) rfl | exact recvD (by (first | assumption | exact updS_same | exact upd_at (by assumption) (by assumption))) rfl))))
local macro_rules | `(tactic| fail) => `(tactic| ((with_reducible apply o_subD); (focus (first | assumption | exact updS_same | exact upd_at (by assumption) (by assumption))); (focus rfl); (focus ((repeat (first | with_reducible exact lookD_hit | ((with_reducible apply look_miss); (focus (exact str_ne (by decide)))))); done))))
local macro_rules | `(tactic| fail) => `(tactic| ((with_reducible apply c_ndF); (focus (((try simp only [List.length_cons, List.length_nil, List.length_append, List.length_map]); omega)))))
local macro_rules | `(tactic| fail) => `(tactic| ((with_reducible apply c_ndT); (focus (((try simp only [List.length_cons, List.length_nil, List.length_append, List.length_map]); omega)))))
local macro_rules | `(tactic| fail) => `(tactic| with_reducible refine o_intB ?_)
local macro_rules | `(tactic| fail) => `(tactic| ((with_reducible apply c_decF); (focus (((try simp only [List.length_cons, List.length_nil, List.length_append, List.length_map]); omega)))))
local macro_rules | `(tactic| fail) => `(tactic| ((with_reducible apply c_decT); (focus (((try simp only [List.length_cons, List.length_nil, List.length_append, List.length_map]); omega)))))
local macro_rules | `(tactic| fail) => `(tactic| with_reducible refine c_notf ?_)
local macro_rules | `(tactic| fail) => `(tactic| with_reducible refine c_nott ?_)
local macro_rules | `(tactic| fail) => `(tactic| with_reducible refine o_eqI ?_)
local macro_rules | `(tactic| fail) => `(tactic| ((with_reducible apply o_eqIf); (focus (((try simp only [List.length_cons, List.length_nil, List.length_append, List.length_map]); omega)))))
local macro_rules | `(tactic| fail) => `(tactic| ((with_reducible apply o_eqIt); (focus (((try simp only [List.length_cons, List.length_nil, List.length_append, List.length_map]); omega)))))
local macro_rules | `(tactic| fail) => `(tactic| with_reducible refine o_isB ?_)
local macro_rules | `(tactic| fail) => `(tactic| with_reducible refine o_isN ?_)
local macro_rules | `(tactic| fail) => `(tactic| with_reducible refine o_isR ?_)
local macro_rules | `(tactic| fail) => `(tactic| with_reducible refine o_eqB ?_)
local macro_rules | `(tactic| fail) => `(tactic| ((with_reducible apply o_neIf); (focus (((try simp only [List.length_cons, List.length_nil, List.length_append, List.length_map]); omega)))))
local macro_rules | `(tactic| fail) => `(tactic| ((with_reducible apply o_neIt); (focus (((try simp only [List.length_cons, List.length_nil, List.length_append, List.length_map]); omega)))))
local macro_rules | `(tactic| fail) => `(tactic| with_reducible refine o_neII ?_)
local macro_rules | `(tactic| fail) => `(tactic| with_reducible refine o_neBB ?_)
local macro_rules | `(tactic| fail) => `(tactic| ((with_reducible apply o_eqSf); (focus decide)))
local macro_rules | `(tactic| fail) => `(tactic| ((with_reducible apply o_atr); (focus rfl)))
local macro_rules | `(tactic| fail) => `(tactic| with_reducible refine o_isx ?_)
local macro_rules | `(tactic| fail) => `(tactic| with_reducible refine o_eqSt ?_)
local macro_rules | `(tactic| fail) => `(tactic| ((with_reducible apply o_len); focus (first | rfl | (simp only [lenD]; simp only [*]; done))))
local macro_rules | `(tactic| fail) => `(tactic| ((with_reducible apply o_setL); (focus (first | assumption | exact updS_same | exact upd_at (by assumption) (by assumption))); (focus rfl)))
local macro_rules | `(tactic| fail) => `(tactic| ((with_reducible refine And.intro ?_ ?_); (focus (first | exact selfOk (by (first | assumption | exact updS_same | exact upd_at (by assumption) (by assumption))) rfl | exact insOk (by (first | assumption | exact updS_same | exact upd_at (by assumption) (by assumption)))))))
local macro_rules | `(tactic| fail) => `(tactic| ((with_reducible apply o_setf); (focus (first | assumption | exact updS_same | exact upd_at (by assumption) (by assumption))); (focus (exact Nat.le_of_ble_eq_true rfl))))
local macro_rules | `(tactic| fail) => `(tactic| ((with_reducible apply o_fld); (focus (first | assumption | exact updS_same | exact upd_at (by assumption) (by assumption))); (focus rfl)))
local macro_rules | `(tactic| fail) => `(tactic| ((with_reducible apply o_subT); focus (rfl)))
local macro_rules | `(tactic| fail) => `(tactic| ((with_reducible apply o_subL); (focus (first | assumption | exact updS_same | exact upd_at (by assumption) (by assumption))); (focus rfl)))
local macro_rules | `(tactic| fail) => `(tactic| ((with_reducible apply o_pow); focus (unfold CPow; omega)))
local macro_rules | `(tactic| fail) => `(tactic| ((with_reducible apply o_mod); focus (omega)))
local macro_rules | `(tactic| fail) => `(tactic| ((with_reducible apply o_div); focus (unfold CDiv; omega)))
local macro_rules | `(tactic| fail) => `(tactic| ((with_reducible apply o_mul); focus (unfold CMul; omega)))
local macro_rules | `(tactic| fail) => `(tactic| ((with_reducible apply v_glob); focus (first | assumption | rfl)))
local macro_rules | `(tactic| fail) => `(tactic| ((with_reducible apply t_var); focus (rfl)))
local macro_rules | `(tactic| fail) => `(tactic| ((with_reducible apply v_var); focus (rfl)))
local macro_rules | `(tactic| fail) => `(tactic| with_reducible refine c_false ?_)
local macro_rules | `(tactic| fail) => `(tactic| with_reducible refine c_true ?_)
local macro_rules | `(tactic| fail) => `(tactic| with_reducible refine o_ge ?_)
local macro_rules | `(tactic| fail) => `(tactic| with_reducible refine o_gt ?_)
local macro_rules | `(tactic| fail) => `(tactic| with_reducible refine o_le ?_)
local macro_rules | `(tactic| fail) => `(tactic| with_reducible refine o_lt ?_)
local macro_rules | `(tactic| fail) => `(tactic| with_reducible refine o_sub ?_)
local macro_rules | `(tactic| fail) => `(tactic| with_reducible refine o_add ?_)
local macro_rules | `(tactic| fail) => `(tactic| with_reducible refine o_sub1 ?_)
local macro_rules | `(tactic| fail) => `(tactic| with_reducible refine o_sub0 ?_)
local macro_rules | `(tactic| fail) => `(tactic| with_reducible refine i_rng1 ?_)
local macro_rules | `(tactic| fail) => `(tactic| with_reducible refine i_seq ?_)
local macro_rules | `(tactic| fail) => `(tactic| with_reducible refine g_cons ?_)
local macro_rules | `(tactic| fail) => `(tactic| with_reducible refine g_nil ?_)
local macro_rules | `(tactic| fail) => `(tactic| with_reducible refine g_nm ?_)
local macro_rules | `(tactic| fail) => `(tactic| with_reducible refine ts_one ?_)
local macro_rules | `(tactic| fail) => `(tactic| with_reducible refine ts_nil ?_)
local macro_rules | `(tactic| fail) => `(tactic| with_reducible refine tr_int ?_)
local macro_rules | `(tactic| fail) => `(tactic| with_reducible refine tr_bl ?_)
local macro_rules | `(tactic| fail) => `(tactic| with_reducible refine tb_or ?_)
local macro_rules | `(tactic| fail) => `(tactic| with_reducible refine tb_and ?_)
local macro_rules | `(tactic| fail) => `(tactic| with_reducible refine tb_one ?_)
local macro_rules | `(tactic| fail) => `(tactic| with_reducible refine t_chain ?_)
local macro_rules | `(tactic| fail) => `(tactic| with_reducible refine t_sub ?_)
local macro_rules | `(tactic| fail) => `(tactic| with_reducible refine t_blt ?_)
local macro_rules | `(tactic| fail) => `(tactic| with_reducible refine t_call ?_)
local macro_rules | `(tactic| fail) => `(tactic| with_reducible refine t_cmp ?_)
local macro_rules | `(tactic| fail) => `(tactic| with_reducible refine t_nt ?_)
local macro_rules | `(tactic| fail) => `(tactic| with_reducible refine t_bop ?_)
local macro_rules | `(tactic| fail) => `(tactic| with_reducible refine vb_or ?_)
local macro_rules | `(tactic| fail) => `(tactic| with_reducible refine vb_and ?_)
local macro_rules | `(tactic| fail) => `(tactic| with_reducible refine vb_one ?_)
local macro_rules | `(tactic| fail) => `(tactic| with_reducible refine vo_some ?_)
local macro_rules | `(tactic| fail) => `(tactic| with_reducible refine vo_none ?_)
local macro_rules | `(tactic| fail) => `(tactic| with_reducible refine vs_cons ?_)
local macro_rules | `(tactic| fail) => `(tactic| with_reducible refine vs_nil ?_)
local macro_rules | `(tactic| fail) => `(tactic| with_reducible refine s_try ?_)
local macro_rules | `(tactic| fail) => `(tactic| with_reducible refine s_setf ?_)
local macro_rules | `(tactic| fail) => `(tactic| with_reducible refine v_eqo ?_)
local macro_rules | `(tactic| fail) => `(tactic| with_reducible refine t_isc ?_)
local macro_rules | `(tactic| fail) => `(tactic| with_reducible refine v_isc ?_)
local macro_rules | `(tactic| fail) => `(tactic| with_reducible refine t_meth ?_)
local macro_rules | `(tactic| fail) => `(tactic| with_reducible refine v_meth ?_)
local macro_rules | `(tactic| fail) => `(tactic| with_reducible refine v_new ?_)
local macro_rules | `(tactic| fail) => `(tactic| with_reducible refine v_fld ?_)
local macro_rules | `(tactic| fail) => `(tactic| with_reducible refine v_atr ?_)
local macro_rules | `(tactic| fail) => `(tactic| with_reducible refine v_isx ?_)
local macro_rules | `(tactic| fail) => `(tactic| with_reducible refine v_back ?_)
local macro_rules | `(tactic| fail) => `(tactic| with_reducible refine v_lc ?_)
local macro_rules | `(tactic| fail) => `(tactic| with_reducible refine v_mth ?_)
local macro_rules | `(tactic| fail) => `(tactic| with_reducible refine v_lzip ?_)
local macro_rules | `(tactic| fail) => `(tactic| with_reducible refine v_lrev ?_)
local macro_rules | `(tactic| fail) => `(tactic| with_reducible refine v_blt ?_)
local macro_rules | `(tactic| fail) => `(tactic| with_reducible refine v_call ?_)
local macro_rules | `(tactic| fail) => `(tactic| with_reducible refine v_slice ?_)
local macro_rules | `(tactic| fail) => `(tactic| with_reducible refine v_sub ?_)
local macro_rules | `(tactic| fail) => `(tactic| with_reducible refine v_lst ?_)
local macro_rules | `(tactic| fail) => `(tactic| with_reducible refine v_tup ?_)
local macro_rules | `(tactic| fail) => `(tactic| with_reducible refine v_ite ?_)
local macro_rules | `(tactic| fail) => `(tactic| with_reducible refine v_nt ?_)
local macro_rules | `(tactic| fail) => `(tactic| with_reducible refine v_bop ?_)
local macro_rules | `(tactic| fail) => `(tactic| with_reducible refine v_cmp ?_)
local macro_rules | `(tactic| fail) => `(tactic| with_reducible refine v_bin ?_)
local macro_rules | `(tactic| fail) => `(tactic| with_reducible refine v_bty ?_)
local macro_rules | `(tactic| fail) => `(tactic| with_reducible refine v_str ?_)
local macro_rules | `(tactic| fail) => `(tactic| with_reducible refine v_non ?_)
local macro_rules | `(tactic| fail) => `(tactic| with_reducible refine v_bl ?_)
local macro_rules | `(tactic| fail) => `(tactic| with_reducible refine v_int ?_)
local macro_rules | `(tactic| fail) => `(tactic| with_reducible refine s_cont ?_)
local macro_rules | `(tactic| fail) => `(tactic| with_reducible refine s_brk ?_)
local macro_rules | `(tactic| fail) => `(tactic| with_reducible refine s_nil ?_)
local macro_rules | `(tactic| fail) => `(tactic| with_reducible refine s_pass ?_)
local macro_rules | `(tactic| fail) => `(tactic| with_reducible refine s_retN ?_)
local macro_rules | `(tactic| fail) => `(tactic| with_reducible refine s_ret ?_)
local macro_rules | `(tactic| fail) => `(tactic| with_reducible refine s_ife ?_)
local macro_rules | `(tactic| fail) => `(tactic| with_reducible refine s_set ?_)
local macro_rules | `(tactic| fail) => `(tactic| with_reducible refine s_par ?_)
local macro_rules | `(tactic| fail) => `(tactic| with_reducible refine s_asg ?_)
local macro_rules | `(tactic| fail) => `(tactic| with_reducible refine s_ex ?_)

theorem d_law (ns : List Int) (hl : ns.length ≤ 63) (S : Sto) (hS : ∀ b, S b = none) : sem defs gl 21 "law" [.kl (ns.map D.int)] S (fun d _ => d = .bl true) fun _ _ => False := by
  (refine sem_of df_dLaw rfl ?_; unfold dLaw; simp only [startD, List.map_cons, List.map_nil, List.length_cons, List.length_nil, List.replicate_succ, List.replicate_zero, List.cons_append, List.nil_append, Nat.reduceAdd, Nat.reduceSub])
  (repeat fail)
  intro ap hap
  have ea : updS S ap (.lst []) ap = some (.lst []) := updS_same
  generalize updS S ap (.lst []) = S0 at ea ⊢
  (repeat fail)
  refine s_fr (i_rng1 ?_)
  (repeat fail)
  rw [List.length_map]
  refine o_minP fun c1 hc1 hc2 hc3 => ?_
  (repeat fail)
  refine o_max2i fun c2 hd1 => ?_
  refine ⟨_, rfl, by omega, by omega, ?_⟩
  refine for_ind (fun r σ S' => (∀ d ∈ r, ∃ i : Nat, d = .int i ∧ i < 1000) ∧ ∃ items : List D, S' ap = some (.lst items) ∧ (∀ d ∈ items, AskP d) ∧ items.length + r.length ≤ 6 ∧ ∃ x2 x3 x4 x5 x6 x7 x8 x9 x10, σ = [some (.kl (ns.map D.int)), some (.ref ap), x2, x3, x4, x5, x6, x7, x8, x9, x10]) (fun _ _ _ _ => trivial) ?_ ?_ _ _ _ ⟨?_, [], ea, by simp, by simp; omega, _, _, _, _, _, _, _, _, _, rfl⟩
  · rintro σ S1 ⟨_, items, eq1, hA, hlen, x2, x3, x4, x5, x6, x7, x8, x9, x10, rfl⟩
    simp only [List.length_nil, Nat.add_zero] at hlen
    (repeat fail)
    refine s_fr (i_seq ?_)
    (repeat fail)
    refine o_sliceLP eq1 fun sp hsp => ?_
    have eq2 := upd_at (u := .lst (cutD items none (some 2))) hsp eq1
    have es : updS S1 sp (.lst (cutD items none (some 2))) sp = some (.lst (cutD items none (some 2))) := updS_same
    have hcl := cut_lenP (xs := items) (lo := none) (hi := some 2)
    have hA2 : ∀ d ∈ items ++ cutD items none (some 2), AskP d := fun d hd => by
      rcases List.mem_append.mp hd with hd | hd
      · exact hA d hd
      · exact hA d (cut_memP d hd)
    generalize updS S1 sp (.lst (cutD items none (some 2))) = S2 at eq2 es
    refine o_addLP eq2 es (by rw [sizeLine_eq]; omega) fun jp hjp => ?_
    have ej : updS S2 jp (.lst (items ++ cutD items none (some 2))) jp = some (.lst (items ++ cutD items none (some 2))) := updS_same
    generalize items ++ cutD items none (some 2) = its at *
    generalize updS S2 jp (.lst its) = S3 at ej ⊢
    refine .inr (.inr ⟨_, _, rfl, ej, ?_⟩)
    refine for_ind (fun r σ S' => (∀ d ∈ r, AskP d) ∧ S' jp = some (.lst its) ∧ ∃ x2 x3 x4 x5 x6 x7 x8 x9 x10, σ = [some (.kl (ns.map D.int)), some (.ref ap), x2, x3, x4, x5, x6, x7, x8, x9, x10]) (fun _ _ _ ⟨_, z, _⟩ => z) ?_ ?_ _ _ _ ⟨hA2, ej, _, _, _, _, _, _, _, _, _, rfl⟩
    · rintro σ S4 ⟨_, _, x2, x3, x4, x5, x6, x7, x8, x9, x10, rfl⟩
      (repeat fail)
      rfl
    · rintro d r σ S4 N ⟨h0, h1, x2, x3, x4, x5, x6, x7, x8, x9, x10, rfl⟩ hN
      obtain ⟨ks, t, w, p, env, rfl, g1, g2, g3, g4, g5, g6, g7, g8⟩ := h0 d (by simp)
      have hss := sok_in g5
      have hw := ht_sizeP w
      have hp := ht_sizeP p
      (repeat fail)
      rw [kD_len]
      refine ⟨by omega, by omega, ?_⟩
      rw [Int.toNat_natCast]
      refine lc_ind (fun r acc S' => ∃ dn td : List Nat, List.range ks.length = dn ++ td ∧ r = td.map (fun i => D.int (i : Nat)) ∧ acc = dn.map (fun i => (Pg.inp i).d) ∧ S' = S4) (fun _ _ _ _ => trivial) ?_ ?_ _ _ _ ⟨[], _, rfl, rfl, rfl, rfl⟩
      rotate_left
      · rintro d r acc S1 K ⟨dn, td, er, e1, rfl, rfl⟩ hK -
        cases td with
        | nil => cases e1
        | cons q td =>
          simp only [List.map_cons, List.cons.injEq] at e1
          obtain ⟨rfl, rfl⟩ := e1
          refine ⟨by rw [List.length_map, sizeLine_eq]; have := congrArg List.length er; simp at this; omega, ?_⟩
          (repeat fail)
          exact hK _ _ ⟨dn ++ [q], td, by rw [er]; simp, rfl, by simp [Pg.d], rfl⟩
      rintro acc S5 ⟨dn, td, er, e1, rfl, rfl⟩ lp hlp
      have htd : td = [] := by cases td with | nil => rfl | cons _ _ => cases e1
      subst htd
      rw [List.append_nil] at er
      subst er
      rw [show (List.range ks.length).map (fun i => (Pg.inp i).d) = (inps ks.length).map Pg.d by unfold inps; rw [List.map_map]; rfl]
      have e6 : updS S5 lp (.lst ((inps ks.length).map Pg.d)) lp = some (.lst ((inps ks.length).map Pg.d)) := updS_same
      have j6 := upd_at (u := .lst ((inps ks.length).map Pg.d)) hlp h1
      generalize updS S5 lp (.lst ((inps ks.length).map Pg.d)) = S6 at e6 j6 ⊢
      (repeat fail)
      intro mp hmp
      have e7 := upd_at (u := .lst [p.d]) hmp e6
      have j7 := upd_at (u := .lst [p.d]) hmp j6
      have m7 : updS S6 mp (.lst [p.d]) mp = some (.lst [p.d]) := updS_same
      generalize updS S6 mp (.lst [p.d]) = S7 at e7 j7 m7 ⊢
      refine o_addLP e7 m7 (by rw [sizeLine_eq]; simp [inps]; omega) fun qp hqp => ?_
      rw [show (inps ks.length).map Pg.d ++ [p.d] = (inps ks.length ++ [p]).map Pg.d by simp]
      have q8 : updS S7 qp (.lst ((inps ks.length ++ [p]).map Pg.d)) qp = some (.lst ((inps ks.length ++ [p]).map Pg.d)) := updS_same
      have j8 := upd_at (u := .lst ((inps ks.length ++ [p]).map Pg.d)) hqp j7
      generalize updS S7 qp (.lst ((inps ks.length ++ [p]).map Pg.d)) = S8 at q8 j8 ⊢
      (repeat fail)
      refine spec_lputP df_dLPut df_dLInner hss 14 w (by omega) g2 (by omega) q8 fun S9 o9 => ?_
      have j9 := o9 jp _ (by simp) j8
      (repeat fail)
      refine v_callK ?_
      (repeat fail)
      refine ⟨rfl, ?_⟩
      (repeat fail)
      refine ⟨rfl, ?_⟩
      simp only [List.cons_append, List.nil_append]
      rw [kD_len]
      refine spec_met_by df_dMetBy df_dInputsOf df_dPut kf0 (by omega) (by omega) g2 g5 (by omega) fun SA oA => ?_
      have jA := oA jp _ (by simp) j9
      have fok : (w.put (inps ks.length ++ [p])).ok ks true := put_ok hss g2
      have fsz : (w.put (inps ks.length ++ [p])).size ≤ 112 := Nat.le_trans (put_szP (M := 8) (by omega) (in_all (fun i _ => by simp [Pg.size]) g6) w) (by omega)
      have fht : (w.put (inps ks.length ++ [p])).ht ≤ 22 := Nat.le_trans (put_htP (H := 8) (by omega) (in_all (fun i _ => by simp [Pg.ht]) (by omega)) w) (by omega)
      have fnb : (w.put (inps ks.length ++ [p])).nb 1000000 := put_nb (in_all (fun i hi => by simp only [Pg.nb]; omega) (nb_mono (by omega) p g7)) w (nb_mono (by omega) w g4)
      have fev := ev_put (env := env) hss w true g2
      rw [in_ev g8.1] at fev
      generalize w.put (inps ks.length ++ [p]) = f at *
      (repeat fail)
      refine o_reprP fnb (by omega) (by omega) ?_
      (repeat fail)
      refine o_reprP fnb (by omega) (by omega) ?_
      (repeat fail)
      refine o_neStr (strOk_P fnb) ?_
      (repeat fail)
      refine spec_value df_dValue df_dMadeOf df_dKnots df_dHasForm df_dIsWhole df_dPartsOf gl_PARTS gl_NUMBERED g8 fok (by omega) (by omega) fun SB oB => ?_
      obtain ⟨b, eb⟩ := ev_ok g8 f true fok
      rw [fev] at eb ⊢
      have jB := oB jp _ (by simp) jA
      rw [eb]
      (repeat fail)
      refine o_reprB ?_
      (repeat fail)
      refine spec_worth df_dLWorth df_dLInner g8 p g5 (by omega) fun SC oC => ?_
      have jC := oC jp _ (by simp) jB
      (repeat fail)
      refine o_addT rfl (by rw [sizeLine_eq, g8.1]; simp; omega) ?_
      (repeat fail)
      refine spec_worth df_dLWorth df_dLInner (g8.snoc (ev_ok g8 p t g5)) w g2 (by omega) fun SD oD => ?_
      have jD := oD jp _ (by simp) jC
      rw [eb]
      (repeat fail)
      refine o_reprB ?_
      (repeat fail)
      refine o_neStr shown_b ?_
      (repeat fail)
      exact hN _ _ ⟨fun d hd => h0 d (by simp [hd]), jD, _, _, _, _, _, _, _, _, _, rfl⟩
  · rintro d r σ S1 N ⟨hr1, items, eq1, hA, hlen, x2, x3, x4, x5, x6, x7, x8, x9, x10, rfl⟩ hN
    obtain ⟨i, rfl, hi⟩ := hr1 d (by simp)
    (repeat fail)
    refine spec_flow df_dLFlow df_dLCell (by omega) (by omega) hl fun a S2 ha F2 o2 => ?_
    have naa : ap ≠ a := fun z => by subst z; rw [eq1] at ha; cases ha
    have eq2 := o2 ap _ (by simp) eq1
    (repeat fail)
    refine spec_kindsB df_dLKindsB df_dLDraw (by omega) F2 (by omega) fun ks S3 hk3 F3 o3 => ?_
    have eq3 := o3 ap _ (by simpa using naa) eq2
    (repeat fail)
    intro tp htp
    have et : updS S3 tp (.lst [.str "num", .str "num", .str "truth"]) tp = some (.lst [.str "num", .str "num", .str "truth"]) := updS_same
    have eq4 := upd_at (u := .lst [.str "num", .str "num", .str "truth"]) htp eq3
    have nta := flow_ne F3 htp
    have F4 := F3.new (o := .lst [.str "num", .str "num", .str "truth"]) htp
    generalize updS S3 tp (.lst [.str "num", .str "num", .str "truth"]) = S4 at et eq4 F4
    (repeat fail)
    refine spec_draw df_dLDraw (by omega) F4 (by omega) fun g S5 hg0 hg1 F5 o5 => ?_
    have eq5 := o5 ap _ (by simpa using naa) eq4
    have et5 := o5 tp _ (by simpa using nta) et
    obtain ⟨t, hft⟩ := at3k (i := g) ⟨hg0, hg1⟩
    refine o_subL et5 hft ?_
    (repeat fail)
    refine o_addT (c := kD (ks ++ [t])) (by simp [kD]) (by rw [kD_len, sizeLine_eq]; simp; omega) ?_
    (repeat fail)
    refine spec_draw df_dLDraw (by omega) F5 (by omega) fun g2 S6 h60 h61 F6 o6 => ?_
    have eq6 := o6 ap _ (by simpa using naa) eq5
    (repeat fail)
    refine spec_plan df_dLPlan df_dLDraw df_dLLittle df_dLLeafB (by rw [List.length_append, List.length_singleton]; omega) 14 (t := true) (by omega) (by omega) (by omega) F6 (by omega) fun w S7 w1 w2 w3 F7 o7 => ?_
    have eq7 := o7 ap _ (by simpa using naa) eq6
    (repeat fail)
    refine spec_draw df_dLDraw (by omega) F7 (by omega) fun g3 S8 h80 h81 F8 o8 => ?_
    have eq8 := o8 ap _ (by simpa using naa) eq7
    (repeat fail)
    refine spec_plan df_dLPlan df_dLDraw df_dLLittle df_dLLeafB (by omega) 8 (t := t) (by omega) (by omega) (by omega) F8 (by omega) fun p S9 p1 p2 p3 F9 o9 => ?_
    have eq9 := o9 ap _ (by simpa using naa) eq8
    (repeat fail)
    refine spec_some_inputs df_dLSomeInputs df_dLDraw (by omega) (by omega) F9 fun env SA he FA oA => ?_
    have eqA := oA ap _ (by simpa using naa) eq9
    (repeat fail)
    refine o_append eqA (by rw [sizeLine_eq]; simp only [List.length_cons] at hlen; omega) ?_
    (repeat fail)
    refine hN _ _ ⟨fun d hd => hr1 d (by simp [hd]), _, updS_same, fun d hd => ?_, by simp only [List.length_append, List.length_cons, List.length_nil] at hlen ⊢; omega, _, _, _, _, _, _, _, _, _, rfl⟩
    rcases List.mem_append.mp hd with hd | hd
    · exact hA d hd
    · obtain rfl := List.mem_singleton.mp hd
      exact ⟨ks, t, w, p, env, rfl, by omega, w1, by omega, w3, p1, by omega, p3, he⟩
  · intro d hd
    obtain ⟨j, hj, rfl⟩ := List.mem_map.mp hd
    rw [List.mem_range] at hj
    exact ⟨j, rfl, by omega⟩
end
end Z

set_option Elab.async false
set_option linter.all false
set_option maxRecDepth 100000
set_option maxHeartbeats 4000000
namespace Z
open PySem PySem.Spec PyProof.Rows L2
def top (i : Nat) : Stmt := PySem.Challenge.pw_leastmaker_k39_wishes_put_in.main.body.getD i (.Pass ⟨0, 0, 0, 0⟩)
def dfs : List Str := ["is_whole", "has_form", "parts_of", "knots", "put", "made_of", "value", "inputs_of", "met_by", "_law_cell", "_law_flow", "_law_draw", "_law_kinds", "_law_little", "_law_leaf", "_law_plan", "_law_inner", "_law_worth", "_law_put", "_law_some_inputs", "law"]
def xsL : List Str := []
def xrL : List Str := []
def hotL : List Str := []
def msL : List (Str × Str × Str) := []
def mksL : List (Str × Str × Nat) := []
def mt (i j : Nat) : Stmt := match top i with | .ClassDef _ _ _ body _ _ _ _ _ _ _ => body.getD j (.Pass ⟨0, 0, 0, 0⟩) | s => s
def dIsWholeN : List Str := ["thing"]

theorem dIsWhole_ck : chkSs ⟨dIsWholeN, defScope (top 3), fun _ => true, dfs, xsL, xrL, hotL, msL, mksL, true⟩ dIsWhole.body (defBody (top 3)) = true := by decide +kernel
theorem dIsWhole_sc : FnScope dIsWholeN ["thing"] (defScope (top 3)) := ⟨rfl, rfl, rfl, by decide +kernel, rfl, by decide +kernel, by decide +kernel⟩

def dHasFormN : List Str := ["knot"]

theorem dHasForm_ck : chkSs ⟨dHasFormN, defScope (top 4), fun _ => true, dfs, xsL, xrL, hotL, msL, mksL, true⟩ dHasForm.body (defBody (top 4)) = true := by decide +kernel
theorem dHasForm_sc : FnScope dHasFormN ["knot"] (defScope (top 4)) := ⟨rfl, rfl, rfl, by decide +kernel, rfl, by decide +kernel, by decide +kernel⟩

def dPartsOfN : List Str := ["knot"]

theorem dPartsOf_ck : chkSs ⟨dPartsOfN, defScope (top 5), fun _ => true, dfs, xsL, xrL, hotL, msL, mksL, true⟩ dPartsOf.body (defBody (top 5)) = true := by decide +kernel
theorem dPartsOf_sc : FnScope dPartsOfN ["knot"] (defScope (top 5)) := ⟨rfl, rfl, rfl, by decide +kernel, rfl, by decide +kernel, by decide +kernel⟩

def dKnotsN : List Str := ["program", "found", "left", "knot"]

theorem dKnots_ck : chkSs ⟨dKnotsN, defScope (top 6), fun _ => true, dfs, xsL, xrL, hotL, msL, mksL, true⟩ dKnots.body (defBody (top 6)) = true := by decide +kernel
theorem dKnots_sc : FnScope dKnotsN ["program"] (defScope (top 6)) := ⟨rfl, rfl, rfl, by decide +kernel, rfl, by decide +kernel, by decide +kernel⟩

def dPutN : List Str := ["program", "some", "done", "knot", "many", "parts", "part"]

theorem dPut_ck : chkSs ⟨dPutN, defScope (top 7), fun _ => true, dfs, xsL, xrL, hotL, msL, mksL, true⟩ dPut.body (defBody (top 7)) = true := by decide +kernel
theorem dPut_sc : FnScope dPutN ["program", "some"] (defScope (top 7)) := ⟨rfl, rfl, rfl, by decide +kernel, rfl, by decide +kernel, by decide +kernel⟩

def dMadeOfN : List Str := ["word", "parts"]

theorem dMadeOf_ck : chkSs ⟨dMadeOfN, defScope (top 9), fun _ => true, dfs, xsL, xrL, hotL, msL, mksL, true⟩ dMadeOf.body (defBody (top 9)) = true := by decide +kernel
theorem dMadeOf_sc : FnScope dMadeOfN ["word", "parts"] (defScope (top 9)) := ⟨rfl, rfl, rfl, by decide +kernel, rfl, by decide +kernel, by decide +kernel⟩

def dValueN : List Str := ["program", "inputs", "done", "knot", "parts", "part"]

theorem dValue_ck : chkSs ⟨dValueN, defScope (top 10), fun _ => true, dfs, xsL, xrL, hotL, msL, mksL, true⟩ dValue.body (defBody (top 10)) = true := by decide +kernel
theorem dValue_sc : FnScope dValueN ["program", "inputs"] (defScope (top 10)) := ⟨rfl, rfl, rfl, by decide +kernel, rfl, by decide +kernel, by decide +kernel⟩

def dInputsOfN : List Str := ["many", "k"]

theorem dInputsOf_ck : chkSs ⟨dInputsOfN, defScope (top 12), fun _ => true, dfs, xsL, xrL, hotL, msL, mksL, true⟩ dInputsOf.body (defBody (top 12)) = true := by decide +kernel
theorem dInputsOf_sc : FnScope dInputsOfN ["many"] (defScope (top 12)) := ⟨rfl, rfl, rfl, by decide +kernel, rfl, by decide +kernel, by decide +kernel⟩

def dMetByN : List Str := ["wish", "program", "many"]

theorem dMetBy_ck : chkSs ⟨dMetByN, defScope (top 13), fun _ => true, dfs, xsL, xrL, hotL, msL, mksL, true⟩ dMetBy.body (defBody (top 13)) = true := by decide +kernel
theorem dMetBy_sc : FnScope dMetByN ["wish", "program", "many"] (defScope (top 13)) := ⟨rfl, rfl, rfl, by decide +kernel, rfl, by decide +kernel, by decide +kernel⟩

def dLCellN : List Str := ["_law_script", "_law_k", "_law_number"]

theorem dLCell_ck : chkSs ⟨dLCellN, defScope (top 15), fun _ => true, dfs, xsL, xrL, hotL, msL, mksL, true⟩ dLCell.body (defBody (top 15)) = true := by decide +kernel
theorem dLCell_sc : FnScope dLCellN ["_law_script", "_law_k"] (defScope (top 15)) := ⟨rfl, rfl, rfl, by decide +kernel, rfl, by decide +kernel, by decide +kernel⟩

def dLFlowN : List Str := ["_law_script", "_law_k", "_law_cell_here", "_law_own"]

theorem dLFlow_ck : chkSs ⟨dLFlowN, defScope (top 16), fun _ => true, dfs, xsL, xrL, hotL, msL, mksL, true⟩ dLFlow.body (defBody (top 16)) = true := by decide +kernel
theorem dLFlow_sc : FnScope dLFlowN ["_law_script", "_law_k"] (defScope (top 16)) := ⟨rfl, rfl, rfl, by decide +kernel, rfl, by decide +kernel, by decide +kernel⟩

def dLDrawN : List Str := ["_law_flow_here", "_law_wide", "_law_digit", "_law_number"]

theorem dLDraw_ck : chkSs ⟨dLDrawN, defScope (top 17), fun _ => true, dfs, xsL, xrL, hotL, msL, mksL, true⟩ dLDraw.body (defBody (top 17)) = true := by decide +kernel
theorem dLDraw_sc : FnScope dLDrawN ["_law_flow_here", "_law_wide"] (defScope (top 17)) := ⟨rfl, rfl, rfl, by decide +kernel, rfl, by decide +kernel, by decide +kernel⟩

def dLKindsBN : List Str := ["_law_flow_here", "_law_top", "_law_size", "_law_k"]

theorem dLKindsB_ck : chkSs ⟨dLKindsBN, defScope (top 18), fun _ => true, dfs, xsL, xrL, hotL, msL, mksL, true⟩ dLKindsB.body (defBody (top 18)) = true := by decide +kernel
theorem dLKindsB_sc : FnScope dLKindsBN ["_law_flow_here", "_law_top"] (defScope (top 18)) := ⟨rfl, rfl, rfl, by decide +kernel, rfl, by decide +kernel, by decide +kernel⟩

def dLLittleN : List Str := ["_law_flow_here"]

theorem dLLittle_ck : chkSs ⟨dLLittleN, defScope (top 19), fun _ => true, dfs, xsL, xrL, hotL, msL, mksL, true⟩ dLLittle.body (defBody (top 19)) = true := by decide +kernel
theorem dLLittle_sc : FnScope dLLittleN ["_law_flow_here"] (defScope (top 19)) := ⟨rfl, rfl, rfl, by decide +kernel, rfl, by decide +kernel, by decide +kernel⟩

def dLLeafBN : List Str := ["_law_flow_here", "_law_kinds_here", "_law_kind", "_law_some", "_law_k", "_law_one"]

theorem dLLeafB_ck : chkSs ⟨dLLeafBN, defScope (top 20), fun _ => true, dfs, xsL, xrL, hotL, msL, mksL, true⟩ dLLeafB.body (defBody (top 20)) = true := by decide +kernel
theorem dLLeafB_sc : FnScope dLLeafBN ["_law_flow_here", "_law_kinds_here", "_law_kind"] (defScope (top 20)) := ⟨rfl, rfl, rfl, by decide +kernel, rfl, by decide +kernel, by decide +kernel⟩

def dLPlanN : List Str := ["_law_flow_here", "_law_kinds_here", "_law_kind", "_law_room", "_law_form", "_law_inner_here", "_law_half", "_law_third", "_law_test", "_law_rest", "_law_one", "_law_parts", "_law_word"]

theorem dLPlan_ck : chkSs ⟨dLPlanN, defScope (top 21), fun _ => true, dfs, xsL, xrL, hotL, msL, mksL, true⟩ dLPlan.body (defBody (top 21)) = true := by decide +kernel
theorem dLPlan_sc : FnScope dLPlanN ["_law_flow_here", "_law_kinds_here", "_law_kind", "_law_room"] (defScope (top 21)) := ⟨rfl, rfl, rfl, by decide +kernel, rfl, by decide +kernel, by decide +kernel⟩

def dLInnerN : List Str := ["_law_knot", "_law_size"]

theorem dLInner_ck : chkSs ⟨dLInnerN, defScope (top 22), fun _ => true, dfs, xsL, xrL, hotL, msL, mksL, true⟩ dLInner.body (defBody (top 22)) = true := by decide +kernel
theorem dLInner_sc : FnScope dLInnerN ["_law_knot"] (defScope (top 22)) := ⟨rfl, rfl, rfl, by decide +kernel, rfl, by decide +kernel, by decide +kernel⟩

def dLWorthN : List Str := ["_law_plan_here", "_law_inputs", "_law_word", "_law_some", "_law_one"]

theorem dLWorth_ck : chkSs ⟨dLWorthN, defScope (top 23), fun _ => true, dfs, xsL, xrL, hotL, msL, mksL, true⟩ dLWorth.body (defBody (top 23)) = true := by decide +kernel
theorem dLWorth_sc : FnScope dLWorthN ["_law_plan_here", "_law_inputs"] (defScope (top 23)) := ⟨rfl, rfl, rfl, by decide +kernel, rfl, by decide +kernel, by decide +kernel⟩

def dLPutN : List Str := ["_law_plan_here", "_law_some", "_law_parts", "_law_one"]

theorem dLPut_ck : chkSs ⟨dLPutN, defScope (top 24), fun _ => true, dfs, xsL, xrL, hotL, msL, mksL, true⟩ dLPut.body (defBody (top 24)) = true := by decide +kernel
theorem dLPut_sc : FnScope dLPutN ["_law_plan_here", "_law_some"] (defScope (top 24)) := ⟨rfl, rfl, rfl, by decide +kernel, rfl, by decide +kernel, by decide +kernel⟩

def dLSomeInputsN : List Str := ["_law_flow_here", "_law_kinds_here", "_law_found", "_law_kind", "_law_number"]

theorem dLSomeInputs_ck : chkSs ⟨dLSomeInputsN, defScope (top 25), fun _ => true, dfs, xsL, xrL, hotL, msL, mksL, true⟩ dLSomeInputs.body (defBody (top 25)) = true := by decide +kernel
theorem dLSomeInputs_sc : FnScope dLSomeInputsN ["_law_flow_here", "_law_kinds_here"] (defScope (top 25)) := ⟨rfl, rfl, rfl, by decide +kernel, rfl, by decide +kernel, by decide +kernel⟩

def dLawN : List Str := ["_law_script", "_law_asked", "_law_k", "_law_flow_here", "_law_kinds_here", "_law_kind", "_law_wish", "_law_plan_here", "_law_inputs", "_law_due", "_law_found"]

theorem dLaw_ck : chkSs ⟨dLawN, defScope (top 26), fun _ => true, dfs, xsL, xrL, hotL, msL, mksL, true⟩ dLaw.body (defBody (top 26)) = true := by decide +kernel
theorem dLaw_sc : FnScope dLawN ["_law_script"] (defScope (top 26)) := ⟨rfl, rfl, rfl, by decide +kernel, rfl, by decide +kernel, by decide +kernel⟩

end Z

set_option Elab.async false
set_option linter.all false
set_option maxRecDepth 100000
set_option maxHeartbeats 4000000
namespace Z
open PySem PySem.Spec PyProof.Rows L2
theorem all_mk {P : Program} {w : World} {K : PySem.W.Frag} {h : Heap} {mg : Str → Option Value} {fa : Addr} (X : K.In h) (G : h.Ns mainGlobals mg) (hfa : mg "law" = some (.ref fa))
    {f0 f1 f2 f3 f4 f5 f6 f7 f8 f9 f10 f11 f12 f13 f14 f15 f16 f17 f18 f19 f20 : Addr} {od0 od1 od2 od3 od4 od5 od6 od7 od8 od9 od10 od11 od12 od13 od14 od15 od16 od17 od18 od19 od20 an0 an1 an2 an3 an4 an5 an6 an7 an8 an9 an10 an11 an12 an13 an14 an15 an16 an17 an18 an19 an20 : Option Addr} {sl0 sl1 sl2 sl3 sl4 sl5 sl6 sl7 sl8 sl9 sl10 sl11 sl12 sl13 sl14 sl15 sl16 sl17 sl18 sl19 sl20 : Array (Option Value)} {oc0 oc1 oc2 oc3 oc4 oc5 oc6 oc7 oc8 oc9 oc10 oc11 oc12 oc13 oc14 oc15 oc16 oc17 oc18 oc19 oc20 kV0 kV1 kV2 kV3 kV4 kV5 kV6 kV7 kV8 kV9 kV10 kV11 kV12 kV13 kV14 kV15 kV16 kV17 kV18 kV19 kV20 dc0 dc1 dc2 dc3 dc4 dc5 dc6 dc7 dc8 dc9 dc10 dc11 dc12 dc13 dc14 dc15 dc16 dc17 dc18 dc19 dc20 pm0 pm1 pm2 pm3 pm4 pm5 pm6 pm7 pm8 pm9 pm10 pm11 pm12 pm13 pm14 pm15 pm16 pm17 pm18 pm19 pm20 cd0 cd1 cd2 cd3 cd4 cd5 cd6 cd7 cd8 cd9 cd10 cd11 cd12 cd13 cd14 cd15 cd16 cd17 cd18 cd19 cd20 ct0 ct1 ct2 ct3 ct4 ct5 ct6 ct7 ct8 ct9 ct10 ct11 ct12 ct13 ct14 ct15 ct16 ct17 ct18 ct19 ct20 : Value} {g0 : Addr} {es0 : Array DictEntry} {n0 : Nat} {g1 : Addr} {o1 : Obj} {it1 : Array Value} {n1 : Nat}
    (a0 : PySem.W.nsIn K mainGlobals "is_whole" = some (some (.ref f0)))
    (l0 : K.lookup f0 = some ⟨oc0, od0, .func (PySem.W.fnOf "is_whole" "is_whole" (defArgs (top 3)) (defBody (top 3)) (defScope (top 3)) .none kV0 dc0 pm0 an0 cd0 ct0), sl0⟩) (c0 : PySem.W.codeIn K cd0 "is_whole" = true) (k0 : PySem.W.keepIn K (.ref f0) = true)
    (a1 : PySem.W.nsIn K mainGlobals "has_form" = some (some (.ref f1)))
    (l1 : K.lookup f1 = some ⟨oc1, od1, .func (PySem.W.fnOf "has_form" "has_form" (defArgs (top 4)) (defBody (top 4)) (defScope (top 4)) .none kV1 dc1 pm1 an1 cd1 ct1), sl1⟩) (c1 : PySem.W.codeIn K cd1 "has_form" = true) (k1 : PySem.W.keepIn K (.ref f1) = true)
    (a2 : PySem.W.nsIn K mainGlobals "parts_of" = some (some (.ref f2)))
    (l2 : K.lookup f2 = some ⟨oc2, od2, .func (PySem.W.fnOf "parts_of" "parts_of" (defArgs (top 5)) (defBody (top 5)) (defScope (top 5)) .none kV2 dc2 pm2 an2 cd2 ct2), sl2⟩) (c2 : PySem.W.codeIn K cd2 "parts_of" = true) (k2 : PySem.W.keepIn K (.ref f2) = true)
    (a3 : PySem.W.nsIn K mainGlobals "knots" = some (some (.ref f3)))
    (l3 : K.lookup f3 = some ⟨oc3, od3, .func (PySem.W.fnOf "knots" "knots" (defArgs (top 6)) (defBody (top 6)) (defScope (top 6)) .none kV3 dc3 pm3 an3 cd3 ct3), sl3⟩) (c3 : PySem.W.codeIn K cd3 "knots" = true) (k3 : PySem.W.keepIn K (.ref f3) = true)
    (a4 : PySem.W.nsIn K mainGlobals "put" = some (some (.ref f4)))
    (l4 : K.lookup f4 = some ⟨oc4, od4, .func (PySem.W.fnOf "put" "put" (defArgs (top 7)) (defBody (top 7)) (defScope (top 7)) .none kV4 dc4 pm4 an4 cd4 ct4), sl4⟩) (c4 : PySem.W.codeIn K cd4 "put" = true) (k4 : PySem.W.keepIn K (.ref f4) = true)
    (a5 : PySem.W.nsIn K mainGlobals "made_of" = some (some (.ref f5)))
    (l5 : K.lookup f5 = some ⟨oc5, od5, .func (PySem.W.fnOf "made_of" "made_of" (defArgs (top 9)) (defBody (top 9)) (defScope (top 9)) .none kV5 dc5 pm5 an5 cd5 ct5), sl5⟩) (c5 : PySem.W.codeIn K cd5 "made_of" = true) (k5 : PySem.W.keepIn K (.ref f5) = true)
    (a6 : PySem.W.nsIn K mainGlobals "value" = some (some (.ref f6)))
    (l6 : K.lookup f6 = some ⟨oc6, od6, .func (PySem.W.fnOf "value" "value" (defArgs (top 10)) (defBody (top 10)) (defScope (top 10)) .none kV6 dc6 pm6 an6 cd6 ct6), sl6⟩) (c6 : PySem.W.codeIn K cd6 "value" = true) (k6 : PySem.W.keepIn K (.ref f6) = true)
    (a7 : PySem.W.nsIn K mainGlobals "inputs_of" = some (some (.ref f7)))
    (l7 : K.lookup f7 = some ⟨oc7, od7, .func (PySem.W.fnOf "inputs_of" "inputs_of" (defArgs (top 12)) (defBody (top 12)) (defScope (top 12)) .none kV7 dc7 pm7 an7 cd7 ct7), sl7⟩) (c7 : PySem.W.codeIn K cd7 "inputs_of" = true) (k7 : PySem.W.keepIn K (.ref f7) = true)
    (a8 : PySem.W.nsIn K mainGlobals "met_by" = some (some (.ref f8)))
    (l8 : K.lookup f8 = some ⟨oc8, od8, .func (PySem.W.fnOf "met_by" "met_by" (defArgs (top 13)) (defBody (top 13)) (defScope (top 13)) .none kV8 dc8 pm8 an8 cd8 ct8), sl8⟩) (c8 : PySem.W.codeIn K cd8 "met_by" = true) (k8 : PySem.W.keepIn K (.ref f8) = true)
    (a9 : PySem.W.nsIn K mainGlobals "_law_cell" = some (some (.ref f9)))
    (l9 : K.lookup f9 = some ⟨oc9, od9, .func (PySem.W.fnOf "_law_cell" "_law_cell" (defArgs (top 15)) (defBody (top 15)) (defScope (top 15)) .none kV9 dc9 pm9 an9 cd9 ct9), sl9⟩) (c9 : PySem.W.codeIn K cd9 "_law_cell" = true) (k9 : PySem.W.keepIn K (.ref f9) = true)
    (a10 : PySem.W.nsIn K mainGlobals "_law_flow" = some (some (.ref f10)))
    (l10 : K.lookup f10 = some ⟨oc10, od10, .func (PySem.W.fnOf "_law_flow" "_law_flow" (defArgs (top 16)) (defBody (top 16)) (defScope (top 16)) .none kV10 dc10 pm10 an10 cd10 ct10), sl10⟩) (c10 : PySem.W.codeIn K cd10 "_law_flow" = true) (k10 : PySem.W.keepIn K (.ref f10) = true)
    (a11 : PySem.W.nsIn K mainGlobals "_law_draw" = some (some (.ref f11)))
    (l11 : K.lookup f11 = some ⟨oc11, od11, .func (PySem.W.fnOf "_law_draw" "_law_draw" (defArgs (top 17)) (defBody (top 17)) (defScope (top 17)) .none kV11 dc11 pm11 an11 cd11 ct11), sl11⟩) (c11 : PySem.W.codeIn K cd11 "_law_draw" = true) (k11 : PySem.W.keepIn K (.ref f11) = true)
    (a12 : PySem.W.nsIn K mainGlobals "_law_kinds" = some (some (.ref f12)))
    (l12 : K.lookup f12 = some ⟨oc12, od12, .func (PySem.W.fnOf "_law_kinds" "_law_kinds" (defArgs (top 18)) (defBody (top 18)) (defScope (top 18)) .none kV12 dc12 pm12 an12 cd12 ct12), sl12⟩) (c12 : PySem.W.codeIn K cd12 "_law_kinds" = true) (k12 : PySem.W.keepIn K (.ref f12) = true)
    (a13 : PySem.W.nsIn K mainGlobals "_law_little" = some (some (.ref f13)))
    (l13 : K.lookup f13 = some ⟨oc13, od13, .func (PySem.W.fnOf "_law_little" "_law_little" (defArgs (top 19)) (defBody (top 19)) (defScope (top 19)) .none kV13 dc13 pm13 an13 cd13 ct13), sl13⟩) (c13 : PySem.W.codeIn K cd13 "_law_little" = true) (k13 : PySem.W.keepIn K (.ref f13) = true)
    (a14 : PySem.W.nsIn K mainGlobals "_law_leaf" = some (some (.ref f14)))
    (l14 : K.lookup f14 = some ⟨oc14, od14, .func (PySem.W.fnOf "_law_leaf" "_law_leaf" (defArgs (top 20)) (defBody (top 20)) (defScope (top 20)) .none kV14 dc14 pm14 an14 cd14 ct14), sl14⟩) (c14 : PySem.W.codeIn K cd14 "_law_leaf" = true) (k14 : PySem.W.keepIn K (.ref f14) = true)
    (a15 : PySem.W.nsIn K mainGlobals "_law_plan" = some (some (.ref f15)))
    (l15 : K.lookup f15 = some ⟨oc15, od15, .func (PySem.W.fnOf "_law_plan" "_law_plan" (defArgs (top 21)) (defBody (top 21)) (defScope (top 21)) .none kV15 dc15 pm15 an15 cd15 ct15), sl15⟩) (c15 : PySem.W.codeIn K cd15 "_law_plan" = true) (k15 : PySem.W.keepIn K (.ref f15) = true)
    (a16 : PySem.W.nsIn K mainGlobals "_law_inner" = some (some (.ref f16)))
    (l16 : K.lookup f16 = some ⟨oc16, od16, .func (PySem.W.fnOf "_law_inner" "_law_inner" (defArgs (top 22)) (defBody (top 22)) (defScope (top 22)) .none kV16 dc16 pm16 an16 cd16 ct16), sl16⟩) (c16 : PySem.W.codeIn K cd16 "_law_inner" = true) (k16 : PySem.W.keepIn K (.ref f16) = true)
    (a17 : PySem.W.nsIn K mainGlobals "_law_worth" = some (some (.ref f17)))
    (l17 : K.lookup f17 = some ⟨oc17, od17, .func (PySem.W.fnOf "_law_worth" "_law_worth" (defArgs (top 23)) (defBody (top 23)) (defScope (top 23)) .none kV17 dc17 pm17 an17 cd17 ct17), sl17⟩) (c17 : PySem.W.codeIn K cd17 "_law_worth" = true) (k17 : PySem.W.keepIn K (.ref f17) = true)
    (a18 : PySem.W.nsIn K mainGlobals "_law_put" = some (some (.ref f18)))
    (l18 : K.lookup f18 = some ⟨oc18, od18, .func (PySem.W.fnOf "_law_put" "_law_put" (defArgs (top 24)) (defBody (top 24)) (defScope (top 24)) .none kV18 dc18 pm18 an18 cd18 ct18), sl18⟩) (c18 : PySem.W.codeIn K cd18 "_law_put" = true) (k18 : PySem.W.keepIn K (.ref f18) = true)
    (a19 : PySem.W.nsIn K mainGlobals "_law_some_inputs" = some (some (.ref f19)))
    (l19 : K.lookup f19 = some ⟨oc19, od19, .func (PySem.W.fnOf "_law_some_inputs" "_law_some_inputs" (defArgs (top 25)) (defBody (top 25)) (defScope (top 25)) .none kV19 dc19 pm19 an19 cd19 ct19), sl19⟩) (c19 : PySem.W.codeIn K cd19 "_law_some_inputs" = true) (k19 : PySem.W.keepIn K (.ref f19) = true)
    (a20 : PySem.W.nsIn K mainGlobals "law" = some (some (.ref f20)))
    (l20 : K.lookup f20 = some ⟨oc20, od20, .func (PySem.W.fnOf "law" "law" (defArgs (top 26)) (defBody (top 26)) (defScope (top 26)) .none kV20 dc20 pm20 an20 cd20 ct20), sl20⟩) (c20 : PySem.W.codeIn K cd20 "law" = true) (k20 : PySem.W.keepIn K (.ref f20) = true)
    (ga0 : PySem.W.nsIn K mainGlobals "PARTS" = some (some (.ref g0))) (gl0 : K.lookup g0 = some ⟨.type "dict", none, .dict es0 n0, #[]⟩) (gk0 : PySem.W.KeysLit w.params es0.toList) (gm0 : EsOf es0.toList [("in", 0), ("num", 0), ("yes", 0), ("no", 0), ("plus", 1), ("least", 2), ("most", 2), ("atmost", 2), ("not", 1), ("both", 2), ("either", 2), ("if", 3)]) (go0 : (g0 == sysModules) = false)
    (ga1 : PySem.W.nsIn K mainGlobals "NUMBERED" = some (some (.ref g1))) (gl1 : K.lookup g1 = some o1) (gc1 : o1.cls = .type "tuple") (gd1 : o1.data = .seq it1 n1) (gv1 : Vals [V.str "in", V.str "num", V.str "plus"] it1.toList) (gz1 : it1.size ≤ sizeLine)
    (z0 : PySem.W.nsIn K mainGlobals "len" = some none)
    (z1 : PySem.W.nsIn K mainGlobals "isinstance" = some none)
    (z2 : PySem.W.nsIn K mainGlobals "max" = some none)
    (z3 : PySem.W.nsIn K mainGlobals "min" = some none)
    (z4 : PySem.W.nsIn K mainGlobals "abs" = some none)
    (z5 : PySem.W.nsIn K mainGlobals "all" = some none)
    (z6 : PySem.W.nsIn K mainGlobals "any" = some none)
    (z7 : PySem.W.nsIn K mainGlobals "sum" = some none)
    (z8 : PySem.W.nsIn K mainGlobals "tuple" = some none)
    (z9 : PySem.W.nsIn K mainGlobals "list" = some none)
    (z10 : PySem.W.nsIn K mainGlobals "int" = some none)
    (z11 : PySem.W.nsIn K mainGlobals "str" = some none)
    (z12 : PySem.W.nsIn K mainGlobals "bool" = some none)
    (z13 : PySem.W.nsIn K mainGlobals "dict" = some none)
    (z14 : PySem.W.nsIn K mainGlobals "range" = some none)
    (z15 : PySem.W.nsIn K mainGlobals "enumerate" = some none)
    (z16 : PySem.W.nsIn K mainGlobals "zip" = some none)
    (z17 : PySem.W.nsIn K mainGlobals "reversed" = some none)
    (z18 : PySem.W.nsIn K mainGlobals "set" = some none)
    (z19 : PySem.W.nsIn K mainGlobals "repr" = some none)
    (z20 : PySem.W.nsIn K mainGlobals "sorted" = some none) :
    ∃ fd : FuncData, (∀ (s : Shared) (u : Value), BindsTo s fd ⟨[u], []⟩ [("_law_script", u)]) ∧ ∀ base : Heap, K.In base → base.Ns mainGlobals mg → FnG P w K mg base (L2.CX P w) 44 fa fd ["_law_script"] (spD K w 1 (sem defs gl 21 "law")) := by
  have F0 := fun_mk (st := top 3) l0 c0 k0
  have B0 : Binds K _ ["thing"] [] := F0.binds (ps := ["thing"]) (fun _ _ _ _ _ _ us hl => match us, hl with | [_], _ => rfl)
  have D0 : DFact K w mg dfs xsL xrL hotL msL mksL "is_whole" dIsWhole f0 _ dIsWholeN ["thing"] (top 3) := ⟨fun _ => PySem.W.mg_of X G a0, ⟨_, [], [], fun_to F0⟩, fun z => absurd z (by decide +kernel), fun _ => B0, kb_no (by decide +kernel), rfl, rfl, dIsWhole_sc, dIsWhole_ck, fun z => absurd z (by decide +kernel), ms_no (by decide +kernel), mk_no (by decide +kernel)⟩
  have F1 := fun_mk (st := top 4) l1 c1 k1
  have B1 : Binds K _ ["knot"] [] := F1.binds (ps := ["knot"]) (fun _ _ _ _ _ _ us hl => match us, hl with | [_], _ => rfl)
  have D1 : DFact K w mg dfs xsL xrL hotL msL mksL "has_form" dHasForm f1 _ dHasFormN ["knot"] (top 4) := ⟨fun _ => PySem.W.mg_of X G a1, ⟨_, [], [], fun_to F1⟩, fun z => absurd z (by decide +kernel), fun _ => B1, kb_no (by decide +kernel), rfl, rfl, dHasForm_sc, dHasForm_ck, fun z => absurd z (by decide +kernel), ms_no (by decide +kernel), mk_no (by decide +kernel)⟩
  have F2 := fun_mk (st := top 5) l2 c2 k2
  have B2 : Binds K _ ["knot"] [] := F2.binds (ps := ["knot"]) (fun _ _ _ _ _ _ us hl => match us, hl with | [_], _ => rfl)
  have D2 : DFact K w mg dfs xsL xrL hotL msL mksL "parts_of" dPartsOf f2 _ dPartsOfN ["knot"] (top 5) := ⟨fun _ => PySem.W.mg_of X G a2, ⟨_, [], [], fun_to F2⟩, fun z => absurd z (by decide +kernel), fun _ => B2, kb_no (by decide +kernel), rfl, rfl, dPartsOf_sc, dPartsOf_ck, fun z => absurd z (by decide +kernel), ms_no (by decide +kernel), mk_no (by decide +kernel)⟩
  have F3 := fun_mk (st := top 6) l3 c3 k3
  have B3 : Binds K _ ["program"] [] := F3.binds (ps := ["program"]) (fun _ _ _ _ _ _ us hl => match us, hl with | [_], _ => rfl)
  have D3 : DFact K w mg dfs xsL xrL hotL msL mksL "knots" dKnots f3 _ dKnotsN ["program"] (top 6) := ⟨fun _ => PySem.W.mg_of X G a3, ⟨_, [], [], fun_to F3⟩, fun z => absurd z (by decide +kernel), fun _ => B3, kb_no (by decide +kernel), rfl, rfl, dKnots_sc, dKnots_ck, fun z => absurd z (by decide +kernel), ms_no (by decide +kernel), mk_no (by decide +kernel)⟩
  have F4 := fun_mk (st := top 7) l4 c4 k4
  have B4 : Binds K _ ["program", "some"] [] := F4.binds (ps := ["program", "some"]) (fun _ _ _ _ _ _ us hl => match us, hl with | [_, _], _ => rfl)
  have D4 : DFact K w mg dfs xsL xrL hotL msL mksL "put" dPut f4 _ dPutN ["program", "some"] (top 7) := ⟨fun _ => PySem.W.mg_of X G a4, ⟨_, [], [], fun_to F4⟩, fun z => absurd z (by decide +kernel), fun _ => B4, kb_no (by decide +kernel), rfl, rfl, dPut_sc, dPut_ck, fun z => absurd z (by decide +kernel), ms_no (by decide +kernel), mk_no (by decide +kernel)⟩
  have F5 := fun_mk (st := top 9) l5 c5 k5
  have B5 : Binds K _ ["word", "parts"] [] := F5.binds (ps := ["word", "parts"]) (fun _ _ _ _ _ _ us hl => match us, hl with | [_, _], _ => rfl)
  have D5 : DFact K w mg dfs xsL xrL hotL msL mksL "made_of" dMadeOf f5 _ dMadeOfN ["word", "parts"] (top 9) := ⟨fun _ => PySem.W.mg_of X G a5, ⟨_, [], [], fun_to F5⟩, fun z => absurd z (by decide +kernel), fun _ => B5, kb_no (by decide +kernel), rfl, rfl, dMadeOf_sc, dMadeOf_ck, fun z => absurd z (by decide +kernel), ms_no (by decide +kernel), mk_no (by decide +kernel)⟩
  have F6 := fun_mk (st := top 10) l6 c6 k6
  have B6 : Binds K _ ["program", "inputs"] [] := F6.binds (ps := ["program", "inputs"]) (fun _ _ _ _ _ _ us hl => match us, hl with | [_, _], _ => rfl)
  have D6 : DFact K w mg dfs xsL xrL hotL msL mksL "value" dValue f6 _ dValueN ["program", "inputs"] (top 10) := ⟨fun _ => PySem.W.mg_of X G a6, ⟨_, [], [], fun_to F6⟩, fun z => absurd z (by decide +kernel), fun _ => B6, kb_no (by decide +kernel), rfl, rfl, dValue_sc, dValue_ck, fun z => absurd z (by decide +kernel), ms_no (by decide +kernel), mk_no (by decide +kernel)⟩
  have F7 := fun_mk (st := top 12) l7 c7 k7
  have B7 : Binds K _ ["many"] [] := F7.binds (ps := ["many"]) (fun _ _ _ _ _ _ us hl => match us, hl with | [_], _ => rfl)
  have D7 : DFact K w mg dfs xsL xrL hotL msL mksL "inputs_of" dInputsOf f7 _ dInputsOfN ["many"] (top 12) := ⟨fun _ => PySem.W.mg_of X G a7, ⟨_, [], [], fun_to F7⟩, fun z => absurd z (by decide +kernel), fun _ => B7, kb_no (by decide +kernel), rfl, rfl, dInputsOf_sc, dInputsOf_ck, fun z => absurd z (by decide +kernel), ms_no (by decide +kernel), mk_no (by decide +kernel)⟩
  have F8 := fun_mk (st := top 13) l8 c8 k8
  have KB8 : KBn K _ ["wish", "program", "many"] 2 ["many"] (fun us ws => us ++ ws) (fun vs zs => vs ++ zs) := kb_of F8 (fun _ _ _ _ _ _ us ws hl hk => match us, hl, ws, hk with | [_, _], _, [_], _ => rfl)
  have D8 : DFact K w mg dfs xsL xrL hotL msL mksL "met_by" dMetBy f8 _ dMetByN ["wish", "program", "many"] (top 13) := ⟨fun _ => PySem.W.mg_of X G a8, ⟨_, [], [], fun_to F8⟩, fun z => absurd z (by decide +kernel), bd_no (m := 2) (js := ["many"]) (by decide +kernel), kb_yes (by decide +kernel) KB8, rfl, rfl, dMetBy_sc, dMetBy_ck, fun z => absurd z (by decide +kernel), ms_no (by decide +kernel), mk_no (by decide +kernel)⟩
  have F9 := fun_mk (st := top 15) l9 c9 k9
  have B9 : Binds K _ ["_law_script", "_law_k"] [] := F9.binds (ps := ["_law_script", "_law_k"]) (fun _ _ _ _ _ _ us hl => match us, hl with | [_, _], _ => rfl)
  have D9 : DFact K w mg dfs xsL xrL hotL msL mksL "_law_cell" dLCell f9 _ dLCellN ["_law_script", "_law_k"] (top 15) := ⟨fun _ => PySem.W.mg_of X G a9, ⟨_, [], [], fun_to F9⟩, fun z => absurd z (by decide +kernel), fun _ => B9, kb_no (by decide +kernel), rfl, rfl, dLCell_sc, dLCell_ck, fun z => absurd z (by decide +kernel), ms_no (by decide +kernel), mk_no (by decide +kernel)⟩
  have F10 := fun_mk (st := top 16) l10 c10 k10
  have B10 : Binds K _ ["_law_script", "_law_k"] [] := F10.binds (ps := ["_law_script", "_law_k"]) (fun _ _ _ _ _ _ us hl => match us, hl with | [_, _], _ => rfl)
  have D10 : DFact K w mg dfs xsL xrL hotL msL mksL "_law_flow" dLFlow f10 _ dLFlowN ["_law_script", "_law_k"] (top 16) := ⟨fun _ => PySem.W.mg_of X G a10, ⟨_, [], [], fun_to F10⟩, fun z => absurd z (by decide +kernel), fun _ => B10, kb_no (by decide +kernel), rfl, rfl, dLFlow_sc, dLFlow_ck, fun z => absurd z (by decide +kernel), ms_no (by decide +kernel), mk_no (by decide +kernel)⟩
  have F11 := fun_mk (st := top 17) l11 c11 k11
  have B11 : Binds K _ ["_law_flow_here", "_law_wide"] [] := F11.binds (ps := ["_law_flow_here", "_law_wide"]) (fun _ _ _ _ _ _ us hl => match us, hl with | [_, _], _ => rfl)
  have D11 : DFact K w mg dfs xsL xrL hotL msL mksL "_law_draw" dLDraw f11 _ dLDrawN ["_law_flow_here", "_law_wide"] (top 17) := ⟨fun _ => PySem.W.mg_of X G a11, ⟨_, [], [], fun_to F11⟩, fun z => absurd z (by decide +kernel), fun _ => B11, kb_no (by decide +kernel), rfl, rfl, dLDraw_sc, dLDraw_ck, fun z => absurd z (by decide +kernel), ms_no (by decide +kernel), mk_no (by decide +kernel)⟩
  have F12 := fun_mk (st := top 18) l12 c12 k12
  have B12 : Binds K _ ["_law_flow_here", "_law_top"] [] := F12.binds (ps := ["_law_flow_here", "_law_top"]) (fun _ _ _ _ _ _ us hl => match us, hl with | [_, _], _ => rfl)
  have D12 : DFact K w mg dfs xsL xrL hotL msL mksL "_law_kinds" dLKindsB f12 _ dLKindsBN ["_law_flow_here", "_law_top"] (top 18) := ⟨fun _ => PySem.W.mg_of X G a12, ⟨_, [], [], fun_to F12⟩, fun z => absurd z (by decide +kernel), fun _ => B12, kb_no (by decide +kernel), rfl, rfl, dLKindsB_sc, dLKindsB_ck, fun z => absurd z (by decide +kernel), ms_no (by decide +kernel), mk_no (by decide +kernel)⟩
  have F13 := fun_mk (st := top 19) l13 c13 k13
  have B13 : Binds K _ ["_law_flow_here"] [] := F13.binds (ps := ["_law_flow_here"]) (fun _ _ _ _ _ _ us hl => match us, hl with | [_], _ => rfl)
  have D13 : DFact K w mg dfs xsL xrL hotL msL mksL "_law_little" dLLittle f13 _ dLLittleN ["_law_flow_here"] (top 19) := ⟨fun _ => PySem.W.mg_of X G a13, ⟨_, [], [], fun_to F13⟩, fun z => absurd z (by decide +kernel), fun _ => B13, kb_no (by decide +kernel), rfl, rfl, dLLittle_sc, dLLittle_ck, fun z => absurd z (by decide +kernel), ms_no (by decide +kernel), mk_no (by decide +kernel)⟩
  have F14 := fun_mk (st := top 20) l14 c14 k14
  have B14 : Binds K _ ["_law_flow_here", "_law_kinds_here", "_law_kind"] [] := F14.binds (ps := ["_law_flow_here", "_law_kinds_here", "_law_kind"]) (fun _ _ _ _ _ _ us hl => match us, hl with | [_, _, _], _ => rfl)
  have D14 : DFact K w mg dfs xsL xrL hotL msL mksL "_law_leaf" dLLeafB f14 _ dLLeafBN ["_law_flow_here", "_law_kinds_here", "_law_kind"] (top 20) := ⟨fun _ => PySem.W.mg_of X G a14, ⟨_, [], [], fun_to F14⟩, fun z => absurd z (by decide +kernel), fun _ => B14, kb_no (by decide +kernel), rfl, rfl, dLLeafB_sc, dLLeafB_ck, fun z => absurd z (by decide +kernel), ms_no (by decide +kernel), mk_no (by decide +kernel)⟩
  have F15 := fun_mk (st := top 21) l15 c15 k15
  have B15 : Binds K _ ["_law_flow_here", "_law_kinds_here", "_law_kind", "_law_room"] [] := F15.binds (ps := ["_law_flow_here", "_law_kinds_here", "_law_kind", "_law_room"]) (fun _ _ _ _ _ _ us hl => match us, hl with | [_, _, _, _], _ => rfl)
  have D15 : DFact K w mg dfs xsL xrL hotL msL mksL "_law_plan" dLPlan f15 _ dLPlanN ["_law_flow_here", "_law_kinds_here", "_law_kind", "_law_room"] (top 21) := ⟨fun _ => PySem.W.mg_of X G a15, ⟨_, [], [], fun_to F15⟩, fun z => absurd z (by decide +kernel), fun _ => B15, kb_no (by decide +kernel), rfl, rfl, dLPlan_sc, dLPlan_ck, fun z => absurd z (by decide +kernel), ms_no (by decide +kernel), mk_no (by decide +kernel)⟩
  have F16 := fun_mk (st := top 22) l16 c16 k16
  have B16 : Binds K _ ["_law_knot"] [] := F16.binds (ps := ["_law_knot"]) (fun _ _ _ _ _ _ us hl => match us, hl with | [_], _ => rfl)
  have D16 : DFact K w mg dfs xsL xrL hotL msL mksL "_law_inner" dLInner f16 _ dLInnerN ["_law_knot"] (top 22) := ⟨fun _ => PySem.W.mg_of X G a16, ⟨_, [], [], fun_to F16⟩, fun z => absurd z (by decide +kernel), fun _ => B16, kb_no (by decide +kernel), rfl, rfl, dLInner_sc, dLInner_ck, fun z => absurd z (by decide +kernel), ms_no (by decide +kernel), mk_no (by decide +kernel)⟩
  have F17 := fun_mk (st := top 23) l17 c17 k17
  have B17 : Binds K _ ["_law_plan_here", "_law_inputs"] [] := F17.binds (ps := ["_law_plan_here", "_law_inputs"]) (fun _ _ _ _ _ _ us hl => match us, hl with | [_, _], _ => rfl)
  have D17 : DFact K w mg dfs xsL xrL hotL msL mksL "_law_worth" dLWorth f17 _ dLWorthN ["_law_plan_here", "_law_inputs"] (top 23) := ⟨fun _ => PySem.W.mg_of X G a17, ⟨_, [], [], fun_to F17⟩, fun z => absurd z (by decide +kernel), fun _ => B17, kb_no (by decide +kernel), rfl, rfl, dLWorth_sc, dLWorth_ck, fun z => absurd z (by decide +kernel), ms_no (by decide +kernel), mk_no (by decide +kernel)⟩
  have F18 := fun_mk (st := top 24) l18 c18 k18
  have B18 : Binds K _ ["_law_plan_here", "_law_some"] [] := F18.binds (ps := ["_law_plan_here", "_law_some"]) (fun _ _ _ _ _ _ us hl => match us, hl with | [_, _], _ => rfl)
  have D18 : DFact K w mg dfs xsL xrL hotL msL mksL "_law_put" dLPut f18 _ dLPutN ["_law_plan_here", "_law_some"] (top 24) := ⟨fun _ => PySem.W.mg_of X G a18, ⟨_, [], [], fun_to F18⟩, fun z => absurd z (by decide +kernel), fun _ => B18, kb_no (by decide +kernel), rfl, rfl, dLPut_sc, dLPut_ck, fun z => absurd z (by decide +kernel), ms_no (by decide +kernel), mk_no (by decide +kernel)⟩
  have F19 := fun_mk (st := top 25) l19 c19 k19
  have B19 : Binds K _ ["_law_flow_here", "_law_kinds_here"] [] := F19.binds (ps := ["_law_flow_here", "_law_kinds_here"]) (fun _ _ _ _ _ _ us hl => match us, hl with | [_, _], _ => rfl)
  have D19 : DFact K w mg dfs xsL xrL hotL msL mksL "_law_some_inputs" dLSomeInputs f19 _ dLSomeInputsN ["_law_flow_here", "_law_kinds_here"] (top 25) := ⟨fun _ => PySem.W.mg_of X G a19, ⟨_, [], [], fun_to F19⟩, fun z => absurd z (by decide +kernel), fun _ => B19, kb_no (by decide +kernel), rfl, rfl, dLSomeInputs_sc, dLSomeInputs_ck, fun z => absurd z (by decide +kernel), ms_no (by decide +kernel), mk_no (by decide +kernel)⟩
  have F20 := fun_mk (st := top 26) l20 c20 k20
  have B20 : Binds K _ ["_law_script"] [] := F20.binds (ps := ["_law_script"]) (fun _ _ _ _ _ _ us hl => match us, hl with | [_], _ => rfl)
  have D20 : DFact K w mg dfs xsL xrL hotL msL mksL "law" dLaw f20 _ dLawN ["_law_script"] (top 26) := ⟨fun _ => PySem.W.mg_of X G a20, ⟨_, [], [], fun_to F20⟩, fun z => absurd z (by decide +kernel), fun _ => B20, kb_no (by decide +kernel), rfl, rfl, dLaw_sc, dLaw_ck, fun z => absurd z (by decide +kernel), ms_no (by decide +kernel), mk_no (by decide +kernel)⟩
  have GF : GFact K w mg dfs xsL xrL hotL msL mksL defs gl := {
    df := fun f d e => by
      have all : ∀ p ∈ table, ∃ fa fd N ps st, DFact K w mg dfs xsL xrL hotL msL mksL p.1 p.2 fa fd N ps st := by
        refine List.forall_mem_cons.mpr ⟨⟨_, _, _, _, _, D0⟩, ?_⟩
        refine List.forall_mem_cons.mpr ⟨⟨_, _, _, _, _, D1⟩, ?_⟩
        refine List.forall_mem_cons.mpr ⟨⟨_, _, _, _, _, D2⟩, ?_⟩
        refine List.forall_mem_cons.mpr ⟨⟨_, _, _, _, _, D3⟩, ?_⟩
        refine List.forall_mem_cons.mpr ⟨⟨_, _, _, _, _, D4⟩, ?_⟩
        refine List.forall_mem_cons.mpr ⟨⟨_, _, _, _, _, D5⟩, ?_⟩
        refine List.forall_mem_cons.mpr ⟨⟨_, _, _, _, _, D6⟩, ?_⟩
        refine List.forall_mem_cons.mpr ⟨⟨_, _, _, _, _, D7⟩, ?_⟩
        refine List.forall_mem_cons.mpr ⟨⟨_, _, _, _, _, D8⟩, ?_⟩
        refine List.forall_mem_cons.mpr ⟨⟨_, _, _, _, _, D9⟩, ?_⟩
        refine List.forall_mem_cons.mpr ⟨⟨_, _, _, _, _, D10⟩, ?_⟩
        refine List.forall_mem_cons.mpr ⟨⟨_, _, _, _, _, D11⟩, ?_⟩
        refine List.forall_mem_cons.mpr ⟨⟨_, _, _, _, _, D12⟩, ?_⟩
        refine List.forall_mem_cons.mpr ⟨⟨_, _, _, _, _, D13⟩, ?_⟩
        refine List.forall_mem_cons.mpr ⟨⟨_, _, _, _, _, D14⟩, ?_⟩
        refine List.forall_mem_cons.mpr ⟨⟨_, _, _, _, _, D15⟩, ?_⟩
        refine List.forall_mem_cons.mpr ⟨⟨_, _, _, _, _, D16⟩, ?_⟩
        refine List.forall_mem_cons.mpr ⟨⟨_, _, _, _, _, D17⟩, ?_⟩
        refine List.forall_mem_cons.mpr ⟨⟨_, _, _, _, _, D18⟩, ?_⟩
        refine List.forall_mem_cons.mpr ⟨⟨_, _, _, _, _, D19⟩, ?_⟩
        refine List.forall_mem_cons.mpr ⟨⟨_, _, _, _, _, D20⟩, ?_⟩
        exact fun p hp => nomatch hp
      exact all _ (mem_of_lookup e)
    hdf := fun f hf => by
      have : dfs.all (fun f => (defs f).isSome) = true := by decide +kernel
      have h2 := List.all_eq_true.mp this f (by simpa using hf)
      cases e : defs f with
      | none => rw [e] at h2; cases h2
      | some d => exact ⟨d, rfl⟩
    hms := hms_of (by decide +kernel)
    hmk := hmk_of (by decide +kernel)
    hotd := hotd_of (by decide +kernel)
    nkw := nkw_of (by decide +kernel)
    gls := fun x d e => by
      have all : ∀ p ∈ glT, ∃ u v, mg p.1 = some u ∧ RelV v u ∧ ∀ H, RelD K w H p.2 v := by
        refine List.forall_mem_cons.mpr ⟨by exact ⟨_, .ref g0, PySem.W.mg_of X G ga0, rfl, fun H => by simp only [RelD]; exact ⟨g0, rfl, cd_of ⟨gl0, gk0, go0⟩ gm0⟩⟩, ?_⟩
        refine List.forall_mem_cons.mpr ⟨by exact ⟨_, .ref g1, PySem.W.mg_of X G ga1, rfl, fun H => by simp only [RelD]; exact ⟨g1, _, rfl, .inr ⟨o1, it1, n1, gl1, gc1, gd1, gz1, gv1⟩, by simp [RelDs, RelD]⟩⟩, ?_⟩
        exact fun p hp => nomatch hp
      exact all _ (mem_of_lookup e)
    blt := fun n hn => by
      simp only [bnames, List.mem_cons, List.not_mem_nil, or_false] at hn
      rcases hn with rfl | rfl | rfl | rfl | rfl | rfl | rfl | rfl | rfl | rfl | rfl | rfl | rfl | rfl | rfl | rfl | rfl | rfl | rfl | rfl | rfl
      · exact PySem.W.mg_none_of X G z0
      · exact PySem.W.mg_none_of X G z1
      · exact PySem.W.mg_none_of X G z2
      · exact PySem.W.mg_none_of X G z3
      · exact PySem.W.mg_none_of X G z4
      · exact PySem.W.mg_none_of X G z5
      · exact PySem.W.mg_none_of X G z6
      · exact PySem.W.mg_none_of X G z7
      · exact PySem.W.mg_none_of X G z8
      · exact PySem.W.mg_none_of X G z9
      · exact PySem.W.mg_none_of X G z10
      · exact PySem.W.mg_none_of X G z11
      · exact PySem.W.mg_none_of X G z12
      · exact PySem.W.mg_none_of X G z13
      · exact PySem.W.mg_none_of X G z14
      · exact PySem.W.mg_none_of X G z15
      · exact PySem.W.mg_none_of X G z16
      · exact PySem.W.mg_none_of X G z17
      · exact PySem.W.mg_none_of X G z18
      · exact PySem.W.mg_none_of X G z19
      · exact PySem.W.mg_none_of X G z20
    xs := fun m hm => by simp [xsL] at hm
    xr := fun m hm => by simp [xrL] at hm
    }
  have e := hfa.symm.trans (PySem.W.mg_of X G a20)
  cases e
  exact ⟨_, fun s v => .of_eq rfl, fun base _ _ => all_ok GF 21 "law" dLaw _ _ _ _ _ rfl D20⟩
theorem walk {l : PySem.W.OpenLaw} {q : Program} {loose : List Str} {XP : (Str → Option Value) → Heap → Prop} {YP : World → Heap → Prop} {d : DefRec} {K : Params → PySem.W.Frag} (hn : l.most = some 63) (hdf : d.params.defaults = [])
    (hY : ∀ (w : World) (h : Heap), YP w h → (K w.params).In h)
    (F : ∀ (w : World) (mg : Str → Option Value) (fa : Addr) (h : Heap), (K w.params).In h → h.Ns mainGlobals mg → mg d.name = some (.ref fa) →
      ∃ fd : FuncData, (∀ (s : Shared) (u : Value), BindsTo s fd ⟨[u], []⟩ [("_law_script", u)]) ∧ ∀ base : Heap, (K w.params).In base → base.Ns mainGlobals mg → FnG l.prog w (K w.params) mg base (L2.CX l.prog w) 44 fa fd ["_law_script"] (spD (K w.params) w 1 (sem defs gl 21 "law"))) :
    PySem.W.WalkO q loose XP YP l.row.toRowW d [] (fun f vs => PySem.call f vs) :=
  walk_ofG (n := 63) (k := 44) (x := "_law_script") (CX := fun w => L2.CX l.prog w) (sp := fun w => spD (K w.params) w 1 (sem defs gl 21 "law")) hn (by decide) hdf ⟨⟨rfl, by decide, by decide⟩, rfl⟩ hY F (fun w H a ns hl hO hS => law_sp hO hS fun S hS0 => d_law ns hl S hS0) fun w H s e s' z => cx_false z
end Z
open PySem PySem.W PyProof.Rows
set_option maxRecDepth 100000 in
set_option maxHeartbeats 0 in
theorem PySem.Challenge.cw_leastmaker_k39_wishes_put_in_holds : PySem.Challenge.rw_leastmaker_k39_wishes_put_in.Holds := by
  w_on; o_law; k_head; (case hw => w_witness2)
  k_fill
  refine Z.walk (l := PySem.Challenge.rw_leastmaker_k39_wishes_put_in) rfl rfl (fun w h Y => PySem.W.kIn_of Y) ?F
  case F =>
    intro w mg fa h KX G hmg
    refine' Z.all_mk KX G hmg ?a0 ?l0 ?c0 ?k0 ?a1 ?l1 ?c1 ?k1 ?a2 ?l2 ?c2 ?k2 ?a3 ?l3 ?c3 ?k3 ?a4 ?l4 ?c4 ?k4 ?a5 ?l5 ?c5 ?k5 ?a6 ?l6 ?c6 ?k6 ?a7 ?l7 ?c7 ?k7 ?a8 ?l8 ?c8 ?k8 ?a9 ?l9 ?c9 ?k9 ?a10 ?l10 ?c10 ?k10 ?a11 ?l11 ?c11 ?k11 ?a12 ?l12 ?c12 ?k12 ?a13 ?l13 ?c13 ?k13 ?a14 ?l14 ?c14 ?k14 ?a15 ?l15 ?c15 ?k15 ?a16 ?l16 ?c16 ?k16 ?a17 ?l17 ?c17 ?k17 ?a18 ?l18 ?c18 ?k18 ?a19 ?l19 ?c19 ?k19 ?a20 ?l20 ?c20 ?k20 ?ga0 ?gl0 ?gk0 ?gm0 ?go0 ?ga1 ?gl1 ?gc1 ?gd1 ?gv1 ?gz1 ?z0 ?z1 ?z2 ?z3 ?z4 ?z5 ?z6 ?z7 ?z8 ?z9 ?z10 ?z11 ?z12 ?z13 ?z14 ?z15 ?z16 ?z17 ?z18 ?z19 ?z20
    (case a0 => k_is)
    (case l0 => k_is)
    (case c0 => k_is)
    (case k0 => k_is)
    (case a1 => k_is)
    (case l1 => k_is)
    (case c1 => k_is)
    (case k1 => k_is)
    (case a2 => k_is)
    (case l2 => k_is)
    (case c2 => k_is)
    (case k2 => k_is)
    (case a3 => k_is)
    (case l3 => k_is)
    (case c3 => k_is)
    (case k3 => k_is)
    (case a4 => k_is)
    (case l4 => k_is)
    (case c4 => k_is)
    (case k4 => k_is)
    (case a5 => k_is)
    (case l5 => k_is)
    (case c5 => k_is)
    (case k5 => k_is)
    (case a6 => k_is)
    (case l6 => k_is)
    (case c6 => k_is)
    (case k6 => k_is)
    (case a7 => k_is)
    (case l7 => k_is)
    (case c7 => k_is)
    (case k7 => k_is)
    (case a8 => k_is)
    (case l8 => k_is)
    (case c8 => k_is)
    (case k8 => k_is)
    (case a9 => k_is)
    (case l9 => k_is)
    (case c9 => k_is)
    (case k9 => k_is)
    (case a10 => k_is)
    (case l10 => k_is)
    (case c10 => k_is)
    (case k10 => k_is)
    (case a11 => k_is)
    (case l11 => k_is)
    (case c11 => k_is)
    (case k11 => k_is)
    (case a12 => k_is)
    (case l12 => k_is)
    (case c12 => k_is)
    (case k12 => k_is)
    (case a13 => k_is)
    (case l13 => k_is)
    (case c13 => k_is)
    (case k13 => k_is)
    (case a14 => k_is)
    (case l14 => k_is)
    (case c14 => k_is)
    (case k14 => k_is)
    (case a15 => k_is)
    (case l15 => k_is)
    (case c15 => k_is)
    (case k15 => k_is)
    (case a16 => k_is)
    (case l16 => k_is)
    (case c16 => k_is)
    (case k16 => k_is)
    (case a17 => k_is)
    (case l17 => k_is)
    (case c17 => k_is)
    (case k17 => k_is)
    (case a18 => k_is)
    (case l18 => k_is)
    (case c18 => k_is)
    (case k18 => k_is)
    (case a19 => k_is)
    (case l19 => k_is)
    (case c19 => k_is)
    (case k19 => k_is)
    (case a20 => k_is)
    (case l20 => k_is)
    (case c20 => k_is)
    (case k20 => k_is)
    (case ga0 => k_is)
    (case gl0 => k_is)
    (case gk0 => repeat (first | exact True.intro | refine ⟨⟨_, _, rfl, rfl⟩, ?_⟩))
    (case gm0 => repeat (first | exact True.intro | refine ⟨⟨_, rfl⟩, ⟨_, rfl⟩, ?_⟩))
    (case go0 => rfl)
    (case ga1 => k_is)
    (case gl1 => k_is)
    (case gc1 => rfl)
    (case gd1 => rfl)
    (case gv1 => repeat (first | exact .nil | exact ⟨_, rfl⟩ | refine .cons ?_ ?_))
    (case gz1 => exact (by decide))
    (case z0 => k_is)
    (case z1 => k_is)
    (case z2 => k_is)
    (case z3 => k_is)
    (case z4 => k_is)
    (case z5 => k_is)
    (case z6 => k_is)
    (case z7 => k_is)
    (case z8 => k_is)
    (case z9 => k_is)
    (case z10 => k_is)
    (case z11 => k_is)
    (case z12 => k_is)
    (case z13 => k_is)
    (case z14 => k_is)
    (case z15 => k_is)
    (case z16 => k_is)
    (case z17 => k_is)
    (case z18 => k_is)
    (case z19 => k_is)
    (case z20 => k_is)
#print axioms PySem.Challenge.cw_leastmaker_k39_wishes_put_in_holds


