import PyProof.Rows.All
import PySem.Challenge.RW_autoclosing_k03_pairs_of_texts
import Wide.All
import OpenK.AllK
import Wide.FinOn
import HandS.ForMost
import HandS.More
import HandS.Exc
import HandS.TryOnly
import HandS.ExcOwn
import HandS.WordsExc
import HandS.Wide
import HandS.IsInst
import HandS.Deep
import HandS.Style
import HandS.Zip
import KE.GoesMore
import KE.GoesEnum
import HandS.SortInts
import PyProof.ListStr
import HandS.Replace
import HandS.ReplaceLit
import HandS.ReplaceList
import HandS.ReplaceDef
import PyProof.Rows.StrRev
import HandS.Codes
import PyProof.ReprRoads
import PyProof.ReprBulk
import PyProof.Rows.ReprOcc
import PyProof.TupleOfStr
set_option Elab.async false
set_option linter.all false
set_option maxRecDepth 100000
set_option autoImplicit false
set_option maxHeartbeats 4000000
/-! Det: a deterministic reading over HandS: abstract values, an abstract heap by names, results. -/
namespace Det
open PySem PySem.Spec PyProof.Rows L2

/-- the constants of the modules that are objects -/
inductive CK where | empty | closingOf | letterOf | nameOf
  deriving DecidableEq
inductive AV where
  | non | bl (b : Bool) | int (i : Int) | str (s : List Nat) | ref (n : Nat) | con (k : CK) | scr (ns : List Int)
  deriving DecidableEq
abbrev AKey := Sum Int (List Nat)
inductive AO where
  | lst (xs : List AV) | rol (xs : List AV) | tup (xs : List AV) | dic (kvs : List (AKey × AV)) | ins (k : Nat) (fs : List (Str × AV)) | xd (fs : List (Str × AV))
  deriving DecidableEq
abbrev Hh := List AO
abbrev Sl := List (Option AV)
def AO.mut : AO → Bool
  | .lst _ => true | .dic _ => true | .ins _ _ => true | .xd _ => true | _ => false
structure AX where
  cls : Nat
  d : Option Nat
  deriving DecidableEq
inductive R (α : Type) where
  | ok (a : α) (h : Hh) | ex (x : AX) (h : Hh) | no
def R.bind {α β : Type} (r : R α) (k : α → Hh → R β) : R β := match r with
  | .ok a h => k a h | .ex x h => .ex x h | .no => .no
def R.of {α : Type} : Option (α × Hh) → R α
  | some (a, h) => .ok a h | none => .no

structure Ct where
  P : Params
  has : CK → Bool
  sa : Addr
  sns : List Int
  con : CK → Addr
  cls : Nat → Addr

def mkS (s : List Nat) : Str := ⟨s.toArray⟩
theorem mkS_inj {a b : List Nat} (h : mkS a = mkS b) : a = b := by
  have := congrArg (fun x => x.cps.toList) h
  simpa [mkS] using this
theorem mkS_tl (x : Str) : mkS x.cps.toList = x := by cases x; simp [mkS]
theorem mkS_len (s : List Nat) : (mkS s).length = s.length := by simp [mkS, Str.length]
theorem mkS_app (s t : List Nat) : mkS s ++ mkS t = mkS (s ++ t) := by
  show Str.append (mkS s) (mkS t) = mkS (s ++ t)
  simp [mkS, Str.append]
def kk : AKey → Key
  | .inl i => .inl i
  | .inr s => .inr (mkS s)
theorem kk_inj {a b : AKey} (h : kk a = kk b) : a = b := by
  cases a <;> cases b <;> simp [kk] at h ⊢
  · exact h
  · exact mkS_inj h

def RV (c : Ct) (ι : List Addr) : AV → V → Prop
  | .non, v => v = .non
  | .bl b, v => v = .bl b
  | .int i, v => v = .int i
  | .str s, v => v = .str (mkS s)
  | .ref n, v => ∃ a, ι[n]? = some a ∧ v = .ref a
  | .con k, v => v = .ref (c.con k) ∧ c.has k = true
  | .scr ns, v => v = .ref c.sa ∧ ns = c.sns
abbrev RVs (c : Ct) (ι : List Addr) : List AV → List V → Prop := Paired (RV c ι)
def RF (c : Ct) (ι : List Addr) : List (Str × AV) → List (Str × V) → Prop := Paired fun p q => q.1 = p.1 ∧ RV c ι p.2 q.2
def RKV (c : Ct) (ι : List Addr) : List (AKey × AV) → List (Key × V) → Prop := Paired fun p q => q.1 = kk p.1 ∧ RV c ι p.2 q.2
def RO (c : Ct) (ι : List Addr) (H : Hp) (a : Addr) : AO → Prop
  | .lst xs => ∃ vs, RVs c ι xs vs ∧ H a = some (.lst vs)
  | .rol xs => ∃ vs, RVs c ι xs vs ∧ Rd H a (.lst vs)
  | .tup xs => ∃ vs, RVs c ι xs vs ∧ Rd H a (.tup vs)
  | .dic kvs => ∃ vs, RKV c ι kvs vs ∧ H a = some (.dK vs)
  | .ins k fs => ∃ dx vs, RF c ι fs vs ∧ H a = some (.ins (c.cls k) dx vs)
  | .xd fs => ∃ vs, RF c ι fs vs ∧ H a = some (.xd vs)
def RSl (c : Ct) (ι : List Addr) : Option AV → Option V → Prop
  | none, _ => True
  | some v, some x => RV c ι v x
  | some _, none => False
abbrev RS (c : Ct) (ι : List Addr) : Sl → L2.St → Prop := Paired (RSl c ι)

/-- the contents of a constant -/
def CK.tup? : CK → Option (List AV)
  | .empty => some [.str [], .int 0]
  | _ => none
def txt (s : String) : List Nat := s.toList.map Char.toNat
def CK.dic? : CK → Option (List (List Nat × AV))
  | .closingOf => some [([40], .str [41]), ([91], .str [93]), ([123], .str [125])]
  | .letterOf => some [([105, 110, 115, 101, 114, 116], .str [105]), ([101, 120, 105, 116], .str [120]), ([112, 97, 115, 115], .str [112])]
  | .nameOf => some [([105], .str [105, 110, 115, 101, 114, 116]), ([120], .str [101, 120, 105, 116]), ([112], .str [112, 97, 115, 115])]
  | _ => none
/-- an entry of a written dict -/
def REnt (c : Ct) (p : List Nat × AV) (e : DictEntry) : Prop := (∃ t, e.key = .str (mkS p.1) t) ∧ ∃ x, RV c [] p.2 x ∧ RelV x e.val
def Scr (K : PySem.W.Frag) (c : Ct) (H : Hp) : Prop :=
  (∃ o, H c.sa = some (.frz o (.lst (c.sns.map V.int)))) ∨
    ∃ (o : Obj) (its : Array Value) (n : Nat), K.lookup c.sa = some o ∧ o.cls = .type "list" ∧ o.dict = none ∧ o.data = .seq its n ∧ its.size ≤ sizeLine ∧ Vals (c.sns.map V.int) its.toList
theorem Scr.sql {K : PySem.W.Frag} {c : Ct} {H : Hp} (h : Scr K c H) : SqL K H c.sa (c.sns.map V.int) := by
  rcases h with ⟨o, h⟩ | h
  · exact .inl (.inr ⟨o, h⟩)
  · exact .inr h
structure CtOk (K : PySem.W.Frag) (c : Ct) : Prop where
  tup : ∀ k xs, c.has k = true → k.tup? = some xs → ∃ vs, RVs c [] xs vs ∧ ∃ (o : Obj) (its : Array Value) (n : Nat), K.lookup (c.con k) = some o ∧ o.cls = .type "tuple" ∧ o.data = .seq its n ∧ its.size ≤ sizeLine ∧ Vals vs its.toList
  dic : ∀ k kvs, c.has k = true → k.dic? = some kvs → ∃ es n, K.lookup (c.con k) = some ⟨.type "dict", none, .dict es n, #[]⟩ ∧ PySem.W.KeysLit c.P es.toList ∧ (c.con k == sysModules) = false ∧ Paired (REnt c) kvs es.toList
  line : c.sns.length ≤ 63

structure RelH (K : PySem.W.Frag) (c : Ct) (ι : List Addr) (ah : Hh) (H : Hp) : Prop where
  cok : CtOk K c
  scr : Scr K c H
  len : ι.length = ah.length
  obj : ∀ (n : Nat) (o : AO), ah[n]? = some o → ∃ a, ι[n]? = some a ∧ RO c ι H a o
  apart : ∀ (n m : Nat) (a : Addr) (o : AO), ah[n]? = some o → o.mut = true → ι[n]? = some a → ι[m]? = some a → m = n

structure Ext (H : Hp) (ι : List Addr) (H' : Hp) (ι' : List Addr) : Prop where
  pre : ∃ r, ι' = ι ++ r ∧ ∀ a ∈ r, H a = none
  fr : ∀ b o, H b = some o → b ∉ ι → H' b = some o
theorem Ext.refl (H : Hp) (ι : List Addr) : Ext H ι H ι := ⟨⟨[], by simp, by simp⟩, fun _ _ h _ => h⟩

section
variable {K : PySem.W.Frag} {c : Ct} {ι ι' ι1 ι2 : List Addr} {ah ah' ah1 : Hh} {H H' H1 H2 : Hp} {σ : L2.St} {sl : Sl}
theorem RO.tracked {a : Addr} {o : AO} (h : RO c ι H a o) : ∃ u, H a = some u := by
  cases o with
  | lst xs => obtain ⟨vs, _, e⟩ := h; exact ⟨_, e⟩
  | rol xs => obtain ⟨vs, _, e | ⟨o, e⟩⟩ := h <;> exact ⟨_, e⟩
  | tup xs => obtain ⟨vs, _, e | ⟨o, e⟩⟩ := h <;> exact ⟨_, e⟩
  | dic xs => obtain ⟨vs, _, e⟩ := h; exact ⟨_, e⟩
  | ins k xs => obtain ⟨dx, vs, _, e⟩ := h; exact ⟨_, e⟩
  | xd xs => obtain ⟨vs, _, e⟩ := h; exact ⟨_, e⟩
theorem RelH.tracked (h : RelH K c ι ah H) {a : Addr} (ha : a ∈ ι) : ∃ u, H a = some u := by
  obtain ⟨n, hn, e⟩ := List.mem_iff_getElem.mp ha
  have hl : n < ah.length := by rw [← h.len]; exact hn
  obtain ⟨b, hb, r⟩ := h.obj n ah[n] (List.getElem?_eq_getElem hl)
  rw [List.getElem?_eq_getElem hn, e] at hb
  cases hb
  exact r.tracked
theorem Ext.trans (a : Ext H ι H1 ι1) (h1 : RelH K c ι1 ah1 H1) (b : Ext H1 ι1 H2 ι2) : Ext H ι H2 ι2 := by
  obtain ⟨⟨r1, e1, n1⟩, f1⟩ := a
  obtain ⟨⟨r2, e2, n2⟩, f2⟩ := b
  refine ⟨⟨r1 ++ r2, by rw [e2, e1, List.append_assoc], fun x hx => ?_⟩, fun x o hx ni => f2 x o (f1 x o hx ni) fun hm => ?_⟩
  · rcases List.mem_append.mp hx with hx | hx
    · exact n1 x hx
    · cases q : H x with
      | none => rfl
      | some o =>
        have z := n2 x hx
        by_cases hm : x ∈ ι
        · obtain ⟨u, hu⟩ := h1.tracked (a := x) (by rw [e1]; exact List.mem_append_left _ hm)
          rw [z] at hu; cases hu
        · rw [f1 x o q hm] at z; cases z
  · rw [e1] at hm
    rcases List.mem_append.mp hm with hm | hm
    · exact ni hm
    · rw [n1 x hm] at hx; cases hx
theorem getElem?_pre {α : Type} {l r : List α} {n : Nat} {x : α} (h : l[n]? = some x) : (l ++ r)[n]? = some x := by
  rw [List.getElem?_append_left (by exact (List.getElem?_eq_some_iff.mp h).1)]
  exact h
theorem RV.app {v : AV} {x : V} (h : RV c ι v x) (r : List Addr) : RV c (ι ++ r) v x := by
  cases v with
  | ref n => obtain ⟨a, e, q⟩ := h; exact ⟨a, getElem?_pre e, q⟩
  | _ => exact h
theorem RV.ext {v : AV} {x : V} (h : RV c ι v x) (e : Ext H ι H' ι') : RV c ι' v x := by
  obtain ⟨⟨r, e, _⟩, _⟩ := e
  rw [e]; exact h.app r
theorem RVs.app {vs : List AV} {xs : List V} (h : RVs c ι vs xs) (r : List Addr) : RVs c (ι ++ r) vs xs := Paired.mapP h fun _ _ q => q.app r
theorem RVs.ext {vs : List AV} {xs : List V} (h : RVs c ι vs xs) (e : Ext H ι H' ι') : RVs c ι' vs xs := Paired.mapP h fun _ _ q => q.ext e
theorem RSl.ext {v : Option AV} {x : Option V} (h : RSl c ι v x) (e : Ext H ι H' ι') : RSl c ι' v x := by
  cases v with
  | none => trivial
  | some v => cases x with
    | none => exact h
    | some x => exact RV.ext h e
theorem RS.ext (h : RS c ι sl σ) (e : Ext H ι H' ι') : RS c ι' sl σ := Paired.mapP h fun _ _ q => q.ext e
theorem RF.app {vs : List (Str × AV)} {xs : List (Str × V)} (h : RF c ι vs xs) (r : List Addr) : RF c (ι ++ r) vs xs := Paired.mapP h fun _ _ q => ⟨q.1, q.2.app r⟩
theorem RKV.app {vs : List (AKey × AV)} {xs : List (Key × V)} (h : RKV c ι vs xs) (r : List Addr) : RKV c (ι ++ r) vs xs := Paired.mapP h fun _ _ q => ⟨q.1, q.2.app r⟩
/-- what an object's relation leans on: its own place -/
theorem RO.stay {a : Addr} {o : AO} (h : RO c ι H a o) (e : H' a = H a) (r : List Addr) : RO c (ι ++ r) H' a o := by
  cases o with
  | lst xs => obtain ⟨vs, p, q⟩ := h; exact ⟨vs, p.app r, e.trans q⟩
  | rol xs => obtain ⟨vs, p, q⟩ := h; exact ⟨vs, p.app r, by unfold Rd at q ⊢; rw [e]; exact q⟩
  | tup xs => obtain ⟨vs, p, q⟩ := h; exact ⟨vs, p.app r, by unfold Rd at q ⊢; rw [e]; exact q⟩
  | dic xs => obtain ⟨vs, p, q⟩ := h; exact ⟨vs, p.app r, e.trans q⟩
  | ins k xs => obtain ⟨dx, vs, p, q⟩ := h; exact ⟨dx, vs, p.app r, e.trans q⟩
  | xd xs => obtain ⟨vs, p, q⟩ := h; exact ⟨vs, p.app r, e.trans q⟩
theorem RO.stay0 {a : Addr} {o : AO} (h : RO c ι H a o) (e : H' a = H a) : RO c ι H' a o := by
  have := h.stay e []
  simpa using this
theorem Scr.stay (h : Scr K c H) {p : Addr} {o : HO} (hp : ∀ o' u, H p ≠ some (.frz o' u)) : Scr K c (upd H p o) := by
  rcases h with ⟨ob, h⟩ | h
  · refine .inl ⟨ob, ?_⟩
    rw [upd_ne (fun e => hp _ _ (e ▸ h))]; exact h
  · exact .inr h
/-- a new object that is given no name -/
theorem RelH.junk (h : RelH K c ι ah H) {p : Addr} {o : HO} (hp : H p = none) : RelH K c ι ah (upd H p o) := by
  refine ⟨h.cok, h.scr.stay (by intro _ _ e; rw [hp] at e; cases e), h.len, fun n ob e => ?_, h.apart⟩
  obtain ⟨a, ha, r⟩ := h.obj n ob e
  obtain ⟨u, hu⟩ := r.tracked
  exact ⟨a, ha, r.stay0 (upd_ne (ne_of_none hu hp))⟩
theorem Ext.junk {p : Addr} {o : HO} (hp : H p = none) : Ext H ι (upd H p o) ι :=
  ⟨⟨[], by simp, by simp⟩, fun b u hb _ => by rw [upd_ne (ne_of_none hb hp)]; exact hb⟩
/-- a new object with its name -/
theorem RelH.lay (h : RelH K c ι ah H) {p : Addr} {u : HO} {o : AO} (hp : H p = none) (ho : RO c (ι ++ [p]) (upd H p u) p o) : RelH K c (ι ++ [p]) (ah ++ [o]) (upd H p u) := by
  have hne : ∀ {n : Nat} {a : Addr}, ι[n]? = some a → a ≠ p := fun {n a} e z => by
    obtain ⟨u, hu⟩ := h.tracked (List.mem_of_getElem? e)
    rw [z, hp] at hu; cases hu
  refine ⟨h.cok, h.scr.stay (by intro _ _ e; rw [hp] at e; cases e), by simp [h.len], fun n ob e => ?_, fun n m a ob e mu e1 e2 => ?_⟩
  · by_cases hn : n < ah.length
    · rw [List.getElem?_append_left hn] at e
      obtain ⟨a, ha, r⟩ := h.obj n ob e
      exact ⟨a, getElem?_pre ha, r.stay (upd_ne (hne ha)) [p]⟩
    · have hn2 : n = ah.length := by
        have := (List.getElem?_eq_some_iff.mp e).1
        simp at this; omega
      subst hn2
      rw [List.getElem?_append_right (Nat.le_refl _)] at e
      simp at e
      subst e
      exact ⟨p, by rw [← h.len]; simp, ho⟩
  · have key : ∀ {k : Nat} {b : Addr}, (ι ++ [p])[k]? = some b → (k < ι.length ∧ ι[k]? = some b) ∨ (k = ι.length ∧ b = p) := fun {k b} e => by
      by_cases hk : k < ι.length
      · rw [List.getElem?_append_left hk] at e; exact .inl ⟨hk, e⟩
      · have := (List.getElem?_eq_some_iff.mp e).1
        have hk2 : k = ι.length := by simp at this; omega
        subst hk2
        simp at e
        exact .inr ⟨rfl, e.symm⟩
    rcases key e1 with ⟨l1, q1⟩ | ⟨l1, q1⟩ <;> rcases key e2 with ⟨l2, q2⟩ | ⟨l2, q2⟩
    · rw [List.getElem?_append_left (by rw [← h.len]; exact l1)] at e
      exact h.apart n m a ob e mu q1 q2
    · exact absurd q2 (hne q1)
    · exact absurd q1 (hne q2)
    · omega
theorem Ext.lay {p : Addr} {u : HO} (hp : H p = none) : Ext H ι (upd H p u) (ι ++ [p]) :=
  ⟨⟨[p], rfl, by simp [hp]⟩, fun b o hb _ => by rw [upd_ne (ne_of_none hb hp)]; exact hb⟩
/-- a named object is changed -/
theorem RelH.set (h : RelH K c ι ah H) {n : Nat} {a : Addr} {u : HO} {o o' : AO} (hn : ah[n]? = some o) (mu : o.mut = true) (mu' : o'.mut = true) (ha : ι[n]? = some a) (ho : RO c ι (upd H a u) a o') : RelH K c ι (ah.set n o') (upd H a u) := by
  have ro : ∃ b, ι[n]? = some b ∧ RO c ι H b o := h.obj n o hn
  obtain ⟨b, hb, r⟩ := ro
  rw [ha] at hb; cases hb
  refine ⟨h.cok, h.scr.stay ?_, by simp [h.len], fun m ob e => ?_, fun m k b ob e mb e1 e2 => ?_⟩
  · intro o' u' e
    cases o with
    | lst xs => obtain ⟨vs, _, q⟩ := r; rw [e] at q; cases q
    | dic xs => obtain ⟨vs, _, q⟩ := r; rw [e] at q; cases q
    | ins k xs => obtain ⟨dx, vs, _, q⟩ := r; rw [e] at q; cases q
    | xd xs => obtain ⟨vs, _, q⟩ := r; rw [e] at q; cases q
    | rol xs => cases mu
    | tup xs => cases mu
  · by_cases hm : m = n
    · subst hm
      rw [List.getElem?_set_self (by exact (List.getElem?_eq_some_iff.mp hn).1)] at e
      cases e
      exact ⟨a, ha, ho⟩
    · rw [List.getElem?_set_ne (Ne.symm hm)] at e
      obtain ⟨b, hb, r⟩ := h.obj m ob e
      refine ⟨b, hb, r.stay0 (upd_ne fun z => hm ?_)⟩
      subst z
      exact h.apart n m b o hn mu ha hb
  · by_cases hm : m = n
    · subst hm
      rw [ha] at e1; cases e1
      exact h.apart m k a o hn mu ha e2
    · rw [List.getElem?_set_ne (Ne.symm hm)] at e
      exact h.apart m k b ob e mb e1 e2
theorem Ext.set {n : Nat} {a : Addr} {u : HO} (ha : ι[n]? = some a) : Ext H ι (upd H a u) ι :=
  ⟨⟨[], by simp, by simp⟩, fun b o hb hm => by rw [upd_ne (fun z => hm (by rw [z]; exact List.mem_of_getElem? ha))]; exact hb⟩
end

/-! ### what is wanted behind -/
def RX (c : Ct) (ι : List Addr) (x : AX) (cls : Value) (d : Option Addr) : Prop :=
  cls = .ref (c.cls x.cls) ∧ match x.d, d with
    | none, none => True
    | some n, some a => ι[n]? = some a
    | _, _ => False
def Post {α β : Type} (K : PySem.W.Frag) (c : Ct) (W : WX) (σ : L2.St) (H : Hp) (ι : List Addr) (RB : List Addr → α → β → Prop) (r : R α) (Q : β → Hp → Prop) : Prop :=
  match r with
  | .ok a ah => ∀ ι' H' b, Ext H ι H' ι' → RelH K c ι' ah H' → RB ι' a b → Q b H'
  | .ex x ah => ∀ ι' H' cls d, Ext H ι H' ι' → RelH K c ι' ah H' → RX c ι' x cls d → W cls d σ H'
  | .no => False
section
variable {K : PySem.W.Frag} {c : Ct} {W : WX} {σ : L2.St} {H H1 : Hp} {ι ι1 : List Addr} {ah ah1 : Hh} {α β γ : Type} {RB : List Addr → α → β → Prop}
theorem Post.shift {r : R α} {Q : β → Hp → Prop} (p : Post K c W σ H ι RB r Q) (e : Ext H ι H1 ι1) (h1 : RelH K c ι1 ah1 H1) : Post K c W σ H1 ι1 RB r Q := by
  cases r with
  | ok a ah => exact fun ι' H' b e' r' q => p ι' H' b (e.trans h1 e') r' q
  | ex x ah => exact fun ι' H' cl d e' r' q => p ι' H' cl d (e.trans h1 e') r' q
  | no => exact p
theorem Post.bind {δ ε : Type} {RC : List Addr → δ → ε → Prop} {r : R α} {k : α → Hh → R δ} {Q : ε → Hp → Prop} (p : Post K c W σ H ι RC (r.bind k) Q) :
    Post K c W σ H ι RB r fun b H1 => ∃ ι1 a ah1, Ext H ι H1 ι1 ∧ RelH K c ι1 ah1 H1 ∧ RB ι1 a b ∧ Post K c W σ H1 ι1 RC (k a ah1) Q := by
  cases r with
  | ok a ah => exact fun ι' H' b e' r' q => ⟨ι', a, ah, e', r', q, Post.shift p e' r'⟩
  | ex x ah => exact p
  | no => exact p
end

abbrev Ev := Sl → Hh → R AV
abbrev Et := Sl → Hh → R Bool
abbrev Ea := Sl → Hh → R (List AV)
/-- the readings -/
def tD (K : PySem.W.Frag) (c : Ct) (W : WX) (m : Ev) : TE := fun σ H Q => ∃ ι sl ah, RelH K c ι ah H ∧ RS c ι sl σ ∧ Post K c W σ H ι (RV c) (m sl ah) Q
def tDt (K : PySem.W.Frag) (c : Ct) (W : WX) (m : Et) : TT := fun σ H Q => ∃ ι sl ah, RelH K c ι ah H ∧ RS c ι sl σ ∧ Post K c W σ H ι (fun _ a b => a = b) (m sl ah) Q
def tDa (K : PySem.W.Frag) (c : Ct) (W : WX) (m : Ea) : TA := fun σ H Q => ∃ ι sl ah, RelH K c ι ah H ∧ RS c ι sl σ ∧ Post K c W σ H ι (RVs c) (m sl ah) Q
abbrev DE (X : Cx) (c : Ct) (W : WX) (e : Expr) (m : Ev) : Prop := PE X e (tD X.K c W m)
abbrev DT (X : Cx) (c : Ct) (W : WX) (e : Expr) (m : Et) : Prop := PT X e (tDt X.K c W m)
abbrev DWt (X : Cx) (c : Ct) (W : WX) (e : Expr) (m : Et) : Prop := PW X e (tDt X.K c W m)
abbrev DA (X : Cx) (c : Ct) (W : WX) (es : List Expr) (m : Ea) : Prop := PA X es (tDa X.K c W m)

theorem pe_imp {X : Cx} {e : Expr} {t t' : TE} (h : PE X e t) (k : ∀ σ H Q, t' σ H Q → t σ H Q) : PE X e t' := ⟨fun pins s σ H Q I q => h.run pins s σ H Q I (k σ H Q q)⟩
theorem pt_imp {X : Cx} {e : Expr} {t t' : TT} (h : PT X e t) (k : ∀ σ H Q, t' σ H Q → t σ H Q) : PT X e t' := ⟨fun pins s σ H Q I q => h.run pins s σ H Q I (k σ H Q q)⟩
theorem pw_imp {X : Cx} {e : Expr} {t t' : TT} (h : PW X e t) (k : ∀ σ H Q, t' σ H Q → t σ H Q) : PW X e t' := ⟨fun wh pins s σ H Q I q => h.run wh pins s σ H Q I (k σ H Q q)⟩
theorem pa_imp {X : Cx} {e : List Expr} {t t' : TA} (h : PA X e t) (k : ∀ σ H Q, t' σ H Q → t σ H Q) : PA X e t' := ⟨fun po pins s σ H Q I q => h.run po pins s σ H Q I (k σ H Q q)⟩
theorem ps_imp {X : Cx} {e : Stmt} {t t' : TS} (h : PS X e t) (k : ∀ D σ H, t' D σ H → t D σ H) : PS X e t' := ⟨fun pins s σ H D I q => h.run pins s σ H D I (k D σ H q)⟩
theorem pss_imp {X : Cx} {e : List Stmt} {t t' : TS} (h : PSs X e t) (k : ∀ D σ H, t' D σ H → t D σ H) : PSs X e t' := ⟨fun pins s σ H D I q => h.run pins s σ H D I (k D σ H q)⟩
end Det

/-! Det1: expressions. -/
namespace Det
open PySem PySem.Spec PyProof.Rows L2

/-! ### data as trees -/
inductive D where
  | non | bl (b : Bool) | int (i : Int) | str (s : List Nat) | lst (xs : List D) | tup (xs : List D)
def mapO {α β : Type} (f : α → Option β) : List α → Option (List β)
  | [] => some []
  | x :: r => match f x, mapO f r with
    | some y, some ys => some (y :: ys)
    | _, _ => none
def reify : Nat → Hh → AV → Option D
  | 0, _, _ => none
  | f + 1, h, v => match v with
    | .non => some .non
    | .bl b => some (.bl b)
    | .int i => some (.int i)
    | .str s => some (.str s)
    | .ref n => match h[n]? with
      | some (.lst xs) => (mapO (reify f h) xs).map .lst
      | some (.rol xs) => (mapO (reify f h) xs).map .lst
      | some (.tup xs) => (mapO (reify f h) xs).map .tup
      | _ => none
    | .con k => match k.tup? with
      | some xs => (mapO (reify f h) xs).map .tup
      | none => none
    | .scr ns => some (.lst (ns.map .int))
mutual
def D.eqv : D → D → Bool
  | .non, .non => true
  | .bl a, .bl b => a == b
  | .bl a, .int j => (if a then 1 else 0) == j
  | .int i, .bl b => i == (if b then 1 else 0)
  | .int i, .int j => i == j
  | .str x, .str y => x == y
  | .lst xs, .lst ys => D.eqvs xs ys
  | .tup xs, .tup ys => D.eqvs xs ys
  | _, _ => false
def D.eqvs : List D → List D → Bool
  | [], [] => true
  | x :: xs, y :: ys => D.eqv x y && D.eqvs xs ys
  | _, _ => false
end
mutual
def D.fine : D → Bool
  | .str s => s.all (· < 1114112)
  | .lst xs => D.fines xs
  | .tup xs => D.fines xs
  | _ => true
def D.fines : List D → Bool
  | [] => true
  | x :: xs => D.fine x && D.fines xs
end
mutual
def D.py : D → PyData
  | .non => .none
  | .bl b => .bool b
  | .int i => .int i
  | .str s => .str (mkS s)
  | .lst xs => .list (D.pys xs)
  | .tup xs => .tuple (D.pys xs)
def D.pys : List D → List PyData
  | [] => []
  | x :: xs => D.py x :: D.pys xs
end
theorem mkS_beq (a b : List Nat) : (mkS a == mkS b) = (a == b) := by
  rw [Bool.eq_iff_iff, beq_iff_eq, beq_iff_eq]
  exact ⟨mkS_inj, fun e => by rw [e]⟩
mutual
theorem py_eqv : ∀ d e : D, PyData.eqv d.py e.py = D.eqv d e
  | .non, .non => by simp [D.py, PyData.eqv, D.eqv]
  | .non, .bl _ => by simp [D.py, PyData.eqv, D.eqv]
  | .non, .int _ => by simp [D.py, PyData.eqv, D.eqv]
  | .non, .str _ => by simp [D.py, PyData.eqv, D.eqv]
  | .non, .lst _ => by simp [D.py, PyData.eqv, D.eqv]
  | .non, .tup _ => by simp [D.py, PyData.eqv, D.eqv]
  | .bl _, .non => by simp [D.py, PyData.eqv, D.eqv]
  | .bl _, .bl _ => by simp [D.py, PyData.eqv, D.eqv]
  | .bl _, .int _ => by simp [D.py, PyData.eqv, D.eqv]
  | .bl _, .str _ => by simp [D.py, PyData.eqv, D.eqv]
  | .bl _, .lst _ => by simp [D.py, PyData.eqv, D.eqv]
  | .bl _, .tup _ => by simp [D.py, PyData.eqv, D.eqv]
  | .int _, .non => by simp [D.py, PyData.eqv, D.eqv]
  | .int _, .bl _ => by simp [D.py, PyData.eqv, D.eqv]
  | .int _, .int _ => by simp [D.py, PyData.eqv, D.eqv]
  | .int _, .str _ => by simp [D.py, PyData.eqv, D.eqv]
  | .int _, .lst _ => by simp [D.py, PyData.eqv, D.eqv]
  | .int _, .tup _ => by simp [D.py, PyData.eqv, D.eqv]
  | .str _, .non => by simp [D.py, PyData.eqv, D.eqv]
  | .str _, .bl _ => by simp [D.py, PyData.eqv, D.eqv]
  | .str _, .int _ => by simp [D.py, PyData.eqv, D.eqv]
  | .str a, .str b => by simp only [D.py, PyData.eqv, D.eqv]; exact mkS_beq a b
  | .str _, .lst _ => by simp [D.py, PyData.eqv, D.eqv]
  | .str _, .tup _ => by simp [D.py, PyData.eqv, D.eqv]
  | .lst _, .non => by simp [D.py, PyData.eqv, D.eqv]
  | .lst _, .bl _ => by simp [D.py, PyData.eqv, D.eqv]
  | .lst _, .int _ => by simp [D.py, PyData.eqv, D.eqv]
  | .lst _, .str _ => by simp [D.py, PyData.eqv, D.eqv]
  | .lst xs, .lst ys => by simp only [D.py, PyData.eqv, D.eqv]; exact pys_eqv xs ys
  | .lst _, .tup _ => by simp [D.py, PyData.eqv, D.eqv]
  | .tup _, .non => by simp [D.py, PyData.eqv, D.eqv]
  | .tup _, .bl _ => by simp [D.py, PyData.eqv, D.eqv]
  | .tup _, .int _ => by simp [D.py, PyData.eqv, D.eqv]
  | .tup _, .str _ => by simp [D.py, PyData.eqv, D.eqv]
  | .tup _, .lst _ => by simp [D.py, PyData.eqv, D.eqv]
  | .tup xs, .tup ys => by simp only [D.py, PyData.eqv, D.eqv]; exact pys_eqv xs ys
theorem pys_eqv : ∀ d e : List D, PyData.eqvAll (D.pys d) (D.pys e) = D.eqvs d e
  | [], [] => by simp [D.pys, PyData.eqvAll, D.eqvs]
  | [], _ :: _ => by simp [D.pys, PyData.eqvAll, D.eqvs]
  | _ :: _, [] => by simp [D.pys, PyData.eqvAll, D.eqvs]
  | x :: xs, y :: ys => by simp only [D.pys, PyData.eqvAll, D.eqvs]; rw [py_eqv x y, pys_eqv xs ys]
end
mutual
theorem py_lay : ∀ d : D, d.fine = true → d.py.canLay0 = true
  | .non, _ => by simp [D.py, PyData.canLay0]
  | .bl _, _ => by simp [D.py, PyData.canLay0]
  | .int _, _ => by simp [D.py, PyData.canLay0]
  | .str s, h => by
    simp only [D.py, PyData.canLay0]
    simp only [D.fine] at h
    simpa [PyData.strOk, mkS] using h
  | .lst xs, h => by simp only [D.py, PyData.canLay0]; exact pys_lay xs (by simpa [D.fine] using h)
  | .tup xs, h => by simp only [D.py, PyData.canLay0]; exact pys_lay xs (by simpa [D.fine] using h)
theorem pys_lay : ∀ d : List D, D.fines d = true → PyData.canLayAll0 (D.pys d) = true
  | [], _ => by simp [D.pys, PyData.canLayAll0]
  | x :: xs, h => by
    simp only [D.fines, Bool.and_eq_true] at h
    simp only [D.pys, PyData.canLayAll0, Bool.and_eq_true]
    exact ⟨py_lay x h.1, pys_lay xs h.2⟩
end
theorem mapO_cons {α β : Type} {f : α → Option β} {x : α} {r : List α} {zs : List β} (h : mapO f (x :: r) = some zs) : ∃ y ys, f x = some y ∧ mapO f r = some ys ∧ zs = y :: ys := by
  unfold mapO at h
  split at h
  · rename_i y ys e1 e2
    exact ⟨y, ys, e1, e2, (Option.some.inj h).symm⟩
  · cases h
theorem mapO_nil {α β : Type} {f : α → Option β} {zs : List β} (h : mapO f [] = some zs) : zs = [] := (Option.some.inj h).symm
theorem reify_depth : ∀ (f : Nat) (h : Hh) (v : AV) (d : D), reify f h v = some d → d.py.depth ≤ f := by
  intro f
  induction f with
  | zero => intro h v d e; simp [reify] at e
  | succ f ih =>
    intro h v d e
    have all : ∀ (xs : List AV) (ds : List D), mapO (reify f h) xs = some ds → PyData.depthAll (D.pys ds) ≤ f := by
      intro xs
      induction xs with
      | nil => intro ds e; rw [mapO_nil e]; simp [D.pys, PyData.depthAll]
      | cons x r ihr =>
        intro ds e
        obtain ⟨y, ys, e1, e2, rfl⟩ := mapO_cons e
        simp only [D.pys, PyData.depthAll]
        exact Nat.max_le.mpr ⟨ih h x y e1, ihr ys e2⟩
    unfold reify at e
    split at e
    · cases e; simp [D.py, PyData.depth]
    · cases e; simp [D.py, PyData.depth]
    · cases e; simp [D.py, PyData.depth]
    · cases e; simp [D.py, PyData.depth]
    · split at e
      · obtain ⟨ds, e1, rfl⟩ := Option.map_eq_some_iff.mp e
        simp only [D.py, PyData.depth]; exact Nat.succ_le_succ (all _ _ e1)
      · obtain ⟨ds, e1, rfl⟩ := Option.map_eq_some_iff.mp e
        simp only [D.py, PyData.depth]; exact Nat.succ_le_succ (all _ _ e1)
      · obtain ⟨ds, e1, rfl⟩ := Option.map_eq_some_iff.mp e
        simp only [D.py, PyData.depth]; exact Nat.succ_le_succ (all _ _ e1)
      · cases e
    · split at e
      · obtain ⟨ds, e1, rfl⟩ := Option.map_eq_some_iff.mp e
        simp only [D.py, PyData.depth]; exact Nat.succ_le_succ (all _ _ e1)
      · cases e
    · cases e
      simp only [D.py, PyData.depth]
      have : ∀ ns : List Int, PyData.depthAll (D.pys (ns.map D.int)) = 0 := by
        intro ns
        induction ns with
        | nil => simp [D.pys, PyData.depthAll]
        | cons n r ihr => simp [D.pys, PyData.depthAll, D.py, PyData.depth, ihr]
      rw [this]; omega

/-! ### reading lists and tuples -/
def rdL (h : Hh) : AV → Option (List AV)
  | .ref n => match h[n]? with
    | some (.lst xs) => some xs
    | some (.rol xs) => some xs
    | _ => none
  | .scr ns => some (ns.map .int)
  | _ => none
def rdT (h : Hh) : AV → Option (List AV)
  | .ref n => match h[n]? with
    | some (.tup xs) => some xs
    | _ => none
  | .con k => k.tup?
  | _ => none
section
variable {K : PySem.W.Frag} {c : Ct} {ι ι' : List Addr} {ah : Hh} {H H' : Hp}
theorem RelH.at (R : RelH K c ι ah H) {n : Nat} {o : AO} (h : ah[n]? = some o) {v : V} (r : RV c ι (.ref n) v) : ∃ a, v = .ref a ∧ ι[n]? = some a ∧ RO c ι H a o := by
  obtain ⟨a, e, rfl⟩ := r
  obtain ⟨b, hb, ro⟩ := R.obj n o h
  rw [e] at hb; cases hb
  exact ⟨a, rfl, e, ro⟩
theorem ints_rv {c : Ct} {ι : List Addr} : ∀ ns : List Int, RVs c ι (ns.map AV.int) (ns.map V.int)
  | [] => .nil
  | n :: r => .cons rfl (ints_rv r)
theorem rdL_ok (R : RelH K c ι ah H) {v : AV} {x : V} {xs : List AV} (h : rdL ah v = some xs) (r : RV c ι v x) : ∃ a vs, x = .ref a ∧ SqL K H a vs ∧ RVs c ι xs vs := by
  unfold rdL at h
  split at h
  · split at h
    · rename_i n _ ys e
      cases h
      obtain ⟨a, rfl, _, vs, rv, e⟩ := R.at e r
      exact ⟨a, vs, rfl, .inl (.inl e), rv⟩
    · rename_i n _ ys e
      cases h
      obtain ⟨a, rfl, _, vs, rv, e⟩ := R.at e r
      exact ⟨a, vs, rfl, .inl e, rv⟩
    · cases h
  · rename_i ns
    cases h
    obtain ⟨rfl, e⟩ := r
    exact ⟨c.sa, _, rfl, R.scr.sql, by rw [e]; exact ints_rv _⟩
  · cases h
theorem rdT_ok (R : RelH K c ι ah H) {v : AV} {x : V} {xs : List AV} (h : rdT ah v = some xs) (r : RV c ι v x) : ∃ a vs, x = .ref a ∧ SqT K H a vs ∧ RVs c ι xs vs := by
  unfold rdT at h
  split at h
  · split at h
    · rename_i n _ ys e
      cases h
      obtain ⟨a, rfl, _, vs, rv, e⟩ := R.at e r
      exact ⟨a, vs, rfl, .inl e, rv⟩
    · cases h
  · rename_i k
    obtain ⟨rfl, hk⟩ := r
    obtain ⟨vs, rv, q⟩ := R.cok.tup k xs hk h
    refine ⟨_, vs, rfl, .inr q, ?_⟩
    have := rv.app ι
    simpa using this
  · cases h
theorem reify_dp (R : RelH K c ι ah H) : ∀ (f : Nat) (v : AV) (x : V) (d : D), reify f ah v = some d → RV c ι v x → Dp K H x d.py := by
  intro f
  induction f with
  | zero => intro v x d e; simp [reify] at e
  | succ f ih =>
    intro v x d e r
    have all : ∀ (xs : List AV) (ds : List D) (vs : List V), mapO (reify f ah) xs = some ds → RVs c ι xs vs → DpAll K H vs (D.pys ds) := by
      intro xs
      induction xs with
      | nil => intro ds vs e r; cases r; rw [mapO_nil e]; exact .nil
      | cons x r ihr =>
        intro ds vs e r
        obtain ⟨y, ys, e1, e2, rfl⟩ := mapO_cons e
        cases r with
        | cons r1 r2 => exact .cons (ih x _ y e1 r1) (ihr ys _ e2 r2)
    unfold reify at e
    split at e
    · cases e; cases r; exact .non
    · cases e; cases r; exact .bl _
    · cases e; cases r; exact .int _
    · cases e; cases r; exact .str _
    · split at e
      · rename_i n _ ys q
        obtain ⟨ds, e1, rfl⟩ := Option.map_eq_some_iff.mp e
        obtain ⟨a, vs, rfl, s, rv⟩ := rdL_ok (v := .ref n) (xs := ys) R (by simp [rdL, q]) r
        exact .lst s (all _ _ _ e1 rv)
      · rename_i n _ ys q
        obtain ⟨ds, e1, rfl⟩ := Option.map_eq_some_iff.mp e
        obtain ⟨a, vs, rfl, s, rv⟩ := rdL_ok (v := .ref n) (xs := ys) R (by simp [rdL, q]) r
        exact .lst s (all _ _ _ e1 rv)
      · rename_i n _ ys q
        obtain ⟨ds, e1, rfl⟩ := Option.map_eq_some_iff.mp e
        obtain ⟨a, vs, rfl, s, rv⟩ := rdT_ok (v := .ref n) (xs := ys) R (by simp [rdT, q]) r
        exact .tup s (all _ _ _ e1 rv)
      · cases e
    · rename_i k
      split at e
      · rename_i ys q
        obtain ⟨ds, e1, rfl⟩ := Option.map_eq_some_iff.mp e
        obtain ⟨a, vs, rfl, s, rv⟩ := rdT_ok (v := .con k) (xs := ys) R q r
        exact .tup s (all _ _ _ e1 rv)
      · cases e
    · rename_i ns
      cases e
      obtain ⟨a, vs, rfl, s, rv⟩ := rdL_ok (v := .scr ns) R rfl r
      refine .lst s ?_
      have : ∀ (ns : List Int) (vs : List V), RVs c ι (ns.map AV.int) vs → DpAll K H vs (D.pys (ns.map D.int)) := by
        intro ns
        induction ns with
        | nil => intro vs r; cases r; exact .nil
        | cons n r ihr => intro vs r; cases r with
          | cons r1 r2 => cases r1; exact .cons (.int _) (ihr _ r2)
      exact this ns vs rv
theorem reify_shaped {f : Nat} {v : AV} {d : D} (h : reify f ah v = some d) (hf : f ≤ 64) (hd : d.fine = true) : SeqAt.shaped d.py = true := by
  unfold SeqAt.shaped
  rw [py_lay d hd]
  have := reify_depth f ah v d h
  simp only [Bool.true_and, decide_eq_true_eq]
  omega
end
end Det

/-! Det2: names, constants, operators. -/
namespace Det
open PySem PySem.Spec PyProof.Rows L2

def LINE : Nat := 16777216
theorem line_eq : sizeLine = LINE := sizeLine_eq
section
variable {X : Cx} {c : Ct} {W : WX}

/-! ### names, constants -/
def mVar (i : Nat) : Ev := fun sl h => match sl[i]? with
  | some (some v) => .ok v h
  | _ => .no
def mC (v : AV) : Ev := fun _ h => .ok v h
theorem RS.get {ι : List Addr} {sl : Sl} {σ : L2.St} (r : RS c ι sl σ) {i : Nat} {v : AV} (h : sl[i]? = some (some v)) : ∃ x, σ[i]? = some (some x) ∧ RV c ι v x := by
  obtain ⟨b, hb, q⟩ := paired_get r h
  cases b with
  | none => exact absurd q (by simp [RSl])
  | some x => exact ⟨x, hb, q⟩
theorem de_var (i : Nat) {x : Str} {pos : Pos} (h : PE X (.Name x pos) (tVar i)) : DE X c W (.Name x pos) (mVar i) := by
  refine pe_imp h fun σ H Q ⟨ι, sl, ah, R, S, p⟩ => ?_
  unfold mVar at p
  split at p
  · rename_i v e
    obtain ⟨x, hx, rv⟩ := S.get e
    exact ⟨x, hx, p ι H x (Ext.refl _ _) R rv⟩
  · exact p.elim
theorem de_c {e : Expr} {v : AV} {x : V} (h : PE X e (tC x)) (r : ∀ ι, RV c ι v x) : DE X c W e (mC v) :=
  pe_imp h fun σ H Q ⟨ι, sl, ah, R, S, p⟩ => p ι H x (Ext.refl _ _) R (r ι)
theorem de_int {i : Int} {j pos} : DE X c W (.Constant (.int i) j pos) (mC (.int i)) := de_c pe_int fun _ => rfl
theorem de_bl {b : Bool} {j pos} : DE X c W (.Constant (.bool b) j pos) (mC (.bl b)) := de_c pe_bl fun _ => rfl
theorem de_non {j pos} : DE X c W (.Constant .none j pos) (mC .non) := de_c pe_non fun _ => rfl
theorem de_str (s : List Nat) {x : Str} {j pos} (h : x.cps.toList = s := by decide +kernel) : DE X c W (.Constant (.str x) j pos) (mC (.str s)) :=
  de_c pe_str fun _ => by subst h; show V.str x = V.str _; rw [mkS_tl]

/-! ### operators -/
abbrev Op2 := AV → AV → Hh → Option (AV × Hh)
def rD (K : PySem.W.Frag) (c : Ct) (f : Op2) : R2 := fun x y H Q => ∃ ι a b ah v ah', RelH K c ι ah H ∧ RV c ι a x ∧ RV c ι b y ∧ f a b ah = some (v, ah') ∧
  ∀ ι' H' z, Ext H ι H' ι' → RelH K c ι' ah' H' → RV c ι' v z → Q z H'
def DOp (X : Cx) (c : Ct) (F : Value → Value → Sem Value) (f : Op2) : Prop := OpR X F (rD X.K c f)
def mBin (f : Op2) (ma mb : Ev) : Ev := fun sl h => (ma sl h).bind fun x h1 => (mb sl h1).bind fun y h2 => R.of (f x y h2)
def mChain (f g : Op2) (ma mb mc : Ev) : Ev := fun sl h => (ma sl h).bind fun x h1 => (mb sl h1).bind fun y h2 => (R.of (f x y h2)).bind fun r h3 => match r with
  | .bl true => (mc sl h3).bind fun z h4 => R.of (g y z h4)
  | .bl false => .ok (.bl false) h3
  | _ => .no
variable {K : PySem.W.Frag} {σ : L2.St} {H H' : Hp} {ι ι' : List Addr} {sl : Sl} {ah ah' : Hh}
theorem Post.mono {α β : Type} {RB : List Addr → α → β → Prop} {r : R α} {Q Q' : β → Hp → Prop} (p : Post K c W σ H ι RB r Q) (h : ∀ b H', Q b H' → Q' b H') : Post K c W σ H ι RB r Q' := by
  cases r with
  | ok a ah => exact fun ι' H' b e r q => h _ _ (p ι' H' b e r q)
  | ex x ah => exact p
  | no => exact p
/-- the workhorse: a part's post, with what is left behind it -/
theorem Post.step {α β δ ε : Type} {RB : List Addr → α → β → Prop} {RC : List Addr → δ → ε → Prop} {r : R α} {k : α → Hh → R δ} {Q : ε → Hp → Prop} {Q' : β → Hp → Prop} (p : Post K c W σ H ι RC (r.bind k) Q)
    (h : ∀ b H1 ι1 a ah1, Ext H ι H1 ι1 → RelH K c ι1 ah1 H1 → RB ι1 a b → Post K c W σ H1 ι1 RC (k a ah1) Q → Q' b H1) : Post K c W σ H ι RB r Q' :=
  Post.mono (Post.bind (RB := RB) p) fun b H1 ⟨ι1, a, ah1, e, rh, q, p1⟩ => h b H1 ι1 a ah1 e rh q p1
theorem post_of {f : Op2} {a b : AV} {x y : V} {Q : VK} (rh : RelH K c ι ah H) (ra : RV c ι a x) (rb : RV c ι b y) (p : Post K c W σ H ι (RV c) (R.of (f a b ah)) Q) : rD K c f x y H Q := by
  cases e : f a b ah with
  | none => rw [e] at p; exact p.elim
  | some r =>
    obtain ⟨v, ah'⟩ := r
    rw [e] at p
    exact ⟨ι, a, b, ah, v, ah', rh, ra, rb, e, fun ι' H' z e1 r1 rz => p ι' H' z e1 r1 rz⟩
theorem bin_imp {f : Op2} {ma mb : Ev} {Q : VK} (h : tD K c W (mBin f ma mb) σ H Q) : tOp (rD K c f) (tD K c W ma) (tD K c W mb) σ H Q := by
  obtain ⟨ι, sl, ah, rh, S, p⟩ := h
  refine ⟨ι, sl, ah, rh, S, Post.step p fun x H1 ι1 a ah1 e1 r1 ra p1 => ?_⟩
  exact ⟨ι1, sl, ah1, r1, S.ext e1, Post.step p1 fun y H2 ι2 b ah2 e2 r2 rb p2 => post_of r2 (ra.ext e2) rb p2⟩
theorem de_bin {op : Operator} {f : Op2} {a b : Expr} {ma mb : Ev} {pos : Pos} (ho : DOp X c (binaryOp op) f) (ha : DE X c W a ma) (hb : DE X c W b mb) : DE X c W (.BinOp a op b pos) (mBin f ma mb) :=
  pe_imp (pe_op ho ha hb) fun _ _ _ h => bin_imp h
theorem de_cmp {op : CmpOp} {f : Op2} {a b : Expr} {ma mb : Ev} {pos : Pos} (ho : DOp X c (compareOp op) f) (ha : DE X c W a ma) (hb : DE X c W b mb) (hm : behindInMarks op b = false) : DE X c W (.Compare a [op] [b] pos) (mBin f ma mb) :=
  pe_imp (pe_cmpR ho ha hb hm) fun _ _ _ h => bin_imp h
/-- a value that is a bool, as a test -/
def mB (m : Ev) : Et := fun sl h => (m sl h).bind fun v h1 => match v with
  | .bl b => .ok b h1
  | _ => .no
theorem tB_imp {m : Ev} {Q : Bool → Hp → Prop} (h : tDt K c W (mB m) σ H Q) : tD K c W m σ H fun x H' => ∃ k, x = .bl k ∧ Q k H' := by
  obtain ⟨ι, sl, ah, rh, S, p⟩ := h
  refine ⟨ι, sl, ah, rh, S, Post.step p fun x H1 ι1 a ah1 e1 r1 ra p1 => ?_⟩
  cases a with
  | bl b => cases ra; exact ⟨b, rfl, p1 ι1 H1 b (Ext.refl _ _) r1 rfl⟩
  | _ => exact p1.elim
theorem tD_mono {m : Ev} {Q Q' : VK} (h : tD K c W m σ H Q) (k : ∀ v H', Q v H' → Q' v H') : tD K c W m σ H Q' := by
  obtain ⟨ι, sl, ah, rh, S, p⟩ := h
  exact ⟨ι, sl, ah, rh, S, Post.mono p k⟩
theorem rD_mono {f : Op2} {x y : V} {Q Q' : VK} (h : rD K c f x y H Q) (k : ∀ v H', Q v H' → Q' v H') : rD K c f x y H Q' := by
  obtain ⟨ι, a, b, ah, v, ah', rh, ra, rb, e, q⟩ := h
  exact ⟨ι, a, b, ah, v, ah', rh, ra, rb, e, fun ι' H' z e1 r1 rz => k _ _ (q ι' H' z e1 r1 rz)⟩
theorem dt_cmp {op : CmpOp} {f : Op2} {a b : Expr} {ma mb : Ev} {pos : Pos} (ho : DOp X c (compareOp op) f) (ha : DE X c W a ma) (hb : DE X c W b mb) (hm : behindInMarks op b = false) : DT X c W (.Compare a [op] [b] pos) (mB (mBin f ma mb)) :=
  pt_imp (pt_cmpR ho ha hb hm) fun σ H Q h => bin_imp (tB_imp h)
theorem chain_imp {f g : Op2} {ma mb mc : Ev} {Q : VK} (h : tD K c W (mChain f g ma mb mc) σ H Q) : tChain (rD K c f) (rD K c g) (tD K c W ma) (tD K c W mb) (tD K c W mc) σ H Q := by
  obtain ⟨ι, sl, ah, rh, S, p⟩ := h
  refine ⟨ι, sl, ah, rh, S, Post.step p fun x H1 ι1 a ah1 e1 r1 ra p1 => ?_⟩
  refine ⟨ι1, sl, ah1, r1, S.ext e1, Post.step p1 fun y H2 ι2 b ah2 e2 r2 rb p2 => ?_⟩
  have q := post_of (Q := fun z H3 => ∃ k, z = .bl k ∧ (if k = true then tD K c W mc σ H3 fun w' H4 => rD K c g y w' H4 Q else Q (.bl false) H3)) r2 (ra.ext e2) rb (Post.step p2 fun z H3 ι3 v ah3 e3 r3 rv p3 => ?_)
  · exact q
  · cases v with
    | bl k =>
      cases rv
      cases k with
      | true =>
        refine ⟨true, rfl, ?_⟩
        rw [if_pos rfl]
        exact ⟨ι3, sl, ah3, r3, (S.ext e1).ext e2 |>.ext e3, Post.step p3 fun w H4 ι4 d ah4 e4 r4 rd p4 => post_of r4 ((rb.ext e3).ext e4) rd p4⟩
      | false =>
        refine ⟨false, rfl, ?_⟩
        rw [if_neg Bool.false_ne_true]
        exact p3 ι3 H3 _ (Ext.refl _ _) r3 rfl
    | _ => exact p3.elim
theorem de_chain {op op' : CmpOp} {f g : Op2} {a b d : Expr} {ma mb mc : Ev} {pos : Pos} (ho : DOp X c (compareOp op) f) (ho' : DOp X c (compareOp op') g) (ha : DE X c W a ma) (hb : DE X c W b mb) (hc : DE X c W d mc)
    (hm : lastMarks [op, op'] [b, d] = false := by with_unfolding_all rfl) : DE X c W (.Compare a [op, op'] [b, d] pos) (mChain f g ma mb mc) :=
  pe_imp (pe_chain ho ho' ha hb hc hm) fun _ _ _ h => chain_imp h
theorem dt_chain {op op' : CmpOp} {f g : Op2} {a b d : Expr} {ma mb mc : Ev} {pos : Pos} (ho : DOp X c (compareOp op) f) (ho' : DOp X c (compareOp op') g) (ha : DE X c W a ma) (hb : DE X c W b mb) (hc : DE X c W d mc)
    (hm : lastMarks [op, op'] [b, d] = false := by with_unfolding_all rfl) : DT X c W (.Compare a [op, op'] [b, d] pos) (mB (mChain f g ma mb mc)) :=
  pt_imp (pt_chain ho ho' ha hb hc hm) fun σ H Q h => chain_imp (tB_imp h)
/-! ### and, or, not, if else -/
def mAndV (ma mb : Ev) : Ev := fun sl h => (ma sl h).bind fun x h1 => match x with
  | .bl true => mb sl h1
  | .bl false => .ok (.bl false) h1
  | _ => .no
def mOrV (ma mb : Ev) : Ev := fun sl h => (ma sl h).bind fun x h1 => match x with
  | .bl true => .ok (.bl true) h1
  | .bl false => mb sl h1
  | _ => .no
def mNotV (ma : Ev) : Ev := fun sl h => (ma sl h).bind fun x h1 => match x with
  | .bl b => .ok (.bl (!b)) h1
  | _ => .no
def mAnd (ma mb : Et) : Et := fun sl h => (ma sl h).bind fun x h1 => if x = true then mb sl h1 else .ok false h1
def mOr (ma mb : Et) : Et := fun sl h => (ma sl h).bind fun x h1 => if x = true then .ok true h1 else mb sl h1
def mNot (ma : Et) : Et := fun sl h => (ma sl h).bind fun x h1 => .ok (!x) h1
def mIfE (t : Et) (ma mb : Ev) : Ev := fun sl h => (t sl h).bind fun x h1 => if x = true then ma sl h1 else mb sl h1
section
variable {a b : Expr} {rest : List Expr} {ma mb : Ev} {ta tb : Et} {pos : Pos}
theorem de_one {op} (h : DE X c W a ma) : DE X c W (.BoolOp op [a] pos) ma := pe_one h
theorem de_and (ha : DE X c W a ma) (hb : DE X c W (.BoolOp .And (b :: rest) pos) mb) : DE X c W (.BoolOp .And (a :: b :: rest) pos) (mAndV ma mb) :=
  pe_imp (pe_and ha hb) fun σ H Q ⟨ι, sl, ah, rh, S, p⟩ => ⟨ι, sl, ah, rh, S, Post.step p fun x H1 ι1 v ah1 e1 r1 rv p1 => by
    cases v with
    | bl k =>
      cases rv
      cases k with
      | true => exact ⟨true, rfl, ι1, sl, ah1, r1, S.ext e1, p1⟩
      | false => exact ⟨false, rfl, p1 ι1 H1 _ (Ext.refl _ _) r1 rfl⟩
    | _ => exact p1.elim⟩
theorem de_or (ha : DE X c W a ma) (hb : DE X c W (.BoolOp .Or (b :: rest) pos) mb) : DE X c W (.BoolOp .Or (a :: b :: rest) pos) (mOrV ma mb) :=
  pe_imp (pe_or ha hb) fun σ H Q ⟨ι, sl, ah, rh, S, p⟩ => ⟨ι, sl, ah, rh, S, Post.step p fun x H1 ι1 v ah1 e1 r1 rv p1 => by
    cases v with
    | bl k =>
      cases rv
      cases k with
      | false => exact ⟨false, rfl, ι1, sl, ah1, r1, S.ext e1, p1⟩
      | true => exact ⟨true, rfl, p1 ι1 H1 _ (Ext.refl _ _) r1 rfl⟩
    | _ => exact p1.elim⟩
theorem de_not (ha : DE X c W a ma) : DE X c W (.UnaryOp .Not a pos) (mNotV ma) :=
  pe_imp (pe_not ha) fun σ H Q ⟨ι, sl, ah, rh, S, p⟩ => ⟨ι, sl, ah, rh, S, Post.step p fun x H1 ι1 v ah1 e1 r1 rv p1 => by
    cases v with
    | bl k => cases rv; exact ⟨k, rfl, p1 ι1 H1 _ (Ext.refl _ _) r1 rfl⟩
    | _ => exact p1.elim⟩
theorem dw_and1 (ha : DT X c W a ta) : DWt X c W (.BoolOp .And [a] pos) ta := pw_and1 ha
theorem dw_or1 (ha : DT X c W a ta) : DWt X c W (.BoolOp .Or [a] pos) ta := pw_or1 ha
theorem dw_and (ha : DT X c W a ta) (hb : DWt X c W (.BoolOp .And (b :: rest) pos) tb) : DWt X c W (.BoolOp .And (a :: b :: rest) pos) (mAnd ta tb) :=
  pw_imp (pw_and ha hb) fun σ H Q ⟨ι, sl, ah, rh, S, p⟩ => ⟨ι, sl, ah, rh, S, Post.step p fun x H1 ι1 v ah1 e1 r1 rv p1 => by
    cases rv
    cases x with
    | true => exact ⟨ι1, sl, ah1, r1, S.ext e1, p1⟩
    | false => exact p1 ι1 H1 _ (Ext.refl _ _) r1 rfl⟩
theorem dw_or (ha : DT X c W a ta) (hb : DWt X c W (.BoolOp .Or (b :: rest) pos) tb) : DWt X c W (.BoolOp .Or (a :: b :: rest) pos) (mOr ta tb) :=
  pw_imp (pw_or ha hb) fun σ H Q ⟨ι, sl, ah, rh, S, p⟩ => ⟨ι, sl, ah, rh, S, Post.step p fun x H1 ι1 v ah1 e1 r1 rv p1 => by
    cases rv
    cases x with
    | false => exact ⟨ι1, sl, ah1, r1, S.ext e1, p1⟩
    | true => exact p1 ι1 H1 _ (Ext.refl _ _) r1 rfl⟩
theorem dt_w (h : DWt X c W a ta) : DT X c W a ta := h.pt
theorem dt_not (ha : DT X c W a ta) : DT X c W (.UnaryOp .Not a pos) (mNot ta) :=
  pt_imp (pt_not ha) fun σ H Q ⟨ι, sl, ah, rh, S, p⟩ => ⟨ι, sl, ah, rh, S, Post.step p fun x H1 ι1 v ah1 e1 r1 rv p1 => by
    cases rv
    exact p1 ι1 H1 _ (Ext.refl _ _) r1 rfl⟩
theorem de_if {d : Expr} (hc : DT X c W d ta) (ha : DE X c W a ma) (hb : DE X c W b mb) : DE X c W (.IfExp d a b pos) (mIfE ta ma mb) :=
  pe_imp (pe_ifExp hc ha hb) fun σ H Q ⟨ι, sl, ah, rh, S, p⟩ => ⟨ι, sl, ah, rh, S, Post.step p fun x H1 ι1 v ah1 e1 r1 rv p1 => by
    cases rv
    cases x with
    | true => exact ⟨ι1, sl, ah1, r1, S.ext e1, p1⟩
    | false => exact ⟨ι1, sl, ah1, r1, S.ext e1, p1⟩⟩
end
end
end Det

/-! Det3: operators by values. -/
namespace Det
open PySem PySem.Spec PyProof.Rows L2

def BIG : Nat := 4096
def fits (i : Int) : Bool := decide (i.natAbs < 2 ^ BIG)
theorem fits_lt {i : Int} (h : fits i = true) : i.natAbs < 2 ^ BIG := of_decide_eq_true h

def opAdd : Op2 := fun x y h => match x, y with
  | .int i, .int j => some (.int (i + j), h)
  | .str s, .str t => if s.length + t.length ≤ LINE then some (.str (s ++ t), h) else none
  | x, y => match rdL h x, rdL h y with
    | some xs, some ys => if xs.length + ys.length ≤ LINE then some (.ref h.length, h ++ [.lst (xs ++ ys)]) else none
    | _, _ => none
def opSub : Op2 := fun x y h => match x, y with
  | .int i, .int j => some (.int (i - j), h)
  | _, _ => none
def opMul : Op2 := fun x y h => match x, y with
  | .int i, .int j => if (fits i && fits j) = true then some (.int (i * j), h) else none
  | .str s, .int n => if n ≤ 1048576 ∧ -1048576 ≤ n ∧ s.length * n.toNat ≤ LINE then some (.str (List.replicate n.toNat s).flatten, h) else none
  | .ref k, .int n => match h[k]? with
    | some (.lst xs) => if n ≤ 1048576 ∧ -1048576 ≤ n ∧ xs.length * n.toNat ≤ LINE then some (.ref h.length, h ++ [.lst (List.replicate n.toNat xs).flatten]) else none
    | _ => none
  | _, _ => none
def opDiv : Op2 := fun x y h => match x, y with
  | .int i, .int j => if 0 < j ∧ fits j = true then some (.int (i / j), h) else none
  | _, _ => none
def opMod : Op2 := fun x y h => match x, y with
  | .int i, .int j => if 0 < j then some (.int (i % j), h) else none
  | _, _ => none
def opPow : Op2 := fun x y h => match x, y with
  | .int i, .int j => if 0 ≤ j ∧ j ≤ 1000 ∧ fits i = true then some (.int (i ^ j.toNat), h) else none
  | _, _ => none
/-- equal scalars of one kind; other things as data -/
def eqH (h : Hh) (x y : AV) : Option Bool := match x, y with
  | .str s, .str t => some (s == t)
  | .int i, .int j => some (i == j)
  | .bl a, .bl b => some (a == b)
  | x, y => match reify 40 h x, reify 40 h y with
    | some d, some e => if (d.fine && e.fine) = true then some (D.eqv d e) else none
    | _, _ => none
def opEq : Op2 := fun x y h => (eqH h x y).map fun b => (.bl b, h)
def opNe : Op2 := fun x y h => (eqH h x y).map fun b => (.bl (!b), h)
def opLt : Op2 := fun x y h => match x, y with
  | .int i, .int j => some (.bl (decide (i < j)), h)
  | .str s, .str t => some (.bl (decide (s < t)), h)
  | _, _ => none
def opLe : Op2 := fun x y h => match x, y with
  | .int i, .int j => some (.bl (decide (i ≤ j)), h)
  | .str s, .str t => some (.bl (!decide (t < s)), h)
  | _, _ => none
def opGt : Op2 := fun x y h => match x, y with
  | .int i, .int j => some (.bl (decide (j < i)), h)
  | .str s, .str t => some (.bl (decide (t < s)), h)
  | _, _ => none
def opGe : Op2 := fun x y h => match x, y with
  | .int i, .int j => some (.bl (decide (j ≤ i)), h)
  | .str s, .str t => some (.bl (!decide (s < t)), h)
  | _, _ => none
def opIs : Op2 := fun x y h => match x, y with
  | x, .non => some (.bl (decide (x = .non)), h)
  | .bl a, .bl b => some (.bl (decide (a = b)), h)
  | _, _ => none
def opIsNot : Op2 := fun x y h => match x, y with
  | x, .non => some (.bl (!decide (x = .non)), h)
  | .bl a, .bl b => some (.bl (!decide (a = b)), h)
  | _, _ => none

section
variable {X : Cx} {c : Ct} {W : WX}
theorem dop {F : Value → Value → Sem Value} {f : Op2} (h : ∀ (pins : List (Addr × Obj)) (s : Shared) (σ : L2.St) (H : Hp) (x y : V) (v u : Value) (Q : VK) ι a b ah w ah', Inv X pins σ H s → RelV x v → RelV y u →
    RelH X.K c ι ah H → RV c ι a x → RV c ι b y → f a b ah = some (w, ah') → (∀ ι' H' z, Ext H ι H' ι' → RelH X.K c ι' ah' H' → RV c ι' w z → Q z H') → wpAny (model X.prog X.w) X.A (F v u) (EP X pins σ Q) X.xe s) : DOp X c F f :=
  fun pins s σ H x y v u Q I rx ry ⟨ι, a, b, ah, w, ah', rh, ra, rb, e, q⟩ => h pins s σ H x y v u Q ι a b ah w ah' I rx ry rh ra rb e q
theorem le_of_line {a : Nat} (h : a ≤ LINE) : a ≤ sizeLine := by rw [line_eq]; exact h
/-- list + list, whatever is read -/
theorem cat_any : OpR X (binaryOp .Add) (fun x y H Q => ∃ l b xs zs, x = .ref l ∧ y = .ref b ∧ SqL X.K H l xs ∧ SqL X.K H b zs ∧ xs.length + zs.length ≤ sizeLine ∧ ∀ p, H p = none → Q (.ref p) (upd H p (.lst (xs ++ zs)))) := by
  intro pins s σ H x y v u Q I rx ry h
  obtain ⟨l, b, xs, zs, rfl, rfl, hH, hB, hz, q⟩ := h
  cases rx
  cases ry
  obtain ⟨its, r, p1, _⟩ := I.list hH
  obtain ⟨its2, r2, p2, _⟩ := I.list hB
  have hl := r.length
  have hl2 := r2.length
  obtain ⟨⟨cls, dd, data, slt⟩, ho, hc, n, hd⟩ := p1.isList
  obtain ⟨⟨cls2, dd2, data2, sl2⟩, ho2, hc2, n2, hd2⟩ := p2.isList
  simp only at hc hd hc2 hd2
  subst hc hd hc2 hd2
  refine concat_meets ⟨_, ho, rfl⟩ ⟨_, ho2, rfl⟩ noFill_list_add seq_list_add PySem.F.slot_list_add PySem.F.entry_list_add (PySem.F.args_list_add_2 _ _) (list_addW l b its.toArray its2.toArray n n2 dd dd2 slt sl2 (by rw [List.size_toArray, List.size_toArray]; omega)) ⟨ho, ho2, ?_⟩
  have ea : its.toArray ++ its2.toArray = (its ++ its2).toArray := by simp
  rw [ea]
  exact ⟨.ref _, _, I.lnew (t' := s.toks) (r.append r2) (by rw [List.length_append]; omega), rfl, q _ I.fresh⟩
theorem Paired.app {α β : Type} {G : α → β → Prop} : ∀ {a : List α} {b : List β} {d : List α} {e : List β}, Paired G a b → Paired G d e → Paired G (a ++ d) (b ++ e)
  | _, _, _, _, .nil, h => h
  | _, _, _, _, .cons r t, h => .cons r (Paired.app t h)
theorem lay_lst {K : PySem.W.Frag} {ι : List Addr} {ah : Hh} {H : Hp} {Q : VK} {xs : List AV} {vs : List V} (rh : RelH K c ι ah H) (rv : RVs c ι xs vs)
    (q : ∀ ι' H' z, Ext H ι H' ι' → RelH K c ι' (ah ++ [.lst xs]) H' → RV c ι' (.ref ah.length) z → Q z H') : ∀ p, H p = none → Q (.ref p) (upd H p (.lst vs)) := fun p hp =>
  q (ι ++ [p]) _ (.ref p) (Ext.lay hp) (rh.lay hp ⟨vs, rv.app [p], upd_same⟩) ⟨p, by rw [← rh.len]; simp, rfl⟩
theorem lay_tup {K : PySem.W.Frag} {ι : List Addr} {ah : Hh} {H : Hp} {Q : VK} {xs : List AV} {vs : List V} (rh : RelH K c ι ah H) (rv : RVs c ι xs vs)
    (q : ∀ ι' H' z, Ext H ι H' ι' → RelH K c ι' (ah ++ [.tup xs]) H' → RV c ι' (.ref ah.length) z → Q z H') : ∀ p, H p = none → Q (.ref p) (upd H p (.tup vs)) := fun p hp =>
  q (ι ++ [p]) _ (.ref p) (Ext.lay hp) (rh.lay hp ⟨vs, rv.app [p], .inl upd_same⟩) ⟨p, by rw [← rh.len]; simp, rfl⟩
theorem do_add : DOp X c (binaryOp .Add) opAdd := dop fun pins s σ H x y v u Q ι a b ah w ah' I rx ry rh ra rb e q => by
  unfold opAdd at e
  split at e
  · rename_i i j
    cases e; cases ra; cases rb
    exact op_add pins s σ H _ _ v u Q I rx ry ⟨i, j, rfl, rfl, q ι H _ (Ext.refl _ _) rh rfl⟩
  · rename_i i j
    split at e
    · rename_i hl
      cases e; cases ra; cases rb
      exact op_add_str pins s σ H _ _ v u Q I rx ry ⟨_, _, rfl, rfl, by rw [mkS_len, mkS_len]; exact le_of_line hl, by rw [mkS_app]; exact q ι H _ (Ext.refl _ _) rh rfl⟩
    · cases e
  · split at e
    · rename_i xs ys e1 e2
      split at e
      · rename_i hl
        cases e
        obtain ⟨a1, vs, rfl, s1, r1⟩ := rdL_ok rh e1 ra
        obtain ⟨a2, ws, rfl, s2, r2⟩ := rdL_ok rh e2 rb
        refine cat_any pins s σ H _ _ v u Q I rx ry ⟨a1, a2, vs, ws, rfl, rfl, s1, s2, ?_, lay_lst rh (Paired.app r1 r2) q⟩
        rw [← Paired.length r1, ← Paired.length r2]; exact le_of_line hl
      · cases e
    · cases e
theorem do_sub : DOp X c (binaryOp .Sub) opSub := dop fun pins s σ H x y v u Q ι a b ah w ah' I rx ry rh ra rb e q => by
  unfold opSub at e
  split at e
  · rename_i i j
    cases e; cases ra; cases rb
    exact op_sub pins s σ H _ _ v u Q I rx ry ⟨i, j, rfl, rfl, q ι H _ (Ext.refl _ _) rh rfl⟩
  · cases e
theorem Paired.rep {α β : Type} {G : α → β → Prop} {a : List α} {b : List β} (h : Paired G a b) : ∀ k : Nat, Paired G (List.replicate k a).flatten (List.replicate k b).flatten
  | 0 => .nil
  | k + 1 => by rw [List.replicate_succ, List.replicate_succ, List.flatten_cons, List.flatten_cons]; exact Paired.app h (Paired.rep h k)
theorem foldl_app (x : Array Nat) (s : List Nat) (hx : x.toList = s) : ∀ (k : Nat) (acc : Array Nat), ((List.replicate k x).foldl (· ++ ·) acc).toList = acc.toList ++ (List.replicate k s).flatten
  | 0, acc => by simp
  | k + 1, acc => by
    rw [List.replicate_succ, List.foldl_cons, foldl_app x s hx k, List.replicate_succ, List.flatten_cons]
    simp [hx]
theorem fits_log {i : Int} (h : fits i = true) : i.natAbs.log2 < 4097 := Nat.lt_succ_of_lt (PySem.Flt.log2_lt_of (k := BIG) (by decide) (fits_lt h))
theorem do_mul : DOp X c (binaryOp .Mult) opMul := dop fun pins s σ H x y v u Q ι a b ah w ah' I rx ry rh ra rb e q => by
  unfold opMul at e
  split at e
  · rename_i i j
    split at e
    · rename_i hf
      rw [Bool.and_eq_true] at hf
      cases e; cases ra; cases rb
      have h1 := fits_log hf.1
      have h2 := fits_log hf.2
      exact op_mulW pins s σ H _ _ v u Q I rx ry ⟨i, j, rfl, rfl, (by show i.natAbs.log2 + j.natAbs.log2 < 1000000; omega), q ι H _ (Ext.refl _ _) rh rfl⟩
    · cases e
  · rename_i t n
    split at e
    · rename_i hl
      obtain ⟨h1, h2, h3⟩ := hl
      cases e; cases ra; cases rb
      obtain ⟨t1, rfl⟩ := rx
      obtain ⟨t2, rfl⟩ := ry
      have hL : LINE = 16777216 := rfl
      have fin : ∀ (z : Str) (s' : Shared) (tk : Tok), mkS (List.replicate n.toNat t).flatten = z → Inv X pins σ H s' → EP X pins σ Q (.str z tk) s' := fun z s' tk ez I' => ⟨.str z, H, I', ⟨_, rfl⟩, by rw [← ez]; exact q ι H _ (Ext.refl _ _) rh rfl⟩
      refine PySem.P.mul_str ?_ (fun hn hx => ?_) (fun hn hx => ?_) ?_
      · rw [decide_eq_false (by omega), decide_eq_false (by omega)]; rfl
      · rw [mkS_len]
        have hn1 : 1 ≤ n := by omega
        have hb : (8796093022207 : Int) ≤ (2 ^ 63 - 1) / n := (Int.le_ediv_iff_mul_le (by omega)).mpr (by omega)
        have hs : t.length ≤ LINE := by
          have : 1 ≤ n.toNat := by omega
          exact Nat.le_trans (Nat.le_mul_of_pos_right _ this) h3
        omega
      · unfold Builtin.Str.tooLong
        rw [mkS_len]
        exact decide_eq_false (by rw [line_eq]; omega)
      · by_cases hn : n < 1
        · rw [if_pos hn]
          have e0 : n.toNat = 0 := by omega
          exact ⟨by decide, fin _ _ _ (by rw [e0]; rfl) (I.tok _)⟩
        · rw [if_neg hn]
          by_cases hx : (n == 1 || (mkS t).length == 0) = true
          · rw [if_pos hx]
            refine fin _ _ _ ?_ I
            rw [Bool.or_eq_true, beq_iff_eq, beq_iff_eq, mkS_len] at hx
            rcases hx with e1 | e1
            · rw [e1]; simp [mkS]
            · have : t = [] := List.eq_nil_of_length_eq_zero e1
              subst this
              simp
          · rw [if_neg hx]
            have key : mkS (List.replicate n.toNat t).flatten = (⟨(List.replicate n.toNat (mkS t).cps).foldl (· ++ ·) #[]⟩ : Str) := by
              apply Str.ext'
              apply Array.toList_inj.mp
              show (List.replicate n.toNat t).flatten.toArray.toList = ((List.replicate n.toNat (mkS t).cps).foldl (· ++ ·) #[]).toList
              rw [foldl_app (mkS t).cps t (by simp [mkS])]
              simp
            refine ⟨?_, fin _ _ _ key (I.tok _)⟩
            rw [← key, mkS_len, lm_len_rep_flat, line_eq, Nat.mul_comm]
            exact h3
    · cases e
  · rename_i k n
    split at e
    · rename_i xs hk
      split at e
      · rename_i hl
        obtain ⟨h1, h2, h3⟩ := hl
        cases e
        obtain ⟨a1, rfl, _, vs, rv, ha⟩ := rh.at hk ra
        cases rb
        refine op_rep pins s σ H _ _ v u Q I rx ry ⟨a1, n, vs, rfl, rfl, ha, by omega, by omega, ?_, lay_lst rh (Paired.rep rv n.toNat) q⟩
        rw [← Paired.length rv]; exact le_of_line h3
      · cases e
    · cases e
  · cases e
theorem do_div : DOp X c (binaryOp .FloorDiv) opDiv := dop fun pins s σ H x y v u Q ι a b ah w ah' I rx ry rh ra rb e q => by
  unfold opDiv at e
  split at e
  · rename_i i j
    split at e
    · rename_i hf
      cases e; cases ra; cases rb
      have h2 := fits_log hf.2
      exact op_fdivW pins s σ H _ _ v u Q I rx ry ⟨i, j, rfl, rfl, ⟨hf.1, by omega⟩, q ι H _ (Ext.refl _ _) rh rfl⟩
    · cases e
  · cases e
theorem do_mod : DOp X c (binaryOp .Mod) opMod := dop fun pins s σ H x y v u Q ι a b ah w ah' I rx ry rh ra rb e q => by
  unfold opMod at e
  split at e
  · rename_i i j
    split at e
    · rename_i hf
      cases e; cases ra; cases rb
      exact op_mod pins s σ H _ _ v u Q I rx ry ⟨i, j, rfl, rfl, hf, q ι H _ (Ext.refl _ _) rh rfl⟩
    · cases e
  · cases e
theorem do_pow : DOp X c (binaryOp .Pow) opPow := dop fun pins s σ H x y v u Q ι a b ah w ah' I rx ry rh ra rb e q => by
  unfold opPow at e
  split at e
  · rename_i i j
    split at e
    · rename_i hf
      obtain ⟨h0, h1, h2⟩ := hf
      cases e; cases ra; cases rb
      obtain ⟨t1, rfl⟩ := rx
      obtain ⟨t2, rfl⟩ := ry
      have hb : Builtin.Int.intBits i ≤ BIG := intBits_le (fits_lt h2)
      have hB : BIG = 4096 := rfl
      refine pow_int h0 ?_ ⟨.int (i ^ j.toNat), H, I.tok _, ⟨_, rfl⟩, q ι H _ (Ext.refl _ _) rh rfl⟩
      have hm : (Builtin.Int.intBits i : Int) * j ≤ 4096 * 1000 := Int.mul_le_mul (by omega) h1 h0 (by decide)
      exact Int.le_trans hm (by decide)
    · cases e
  · cases e
theorem fin_b {H : Hp} {Q : VK} {ι : List Addr} {ah : Hh} {k : Bool} (rh : RelH X.K c ι ah H) (q : ∀ ι' H' z, Ext H ι H' ι' → RelH X.K c ι' ah H' → RV c ι' (.bl k) z → Q z H') : Q (.bl k) H :=
  q ι H _ (Ext.refl _ _) rh rfl
theorem do_eq (hu : X.A.units + 64 < cLine) : DOp X c (compareOp .Eq) opEq := dop fun pins s σ H x y v u Q ι a b ah w ah' I rx ry rh ra rb e q => by
  obtain ⟨k, e1, e2⟩ := Option.map_eq_some_iff.mp e
  cases e2
  have qq := fin_b rh q
  unfold eqH at e1
  split at e1
  · cases e1; cases ra; cases rb
    exact op_eq pins s σ H _ _ v u Q I rx ry ⟨rfl, by rw [dec_str, mkS_beq]; exact qq⟩
  · cases e1; cases ra; cases rb
    exact op_eq pins s σ H _ _ v u Q I rx ry ⟨rfl, by rw [dec_int]; exact qq⟩
  · cases e1; cases ra; cases rb
    exact op_eq pins s σ H _ _ v u Q I rx ry ⟨rfl, by rw [dec_bl]; exact qq⟩
  · split at e1
    · rename_i d1 d2 f1 f2
      split at e1
      · rename_i hf
        rw [Bool.and_eq_true] at hf
        cases e1
        exact op_eqD hu pins s σ H x y v u Q I rx ry ⟨_, _, reify_dp rh 40 _ _ _ f1 ra, reify_dp rh 40 _ _ _ f2 rb, reify_shaped f1 (by decide) hf.1, reify_shaped f2 (by decide) hf.2, by rw [py_eqv]; exact qq⟩
      · cases e1
    · cases e1
theorem do_ne (hu : X.A.units + 64 < cLine) : DOp X c (compareOp .NotEq) opNe := dop fun pins s σ H x y v u Q ι a b ah w ah' I rx ry rh ra rb e q => by
  obtain ⟨k, e1, e2⟩ := Option.map_eq_some_iff.mp e
  cases e2
  have qq := fin_b rh q
  unfold eqH at e1
  split at e1
  · cases e1; cases ra; cases rb
    exact op_ne pins s σ H _ _ v u Q I rx ry ⟨rfl, by rw [dec_str, mkS_beq]; exact qq⟩
  · cases e1; cases ra; cases rb
    exact op_ne pins s σ H _ _ v u Q I rx ry ⟨rfl, by rw [dec_int]; exact qq⟩
  · cases e1; cases ra; cases rb
    exact op_ne pins s σ H _ _ v u Q I rx ry ⟨rfl, by rw [dec_bl]; exact qq⟩
  · split at e1
    · rename_i d1 d2 f1 f2
      split at e1
      · rename_i hf
        rw [Bool.and_eq_true] at hf
        cases e1
        exact op_neD hu pins s σ H x y v u Q I rx ry ⟨_, _, reify_dp rh 40 _ _ _ f1 ra, reify_dp rh 40 _ _ _ f2 rb, reify_shaped f1 (by decide) hf.1, reify_shaped f2 (by decide) hf.2, by rw [py_eqv]; exact qq⟩
      · cases e1
    · cases e1
theorem mkS_cps (s : List Nat) : (mkS s).cps.toList = s := by simp [mkS]
theorem do_lt : DOp X c (compareOp .Lt) opLt := dop fun pins s σ H x y v u Q ι a b ah w ah' I rx ry rh ra rb e q => by
  unfold opLt at e
  split at e
  · cases e; cases ra; cases rb
    exact op_lt pins s σ H _ _ v u Q I rx ry ⟨_, _, rfl, rfl, fin_b rh q⟩
  · cases e; cases ra; cases rb
    exact op_lt_str pins s σ H _ _ v u Q I rx ry ⟨_, _, rfl, rfl, by rw [mkS_cps, mkS_cps]; exact fin_b rh q⟩
  · cases e
theorem do_le : DOp X c (compareOp .LtE) opLe := dop fun pins s σ H x y v u Q ι a b ah w ah' I rx ry rh ra rb e q => by
  unfold opLe at e
  split at e
  · cases e; cases ra; cases rb
    exact op_le pins s σ H _ _ v u Q I rx ry ⟨_, _, rfl, rfl, fin_b rh q⟩
  · cases e; cases ra; cases rb
    exact op_le_str pins s σ H _ _ v u Q I rx ry ⟨_, _, rfl, rfl, by rw [mkS_cps, mkS_cps]; exact fin_b rh q⟩
  · cases e
theorem do_gt : DOp X c (compareOp .Gt) opGt := dop fun pins s σ H x y v u Q ι a b ah w ah' I rx ry rh ra rb e q => by
  unfold opGt at e
  split at e
  · cases e; cases ra; cases rb
    exact op_gt pins s σ H _ _ v u Q I rx ry ⟨_, _, rfl, rfl, fin_b rh q⟩
  · cases e; cases ra; cases rb
    exact op_gt_str pins s σ H _ _ v u Q I rx ry ⟨_, _, rfl, rfl, by rw [mkS_cps, mkS_cps]; exact fin_b rh q⟩
  · cases e
theorem do_ge : DOp X c (compareOp .GtE) opGe := dop fun pins s σ H x y v u Q ι a b ah w ah' I rx ry rh ra rb e q => by
  unfold opGe at e
  split at e
  · cases e; cases ra; cases rb
    exact op_ge pins s σ H _ _ v u Q I rx ry ⟨_, _, rfl, rfl, fin_b rh q⟩
  · cases e; cases ra; cases rb
    exact op_ge_str pins s σ H _ _ v u Q I rx ry ⟨_, _, rfl, rfl, by rw [mkS_cps, mkS_cps]; exact fin_b rh q⟩
  · cases e
theorem rv_non {ι : List Addr} {a : AV} {x : V} (r : RV c ι a x) : decide (x = V.non) = decide (a = .non) := by
  cases a with
  | non => cases r; rfl
  | bl b => cases r; simp
  | int b => cases r; simp
  | str b => cases r; simp
  | ref n => obtain ⟨a, _, rfl⟩ := r; simp
  | con k => obtain ⟨rfl, _⟩ := r; simp
  | scr ns => obtain ⟨rfl, _⟩ := r; simp
theorem do_is : DOp X c (compareOp .Is) opIs := dop fun pins s σ H x y v u Q ι a b ah w ah' I rx ry rh ra rb e q => by
  unfold opIs at e
  split at e
  · cases e; cases rb
    exact op_isN pins s σ H _ _ v u Q I rx ry ⟨rfl, by rw [rv_non ra]; exact fin_b rh q⟩
  · cases e; cases ra; cases rb
    exact op_isBl pins s σ H _ _ v u Q I rx ry ⟨_, _, rfl, rfl, fin_b rh q⟩
  · cases e
theorem do_isNot : DOp X c (compareOp .IsNot) opIsNot := dop fun pins s σ H x y v u Q ι a b ah w ah' I rx ry rh ra rb e q => by
  unfold opIsNot at e
  split at e
  · cases e; cases rb
    exact op_notN pins s σ H _ _ v u Q I rx ry ⟨rfl, by rw [rv_non ra]; exact fin_b rh q⟩
  · cases e; cases ra; cases rb
    exact op_notBl pins s σ H _ _ v u Q I rx ry ⟨_, _, rfl, rfl, fin_b rh q⟩
  · cases e
end
end Det

/-! Det4: statements, loops, comprehensions, calls, defs. -/
namespace Det
open PySem PySem.Spec PyProof.Rows L2

inductive RSt where
  | nx (sl : Sl) (h : Hh) | rt (v : AV) (h : Hh) | bk (sl : Sl) (h : Hh) | ct (sl : Sl) (h : Hh) | ex (x : AX) (sl : Sl) (h : Hh) | no
def R.bindS {α : Type} (r : R α) (sl : Sl) (k : α → Hh → RSt) : RSt := match r with
  | .ok a h => k a h | .ex x h => .ex x sl h | .no => .no
def PostS (K : PySem.W.Frag) (c : Ct) (W : WX) (H : Hp) (ι : List Addr) (r : RSt) (D : Ends) : Prop :=
  match r with
  | .nx sl ah => ∀ ι' H' σ', Ext H ι H' ι' → RelH K c ι' ah H' → RS c ι' sl σ' → D.nx σ' H'
  | .bk sl ah => ∀ ι' H' σ', Ext H ι H' ι' → RelH K c ι' ah H' → RS c ι' sl σ' → D.bk σ' H'
  | .ct sl ah => ∀ ι' H' σ', Ext H ι H' ι' → RelH K c ι' ah H' → RS c ι' sl σ' → D.ct σ' H'
  | .rt v ah => ∀ ι' H' x, Ext H ι H' ι' → RelH K c ι' ah H' → RV c ι' v x → D.rt x H'
  | .ex x sl ah => ∀ ι' H' σ' cls d, Ext H ι H' ι' → RelH K c ι' ah H' → RS c ι' sl σ' → RX c ι' x cls d → W cls d σ' H'
  | .no => False
abbrev Es := Sl → Hh → RSt
def tDs (K : PySem.W.Frag) (c : Ct) (W : WX) (m : Es) : TS := fun D σ H => ∃ ι sl ah, RelH K c ι ah H ∧ RS c ι sl σ ∧ PostS K c W H ι (m sl ah) D
abbrev DS (X : Cx) (c : Ct) (W : WX) (st : Stmt) (m : Es) : Prop := PS X st (tDs X.K c W m)
abbrev DSs (X : Cx) (c : Ct) (W : WX) (st : List Stmt) (m : Es) : Prop := PSs X st (tDs X.K c W m)

section
variable {K : PySem.W.Frag} {c : Ct} {W : WX} {σ : L2.St} {H H1 : Hp} {ι ι1 : List Addr} {ah ah1 : Hh} {sl : Sl} {D D' : Ends} {α β : Type}
theorem PostS.shift {r : RSt} (p : PostS K c W H ι r D) (e : Ext H ι H1 ι1) (h1 : RelH K c ι1 ah1 H1) : PostS K c W H1 ι1 r D := by
  cases r with
  | nx sl ah => exact fun ι' H' σ' e' r' q => p ι' H' σ' (e.trans h1 e') r' q
  | bk sl ah => exact fun ι' H' σ' e' r' q => p ι' H' σ' (e.trans h1 e') r' q
  | ct sl ah => exact fun ι' H' σ' e' r' q => p ι' H' σ' (e.trans h1 e') r' q
  | rt v ah => exact fun ι' H' x e' r' q => p ι' H' x (e.trans h1 e') r' q
  | ex x sl ah => exact fun ι' H' σ' cl d e' r' q s => p ι' H' σ' cl d (e.trans h1 e') r' q s
  | no => exact p
/-- an expression ahead of a statement's rest -/
theorem PostS.step {RB : List Addr → α → β → Prop} {r : R α} {k : α → Hh → RSt} {Q' : β → Hp → Prop} (S : RS c ι sl σ) (p : PostS K c W H ι (r.bindS sl k) D)
    (h : ∀ b H1 ι1 a ah1, Ext H ι H1 ι1 → RelH K c ι1 ah1 H1 → RB ι1 a b → RS c ι1 sl σ → PostS K c W H1 ι1 (k a ah1) D → Q' b H1) : Post K c W σ H ι RB r Q' := by
  cases r with
  | ok a ah => exact fun ι' H' b e r' q => h b H' ι' a ah e r' q (S.ext e) (PostS.shift p e r')
  | ex x ah => exact fun ι' H' cl d e r' q => p ι' H' σ cl d e r' (S.ext e) q
  | no => exact p
theorem PostS.nx (p : PostS K c W H ι (.nx sl ah) D) (rh : RelH K c ι ah H) (S : RS c ι sl σ) : D.nx σ H := p ι H σ (Ext.refl _ _) rh S
theorem RS.set {v : AV} {x : V} (S : RS c ι sl σ) (r : RV c ι v x) (i : Nat) : RS c ι (sl.set i (some v)) (σ.set i (some x)) := by
  have : ∀ {a : Sl} {b : L2.St} (i : Nat), Paired (RSl c ι) a b → Paired (RSl c ι) (a.set i (some v)) (b.set i (some x)) := by
    intro a b i h
    induction h generalizing i with
    | nil => exact .nil
    | cons q t ih => cases i with
      | zero => exact .cons r t
      | succ i => exact .cons q (ih i)
  exact this i S
theorem RS.unset (S : RS c ι sl σ) (i : Nat) {z : Option V} : RS c ι (sl.set i none) (σ.set i z) := by
  have : ∀ {a : Sl} {b : L2.St} (i : Nat), Paired (RSl c ι) a b → Paired (RSl c ι) (a.set i none) (b.set i z) := by
    intro a b i h
    induction h generalizing i with
    | nil => exact .nil
    | cons q t ih => cases i with
      | zero => exact .cons trivial t
      | succ i => exact .cons q (ih i)
  exact this i S
end

/-! ### blocks -/
def mSkip : Es := fun sl h => .nx sl h
def mSeq (m n : Es) : Es := fun sl h => match m sl h with
  | .nx sl' h' => n sl' h'
  | .rt v h => .rt v h
  | .bk sl h => .bk sl h
  | .ct sl h => .ct sl h
  | .ex x sl h => .ex x sl h
  | .no => .no
def mStop : Es := fun _ _ => .no
def mBreak : Es := fun sl h => .bk sl h
def mCont : Es := fun sl h => .ct sl h
def mExpr (m : Ev) : Es := fun sl h => (m sl h).bindS sl fun _ h1 => .nx sl h1
def mRet (m : Ev) : Es := fun sl h => (m sl h).bindS sl fun v h1 => .rt v h1
def mIf (t : Et) (m n : Es) : Es := fun sl h => (t sl h).bindS sl fun b h1 => if b = true then m sl h1 else n sl h1
def mSet (i : Nat) (m : Ev) : Es := fun sl h => (m sl h).bindS sl fun v h1 => .nx (sl.set i (some v)) h1
section
variable {X : Cx} {c : Ct} {W : WX} {st : Stmt} {rest : List Stmt} {m n : Es} {e : Expr} {me : Ev} {pos : Pos}
theorem dss_nil : DSs X c W [] mSkip := pss_imp pss_nil fun D σ H ⟨ι, sl, ah, rh, S, p⟩ => p.nx rh S
theorem seq_post {K : PySem.W.Frag} {H : Hp} {ι : List Addr} {sl : Sl} {ah : Hh} {D : Ends} (p : PostS K c W H ι (mSeq m n sl ah) D) : PostS K c W H ι (m sl ah) { D with nx := fun σ' H' => tDs K c W n D σ' H' } := by
  unfold mSeq at p
  revert p
  cases m sl ah with
  | nx sl' h' => exact fun p ι' H' σ' e r' q => ⟨ι', sl', h', r', q, PostS.shift p e r'⟩
  | _ => exact fun p => p
theorem dss_cons (h1 : DS X c W st m) (h2 : DSs X c W rest n) : DSs X c W (st :: rest) (mSeq m n) :=
  pss_imp (pss_cons h1 h2) fun D σ H ⟨ι, sl, ah, rh, S, p⟩ => ⟨ι, sl, ah, rh, S, seq_post p⟩
theorem dss_one (h1 : DS X c W st m) : DSs X c W [st] m := pss_one h1
theorem dss_stop {sts : List Stmt} : DSs X c W sts mStop := pss_imp pss_never fun _ _ _ ⟨_, _, _, _, _, p⟩ => p
theorem ds_stop : DS X c W st mStop := ps_imp ps_never fun _ _ _ ⟨_, _, _, _, _, p⟩ => p
theorem ds_pass : DS X c W (.Pass pos) mSkip := ps_imp ps_pass fun D σ H ⟨ι, sl, ah, rh, S, p⟩ => p.nx rh S
theorem ds_doc {x : Str} {j pos'} : DS X c W (.Expr (.Constant (.str x) j pos) pos') mSkip := ps_imp ps_doc fun D σ H ⟨ι, sl, ah, rh, S, p⟩ => p.nx rh S
theorem ds_break : DS X c W (.Break pos) mBreak := ps_imp ps_break fun D σ H ⟨ι, sl, ah, rh, S, p⟩ => p ι H σ (Ext.refl _ _) rh S
theorem ds_cont : DS X c W (.Continue pos) mCont := ps_imp ps_continue fun D σ H ⟨ι, sl, ah, rh, S, p⟩ => p ι H σ (Ext.refl _ _) rh S
theorem ds_expr (he : DE X c W e me) (hs : swapsWith e none pos.line X.env = pure false := by rfl) : DS X c W (.Expr e pos) (mExpr me) :=
  ps_imp (ps_expr he hs) fun D σ H ⟨ι, sl, ah, rh, S, p⟩ => ⟨ι, sl, ah, rh, S, PostS.step S p fun x H1 ι1 a ah1 e1 r1 ra S1 p1 => p1.nx r1 S1⟩
theorem ds_ret (he : DE X c W e me) : DS X c W (.Return (some e) pos) (mRet me) :=
  ps_imp (ps_ret he) fun D σ H ⟨ι, sl, ah, rh, S, p⟩ => ⟨ι, sl, ah, rh, S, PostS.step S p fun x H1 ι1 a ah1 e1 r1 ra S1 p1 => p1 ι1 H1 x (Ext.refl _ _) r1 ra⟩
theorem ds_retN : DS X c W (.Return none pos) (fun _ h => .rt .non h) := ps_imp ps_retN fun D σ H ⟨ι, sl, ah, rh, S, p⟩ => p ι H .non (Ext.refl _ _) rh rfl
theorem ds_if {d : Expr} {a b : List Stmt} {t : Et} (hc : DT X c W d t) (ha : DSs X c W a m) (hb : DSs X c W b n) : DS X c W (.If d a b pos) (mIf t m n) :=
  ps_imp (ps_if hc ha hb) fun D σ H ⟨ι, sl, ah, rh, S, p⟩ => ⟨ι, sl, ah, rh, S, PostS.step S p fun x H1 ι1 a ah1 e1 r1 ra S1 p1 => by
    cases ra
    cases x with
    | true => exact ⟨ι1, sl, ah1, r1, S1, p1⟩
    | false => exact ⟨ι1, sl, ah1, r1, S1, p1⟩⟩
theorem ds_set {i : Nat} {x : Str} {pos' : Pos} (hN : X.N.Nodup) (hi : X.N[i]? = some x) (hx : Loc X.env.scope x) (he : DE X c W e me) (hs : swapsWith e (some (.Name x pos')) pos.line X.env = pure false := by rfl) (hf : X.fn x = true ∨ X.env.scope.names.lookup x = some .local := by first | exact .inl rfl | exact .inr rfl | assumption) :
    DS X c W (.Assign [.Name x pos'] e pos) (mSet i me) :=
  ps_imp (ps_set hN hi hx he hs hf) fun D σ H ⟨ι, sl, ah, rh, S, p⟩ => ⟨ι, sl, ah, rh, S, PostS.step S p fun x H1 ι1 a ah1 e1 r1 ra S1 p1 => p1.nx r1 (S1.set ra i)⟩
end

/-! ### targets -/
abbrev Eg := List AV → Sl → Hh → Option (Sl × Hh)
/-- a yield: one value, or a pair that is given no name -/
def YV (K : PySem.W.Frag) (c : Ct) (ι : List Addr) (H : Hp) (it : List AV) (v : V) : Prop := match it with
  | [a] => RV c ι a v
  | [a, b] => ∃ T x y, v = .ref T ∧ SqT K H T [x, y] ∧ RV c ι a x ∧ RV c ι b y
  | _ => False
def gY (K : PySem.W.Frag) (c : Ct) (vs : List Nat) (g : Eg) : TG := fun v σ H Q => ∃ ι sl ah it sl' ah', RelH K c ι ah H ∧ RS c ι sl σ ∧ YV K c ι H it v ∧ g it sl ah = some (sl', ah') ∧
  ∀ ι' H' σ', Ext H ι H' ι' → RelH K c ι' ah' H' → RS c ι' sl' σ' → wipe σ' vs = wipe σ vs → Q σ' H'
abbrev DG (X : Cx) (c : Ct) (vs : List Nat) (tg : Expr) (g : Eg) : Prop := PG X tg (gY X.K c vs g)
theorem pg_imp {X : Cx} {e : Expr} {t t' : TG} (h : PG X e t) (k : ∀ v σ H Q, t' v σ H Q → t v σ H Q) : PG X e t' := ⟨fun pins s σ H v u Q I r q => h.run pins s σ H v u Q I r (k v σ H Q q)⟩
theorem pgs_imp {X : Cx} {e : List Expr} {t t' : TGs} (h : PGs X e t) (k : ∀ v σ H Q, t' v σ H Q → t v σ H Q) : PGs X e t' := ⟨fun pins s σ H v u Q I r q => h.run pins s σ H v u Q I r (k v σ H Q q)⟩
def mGn (i : Nat) : Eg := fun it sl h => match it with
  | [a] => some (sl.set i (some a), h)
  | _ => none
/-- the items of a tuple, one after another, to the targets -/
def mGs : List Eg → List AV → Sl → Hh → Option (Sl × Hh)
  | [], [], sl, h => some (sl, h)
  | g :: gs, v :: vs, sl, h => match g [v] sl h with
    | some (sl1, h1) => mGs gs vs sl1 h1
    | none => none
  | _, _, _, _ => none
def mGt (gs : List Eg) : Eg := fun it sl h => match it with
  | [a, b] => mGs gs [a, b] sl h
  | [a] => match rdT h a with
    | some xs => mGs gs xs sl h
    | none => none
  | _ => none
section
variable {X : Cx} {c : Ct} {W : WX} {K : PySem.W.Frag} {σ σ' : L2.St} {H H' : Hp}
theorem wipe_set (vs : List Nat) (i : Nat) (x : Option V) (hi : i ∈ vs) : ∀ σ : L2.St, wipe (σ.set i x) vs = wipe σ vs := by
  induction vs with
  | nil => cases hi
  | cons v vs ih =>
    intro σ
    by_cases h : v = i
    · subst h
      by_cases hm : v ∈ vs
      · simp only [wipe]; rw [ih hm σ]
      · have key : ∀ (vs : List Nat), v ∉ vs → ∀ σ : L2.St, wipe (σ.set v x) vs = (wipe σ vs).set v x := by
          intro vs
          induction vs with
          | nil => intro _ σ; rfl
          | cons w ws ihw =>
            intro hv σ
            simp only [List.mem_cons, not_or] at hv
            simp only [wipe]
            rw [ihw hv.2 σ, List.set_comm _ _ (fun z => hv.1 z)]
        simp only [wipe]
        rw [key vs hm σ, List.set_set]
    · have hm : i ∈ vs := by
        rcases List.mem_cons.mp hi with e | e
        · exact absurd e.symm h
        · exact e
      simp only [wipe]; rw [ih hm σ]
theorem dg_name {i : Nat} {x : Str} {pos : Pos} {vs : List Nat} (hi' : i ∈ vs) (hN : X.N.Nodup) (hi : X.N[i]? = some x) (hx : Loc X.env.scope x) (hf : X.fn x = true ∨ X.env.scope.names.lookup x = some .local := by first | exact .inl rfl | exact .inr rfl | assumption) : DG X c vs (.Name x pos) (mGn i) :=
  pg_imp (pg_name hN hi hx hf) fun v σ H Q ⟨ι, sl, ah, it, sl', ah', rh, S, y, e, q⟩ => by
    unfold mGn at e
    split at e
    · cases e
      exact q ι H _ (Ext.refl _ _) rh (S.set y i) (wipe_set vs i _ hi' σ)
    · cases e
/-- several targets with their values -/
def gYs (K : PySem.W.Frag) (c : Ct) (vs : List Nat) (gs : List Eg) : TGs := fun xs σ H Q => ∃ ι sl ah as sl' ah', RelH K c ι ah H ∧ RS c ι sl σ ∧ RVs c ι as xs ∧ mGs gs as sl ah = some (sl', ah') ∧
  ∀ ι' H' σ', Ext H ι H' ι' → RelH K c ι' ah' H' → RS c ι' sl' σ' → wipe σ' vs = wipe σ vs → Q σ' H'
abbrev DGs (X : Cx) (c : Ct) (vs : List Nat) (tgs : List Expr) (gs : List Eg) : Prop := PGs X tgs (gYs X.K c vs gs)
theorem dgs_nil {vs : List Nat} : DGs X c vs [] [] := pgs_imp pgs_nil fun xs σ H Q ⟨ι, sl, ah, as, sl', ah', rh, S, rv, e, q⟩ => by
  cases rv with
  | nil => cases e; exact ⟨rfl, q ι H σ (Ext.refl _ _) rh S rfl⟩
  | cons _ _ => cases e
theorem dgs_cons {vs : List Nat} {e : Expr} {es : List Expr} {g : Eg} {gs : List Eg} (h1 : DG X c vs e g) (h2 : DGs X c vs es gs)
    (hs : (assignEach (e :: es) X.env).map (·.2) = assign e X.env :: (assignEach es X.env).map (·.2) := by rfl) : DGs X c vs (e :: es) (g :: gs) :=
  pgs_imp (pgs_cons h1 h2 hs) fun xs σ H Q ⟨ι, sl, ah, as, sl', ah', rh, S, rv, e, q⟩ => by
    cases rv with
    | nil => cases e
    | @cons a b as bs r t =>
      unfold mGs at e
      split at e
      · rename_i sl1 h1 e1
        exact ⟨_, _, rfl, ι, sl, ah, [a], sl1, h1, rh, S, r, e1, fun ι' H' σ' x' r' S' w' =>
          ⟨ι', sl1, h1, as, sl', ah', r', S', RVs.ext t x', e, fun ι2 H2 σ2 x2 r2 S2 w2 => q ι2 H2 σ2 (x'.trans r' x2) r2 S2 (w2.trans w')⟩⟩
      · cases e
theorem mGs_len : ∀ (gs : List Eg) (as : List AV) (sl : Sl) (h : Hh) (z : Sl × Hh), mGs gs as sl h = some z → as.length = gs.length
  | [], [], _, _, _, _ => rfl
  | g :: gs, v :: vs, sl, h, z, e => by
    unfold mGs at e
    split at e
    · rename_i sl1 h1 _
      have := mGs_len gs vs sl1 h1 z e
      simp [this]
    · cases e
  | [], _ :: _, _, _, _, e => by cases e
  | _ :: _, [], _, _, _, e => by cases e
theorem dg_tup {es : List Expr} {k : Nat} {pos : Pos} {vs : List Nat} {gs : List Eg} (hc : X.calm = true) (h : DGs X c vs es gs)
    (hn : (assignEach es X.env).length = gs.length := by rfl) (hst : (assignEach es X.env).findIdx? (·.1) = none := by rfl) : DG X c vs (.Tuple es k pos) (mGt gs) :=
  pg_imp (pg_tup hc h hn hst) fun v σ H Q ⟨ι, sl, ah, it, sl', ah', rh, S, y, e, q⟩ => by
    unfold mGt at e
    split at e
    · rename_i a b
      obtain ⟨T, x, y', rfl, s, ra, rb⟩ := y
      exact ⟨T, _, rfl, s, mGs_len _ _ _ _ _ e, ι, sl, ah, [a, b], sl', ah', rh, S, .cons ra (.cons rb .nil), e, q⟩
    · rename_i a
      split at e
      · rename_i xs e1
        obtain ⟨T, ws, rfl, s, rv⟩ := rdT_ok rh e1 y
        exact ⟨T, ws, rfl, s, by rw [← Paired.length rv]; exact mGs_len _ _ _ _ _ e, ι, sl, ah, xs, sl', ah', rh, S, rv, e, q⟩
      · cases e
    · cases e
/-- target = value -/
def mAsg (g : Eg) (m : Ev) : Es := fun sl h => (m sl h).bindS sl fun v h1 => match g [v] sl h1 with
  | some (sl', h2) => .nx sl' h2
  | none => .no
theorem ds_asg {tg e : Expr} {pos : Pos} {me : Ev} {g : Eg} {vs : List Nat} (he : DE X c W e me) (hg : DG X c vs tg g) (hs : swapsWithSole [tg] e pos.line X.env = pure false := by rfl) (hw : swappedStores [tg] e X.env = pure none := by rfl)
    (h1 : (assignEach [tg] X.env).map (·.2) = [assign tg X.env] := by rfl) : DS X c W (.Assign [tg] e pos) (mAsg g me) :=
  ps_imp (ps_asg he hg hs hw h1) fun D σ H ⟨ι, sl, ah, rh, S, p⟩ => ⟨ι, sl, ah, rh, S, PostS.step S p fun x H1 ι1 a ah1 e1 r1 ra S1 p1 => by
    cases e : g [a] sl ah1 with
    | none => rw [e] at p1; exact p1.elim
    | some z =>
      obtain ⟨sl', h2⟩ := z
      rw [e] at p1
      exact ⟨ι1, sl, ah1, [a], sl', h2, r1, S1, ra, e, fun ι' H' σ' x' r' S' _ => p1 ι' H' σ' x' r' S'⟩⟩
/-- a, b = x, y with plain local names -/
def mPar (i j : Nat) (ma mb : Ev) : Es := fun sl h => (ma sl h).bindS sl fun v h1 => (mb sl h1).bindS sl fun w h2 => .nx ((sl.set i (some v)).set j (some w)) h2
end
end Det

/-! Det5: argument lists, displays, loops, comprehensions. -/
namespace Det
open PySem PySem.Spec PyProof.Rows L2

/-! ### argument lists, displays -/
def mNil : Ea := fun _ h => .ok [] h
def mCons (ma : Ev) (mr : Ea) : Ea := fun sl h => (ma sl h).bind fun v h1 => (mr sl h1).bind fun vs h2 => .ok (v :: vs) h2
def mTup (m : Ea) : Ev := fun sl h => (m sl h).bind fun vs h1 => if vs.length ≤ LINE then .ok (.ref h1.length) (h1 ++ [.tup vs]) else .no
def mLst (m : Ea) : Ev := fun sl h => (m sl h).bind fun vs h1 => if vs.length ≤ LINE then .ok (.ref h1.length) (h1 ++ [.lst vs]) else .no
section
variable {X : Cx} {c : Ct} {W : WX} {e : Expr} {es : List Expr} {ma : Ev} {mr : Ea} {pos : Pos}
theorem da_nil : DA X c W [] mNil := pa_imp pa_nil fun σ H Q ⟨ι, sl, ah, rh, S, p⟩ => p ι H [] (Ext.refl _ _) rh .nil
theorem da_cons (ha : DE X c W e ma) (hr : DA X c W es mr) (hs : starEach (e :: es) X.env = (false, eval e X.env) :: starEach es X.env := by rfl) : DA X c W (e :: es) (mCons ma mr) :=
  pa_imp (pa_cons ha hr hs) fun σ H Q ⟨ι, sl, ah, rh, S, p⟩ => ⟨ι, sl, ah, rh, S, Post.step p fun x H1 ι1 a ah1 e1 r1 ra p1 =>
    ⟨ι1, sl, ah1, r1, S.ext e1, Post.step p1 fun xs H2 ι2 as ah2 e2 r2 rs p2 => p2 ι2 H2 _ (Ext.refl _ _) r2 (.cons (ra.ext e2) rs)⟩⟩
theorem pk_imp {X : Cx} {e : List Keyword} {t t' : TA} (h : PK X e t) (k : ∀ σ H Q, t' σ H Q → t σ H Q) : PK X e t' := ⟨by
  obtain ⟨r⟩ := h
  intros
  first
    | exact r _ _ _ _ _ (by assumption) (k _ _ _ (by assumption))
    | exact r _ _ _ _ _ _ (by assumption) (k _ _ _ (by assumption))⟩
abbrev DK (X : Cx) (c : Ct) (W : WX) (es : List Keyword) (m : Ea) : Prop := PK X es (tDa X.K c W m)
theorem dk_nil : DK X c W [] mNil := pk_imp pk_nil fun σ H Q ⟨ι, sl, ah, rh, S, p⟩ => p ι H [] (Ext.refl _ _) rh .nil
theorem dk_cons {kws : List Keyword} {nm : Option Str} {kpos : Pos} (ha : DE X c W e ma) (hr : DK X c W kws mr) (h : ∀ {te t}, PE X e te → PK X kws t → PK X (⟨nm, e, kpos⟩ :: kws) (tCons te t)) : DK X c W (⟨nm, e, kpos⟩ :: kws) (mCons ma mr) :=
  pk_imp (h ha hr) fun σ H Q ⟨ι, sl, ah, rh, S, p⟩ => ⟨ι, sl, ah, rh, S, Post.step p fun x H1 ι1 a ah1 e1 r1 ra p1 =>
    ⟨ι1, sl, ah1, r1, S.ext e1, Post.step p1 fun xs H2 ι2 as ah2 e2 r2 rs p2 => p2 ι2 H2 _ (Ext.refl _ _) r2 (.cons (ra.ext e2) rs)⟩⟩
theorem de_tup {x1} (h : DA X c W es mr) : DE X c W (.Tuple es x1 pos) (mTup mr) :=
  pe_imp (pe_tup h) fun σ H Q ⟨ι, sl, ah, rh, S, p⟩ => ⟨ι, sl, ah, rh, S, Post.step p fun xs H1 ι1 as ah1 e1 r1 ra p1 => by
    split at p1
    · rename_i hl
      refine ⟨by rw [← Paired.length ra]; exact le_of_line hl, lay_tup r1 ra p1⟩
    · exact p1.elim⟩
theorem de_lst (h : DA X c W es mr) : DE X c W (.List es pos) (mLst mr) :=
  pe_imp (pe_lst h) fun σ H Q ⟨ι, sl, ah, rh, S, p⟩ => ⟨ι, sl, ah, rh, S, Post.step p fun xs H1 ι1 as ah1 e1 r1 ra p1 => by
    split at p1
    · rename_i hl
      refine ⟨by rw [← Paired.length ra]; exact le_of_line hl, lay_lst r1 ra p1⟩
    · exact p1.elim⟩
theorem ds_par {i j : Nat} {x y : Str} {a b : Expr} {mb : Ev} {px py pt : Pos} {kt k2 pt2} (hc : X.calm = true) (hN : X.N.Nodup) (hi : X.N[i]? = some x) (hj : X.N[j]? = some y) (hij : i ≠ j)
    (hx : X.env.scope.names.lookup x = some .local) (hy : X.env.scope.names.lookup y = some .local) (ha : DE X c W a ma) (hb : DE X c W b mb)
    (hw : swappedStores [.Tuple [.Name x px, .Name y py] kt pt] (.Tuple [a, b] k2 pt2) X.env = pure (some [x, y]))
    (hs : swapsWithSole [.Tuple [.Name x px, .Name y py] kt pt] (.Tuple [a, b] k2 pt2) pos.line X.env = pure false := by rfl)
    (hs1 : starEach [a, b] X.env = (false, eval a X.env) :: starEach [b] X.env := by rfl) (hs2 : starEach [b] X.env = (false, eval b X.env) :: starEach [] X.env := by rfl) :
    DS X c W (.Assign [.Tuple [.Name x px, .Name y py] kt pt] (.Tuple [a, b] k2 pt2) pos) (mPar i j ma mb) :=
  ps_imp (ps_par hc hN hi hj hij hx hy (pa_cons ha (pa_cons hb pa_nil hs2) hs1) hw hs) fun D σ H ⟨ι, sl, ah, rh, S, p⟩ => ⟨ι, sl, ah, rh, S, PostS.step S p fun x H1 ι1 a ah1 e1 r1 ra S1 p1 =>
    ⟨ι1, sl, ah1, r1, S1, PostS.step S1 p1 fun y H2 ι2 b ah2 e2 r2 rb S2 p2 => ⟨_, _, rfl, p2.nx r2 ((S2.set (ra.ext e2) i).set rb j)⟩⟩⟩
end

/-! ### what is walked -/
structure Src where
  items : List (List AV)
  chks : List (Bool × AV × List AV)
def rdB (b : Bool) (h : Hh) (v : AV) : Option (List AV) := match b with
  | true => rdL h v
  | false => rdT h v
def chkOk (cs : List (Bool × AV × List AV)) (h : Hh) : Bool := cs.all fun p => decide (rdB p.1 h p.2.1 = some p.2.2)
def JRel (K : PySem.W.Frag) (c : Ct) (ι0 : List Addr) (s : Src) (J : It) : Prop := ∀ ι H ah, (∃ r, ι = ι0 ++ r) → RelH K c ι ah H → chkOk s.chks ah = true →
  J.stop s.items.length H ∧ ∀ (i : Nat) (it : List AV), s.items[i]? = some it → J.go i H ∧ ∀ x H', J.yld i H x H' → YV K c ι H' it x ∧ (H' = H ∨ ∃ T u, H T = none ∧ H' = upd H T u)
abbrev Ei := Sl → Hh → R Src
def tI (K : PySem.W.Frag) (c : Ct) (W : WX) (m : Ei) : TI := fun σ H Q => ∃ ι sl ah, RelH K c ι ah H ∧ RS c ι sl σ ∧ Post K c W σ H ι (JRel K c) (m sl ah) Q
abbrev DI (X : Cx) (c : Ct) (W : WX) (tg e : Expr) (m : Ei) : Prop := PI X tg e (tI X.K c W m)
theorem pi_imp {X : Cx} {tg e : Expr} {t t' : TI} (h : PI X tg e t) (k : ∀ σ H Q, t' σ H Q → t σ H Q) : PI X tg e t' := ⟨fun pins s σ H Q I q => h.run pins s σ H Q I (k σ H Q q)⟩

/-! ### for -/
def loopF (cs : List (Bool × AV × List AV)) (g : Eg) (body : Es) : List (List AV) → Es
  | [], sl, h => if chkOk cs h = true then .nx sl h else .no
  | it :: r, sl, h => if chkOk cs h = true then match g it sl h with
    | some (sl1, h1) => match body sl1 h1 with
      | .nx s h => loopF cs g body r s h
      | .ct s h => loopF cs g body r s h
      | .bk s h => .nx s h
      | .rt v h => .rt v h
      | .ex x s h => .ex x s h
      | .no => .no
    | none => .no
    else .no
def mFor (src : Ei) (g : Eg) (body : Es) : Es := fun sl h => (src sl h).bindS sl fun s h1 => loopF s.chks g body s.items sl h1
def mWhile (t : Et) (body : Es) : Nat → Es
  | 0, _, _ => .no
  | n + 1, sl, h => (t sl h).bindS sl fun b h1 => if b = true then match body sl h1 with
      | .nx s h => mWhile t body n s h
      | .ct s h => mWhile t body n s h
      | .bk s h => .nx s h
      | .rt v h => .rt v h
      | .ex x s h => .ex x s h
      | .no => .no
    else .nx sl h1
section
variable {X : Cx} {c : Ct} {W : WX} {K : PySem.W.Frag}
theorem RS.app {ι : List Addr} {sl : Sl} {σ : L2.St} (S : RS c ι sl σ) (r : List Addr) : RS c (ι ++ r) sl σ := Paired.mapP S fun a b q => by
  cases a with
  | none => trivial
  | some v => cases b with
    | none => exact q
    | some x => exact RV.app q r
theorem Ext.pre' {H H' : Hp} {ι ι' : List Addr} (e : Ext H ι H' ι') : ∃ r, ι' = ι ++ r := let ⟨r, q, _⟩ := e.pre; ⟨r, q⟩
theorem ds_for {tg iter : Expr} {body : List Stmt} {mi : Ei} {g : Eg} {mb : Es} {vs : List Nat} {pos : Pos} (hp : PassesOwn (model X.prog X.w) X.A X.env X.xe) (hc : X.calm = true) (hi : DI X c W tg iter mi) (hg : DG X c vs tg g) (hb : DSs X c W body mb)
    (hs : ∀ x, foldedSetIterable iter X.env x = pure x := by intro _; rfl) : DS X c W (.For tg iter body [] pos) (mFor mi g mb) :=
  ps_imp (ps_for hp hc hi hg hb hs) fun D σ H ⟨ι, sl, ah, rh, S, p⟩ => ⟨ι, sl, ah, rh, S, PostS.step S p fun J H1 ι1 s ah1 e1 r1 jr S1 p1 => by
    refine ⟨fun i m σ H => m = s.items.length - i ∧ i ≤ s.items.length ∧ ∃ ι sl ah, (∃ r, ι = ι1 ++ r) ∧ RelH X.K c ι ah H ∧ RS c ι sl σ ∧ PostS X.K c W H ι (loopF s.chks g mb (s.items.drop i) sl ah) D,
      ⟨_, rfl, Nat.zero_le _, ι1, sl, ah1, ⟨[], by simp⟩, r1, S1, by simpa using p1⟩, ?_⟩
    rintro i m σ H ⟨rfl, hi, ι, sl, ah, hpre, rh, S, p⟩
    by_cases hlt : i < s.items.length
    · rw [List.drop_eq_getElem_cons hlt] at p
      unfold loopF at p
      split at p
      · rename_i hck
        obtain ⟨_, j2⟩ := jr ι H ah hpre rh hck
        obtain ⟨jgo, jy⟩ := j2 i _ (List.getElem?_eq_getElem hlt)
        split at p
        · rename_i sl1 h1 eg
          refine .inr ⟨jgo, fun σ' H' => ∃ ι sl ah, (∃ r, ι = ι1 ++ r) ∧ RelH X.K c ι ah H' ∧ RS c ι sl σ' ∧ PostS X.K c W H' ι (loopF s.chks g mb (s.items.drop (i + 1)) sl ah) D, fun σ' H' q => ⟨_, by omega, rfl, hlt, q⟩, fun x H' hy => ?_⟩
          obtain ⟨yv, hH⟩ := jy x H' hy
          have rh' : RelH X.K c ι ah H' := by
            rcases hH with rfl | ⟨T, u, hT, rfl⟩
            · exact rh
            · exact rh.junk hT
          have ex' : Ext H ι H' ι := by
            rcases hH with rfl | ⟨T, u, hT, rfl⟩
            · exact Ext.refl _ _
            · exact Ext.junk hT
          refine ⟨ι, sl, ah, _, sl1, h1, rh', S, yv, eg, fun ι2 H2 σ2 x2 r2 S2 _ => ⟨ι2, sl1, h1, r2, S2, ?_⟩⟩
          have p' := PostS.shift p (ex'.trans rh' x2) r2
          have pre2 : ∃ r, ι2 = ι1 ++ r := by
            obtain ⟨ra, e1⟩ := hpre
            obtain ⟨rb, e2⟩ := x2.pre'
            exact ⟨ra ++ rb, by rw [e2, e1, List.append_assoc]⟩
          have nxt : ∀ {ι3 : List Addr} {sl3 : Sl} {h3 : Hh} {H3 : Hp} {σ3 : L2.St}, PostS X.K c W H2 ι2 (loopF s.chks g mb (s.items.drop (i + 1)) sl3 h3) D → Ext H2 ι2 H3 ι3 → RelH X.K c ι3 h3 H3 → RS c ι3 sl3 σ3 →
              ∃ ι sl ah, (∃ r, ι = ι1 ++ r) ∧ RelH X.K c ι ah H3 ∧ RS c ι sl σ3 ∧ PostS X.K c W H3 ι (loopF s.chks g mb (s.items.drop (i + 1)) sl ah) D := fun {ι3 sl3 h3 H3 σ3} q x3 r3 S3 => by
            refine ⟨ι3, sl3, h3, ?_, r3, S3, PostS.shift q x3 r3⟩
            obtain ⟨ra, e1⟩ := pre2
            obtain ⟨rb, e2⟩ := x3.pre'
            exact ⟨ra ++ rb, by rw [e2, e1, List.append_assoc]⟩
          revert p'
          cases mb sl1 h1 with
          | nx s3 h3 => exact fun q ι3 H3 σ3 x3 r3 S3 => nxt q x3 r3 S3
          | ct s3 h3 => exact fun q ι3 H3 σ3 x3 r3 S3 => nxt q x3 r3 S3
          | bk s3 h3 => exact fun q => q
          | rt v h3 => exact fun q => q
          | ex x s3 h3 => exact fun q => q
          | no => exact fun q => q
        · exact p.elim
      · exact p.elim
    · have e : i = s.items.length := by omega
      subst e
      rw [List.drop_length] at p
      unfold loopF at p
      split at p
      · rename_i hck
        obtain ⟨j1, _⟩ := jr ι H ah hpre rh hck
        exact .inl ⟨j1, p.nx rh S⟩
      · exact p.elim⟩
theorem ds_while {d : Expr} {body : List Stmt} {t : Et} {mb : Es} {pos : Pos} (n : Nat) (hp : PassesOwn (model X.prog X.w) X.A X.env X.xe) (hc : DT X c W d t) (hb : DSs X c W body mb) : DS X c W (.While d body [] pos) (mWhile t mb n) :=
  ps_imp (ps_while hp hc hb) fun D σ H ⟨ι, sl, ah, rh, S, p⟩ => by
    refine ⟨fun m σ H => ∃ ι sl ah, RelH X.K c ι ah H ∧ RS c ι sl σ ∧ PostS X.K c W H ι (mWhile t mb m sl ah) D, ⟨n, ι, sl, ah, rh, S, p⟩, ?_⟩
    rintro m σ H ⟨ι, sl, ah, rh, S, p⟩
    cases m with
    | zero => exact p.elim
    | succ m =>
      refine ⟨ι, sl, ah, rh, S, PostS.step S (show PostS X.K c W H ι ((t sl ah).bindS sl _) D from p) fun b H1 ι1 b' ah1 e1 r1 eb S1 p1 => ?_⟩
      cases eb
      cases b with
      | false => exact p1.nx r1 S1
      | true =>
        refine ⟨fun σ' H' => ∃ ι sl ah, RelH X.K c ι ah H' ∧ RS c ι sl σ' ∧ PostS X.K c W H' ι (mWhile t mb m sl ah) D, fun σ' H' q => ⟨m, Nat.lt_succ_self m, q⟩, ι1, sl, ah1, r1, S1, ?_⟩
        rw [if_pos rfl] at p1
        revert p1
        cases mb sl ah1 with
        | nx s3 h3 => exact fun q ι3 H3 σ3 x3 r3 S3 => ⟨ι3, s3, h3, r3, S3, PostS.shift q x3 r3⟩
        | ct s3 h3 => exact fun q ι3 H3 σ3 x3 r3 S3 => ⟨ι3, s3, h3, r3, S3, PostS.shift q x3 r3⟩
        | bk s3 h3 => exact fun q => q
        | rt v h3 => exact fun q => q
        | ex x s3 h3 => exact fun q => q
        | no => exact fun q => q
end

/-! ### comprehensions -/
def wipeA (sl : Sl) : List Nat → Sl
  | [] => sl
  | v :: vs => (wipeA sl vs).set v none
theorem wipeA_rs {c : Ct} {ι : List Addr} {sl : Sl} {σ : L2.St} (S : RS c ι sl σ) : ∀ vs : List Nat, RS c ι (wipeA sl vs) (wipe σ vs)
  | [] => S
  | v :: vs => (wipeA_rs S vs).unset v
abbrev W0 : WX := fun _ _ _ _ => False
def R.only {α β : Type} (r : R α) (k : α → Hh → R β) : R β := match r with
  | .ok a h => k a h
  | .ex _ _ => .no
  | .no => .no
def loopC (cs : List (Bool × AV × List AV)) (slw : Sl) (dn : Nat) (g : Eg) (tt : Et) (te : Ev) : List (List AV) → Hh → R AV
  | [], h => if chkOk cs h = true then .ok (.ref dn) h else .no
  | it :: r, h => if chkOk cs h = true then match g it slw h with
    | some (sl1, h1) => (tt sl1 h1).only fun b h2 => if b = true then (te sl1 h2).only fun y h3 => match h3[dn]? with
          | some (.lst acc) => if acc.length < LINE then loopC cs slw dn g tt te r (h3.set dn (.lst (acc ++ [y]))) else .no
          | _ => .no
        else loopC cs slw dn g tt te r h2
    | none => .no
    else .no
def mLc (src : Ei) (vs : List Nat) (g : Eg) (tt : Et) (te : Ev) : Ev := fun sl h => (src sl h).bind fun s h1 => loopC s.chks (wipeA sl vs) h1.length g tt te s.items (h1 ++ [.lst []])
def mYes : Et := fun _ h => .ok true h
abbrev DTs (X : Cx) (c : Ct) (W : WX) (ifs : List Expr) (m : Et) : Prop := PTs X ifs (tDt X.K c W m)
theorem pts_imp {X : Cx} {e : List Expr} {t t' : TT} (h : PTs X e t) (k : ∀ σ H Q, t' σ H Q → t σ H Q) : PTs X e t' := ⟨fun pins s σ H Q I q => h.run pins s σ H Q I (k σ H Q q)⟩
section
variable {X : Cx} {c : Ct} {W : WX} {K : PySem.W.Frag}
theorem dts_nil : DTs X c W [] mYes := pts_imp pts_nil fun σ H Q ⟨ι, sl, ah, rh, S, p⟩ => p ι H true (Ext.refl _ _) rh rfl
theorem dts_one {e : Expr} {m : Et} (h : DT X c W e m) : DTs X c W [e] m := pts_one h
theorem post0 {α β : Type} {RB : List Addr → α → β → Prop} {r : R α} {k : α → Hh → R AV} {Q : VK} {Q' : β → Hp → Prop} {σ σ2 : L2.St} {H : Hp} {ι : List Addr} (p : Post K c W σ H ι (RV c) (r.only k) Q)
    (h : ∀ b H1 ι1 a ah1, Ext H ι H1 ι1 → RelH K c ι1 ah1 H1 → RB ι1 a b → Post K c W σ H1 ι1 (RV c) (k a ah1) Q → Q' b H1) : Post K c W0 σ2 H ι RB r Q' := by
  cases r with
  | ok a ah => exact fun ι' H' b e r' q => h b H' ι' a ah e r' q (Post.shift p e r')
  | ex x ah => exact p.elim
  | no => exact p.elim
theorem lc_imp {mi : Ei} {vs : List Nat} {g : Eg} {tt : Et} {te : Ev} {σ : L2.St} {H : Hp} {Q : VK} (h : tD K c W (mLc mi vs g tt te) σ H Q) : tLc (tI K c W mi) (gY K c vs g) (tDt K c W0 tt) (tD K c W0 te) vs σ H Q := by
  obtain ⟨ι, sl, ah, rh, S, p⟩ := h
  refine ⟨ι, sl, ah, rh, S, Post.step p fun J H1 ι1 s ah1 e1 r1 jr p1 => fun D hD => ?_⟩
  have S1 := S.ext e1
  have r2 : RelH K c (ι1 ++ [D]) (ah1 ++ [.lst []]) (upd H1 D (.lst [])) := r1.lay hD ⟨[], .nil, upd_same⟩
  have p2 := Post.shift p1 (Ext.lay (u := .lst []) hD) r2
  have hdn : (ι1 ++ [D])[ah1.length]? = some D := by rw [← r1.len]; simp
  refine ⟨fun i m H => m = s.items.length - i ∧ i ≤ s.items.length ∧ ∃ ι ah, (∃ r, ι = ι1 ++ [D] ++ r) ∧ RelH K c ι ah H ∧ Post K c W σ H ι (RV c) (loopC s.chks (wipeA sl vs) ah1.length g tt te (s.items.drop i) ah) Q,
    ⟨_, rfl, Nat.zero_le _, _, _, ⟨[], by simp⟩, r2, by simpa using p2⟩, ?_⟩
  rintro i m H ⟨rfl, hi, ι, ah, ⟨ro, hpre⟩, rh, p⟩
  have hpre1 : ∃ r, ι = ι1 ++ r := ⟨[D] ++ ro, by rw [hpre, List.append_assoc]⟩
  have Sw : RS c ι (wipeA sl vs) (wipe σ vs) := by
    obtain ⟨r, e⟩ := hpre1
    rw [e]; exact (wipeA_rs S1 vs).app r
  have hD1 : ι[ah1.length]? = some D := by rw [hpre]; exact getElem?_pre hdn
  by_cases hlt : i < s.items.length
  · rw [List.drop_eq_getElem_cons hlt] at p
    unfold loopC at p
    split at p
    · rename_i hck
      obtain ⟨_, j2⟩ := jr ι H ah hpre1 rh hck
      obtain ⟨jgo, jy⟩ := j2 i _ (List.getElem?_eq_getElem hlt)
      split at p
      · rename_i sl1 h1 eg
        refine .inr ⟨jgo, fun H' => ∃ ι ah, (∃ r, ι = ι1 ++ [D] ++ r) ∧ RelH K c ι ah H' ∧ Post K c W σ H' ι (RV c) (loopC s.chks (wipeA sl vs) ah1.length g tt te (s.items.drop (i + 1)) ah) Q, fun H' q => ⟨_, by omega, rfl, hlt, q⟩, fun x H' hy => ?_⟩
        obtain ⟨yv, hH⟩ := jy x H' hy
        have rh' : RelH K c ι ah H' := by
          rcases hH with rfl | ⟨T, u, hT, rfl⟩
          · exact rh
          · exact rh.junk hT
        have ex' : Ext H ι H' ι := by
          rcases hH with rfl | ⟨T, u, hT, rfl⟩
          · exact Ext.refl _ _
          · exact Ext.junk hT
        refine ⟨ι, wipeA sl vs, ah, _, sl1, h1, rh', Sw, yv, eg, fun ι2 H2 σ2 x2 rr2 S2 hw => ⟨hw.trans ?_, ι2, sl1, h1, rr2, S2, ?_⟩⟩
        · have key : ∀ (us : List Nat) (σ : L2.St), (∀ i ∈ us, i ∈ vs) → wipe (wipe σ us) vs = wipe σ vs := by
            intro us
            induction us with
            | nil => intro σ _; rfl
            | cons u us ih => intro σ hu; simp only [wipe]; rw [wipe_set vs u _ (hu u List.mem_cons_self)]; exact ih σ fun i hi => hu i (List.mem_cons_of_mem _ hi)
          exact key vs σ fun _ h => h
        · have pp := Post.shift p (ex'.trans rh' x2) rr2
          have pre2 : ∃ r, ι2 = ι1 ++ [D] ++ r := by
            obtain ⟨rb, e2⟩ := x2.pre'
            exact ⟨ro ++ rb, by rw [e2, hpre, List.append_assoc]⟩
          have go : ∀ {ι3 : List Addr} {h3 : Hh} {H3 : Hp}, (∃ r, ι3 = ι1 ++ [D] ++ r) → RelH K c ι3 h3 H3 → Post K c W σ H3 ι3 (RV c) (loopC s.chks (wipeA sl vs) ah1.length g tt te (s.items.drop (i + 1)) h3) Q →
              ∃ ι ah, (∃ r, ι = ι1 ++ [D] ++ r) ∧ RelH K c ι ah H3 ∧ Post K c W σ H3 ι (RV c) (loopC s.chks (wipeA sl vs) ah1.length g tt te (s.items.drop (i + 1)) ah) Q := fun {ι3 h3 H3} a b d => ⟨ι3, h3, a, b, d⟩
          refine post0 (RB := fun _ a b => a = b) pp fun b H3 ι3 b' h3 x3 r3 eb p3 => ?_
          cases eb
          have pre3 : ∃ r, ι3 = ι1 ++ [D] ++ r := by
            obtain ⟨ra, e1⟩ := pre2
            obtain ⟨rb, e2⟩ := x3.pre'
            exact ⟨ra ++ rb, by rw [e2, e1, List.append_assoc]⟩
          cases b with
          | false => exact go pre3 r3 p3
          | true =>
            rw [if_pos rfl] at p3
            rw [if_pos rfl]
            refine ⟨ι3, sl1, h3, r3, S2.ext x3, post0 (RB := RV c) p3 fun y H4 ι4 ay h4 x4 r4 ry p4 => ?_⟩
            have pre4 : ∃ r, ι4 = ι1 ++ [D] ++ r := by
              obtain ⟨ra, e1⟩ := pre3
              obtain ⟨rb, e2⟩ := x4.pre'
              exact ⟨ra ++ rb, by rw [e2, e1, List.append_assoc]⟩
            have hD4 : ι4[ah1.length]? = some D := by
              obtain ⟨r, e⟩ := pre4
              rw [e]; exact getElem?_pre hdn
            split at p4
            · rename_i acc ha
              split at p4
              · rename_i hl
                obtain ⟨a', ha', ws, rw', hw4⟩ := r4.obj _ _ ha
                rw [hD4] at ha'
                cases ha'
                refine ⟨ws, hw4, by rw [← Paired.length rw', line_eq]; exact hl, ?_⟩
                have rset : RelH K c ι4 (h4.set ah1.length (.lst (acc ++ [ay]))) (upd H4 D (.lst (ws ++ [y]))) := r4.set ha rfl rfl hD4 ⟨_, Paired.app rw' (.cons ry .nil), upd_same⟩
                exact go pre4 rset (Post.shift p4 (Ext.set hD4) rset)
              · exact p4.elim
            · exact p4.elim
      · exact p.elim
    · exact p.elim
  · have e : i = s.items.length := by omega
    subst e
    rw [List.drop_length] at p
    unfold loopC at p
    split at p
    · rename_i hck
      obtain ⟨j1, _⟩ := jr ι H ah hpre1 rh hck
      exact .inl ⟨j1, p ι H _ (Ext.refl _ _) rh ⟨D, hD1, rfl⟩⟩
    · exact p.elim
theorem de_lc {elt tg iter : Expr} {ifs : List Expr} {scope : Scope} {own : List (Str × Nat)} {pos : Pos} {mi : Ei} {g : Eg} {tt : Et} {te : Ev} {vs : List Nat} (hc : X.calm = true) (hN : X.N.Nodup) (hi : DI X c W tg iter mi) (ok : BlkOk X.N X.env.scope scope own) (hv : own.map (·.2) = vs)
    (hg : ∀ (s : Shared) (H : Hp) (C : Addr) (cl : List (Str × Addr)) (fp : List Addr), DG (X.blk s H scope (compEnvC scope cl C X.env) fp) c vs tg g) (ht : ∀ (s : Shared) (H : Hp) (C : Addr) (cl : List (Str × Addr)) (fp : List Addr), DTs (X.blk s H scope (compEnvC scope cl C X.env) fp) c W0 ifs tt)
    (he : ∀ (s : Shared) (H : Hp) (C : Addr) (cl : List (Str × Addr)) (fp : List Addr), DE (X.blk s H scope (compEnvC scope cl C X.env) fp) c W0 elt te) (hs : ∀ x, foldedSetIterable iter X.env x = pure x := by intro _; rfl) :
    DE X c W (.ListComp elt [⟨tg, iter, ifs, 0⟩] scope pos) (mLc mi vs g tt te) := by
  subst hv
  exact pe_imp (pe_lc hc hN hi ok hg ht he hs) fun _ _ _ h => lc_imp h
/-- name = [..] -/
theorem ds_setLc {i : Nat} {y : Str} {py : Pos} {elt tg iter : Expr} {ifs : List Expr} {scope : Scope} {own : List (Str × Nat)} {pos spos : Pos} {mi : Ei} {g : Eg} {tt : Et} {te : Ev} {vs : List Nat} (hc : X.calm = true) (hN : X.N.Nodup) (hy : X.N[i]? = some y) (hyl : X.env.scope.names.lookup y = some .local)
    (hsw : swapsWith (.ListComp elt [⟨tg, iter, ifs, 0⟩] scope pos) (some (.Name y py)) spos.line X.env = pure true) (hi : DI X c W tg iter mi) (ok : BlkOk X.N X.env.scope scope own) (hv : own.map (·.2) = vs)
    (hg : ∀ (s : Shared) (H : Hp) (C : Addr) (cl : List (Str × Addr)) (fp : List Addr), DG (X.blk s H scope (compEnvC scope cl C X.env) fp) c vs tg g) (ht : ∀ (s : Shared) (H : Hp) (C : Addr) (cl : List (Str × Addr)) (fp : List Addr), DTs (X.blk s H scope (compEnvC scope cl C X.env) fp) c W0 ifs tt)
    (he : ∀ (s : Shared) (H : Hp) (C : Addr) (cl : List (Str × Addr)) (fp : List Addr), DE (X.blk s H scope (compEnvC scope cl C X.env) fp) c W0 elt te) (hs : ∀ x, foldedSetIterable iter X.env x = pure x := by intro _; rfl) :
    DS X c W (.Assign [.Name y py] (.ListComp elt [⟨tg, iter, ifs, 0⟩] scope pos) spos) (mSet i (mLc mi vs g tt te)) := by
  subst hv
  exact ps_imp (ps_setLc hc hN hy hyl hsw hi ok hg ht he hs) fun D σ H ⟨ι, sl, ah, rh, S, p⟩ => by
    refine lc_imp (W := W) (Q := fun x H1 => gName i x σ H1 D.nx) (show tD X.K c W (mLc mi (own.map (·.2)) g tt te) σ H _ from ⟨ι, sl, ah, rh, S, ?_⟩)
    exact PostS.step S p fun x H1 ι1 a ah1 e1 r1 ra S1 p1 => p1.nx r1 (S1.set ra i)
end
end Det

/-! Det6: what is walked. -/
namespace Det
open PySem PySem.Spec PyProof.Rows L2

/-! ### enumerate of a text -/
def ItE (x : Str) : It :=
  ⟨fun i _ => i < x.cps.size, fun i H v H' => ∃ T ch, v = .ref T ∧ H T = none ∧ H' = upd H T (.tup [.int (i : Nat), .str ⟨#[ch]⟩]) ∧ x.cps[i]? = some ch, fun i _ => i = x.cps.size⟩
theorem turn_enumS {P : Program} {w : World} {K : PySem.W.Frag} {elts : List Expr} {kk : Nat} {tpos : Pos} (e it : Addr) (x : Str) (t : Tok) :
    Turn P w K (.Tuple elts kk tpos) (ItE x) [e, it] e (fun i h => (∃ old, IsEnum h e it ((i : Nat) : Int) old) ∧ h.IsStrIter it (strIterType x) x t i ∧ e ≠ it) where
  mem := by simp
  obj := fun i h st b hb => by
    obtain ⟨⟨old, he⟩, ⟨o, ho, hc, hd⟩, _⟩ := st
    have e' : b = e ∨ b = it := by simpa using hb
    rcases e' with z | z
    · rw [z]; exact ⟨_, he, fun v q => nomatch q⟩
    · rw [z]; exact ⟨o, ho, fun v q => by rw [hd] at q; cases q⟩
  keep := fun i h h' st k => let ⟨⟨old, he⟩, ⟨o, ho, r⟩, hne⟩ := st; ⟨⟨old, k e (by simp) _ he⟩, ⟨o, k it (by simp) o ho, r⟩, hne⟩
  item := by
    intro X hP hw hK hc i pins s σ H E I hf st hg
    subst hP hw hK
    obtain ⟨⟨old, he⟩, hit, hne⟩ := st
    have hel : e < s.heap.objs.size := Heap.lt_size he
    have hil : it < s.heap.objs.size := by obtain ⟨_, q, _⟩ := hit; exact Heap.lt_size q
    have D := Draws.text (prog := X.prog) (w := X.w) (A := X.A.in1) (show X.A.in1.handled = none from I.ok.hd hc) it x t
    refine wpAny_pyNext_enum_itemC D he hit hg hne (by simpa using hne) fun v h' tk hv ho hit' hT hsz hk => ?_
    obtain ⟨ch, u, hch, rfl⟩ := hv
    refine ⟨_, rfl, wpAny_letOwnedTupleGo_enum (s := { s with heap := h', toks := tk + 1 }) ho fun h'' he' sb => ?_⟩
    have hT2 : h''.get? s.heap.objs.size = some { cls := .type "tuple", data := .seq #[.int i tk, .str ⟨#[ch]⟩ u] } := (sb.2 _ (Nat.ne_of_gt hel)).trans hT
    have new : ObjOk X.prog X.w (upd H s.heap.objs.size (.tup [.int (i : Nat), .str ⟨#[ch]⟩])) h'' s.heap.objs.size (.tup [.int (i : Nat), .str ⟨#[ch]⟩]) :=
      ⟨by show 2 ≤ sizeLine; decide, [.int i tk, .str ⟨#[ch]⟩ u], .cons ⟨_, rfl⟩ (.cons ⟨_, rfl⟩ .nil), ⟨_, hT2, rfl, _, rfl⟩⟩
    have I1 : Inv X pins σ (upd H s.heap.objs.size (.tup [.int (i : Nat), .str ⟨#[ch]⟩])) { s with heap := h'', toks := tk + 1 } :=
      I.turnedNew (ch := [e, it]) (fun b ob hb q => (sb.2 b (fun z => hb (by simp [z]))).trans (hk b ob (fun z => hb (by simp [z])) (fun z => hb (by simp [z])) q)) hf (Nat.le_refl _) new
    obtain ⟨oi, ei, r⟩ := hit'
    refine ⟨.ref s.heap.objs.size, _, I1, rfl, ⟨_, ch, rfl, I.hok.fresh (Nat.le_refl _), rfl, hch⟩, ⟨⟨.str ⟨#[ch]⟩ u, ?_⟩, ⟨oi, (sb.2 it (Ne.symm hne)).trans ei, r⟩, hne⟩, fun b hb => ?_⟩
    · have e1 : ((i + 1 : Nat) : Int) = (i : Int) + 1 := by omega
      rw [e1]; exact he'
    · have hb' : b < s.heap.objs.size := by
        have e' : b = e ∨ b = it := by simpa using hb
        rcases e' with z | z
        · rw [z]; exact hel
        · rw [z]; exact hil
      rw [upd_ne (Nat.ne_of_lt hb')]
      exact (hf b hb).1
  done := by
    intro X hP hw hK hc i pins s σ H E I hf st hg
    subst hP hw hK
    obtain ⟨⟨old, he⟩, hit, hne⟩ := st
    obtain ⟨f0, f1, f2, f3, f4, f5⟩ := hf it (by simp)
    have hg' : i = x.cps.size := hg
    subst hg'
    have D := Draws.text (prog := X.prog) (w := X.w) (A := X.A.in1) (show X.A.in1.handled = none from I.ok.hd hc) it x t
    exact wpAny_pyNext_enum_endD D he hit fun h' eb => ⟨rfl, I.turned (t' := s.toks) (fun b o hb q => eb b o hb q) f0 f1 f3 f4 f5⟩
  self := fun A i s Q E st h => let ⟨⟨_, he⟩, _⟩ := st; wpAny_pyIter_enum he h
def iEnumS (ta : TA) : TI := fun σ H R => ta σ H fun vs H1 => ∃ x, vs = [.str x] ∧ R (ItE x) H1
/-- enumerate of a list or of a text -/
def iEnumA (K : PySem.W.Frag) (ta : TA) : TI := fun σ H R => ta σ H fun vs H1 => (∃ a xs, vs = [.ref a] ∧ SqL K H1 a xs ∧ R (Ite K a) H1) ∨ ∃ x, vs = [.str x] ∧ R (ItE x) H1
section
variable {X : Cx} {c : Ct} {W : WX}
theorem pi_enumA {e : Expr} {ta : TA} {p pos tpos : Pos} {elts : List Expr} {kk : Nat} (hg : Gl X "enumerate") (hm : X.mg "enumerate" = none) (ha : PA X [e] ta) (hs : starEach [e] X.env = [(false, eval e X.env)] := by rfl) :
    PI X (.Tuple elts kk tpos) (.Call (.Name "enumerate" p) [e] [] pos) (iEnumA X.K ta) := by
  refine ⟨fun pins s σ H R I h => ?_⟩
  refine Call_ (ld_blt I hg hm boot_enumerate (PyProof.Rows.callWith_type1 (thn (ha.run pos pins s σ H _ I h) fun us s1 ⟨vs, H1, I1, r1, q1⟩ => ?_) hs rfl))
  rcases q1 with ⟨a, xs, ex, hq, q⟩ | ⟨x, ex, q⟩
  · subst ex
    cases r1 with
    | cons r rr =>
      cases rr
      cases r
      obtain ⟨its, rv, p', hz⟩ := I1.list hq
      refine call_enumerate_list p'.isList fun h' he hit hsz hk => wpAny_pyIter_enum he ?_
      have I2 : Inv X pins σ H1 { s1 with heap := h' } := I1.kept (t' := s1.toks) hk
      refine ⟨s1.heap.objs.size + 1, [s1.heap.objs.size + 1, s1.heap.objs.size], _, _, H1, rfl, I2, turn_enum a (s1.heap.objs.size + 1) s1.heap.objs.size, ⟨⟨.none, he⟩, hit, Nat.succ_ne_self _⟩, fun b hb => ?_, q⟩
      have e' : b = s1.heap.objs.size + 1 ∨ b = s1.heap.objs.size := by simpa using hb
      have hle : s1.heap.objs.size ≤ b := by
        rcases e' with z | z
        · rw [z]; exact Nat.le_add_right _ _
        · rw [z]; exact Nat.le_refl _
      exact I1.fpOk hle (I1.hok.fresh hle)
  · subst ex
    cases r1 with
    | cons r rr =>
      cases rr
      obtain ⟨t, rfl⟩ := r
      refine call_enumerate_str fun h' he hit hsz hk => wpAny_pyIter_enum he ?_
      have I2 : Inv X pins σ H1 { s1 with heap := h' } := I1.kept (t' := s1.toks) hk
      refine ⟨s1.heap.objs.size + 1, [s1.heap.objs.size + 1, s1.heap.objs.size], _, _, H1, rfl, I2, turn_enumS (s1.heap.objs.size + 1) s1.heap.objs.size x t, ⟨⟨.none, he⟩, hit, Nat.succ_ne_self _⟩, fun b hb => ?_, q⟩
      have e' : b = s1.heap.objs.size + 1 ∨ b = s1.heap.objs.size := by simpa using hb
      have hle : s1.heap.objs.size ≤ b := by
        rcases e' with z | z
        · rw [z]; exact Nat.le_add_right _ _
        · rw [z]; exact Nat.le_refl _
      exact I1.fpOk hle (I1.hok.fresh hle)
/-- a list, a tuple, a text -/
def iAny (K : PySem.W.Frag) (tl : TE) : TI := fun σ H R => tl σ H fun x H1 => (∃ a, x = .ref a ∧ (∃ xs, SqL K H1 a xs) ∧ R (Itl K a) H1) ∨ (∃ a, x = .ref a ∧ (∃ xs, SqT K H1 a xs) ∧ R (Itt K a) H1) ∨ ∃ z, x = .str z ∧ R (Its z) H1
theorem pi_any {tg l : Expr} {tl : TE} (hl : PE X l tl) : PI X tg l (iAny X.K tl) := by
  refine ⟨fun pins s σ H R I h => ?_⟩
  refine thn (hl.run pins s σ H _ I h) fun v s1 ⟨x, H1, I1, r1, q1⟩ => ?_
  rcases q1 with ⟨a, e, ⟨xs, hq⟩, q⟩ | ⟨a, e, ⟨xs, hq⟩, q⟩ | ⟨z, e, q⟩
  · subst e
    cases r1
    obtain ⟨its, rv, p, hz⟩ := I1.list hq
    refine wpAny_pyIter_list p.isList ?_
    refine ⟨s1.heap.objs.size, [s1.heap.objs.size], _, _, H1, rfl, I1.kept (t' := s1.toks) fun b o e => Heap.get?_push_of_some _ e, turn_list a _, ⟨_, Heap.get?_push_size _ rfl, rfl, rfl⟩, fun b hb => ?_, q⟩
    have e : b = s1.heap.objs.size := by simpa using hb
    subst e
    exact I1.fpOk (Nat.le_refl _) (I1.hok.fresh (Nat.le_refl _))
  · subst e
    cases r1
    obtain ⟨its, rv, p, hz⟩ := I1.tuple hq
    refine wpAny_pyIter_tuple (show s1.heap.IsTuple a its.toArray from p) ?_
    refine ⟨s1.heap.objs.size, [s1.heap.objs.size], _, _, H1, rfl, I1.kept (t' := s1.toks) fun b o e => Heap.get?_push_of_some _ e, turn_tuple a _, ⟨_, Heap.get?_push_size _ rfl, rfl, rfl⟩, fun b hb => ?_, q⟩
    have e : b = s1.heap.objs.size := by simpa using hb
    subst e
    exact I1.fpOk (Nat.le_refl _) (I1.hok.fresh (Nat.le_refl _))
  · subst e
    obtain ⟨t, rfl⟩ := r1
    cases ha : z.cps.all (· < 128)
    · exact wpAny_pyIter_wide ha (pi_one (tk := s1.toks) I1 _ (turn_str _ z t "str_iterator" (.inr rfl)) ⟨_, Heap.get?_push_size _ rfl, rfl, rfl⟩ q)
    · exact wpAny_pyIter_ascii ha (pi_one (tk := s1.toks) I1 _ (turn_str _ z t "str_ascii_iterator" (.inl rfl)) ⟨_, Heap.get?_push_size _ rfl, rfl, rfl⟩ q)

/-! ### the sources -/
def one (xs : List AV) : List (List AV) := xs.map fun x => [x]
def srcOf (h : Hh) (v : AV) : Option Src := match v with
  | .str s => some ⟨s.map fun ch => [.str [ch]], []⟩
  | v => match rdL h v with
    | some xs => some ⟨one xs, [(true, v, xs)]⟩
    | none => match rdT h v with
      | some xs => some ⟨one xs, [(false, v, xs)]⟩
      | none => none
def mIter (m : Ev) : Ei := fun sl h => (m sl h).bind fun v h1 => match srcOf h1 v with
  | some s => .ok s h1
  | none => .no
def pairsFrom : Nat → List AV → List (List AV)
  | _, [] => []
  | i, x :: r => [.int (i : Int), x] :: pairsFrom (i + 1) r
def srcEnum (h : Hh) (v : AV) : Option Src := match v with
  | .str s => some ⟨pairsFrom 0 (s.map fun ch => .str [ch]), []⟩
  | v => match rdL h v with
    | some xs => some ⟨pairsFrom 0 xs, [(true, v, xs)]⟩
    | none => none
def mEnum (m : Ev) : Ei := fun sl h => (m sl h).bind fun v h1 => match srcEnum h1 v with
  | some s => .ok s h1
  | none => .no
def small60 (i : Int) : Bool := decide (-(2 ^ 60) ≤ i) && decide (i < 2 ^ 60)
def rangeIt (lo : Int) (n : Nat) : List (List AV) := (List.range n).map fun i => [.int (lo + (i : Nat))]
def mRange1 (m : Ev) : Ei := fun sl h => (m sl h).bind fun v h1 => match v with
  | .int j => if small60 j = true then .ok ⟨rangeIt 0 j.toNat, []⟩ h1 else .no
  | _ => .no
def mRange2 (ma mb : Ev) : Ei := fun sl h => (ma sl h).bind fun v h1 => (mb sl h1).bind fun u h2 => match v, u with
  | .int i, .int j => if (small60 i && small60 j) = true then .ok ⟨rangeIt i (j - i).toNat, []⟩ h2 else .no
  | _, _ => .no
/-- the step -1 -/
def mRange3 (ma mb mc : Ev) : Ei := fun sl h => (ma sl h).bind fun v h1 => (mb sl h1).bind fun u h2 => (mc sl h2).bind fun t h3 => match v, u, t with
  | .int i, .int j, .int k => if (small60 i && small60 j && decide (k = -1)) = true then .ok ⟨(List.range (i - j).toNat).map fun (k : Nat) => [.int (i + (k : Int) * (-1))], []⟩ h3 else .no
  | _, _, _ => .no
def zipIt : List AV → List AV → List (List AV)
  | x :: xs, y :: ys => [x, y] :: zipIt xs ys
  | _, _ => []
def mZip (ma mb : Ev) : Ei := fun sl h => (ma sl h).bind fun v h1 => (mb sl h1).bind fun u h2 => match rdL h2 v, rdL h2 u with
  | some xs, some ys => .ok ⟨zipIt xs ys, [(true, v, xs), (true, u, ys)]⟩ h2
  | _, _ => match rdT h2 v, rdT h2 u with
    | some xs, some ys => .ok ⟨zipIt xs ys, [(false, v, xs), (false, u, ys)]⟩ h2
    | _, _ => .no
variable {K : PySem.W.Frag} {σ : L2.St} {H : Hp} {ι : List Addr} {ah : Hh} {sl : Sl}
theorem chk_one {b : Bool} {v : AV} {xs : List AV} {h : Hh} (e : chkOk [(b, v, xs)] h = true) : rdB b h v = some xs := by simpa [chkOk] using e
theorem chk_two {b b' : Bool} {v v' : AV} {xs xs' : List AV} {h : Hh} (e : chkOk [(b, v, xs), (b', v', xs')] h = true) : rdB b h v = some xs ∧ rdB b' h v' = some xs' := by simpa [chkOk] using e
theorem later {v : AV} {a : Addr} (r : RV c ι v (.ref a)) {ι' : List Addr} (hp : ∃ r, ι' = ι ++ r) : RV c ι' v (.ref a) := by
  obtain ⟨rr, e1⟩ := hp
  rw [e1]; exact r.app rr
theorem sql_at {v : AV} {a : Addr} {xs : List AV} (r : RV c ι v (.ref a)) {ι' : List Addr} {H' : Hp} {ah' : Hh} (hp : ∃ r, ι' = ι ++ r) (rh : RelH K c ι' ah' H') (e : rdB true ah' v = some xs) : ∃ vs, SqL K H' a vs ∧ RVs c ι' xs vs := by
  obtain ⟨a', vs, e2, s, rv⟩ := rdL_ok rh e (later r hp)
  cases e2
  exact ⟨vs, s, rv⟩
theorem sqt_at {v : AV} {a : Addr} {xs : List AV} (r : RV c ι v (.ref a)) {ι' : List Addr} {H' : Hp} {ah' : Hh} (hp : ∃ r, ι' = ι ++ r) (rh : RelH K c ι' ah' H') (e : rdB false ah' v = some xs) : ∃ vs, SqT K H' a vs ∧ RVs c ι' xs vs := by
  obtain ⟨a', vs, e2, s, rv⟩ := rdT_ok rh e (later r hp)
  cases e2
  exact ⟨vs, s, rv⟩
theorem jr_list {v : AV} {xs : List AV} {a : Addr} (r : RV c ι v (.ref a)) : JRel K c ι ⟨one xs, [(true, v, xs)]⟩ (Itl K a) := fun ι' H' ah' hp rh ck => by
  obtain ⟨vs, s, rv⟩ := sql_at r hp rh (chk_one ck)
  refine ⟨⟨vs, s, by simp only [one, List.length_map]; rw [← Paired.length rv]; exact Nat.le_refl _⟩, fun i it hi => ?_⟩
  simp only [one, List.getElem?_map, Option.map_eq_some_iff] at hi
  obtain ⟨x, hx, rfl⟩ := hi
  obtain ⟨y, hy, ry⟩ := paired_get rv hx
  refine ⟨⟨vs, y, s, hy⟩, fun z H2 hz => ?_⟩
  obtain ⟨rfl, q⟩ := hz
  have := q vs s
  rw [hy] at this
  cases this
  exact ⟨ry, .inl rfl⟩
theorem jr_tup {v : AV} {xs : List AV} {a : Addr} (r : RV c ι v (.ref a)) : JRel K c ι ⟨one xs, [(false, v, xs)]⟩ (Itt K a) := fun ι' H' ah' hp rh ck => by
  obtain ⟨vs, s, rv⟩ := sqt_at r hp rh (chk_one ck)
  refine ⟨⟨vs, s, by simp only [one, List.length_map]; rw [← Paired.length rv]; exact Nat.le_refl _⟩, fun i it hi => ?_⟩
  simp only [one, List.getElem?_map, Option.map_eq_some_iff] at hi
  obtain ⟨x, hx, rfl⟩ := hi
  obtain ⟨y, hy, ry⟩ := paired_get rv hx
  refine ⟨⟨vs, y, s, hy⟩, fun z H2 hz => ?_⟩
  obtain ⟨rfl, q⟩ := hz
  have := q vs s
  rw [hy] at this
  cases this
  exact ⟨ry, .inl rfl⟩
theorem size_mkS (s : List Nat) : (mkS s).cps.size = s.length := by simp [mkS]
theorem get_mkS (s : List Nat) (i : Nat) : (mkS s).cps[i]? = s[i]? := by simp [mkS]
theorem jr_str {s : List Nat} : JRel K c ι ⟨s.map fun ch => [.str [ch]], []⟩ (Its (mkS s)) := fun ι' H' ah' hp rh ck => by
  refine ⟨by show (mkS s).cps.size ≤ _; rw [size_mkS]; simp, fun i it hi => ?_⟩
  simp only [List.getElem?_map, Option.map_eq_some_iff] at hi
  obtain ⟨x, hx, rfl⟩ := hi
  refine ⟨by show i < (mkS s).cps.size; rw [size_mkS]; exact (List.getElem?_eq_some_iff.mp hx).1, fun z H2 hz => ?_⟩
  obtain ⟨rfl, ch, hch, rfl⟩ := hz
  rw [get_mkS, hx] at hch
  cases hch
  exact ⟨rfl, .inl rfl⟩
theorem pairs_len : ∀ (xs : List AV) (k : Nat), (pairsFrom k xs).length = xs.length
  | [], _ => rfl
  | _ :: r, k => by simp [pairsFrom, pairs_len r]
theorem pairs_get : ∀ (xs : List AV) (k i : Nat) (it : List AV), (pairsFrom k xs)[i]? = some it → ∃ x, xs[i]? = some x ∧ it = [.int ((k + i : Nat) : Int), x]
  | [], _, _, _, h => by simp [pairsFrom] at h
  | x :: r, k, 0, it, h => by
    simp [pairsFrom] at h
    exact ⟨x, rfl, h.symm⟩
  | x :: r, k, i + 1, it, h => by
    simp only [pairsFrom, List.getElem?_cons_succ] at h
    obtain ⟨y, hy, e⟩ := pairs_get r (k + 1) i it h
    exact ⟨y, by simpa using hy, by rw [e, show k + 1 + i = k + (i + 1) by omega]⟩
theorem jr_enum {v : AV} {xs : List AV} {a : Addr} (r : RV c ι v (.ref a)) : JRel K c ι ⟨pairsFrom 0 xs, [(true, v, xs)]⟩ (Ite K a) := fun ι' H' ah' hp rh ck => by
  obtain ⟨vs, s, rv⟩ := sql_at r hp rh (chk_one ck)
  refine ⟨⟨vs, s, by simp only [pairs_len]; rw [← Paired.length rv]; exact Nat.le_refl _⟩, fun i it hi => ?_⟩
  obtain ⟨x, hx, rfl⟩ := pairs_get xs 0 i it hi
  obtain ⟨y, hy, ry⟩ := paired_get rv hx
  refine ⟨⟨vs, y, s, hy⟩, fun z H2 hz => ?_⟩
  obtain ⟨T, w, rfl, hT, rfl, q⟩ := hz
  have := q vs s
  rw [hy] at this
  cases this
  exact ⟨⟨T, _, _, rfl, .inl (.inl upd_same), by show V.int _ = V.int _; rw [Nat.zero_add], ry⟩, .inr ⟨T, _, hT, rfl⟩⟩
theorem jr_enumS {s : List Nat} : JRel K c ι ⟨pairsFrom 0 (s.map fun ch => .str [ch]), []⟩ (ItE (mkS s)) := fun ι' H' ah' hp rh ck => by
  refine ⟨by show (pairsFrom 0 _).length = (mkS s).cps.size; rw [size_mkS, pairs_len]; simp, fun i it hi => ?_⟩
  obtain ⟨x, hx, rfl⟩ := pairs_get _ 0 i it hi
  simp only [List.getElem?_map, Option.map_eq_some_iff] at hx
  obtain ⟨ch, hx, rfl⟩ := hx
  refine ⟨by show i < (mkS s).cps.size; rw [size_mkS]; exact (List.getElem?_eq_some_iff.mp hx).1, fun z H2 hz => ?_⟩
  obtain ⟨T, w, rfl, hT, rfl, q⟩ := hz
  rw [get_mkS, hx] at q
  cases q
  exact ⟨⟨T, _, _, rfl, .inl (.inl upd_same), by show V.int _ = V.int _; rw [Nat.zero_add], rfl⟩, .inr ⟨T, _, hT, rfl⟩⟩
theorem jr_range {lo : Int} {n : Nat} : JRel K c ι ⟨rangeIt lo n, []⟩ (Itr lo n) := fun ι' H' ah' hp rh ck => by
  refine ⟨by show n ≤ _; simp [rangeIt], fun i it hi => ?_⟩
  simp only [rangeIt, List.getElem?_map, Option.map_eq_some_iff] at hi
  obtain ⟨x, hx, rfl⟩ := hi
  have hl : i < n := by have := (List.getElem?_eq_some_iff.mp hx).1; simpa using this
  rw [List.getElem?_range hl] at hx
  cases hx
  exact ⟨hl, fun z H2 hz => by obtain ⟨rfl, rfl⟩ := hz; exact ⟨rfl, .inl rfl⟩⟩
theorem jr_rangeN {lo : Int} {n : Nat} : JRel K c ι ⟨(List.range n).map fun (k : Nat) => [.int (lo + (k : Int) * (-1))], []⟩ (Itc lo (-1) n) := fun ι' H' ah' hp rh ck => by
  refine ⟨by show n ≤ _; simp, fun i it hi => ?_⟩
  simp only [List.getElem?_map, Option.map_eq_some_iff] at hi
  obtain ⟨x, hx, rfl⟩ := hi
  have hl : i < n := by have := (List.getElem?_eq_some_iff.mp hx).1; simpa using this
  rw [List.getElem?_range hl] at hx
  cases hx
  exact ⟨hl, fun z H2 hz => by obtain ⟨rfl, rfl⟩ := hz; exact ⟨rfl, .inl rfl⟩⟩
theorem zip_get : ∀ (xs ys : List AV) (i : Nat) (it : List AV), (zipIt xs ys)[i]? = some it → ∃ x y, xs[i]? = some x ∧ ys[i]? = some y ∧ it = [x, y]
  | [], _, _, _, h => by simp [zipIt] at h
  | _ :: _, [], _, _, h => by simp [zipIt] at h
  | x :: r, y :: t, 0, it, h => by simp [zipIt] at h; exact ⟨x, y, rfl, rfl, h.symm⟩
  | x :: r, y :: t, i + 1, it, h => by
    simp only [zipIt, List.getElem?_cons_succ] at h
    obtain ⟨a, b, e1, e2, e3⟩ := zip_get r t i it h
    exact ⟨a, b, by simpa using e1, by simpa using e2, e3⟩
theorem zip_len : ∀ (xs ys : List AV), (zipIt xs ys).length = min xs.length ys.length
  | [], _ => by simp [zipIt]
  | _ :: _, [] => by simp [zipIt]
  | x :: r, y :: t => by simp [zipIt, zip_len r t]
theorem jr_zip {v u : AV} {xs ys : List AV} {a b : Addr} (r : RV c ι v (.ref a)) (r2 : RV c ι u (.ref b)) : JRel K c ι ⟨zipIt xs ys, [(true, v, xs), (true, u, ys)]⟩ (Itz K a b) := fun ι' H' ah' hp rh ck => by
  obtain ⟨c1, c2⟩ := chk_two ck
  obtain ⟨vs, s, rv⟩ := sql_at r hp rh c1
  obtain ⟨ws, s2, rw2⟩ := sql_at r2 hp rh c2
  have l1 := Paired.length rv
  have l2 := Paired.length rw2
  refine ⟨⟨vs, ws, s, s2, by simp only [zip_len]; omega⟩, fun i it hi => ?_⟩
  obtain ⟨x, y, hx, hy, rfl⟩ := zip_get xs ys i it hi
  obtain ⟨x', hx', rx⟩ := paired_get rv hx
  obtain ⟨y', hy', ry⟩ := paired_get rw2 hy
  refine ⟨⟨vs, ws, x', y', s, s2, hx', hy'⟩, fun z H2 hz => ?_⟩
  obtain ⟨T, p, q, rfl, hT, rfl, q1, q2⟩ := hz
  have e1 := q1 vs s
  have e2 := q2 ws s2
  rw [hx'] at e1
  rw [hy'] at e2
  cases e1; cases e2
  exact ⟨⟨T, _, _, rfl, .inl (.inl upd_same), rx, ry⟩, .inr ⟨T, _, hT, rfl⟩⟩
theorem jr_zipT {v u : AV} {xs ys : List AV} {a b : Addr} (r : RV c ι v (.ref a)) (r2 : RV c ι u (.ref b)) : JRel K c ι ⟨zipIt xs ys, [(false, v, xs), (false, u, ys)]⟩ (RZ.ItzT K a b) := fun ι' H' ah' hp rh ck => by
  obtain ⟨c1, c2⟩ := chk_two ck
  obtain ⟨vs, s, rv⟩ := sqt_at r hp rh c1
  obtain ⟨ws, s2, rw2⟩ := sqt_at r2 hp rh c2
  have l1 := Paired.length rv
  have l2 := Paired.length rw2
  refine ⟨⟨vs, ws, s, s2, by simp only [zip_len]; omega⟩, fun i it hi => ?_⟩
  obtain ⟨x, y, hx, hy, rfl⟩ := zip_get xs ys i it hi
  obtain ⟨x', hx', rx⟩ := paired_get rv hx
  obtain ⟨y', hy', ry⟩ := paired_get rw2 hy
  refine ⟨⟨vs, ws, x', y', s, s2, hx', hy'⟩, fun z H2 hz => ?_⟩
  obtain ⟨T, p, q, rfl, hT, rfl, q1, q2⟩ := hz
  have e1 := q1 vs s
  have e2 := q2 ws s2
  rw [hx'] at e1
  rw [hy'] at e2
  cases e1; cases e2
  exact ⟨⟨T, _, _, rfl, .inl (.inl upd_same), rx, ry⟩, .inr ⟨T, _, hT, rfl⟩⟩
theorem di_iter {tg e : Expr} {m : Ev} (h : DE X c W e m) : DI X c W tg e (mIter m) :=
  pi_imp (pi_any h) fun σ H Q ⟨ι, sl, ah, rh, S, p⟩ => ⟨ι, sl, ah, rh, S, Post.step p fun x H1 ι1 v ah1 e1 r1 rv p1 => by
    cases es : srcOf ah1 v with
    | none => rw [es] at p1; exact p1.elim
    | some s =>
      rw [es] at p1
      unfold srcOf at es
      split at es
      · cases es; cases rv
        exact .inr (.inr ⟨_, rfl, p1 ι1 H1 _ (Ext.refl _ _) r1 jr_str⟩)
      · split at es
        · rename_i xs e
          cases es
          obtain ⟨a, vs, rfl, s, r⟩ := rdL_ok r1 e rv
          exact .inl ⟨a, rfl, ⟨vs, s⟩, p1 ι1 H1 _ (Ext.refl _ _) r1 (jr_list rv)⟩
        · split at es
          · rename_i xs e
            cases es
            obtain ⟨a, vs, rfl, s, r⟩ := rdT_ok r1 e rv
            exact .inr (.inl ⟨a, rfl, ⟨vs, s⟩, p1 ι1 H1 _ (Ext.refl _ _) r1 (jr_tup rv)⟩)
          · cases es⟩
theorem da_one {e : Expr} {m : Ev} (ha : DE X c W e m) (hs : starEach [e] X.env = (false, eval e X.env) :: starEach [] X.env := by rfl) : PA X [e] (tCons (tD X.K c W m) tNil) := pa_cons ha pa_nil hs
theorem di_enum {e : Expr} {m : Ev} {p pos tpos : Pos} {elts : List Expr} {kk : Nat} (hg : Gl X "enumerate") (hm : X.mg "enumerate" = none) (h : DE X c W e m) (hs : starEach [e] X.env = [(false, eval e X.env)] := by rfl) :
    DI X c W (.Tuple elts kk tpos) (.Call (.Name "enumerate" p) [e] [] pos) (mEnum m) :=
  pi_imp (pi_enumA hg hm (pa_cons h pa_nil hs) hs) fun σ H Q ⟨ι, sl, ah, rh, S, p⟩ => ⟨ι, sl, ah, rh, S, Post.step p fun x H1 ι1 v ah1 e1 r1 rv p1 => by
    cases es : srcEnum ah1 v with
    | none => rw [es] at p1; exact p1.elim
    | some s =>
      rw [es] at p1
      unfold srcEnum at es
      split at es
      · cases es; cases rv
        exact .inr ⟨_, rfl, p1 ι1 H1 _ (Ext.refl _ _) r1 jr_enumS⟩
      · split at es
        · rename_i xs e
          cases es
          obtain ⟨a, vs, rfl, s, r⟩ := rdL_ok r1 e rv
          exact .inl ⟨a, vs, rfl, s, p1 ι1 H1 _ (Ext.refl _ _) r1 (jr_enum rv)⟩
        · cases es⟩
theorem small60_iff {i : Int} (h : small60 i = true) : -(2 ^ 60) ≤ i ∧ i < 2 ^ 60 := by
  unfold small60 at h
  rw [Bool.and_eq_true] at h
  exact ⟨of_decide_eq_true h.1, of_decide_eq_true h.2⟩
theorem di_range1 {tg e : Expr} {m : Ev} {p pos : Pos} (hg : Gl X "range") (hm : X.mg "range" = none) (h : DE X c W e m) (hs : starEach [e] X.env = [(false, eval e X.env)] := by rfl) : DI X c W tg (.Call (.Name "range" p) [e] [] pos) (mRange1 m) :=
  pi_imp (pi_range1 hg hm (pa_cons h pa_nil hs) hs) fun σ H Q ⟨ι, sl, ah, rh, S, p⟩ => ⟨ι, sl, ah, rh, S, Post.step p fun x H1 ι1 v ah1 e1 r1 rv p1 => by
    split at p1
    · rename_i j
      split at p1
      · rename_i hj
        obtain ⟨h1, h2⟩ := small60_iff hj
        cases rv
        exact ⟨j, rfl, by omega, by omega, p1 ι1 H1 _ (Ext.refl _ _) r1 jr_range⟩
      · exact p1.elim
    · exact p1.elim⟩
theorem di_range2 {tg e d : Expr} {m n : Ev} {p pos : Pos} (hg : Gl X "range") (hm : X.mg "range" = none) (h : DE X c W e m) (h' : DE X c W d n) (hs : starEach [e, d] X.env = [(false, eval e X.env), (false, eval d X.env)] := by rfl) (hs2 : starEach [d] X.env = [(false, eval d X.env)] := by rfl) : DI X c W tg (.Call (.Name "range" p) [e, d] [] pos) (mRange2 m n) :=
  pi_imp (pi_range2 hg hm (pa_cons h (pa_cons h' pa_nil hs2) (by rw [hs, hs2])) hs hs2) fun σ H Q ⟨ι, sl, ah, rh, S, p⟩ => ⟨ι, sl, ah, rh, S, Post.step p fun x H1 ι1 v ah1 e1 r1 rv p1 => ⟨ι1, sl, ah1, r1, S.ext e1, Post.step p1 fun y H2 ι2 u ah2 e2 r2 ru p2 => by
    split at p2
    · rename_i i j
      split at p2
      · rename_i hj
        rw [Bool.and_eq_true] at hj
        obtain ⟨h1, h2⟩ := small60_iff hj.1
        obtain ⟨h3, h4⟩ := small60_iff hj.2
        cases rv; cases ru
        exact ⟨i, j, rfl, by omega, p2 ι2 H2 _ (Ext.refl _ _) r2 jr_range⟩
      · exact p2.elim
    · exact p2.elim⟩⟩
theorem di_range3 {tg e d f : Expr} {m n o : Ev} {p pos : Pos} (hg : Gl X "range") (hm : X.mg "range" = none) (h : DE X c W e m) (h' : DE X c W d n) (h'' : DE X c W f o)
    (hr : ∀ {ta : TA}, PA X [e, d, f] ta → PI X tg (.Call (.Name "range" p) [e, d, f] [] pos) (iRng3 ta)) (hs : starEach [e, d, f] X.env = (false, eval e X.env) :: starEach [d, f] X.env := by rfl) (hs2 : starEach [d, f] X.env = (false, eval d X.env) :: starEach [f] X.env := by rfl) (hs3 : starEach [f] X.env = (false, eval f X.env) :: starEach [] X.env := by rfl) :
    DI X c W tg (.Call (.Name "range" p) [e, d, f] [] pos) (mRange3 m n o) :=
  pi_imp (hr (pa_cons h (pa_cons h' (pa_cons h'' pa_nil hs3) hs2) hs)) fun σ H Q ⟨ι, sl, ah, rh, S, p⟩ => ⟨ι, sl, ah, rh, S, Post.step p fun x H1 ι1 v ah1 e1 r1 rv p1 => ⟨ι1, sl, ah1, r1, S.ext e1, Post.step p1 fun y H2 ι2 u ah2 e2 r2 ru p2 => ⟨ι2, sl, ah2, r2, (S.ext e1).ext e2, Post.step p2 fun z H3 ι3 t ah3 e3 r3 rt p3 => by
    split at p3
    · rename_i i j k
      split at p3
      · rename_i hj
        rw [Bool.and_eq_true, Bool.and_eq_true, decide_eq_true_eq] at hj
        obtain ⟨⟨hj1, hj2⟩, rfl⟩ := hj
        obtain ⟨h1, h2⟩ := small60_iff hj1
        obtain ⟨h3, h4⟩ := small60_iff hj2
        cases rv; cases ru; cases rt
        exact ⟨i, j, -1, _, rfl, RgC.neg (by omega) (by omega) (by omega) (by omega), p3 ι3 H3 _ (Ext.refl _ _) r3 jr_rangeN⟩
      · exact p3.elim
    · exact p3.elim⟩⟩⟩
theorem di_zip {e d : Expr} {m n : Ev} {p pos tpos : Pos} {elts : List Expr} {kk : Nat} (hr : ∀ {ta : TA}, PA X [e, d] ta → PI X (.Tuple elts kk tpos) (.Call (.Name "zip" p) [e, d] [] pos) (RZ.iZipA X.K ta)) (h : DE X c W e m) (h' : DE X c W d n)
    (hs : starEach [e, d] X.env = (false, eval e X.env) :: starEach [d] X.env := by rfl) (hs2 : starEach [d] X.env = (false, eval d X.env) :: starEach [] X.env := by rfl) :
    DI X c W (.Tuple elts kk tpos) (.Call (.Name "zip" p) [e, d] [] pos) (mZip m n) :=
  pi_imp (hr (pa_cons h (pa_cons h' pa_nil hs2) hs)) fun σ H Q ⟨ι, sl, ah, rh, S, p⟩ => ⟨ι, sl, ah, rh, S, Post.step p fun x H1 ι1 v ah1 e1 r1 rv p1 => ⟨ι1, sl, ah1, r1, S.ext e1, Post.step p1 fun y H2 ι2 u ah2 e2 r2 ru p2 => by
    have rv2 := rv.ext e2
    split at p2
    · rename_i xs ys q1 q2
      obtain ⟨a, vs, rfl, s, r⟩ := rdL_ok r2 q1 rv2
      obtain ⟨b, ws, rfl, s', r'⟩ := rdL_ok r2 q2 ru
      exact ⟨a, b, vs, ws, rfl, .inl ⟨s, s', p2 ι2 H2 _ (Ext.refl _ _) r2 (jr_zip rv2 ru)⟩⟩
    · split at p2
      · rename_i xs ys q1 q2
        obtain ⟨a, vs, rfl, s, r⟩ := rdT_ok r2 q1 rv2
        obtain ⟨b, ws, rfl, s', r'⟩ := rdT_ok r2 q2 ru
        exact ⟨a, b, vs, ws, rfl, .inr ⟨s, s', p2 ι2 H2 _ (Ext.refl _ _) r2 (jr_zipT rv2 ru)⟩⟩
      · exact p2.elim⟩⟩
end
end Det

/-! Det7: defs and their calls. -/
namespace Det
open PySem PySem.Spec PyProof.Rows L2

abbrev Fn := List AV → Hh → R AV
/-- a def by its body: n slots, the parameters first -/
def mFn (n : Nat) (body : Es) : Fn := fun args h => match body (args.map some ++ List.replicate (n - args.length) none) h with
  | .nx _ h' => .ok .non h'
  | .rt v h' => .ok v h'
  | .ex x _ h' => .ex x h'
  | _ => .no
def spM (K : PySem.W.Frag) (c : Ct) (np : Nat) (m : Fn) : Sp := fun vs H Q E => ∃ ι as ah, RelH K c ι ah H ∧ RVs c ι as vs ∧ as.length = np ∧ Post K c (fun cls d _ H' => E cls d H') [] H ι (RV c) (m as ah) Q
theorem spM_len {K : PySem.W.Frag} {c : Ct} {np : Nat} {m : Fn} : ∀ vs H Q E, spM K c np m vs H Q E → vs.length = np := fun vs H Q E ⟨ι, as, ah, rh, rv, hl, p⟩ => by rw [← Paired.length rv]; exact hl
def mCall (m : Fn) (ma : Ea) : Ev := fun sl h => (ma sl h).bind fun vs h1 => m vs h1
theorem rs_start {c : Ct} {ι : List Addr} : ∀ {as : List AV} {vs : List V}, RVs c ι as vs → ∀ n, RS c ι (as.map some ++ List.replicate n none) (vs.map some ++ List.replicate n none) := by
  intro as vs h n
  induction h with
  | nil =>
    simp only [List.map_nil, List.nil_append]
    induction n with
    | zero => exact .nil
    | succ n ih => rw [List.replicate_succ, List.replicate_succ]; exact .cons trivial ih
  | cons r t ih => exact .cons r ih
section
variable {P : Program} {w : World} {K : PySem.W.Frag} {mg : Str → Option Value} {base : Heap} {c : Ct}
/-- THE RULE for a def -/
theorem fnD {x qual : Str} {st : Stmt} {f : Addr} {fd : FuncData} {N ps : List Str} {k : Nat} {m : Es} (F : Fun K x qual st f fd) (S : FnScope N ps (defScope st))
    (hb : ∀ (cdv : Value) (A : Around) (outer : List Env) (s : Shared) (H : Hp) (E : XK), Room k (A.deeper (envOfC qual (defScope st) s.heap.objs.size f cdv)) →
      DSs (cxOf (L2.CX P w) P w K mg base N qual (defScope st) f cdv A outer s H E) c (fun cls d _ H => E cls d H) (defBody st) m) : FnOk P w K mg base (L2.CX P w) (k + 1) f fd ps (spM K c ps.length (mFn N.length m)) := by
  refine F.okX S spM_len fun cdv A outer s H vs Q E hr h => ⟨_, hb cdv A outer s H E hr, ?_⟩
  obtain ⟨ι, as, ah, rh, rv, hl, p⟩ := h
  refine ⟨ι, as.map some ++ List.replicate (N.length - as.length) none, ah, rh, ?_, ?_⟩
  · unfold L2.start
    rw [← Paired.length rv]
    exact rs_start rv _
  · unfold mFn at p
    revert p
    cases m (as.map some ++ List.replicate (N.length - as.length) none) ah with
    | nx s h => exact fun q ι' H' σ' e r _ => q ι' H' .non e r rfl
    | rt v h => exact fun q ι' H' x e r rx => q ι' H' x e r rx
    | ex x s h => exact fun q ι' H' σ' cls d e r _ rx => q ι' H' cls d e r rx
    | bk s h => exact fun q => q.elim
    | ct s h => exact fun q => q.elim
    | no => exact fun q => q.elim
theorem fn_no {f : Addr} {fd : FuncData} {ps : List Str} {k : Nat} : FnOk P w K mg base (L2.CX P w) k f fd ps (spM K c ps.length fun _ _ => .no) :=
  ⟨spM_len, fun A outer s H args us vs Q E hr e0 hb r h => by obtain ⟨ι, as, ah, rh, rv, hl, p⟩ := h; exact p.elim⟩
end
section
variable {X : Cx} {c : Ct} {W : WX} {k np : Nat} {f : Addr} {fd : FuncData} {ps : List Str} {m : Fn} {x : Str} {p pos : Pos} {e : Expr} {es : List Expr} {ma : Ea}
theorem call_imp {K : PySem.W.Frag} {σ : L2.St} {H : Hp} {Q : VK} (hl : ∀ sl h vs h1, ma sl h = .ok vs h1 → vs.length = np) (h : tD K c W (mCall m ma) σ H Q) : tCallS (spM K c np m) (WE W) (tDa K c W ma) σ H Q := by
  obtain ⟨ι, sl, ah, rh, S, p⟩ := h
  refine ⟨ι, sl, ah, rh, S, ?_⟩
  have e : mCall m ma sl ah = (ma sl ah).bind fun vs h1 => m vs h1 := rfl
  rw [e] at p
  cases q : ma sl ah with
  | ok vs h1 =>
    rw [q] at p
    exact fun ι' H' b e1 r1 rb => ⟨ι', vs, h1, r1, rb, hl _ _ _ _ q, Post.shift (W := fun cls d _ H' => WE W σ cls d H') (σ := []) (show Post K c (fun cls d _ H' => W cls d σ H') [] H ι (RV c) (m vs h1) Q from by
      revert p
      show Post K c W σ H ι (RV c) (m vs h1) Q → _
      cases m vs h1 with
      | ok a h => exact fun z => z
      | ex a h => exact fun z => z
      | no => exact fun z => z) e1 r1⟩
  | ex y h1 => rw [q] at p; exact p
  | no => rw [q] at p; exact p
/-- an argument list of n parts gives n values -/
def ALen (n : Nat) (ma : Ea) : Prop := ∀ sl h vs h1, ma sl h = .ok vs h1 → vs.length = n
theorem alen_nil : ALen 0 mNil := fun sl h vs h1 e => by cases e; rfl
theorem alen_cons {n : Nat} {me : Ev} (h : ALen n ma) : ALen (n + 1) (mCons me ma) := fun sl h0 vs h1 e => by
  unfold mCons at e
  cases q : me sl h0 with
  | ok v h2 =>
    rw [q] at e
    have e' : (ma sl h2).bind (fun vs h2 => R.ok (v :: vs) h2) = .ok vs h1 := e
    cases q2 : ma sl h2 with
    | ok us h3 => rw [q2] at e'; cases e'; simp [h _ _ _ _ q2]
    | ex y h3 => rw [q2] at e'; cases e'
    | no => rw [q2] at e'; cases e'
  | ex y h2 => rw [q] at e; cases e
  | no => rw [q] at e; cases e
theorem de_call (F : FnOk X.prog X.w X.K X.mg X.base (L2.CX X.prog X.w) k f fd ps (spM X.K c np m)) (hr : Room k X.A) (hg : Gl X x) (hm : X.mg x = some (.ref f)) (hk : PySem.W.keepIn X.K (.ref f) = true) (hb : Binds X.K fd ps []) (tk : Takes X W)
    (ha : DA X c W (e :: es) ma) (hl : ALen np ma) (hdb : (x == ("__debug__" : Str)) = false := by decide) (he : starEach (e :: es) X.env = (false, eval e X.env) :: starEach es X.env := by rfl) (hpl : (backTo pos (starEach es X.env)).any (·.1) = false := by rfl) :
    DE X c W (.Call (.Name x p) (e :: es) [] pos) (mCall m ma) :=
  pe_imp (pe_callS F hr hg hm hk hb (fun σ => passAt tk σ) ha hdb he hpl) fun σ H Q h => call_imp hl h
theorem de_call0 {E : XK} (F : FnOk X.prog X.w X.K X.mg X.base (L2.CX X.prog X.w) k f fd [] (spM X.K c 0 m)) (hr : Room k X.A) (hg : Gl X x) (hm : X.mg x = some (.ref f)) (hk : PySem.W.keepIn X.K (.ref f) = true) (hb : Binds X.K fd [] []) (tk : Takes X fun cls d _ H => E cls d H)
    (hdb : (x == ("__debug__" : Str)) = false := by decide) :
    DE X c (fun cls d _ H => E cls d H) (.Call (.Name x p) [] [] pos) (mCall m mNil) :=
  pe_imp (pe_call0 F hr hg hm hk hb .nil (passes_call tk fun _ _ _ _ h => h) hdb) fun σ H Q h => by
    obtain ⟨ι, sl, ah, rh, S, p⟩ := h
    refine ⟨ι, [], ah, rh, .nil, rfl, ?_⟩
    have p' : Post X.K c (fun cls d _ H => E cls d H) σ H ι (RV c) (m [] ah) Q := p
    revert p'
    cases m [] ah with
    | ok a h => exact fun z => z
    | ex a h => exact fun z => z
    | no => exact fun z => z

/-! ### keywords -/
def perm {α : Type} (p : List Nat) (n m : Nat) (us ws : List α) : List α := if us.length = n ∧ ws.length = m then p.filterMap fun i => (us ++ ws)[i]? else []
theorem perm_rel {α β : Type} {G : α → β → Prop} (p : List Nat) (n m : Nat) {us : List α} {vs : List β} {ws : List α} {zs : List β} (h : Paired G us vs) (h2 : Paired G ws zs) : Paired G (perm p n m us ws) (perm p n m vs zs) := by
  unfold perm
  rw [Paired.length h, Paired.length h2]
  split
  · have ha := Paired.app h h2
    induction p with
    | nil => exact .nil
    | cons i r ih =>
      rw [List.filterMap_cons, List.filterMap_cons]
      cases e : (us ++ ws)[i]? with
      | none =>
        have : (vs ++ zs)[i]? = none := by
          rw [List.getElem?_eq_none_iff] at e ⊢
          rw [← Paired.length ha]; exact e
        rw [this]; exact ih
      | some a =>
        obtain ⟨b, hb, g⟩ := paired_get ha e
        rw [hb]
        exact .cons g ih
  · exact .nil
theorem kbinds_mk {K : PySem.W.Frag} {fd : FuncData} {ps ks : List Str} {p : List Nat} {n m : Nat} (h0 : ps ≠ []) (h : ∀ us ws : List Value, us.length = n → ws.length = m → bindArgs fd ⟨us, ks.zip ws⟩ = pure (ps.zip (perm p n m us ws))) :
    KBinds K fd ps ks (perm p n m) (perm p n m) where
  to := fun s us ws _ hl => by
    by_cases hx : us.length = n ∧ ws.length = m
    · exact .of_eq (h us ws hx.1 hx.2)
    · unfold perm at hl
      rw [if_neg hx] at hl
      exact absurd (List.eq_nil_of_length_eq_zero hl.symm) h0
  rel := fun r1 r2 => perm_rel p n m r1 r2
theorem pe_callK0 {CX : CXT} {sp : Sp} {E : XK} {kws : List Keyword} {tk : TA} {ks : List Str} {g : List Value → List Value → List Value} {gV : List V → List V → List V} (F : FnOk X.prog X.w X.K X.mg X.base CX k f fd ps sp) (hr : Room k X.A) (hg : Gl X x) (hm : X.mg x = some (.ref f)) (hk : PySem.W.keepIn X.K (.ref f) = true) (hb : KBinds X.K fd ps ks g gV) (hx : Passes CX X E)
    (hkw : PK X kws tk) (hall : (backToKw pos (keywordEach kws X.env)).all (·.1.isSome) = true := by rfl) (hks : (backToKw pos (keywordEach kws X.env)).filterMap (·.1) = ks := by rfl)
    (hdb : (x == ("__debug__" : Str)) = false := by decide)
    (hpl : ((backTo pos (starEach [] X.env)).any (·.1) || (backToKw pos (keywordEach kws X.env)).any (·.1.isNone)) = false := by rfl) :
    PE X (.Call (.Name x p) [] kws pos) (tCallK sp gV E tNil tk) := by
  refine ⟨fun pins s σ H Q I h => ?_⟩
  refine wpAny_Call_Name_kw (ld_glob I hg hm ?_ hdb)
  refine PySem.W.callWith_KW0 (h₀ := X.base) I.ok.mod.kin hk hall (thn (hkw.run pos pins s σ H _ I h) fun ws s2 ⟨zs, H2, I2, rz, q2⟩ => ⟨I2.kIn, ?_⟩) hpl
  rw [hks]
  exact run_fnk (us := []) F hr hb hx I2 .nil rz q2
def mCallK (m : Fn) (pp : List Nat) (n k : Nat) (ma mk : Ea) : Ev := fun sl h => (ma sl h).bind fun vs h1 => (mk sl h1).bind fun zs h2 => if (perm pp n k vs zs).length = pp.length then m (perm pp n k vs zs) h2 else .no
theorem post_w {K : PySem.W.Frag} {E : XK} {σ τ : L2.St} {H : Hp} {ι : List Addr} {r : R AV} {Q : VK} (p : Post K c (fun cls d _ H => E cls d H) σ H ι (RV c) r Q) : Post K c (fun cls d _ H => E cls d H) τ H ι (RV c) r Q := by
  cases r with
  | ok a h => exact p
  | ex a h => exact p
  | no => exact p
theorem de_callK {E : XK} {kws : List Keyword} {mk : Ea} {ks : List Str} {pp : List Nat} {n q : Nat} (F : FnOk X.prog X.w X.K X.mg X.base (L2.CX X.prog X.w) k f fd ps (spM X.K c pp.length m)) (hr : Room k X.A) (hg : Gl X x) (hm : X.mg x = some (.ref f)) (hk : PySem.W.keepIn X.K (.ref f) = true) (hb : KBinds X.K fd ps ks (perm pp n q) (perm pp n q))
    (tk : Takes X fun cls d _ H => E cls d H) (ha : DA X c (fun cls d _ H => E cls d H) (e :: es) ma) (hkw : DK X c (fun cls d _ H => E cls d H) kws mk) (hall : (backToKw pos (keywordEach kws X.env)).all (·.1.isSome) = true := by rfl) (hks : (backToKw pos (keywordEach kws X.env)).filterMap (·.1) = ks := by rfl)
    (hdb : (x == ("__debug__" : Str)) = false := by decide) (he : starEach (e :: es) X.env = (false, eval e X.env) :: starEach es X.env := by rfl)
    (hpl : ((backTo pos (starEach (e :: es) X.env)).any (·.1) || (backToKw pos (keywordEach kws X.env)).any (·.1.isNone)) = false := by rfl) :
    DE X c (fun cls d _ H => E cls d H) (.Call (.Name x p) (e :: es) kws pos) (mCallK m pp n q ma mk) :=
  pe_imp (pe_callK F hr hg hm hk hb (passes_call tk fun _ _ _ _ h => h) ha hkw hall hks hdb he hpl) fun σ H Q ⟨ι, sl, ah, rh, S, p⟩ => ⟨ι, sl, ah, rh, S, Post.step p fun vs H1 ι1 as ah1 e1 r1 ra p1 =>
    ⟨ι1, sl, ah1, r1, S.ext e1, Post.step p1 fun zs H2 ι2 bs ah2 e2 r2 rb p2 => by
      split at p2
      · rename_i hl
        exact ⟨ι2, _, ah2, r2, perm_rel pp n q (RVs.ext ra e2) rb, hl, post_w p2⟩
      · exact p2.elim⟩⟩
theorem de_callK0 {E : XK} {kws : List Keyword} {mk : Ea} {ks : List Str} {pp : List Nat} {q : Nat} (F : FnOk X.prog X.w X.K X.mg X.base (L2.CX X.prog X.w) k f fd ps (spM X.K c pp.length m)) (hr : Room k X.A) (hg : Gl X x) (hm : X.mg x = some (.ref f)) (hk : PySem.W.keepIn X.K (.ref f) = true) (hb : KBinds X.K fd ps ks (perm pp 0 q) (perm pp 0 q))
    (tk : Takes X fun cls d _ H => E cls d H) (hkw : DK X c (fun cls d _ H => E cls d H) kws mk) (hall : (backToKw pos (keywordEach kws X.env)).all (·.1.isSome) = true := by rfl) (hks : (backToKw pos (keywordEach kws X.env)).filterMap (·.1) = ks := by rfl)
    (hdb : (x == ("__debug__" : Str)) = false := by decide)
    (hpl : ((backTo pos (starEach [] X.env)).any (·.1) || (backToKw pos (keywordEach kws X.env)).any (·.1.isNone)) = false := by rfl) :
    DE X c (fun cls d _ H => E cls d H) (.Call (.Name x p) [] kws pos) (mCallK m pp 0 q mNil mk) :=
  pe_imp (pe_callK0 F hr hg hm hk hb (passes_call tk fun _ _ _ _ h => h) hkw hall hks hdb hpl) fun σ H Q ⟨ι, sl, ah, rh, S, p⟩ => by
    have p0 : Post X.K c (fun cls d _ H => E cls d H) σ H ι (RV c) ((mk sl ah).bind fun zs h2 => if (perm pp 0 q [] zs).length = pp.length then m (perm pp 0 q [] zs) h2 else .no) Q := p
    exact ⟨ι, sl, ah, rh, S, Post.step p0 fun zs H2 ι2 bs ah2 e2 r2 rb p2 => by
      split at p2
      · rename_i hl
        exact ⟨ι2, _, ah2, r2, perm_rel pp 0 q .nil rb, hl, post_w p2⟩
      · exact p2.elim⟩
end
end Det

/-! Det8: subscripts, slices, membership, stores. -/
namespace Det
open PySem PySem.Spec PyProof.Rows L2

def atA {α : Type} (xs : List α) (i : Int) : Option α := if 0 ≤ i then xs[i.toNat]? else if -(xs.length : Int) ≤ i then xs[(i + xs.length).toNat]? else none
theorem atA_atI {α : Type} {xs : List α} {i : Int} {v : α} (h : atA xs i = some v) : atI xs i = some v := by
  unfold atA at h
  unfold atI ixN
  by_cases h0 : 0 ≤ i
  · rw [if_pos h0] at h
    have hl := (List.getElem?_eq_some_iff.mp h).1
    rw [if_pos h0, if_pos (by omega)]
    exact h
  · rw [if_neg h0] at h
    rw [if_neg h0]
    split at h
    · rename_i h1
      rw [if_pos h1]
      exact h
    · cases h
theorem atI_pair {α β : Type} {G : α → β → Prop} {xs : List α} {ys : List β} (p : Paired G xs ys) {i : Int} {v : α} (h : atI xs i = some v) : ∃ w, atI ys i = some w ∧ G v w := by
  unfold atI at h ⊢
  rw [← Paired.length p]
  cases e : ixN xs.length i with
  | none => rw [e] at h; cases h
  | some j => rw [e] at h; exact paired_get p h

/-! ### dicts -/
def keyOf : AV → Option AKey
  | .int i => some (.inl i)
  | .str s => some (.inr s)
  | _ => none
def valA (kvs : List (AKey × AV)) (k : AKey) : Option AV := (kvs.find? fun p => decide (p.1 = k)).map (·.2)
def putA (kvs : List (AKey × AV)) (k : AKey) (v : AV) : List (AKey × AV) := if (kvs.any fun p => decide (p.1 = k)) = true then kvs.map (fun p => if p.1 = k then (p.1, v) else p) else kvs ++ [(k, v)]
def dicOf (h : Hh) : AV → Option (List (AKey × AV))
  | .ref n => match h[n]? with
    | some (.dic kvs) => some kvs
    | _ => none
  | _ => none
def conA (kvs : List (List Nat × AV)) (s : List Nat) : Option AV := (kvs.find? fun p => decide (p.1 = s)).map (·.2)
section
variable {K : PySem.W.Frag} {c : Ct} {ι : List Addr} {ah : Hh} {H : Hp}
theorem keyOf_ok {a : AV} {k : AKey} {x : V} (h : keyOf a = some k) (r : RV c ι a x) : x = kV (kk k) := by
  cases a with
  | int i => cases h; cases r; rfl
  | str s => cases h; cases r; rfl
  | _ => cases h
theorem valA_ok : ∀ {kvs : List (AKey × AV)} {vs : List (Key × V)} (k : AKey), RKV c ι kvs vs → (∀ v, valA kvs k = some v → ∃ x, valV vs (kk k) = some x ∧ RV c ι v x) ∧ (valA kvs k = none → valV vs (kk k) = none)
  | _, _, k, .nil => ⟨fun v h => by simp [valA] at h, fun _ => rfl⟩
  | _, _, k, @Paired.cons _ _ _ p q ps qs r t => by
    obtain ⟨i1, i2⟩ := valA_ok k t
    by_cases h : p.1 = k
    · have hq : q.1 = kk k := by rw [r.1, h]
      have e1 : valA (p :: ps) k = some p.2 := by simp [valA, List.find?_cons, h]
      rw [e1, valV_pos hq]
      exact ⟨fun v hv => by cases hv; exact ⟨_, rfl, r.2⟩, fun z => by cases z⟩
    · have hq : ¬ q.1 = kk k := fun z => h (kk_inj (r.1.symm.trans z))
      have e1 : valA (p :: ps) k = valA ps k := by simp [valA, List.find?_cons, h]
      rw [e1, valV_neg hq]
      exact ⟨i1, i2⟩
theorem dicOf_ok (R : RelH K c ι ah H) {v : AV} {x : V} {kvs : List (AKey × AV)} (h : dicOf ah v = some kvs) (r : RV c ι v x) : ∃ n a vs, v = .ref n ∧ x = .ref a ∧ ι[n]? = some a ∧ ah[n]? = some (.dic kvs) ∧ RKV c ι kvs vs ∧ H a = some (.dK vs) := by
  unfold dicOf at h
  split at h
  · split at h
    · rename_i n _ ys e
      cases h
      obtain ⟨a, rfl, ha, vs, rv, e2⟩ := R.at e r
      exact ⟨n, a, vs, rfl, rfl, ha, e, rv, e2⟩
    · cases h
  · cases h
/-- a written dict's answer at a text -/
theorem con_ns {d : Addr} {es : Array DictEntry} {n : Nat} {kvs : List (List Nat × AV)} (hl : K.lookup d = some ⟨.type "dict", none, .dict es n, #[]⟩) (hp : Paired (REnt c) kvs es.toList) (s : List Nat) :
    (∀ v, conA kvs s = some v → ∃ u x, PySem.W.nsIn K d (mkS s) = some (some u) ∧ RV c [] v x ∧ RelV x u) ∧ (conA kvs s = none → PySem.W.nsIn K d (mkS s) = some none) := by
  have e : PySem.W.nsIn K d (mkS s) = (match es.toList.find? (·.key.isStr (mkS s)) with
      | some e => some (some e.val)
      | none => if es.toList.any (·.refKey) then none else some none) := by
    simp only [PySem.W.nsIn, hl]
    rfl
  have nr : es.toList.any (·.refKey) = false := by
    rw [List.any_eq_false]
    have : ∀ {kvs : List (List Nat × AV)} {l : List DictEntry}, Paired (REnt c) kvs l → ∀ x ∈ l, ¬ x.refKey = true := by
      intro kvs l h
      induction h with
      | nil => intro x hx; cases hx
      | cons r t ih =>
        intro x hx
        rcases List.mem_cons.mp hx with rfl | hx
        · obtain ⟨⟨t, ht⟩, _⟩ := r
          simp [DictEntry.refKey, ht]
        · exact ih x hx
    exact this hp
  rw [e, nr]
  have key : ∀ {kvs : List (List Nat × AV)} {l : List DictEntry}, Paired (REnt c) kvs l → (∀ v, conA kvs s = some v → ∃ en x, l.find? (·.key.isStr (mkS s)) = some en ∧ RV c [] v x ∧ RelV x en.val) ∧ (conA kvs s = none → l.find? (·.key.isStr (mkS s)) = none) := by
    intro kvs l h
    induction h with
    | nil => exact ⟨fun v hv => by simp [conA] at hv, fun _ => rfl⟩
    | @cons p q ps qs r t ih =>
      obtain ⟨⟨t', ht⟩, x, rx, ru⟩ := r
      have hi : q.key.isStr (mkS s) = decide (p.1 = s) := by
        rw [ht]
        show (Value.str (mkS p.1) t').isStr (mkS s) = _
        rw [PySem.W.isStr_of]
        show (Value.isStrOf (mkS s) (.str (mkS p.1) t')) = _
        unfold Value.isStrOf
        by_cases h : p.1 = s
        · subst h; simp
        · have h2 : ¬ mkS p.1 = mkS s := fun z => h (mkS_inj z)
          have h3 : ¬ mkS s = mkS p.1 := fun z => h (mkS_inj z).symm
          simp [h, h2, h3]
      by_cases h : p.1 = s
      · have e1 : conA (p :: ps) s = some p.2 := by simp [conA, List.find?_cons, h]
        have e2 : (q :: qs).find? (·.key.isStr (mkS s)) = some q := by rw [List.find?_cons]; simp [hi, h]
        rw [e1, e2]
        exact ⟨fun v hv => by cases hv; exact ⟨q, x, rfl, rx, ru⟩, fun z => by cases z⟩
      · have e1 : conA (p :: ps) s = conA ps s := by simp [conA, List.find?_cons, h]
        have e2 : (q :: qs).find? (·.key.isStr (mkS s)) = qs.find? (·.key.isStr (mkS s)) := by rw [List.find?_cons]; simp [hi, h]
        rw [e1, e2]
        exact ih
  obtain ⟨k1, k2⟩ := key hp
  refine ⟨fun v hv => ?_, fun hv => ?_⟩
  · obtain ⟨en, x, e1, rx, ru⟩ := k1 v hv
    rw [e1]
    exact ⟨en.val, x, rfl, rx, ru⟩
  · rw [k2 hv]; rfl
theorem RV.up {v : AV} {x : V} (h : RV c [] v x) : RV c ι v x := by
  have := h.app ι
  simpa using this
end

/-! ### o[i] -/
def opIx : Op2 := fun x y h => match x, y with
  | .str s, .int i => if s.length ≤ LINE then (atA s i).map fun ch => (.str [ch], h) else none
  | .con k, .str s => match k.dic? with
    | some kvs => (conA kvs s).map fun v => (v, h)
    | none => none
  | x, y => match dicOf h x with
    | some kvs => match keyOf y with
      | some k => (valA kvs k).map fun v => (v, h)
      | none => none
    | none => match y with
      | .int i => match rdL h x with
        | some xs => (atA xs i).map fun v => (v, h)
        | none => match rdT h x with
          | some xs => (atA xs i).map fun v => (v, h)
          | none => none
      | _ => none
section
variable {X : Cx} {c : Ct} {W : WX}
theorem ix_all (hu : X.A.units + 64 < cLine) (hw : X.w.params = c.P) : IxR X (rD X.K c opIx) := by
  intro value slice pins s σ H x y v u Q I rx ry h hs
  obtain ⟨ι, a, b, ah, w, ah', rh, ra, rb, e, q⟩ := h
  unfold opIx at e
  split at e
  · rename_i t i
    split at e
    · rename_i hl
      obtain ⟨ch, e1, e2⟩ := Option.map_eq_some_iff.mp e
      cases e2; cases ra; cases rb
      exact ix_str value slice pins s σ H _ _ v u Q I rx ry ⟨_, i, ch, rfl, rfl, by rw [mkS_len]; exact le_of_line hl, by rw [mkS_cps]; exact atA_atI e1, q ι H _ (Ext.refl _ _) rh rfl⟩ hs
    · cases e
  · rename_i k t
    split at e
    · rename_i kvs hk
      obtain ⟨v0, e1, e2⟩ := Option.map_eq_some_iff.mp e
      cases e2
      obtain ⟨rfl, hh⟩ := ra
      cases rb
      obtain ⟨es, n, hl, lit, low, hp⟩ := rh.cok.dic k kvs hh hk
      have D : KDict X.K X.w (c.con k) es n := ⟨hl, by rw [hw]; exact lit, low⟩
      obtain ⟨u0, x0, hn, r0, ru0⟩ := (con_ns hl hp t).1 _ e1
      have Dt := kd_type D I
      cases rx
      exact tail_any Dt PySem.F.slot_dict_getitem.lookup (op_item_kd D pins s σ H (.ref (c.con k)) _ _ u Q I (show RelV (.ref (c.con k)) (.ref (c.con k)) from rfl) ry ⟨_, u0, x0, rfl, rfl, hn, ru0, q ι H x0 (Ext.refl _ _) rh r0.up⟩) hs
    · cases e
  · split at e
    · rename_i kvs hd
      split at e
      · rename_i k hk
        obtain ⟨v0, e1, e2⟩ := Option.map_eq_some_iff.mp e
        cases e2
        obtain ⟨n, a', vs, rfl, rfl, ha, hn, rk, hH⟩ := dicOf_ok rh hd ra
        obtain ⟨x0, hx0, rx0⟩ := (valA_ok k rk).1 _ e1
        have hy := keyOf_ok hk rb
        subst hy
        have g : DGet H a' (kV (kk k)) (some x0) := by rw [← hx0]; exact DGet.k hH
        cases rx
        exact tail_any (dict_typeIs I g) PySem.F.slot_dict_getitem.lookup (d_getItem (Nat.lt_of_le_of_lt (Nat.add_le_add_left (by decide) _) hu) I g ry fun w' s' I' rw' => ⟨x0, H, I', rw', q ι H x0 (Ext.refl _ _) rh rx0⟩) hs
      · cases e
    · split at e
      · rename_i i _ _
        cases rb
        split at e
        · rename_i xs hx
          obtain ⟨v0, e1, e2⟩ := Option.map_eq_some_iff.mp e
          cases e2
          obtain ⟨a', vs, rfl, s1, rv⟩ := rdL_ok rh hx ra
          obtain ⟨x0, hx0, rx0⟩ := atI_pair rv (atA_atI e1)
          exact ix_list value slice pins s σ H _ _ v u Q I rx ry ⟨a', vs, i, x0, rfl, rfl, s1, hx0, q ι H x0 (Ext.refl _ _) rh rx0⟩ hs
        · split at e
          · rename_i xs hx
            obtain ⟨v0, e1, e2⟩ := Option.map_eq_some_iff.mp e
            cases e2
            obtain ⟨a', vs, rfl, s1, rv⟩ := rdT_ok rh hx ra
            obtain ⟨x0, hx0, rx0⟩ := atI_pair rv (atA_atI e1)
            exact ix_tup value slice pins s σ H _ _ v u Q I rx ry ⟨a', vs, i, x0, rfl, rfl, s1, hx0, q ι H x0 (Ext.refl _ _) rh rx0⟩ hs
          · cases e
      · cases e
theorem de_ix {a b : Expr} {ma mb : Ev} {pos : Pos} (hu : X.A.units + 64 < cLine) (hw : X.w.params = c.P) (ha : DE X c W a ma) (hb : DE X c W b mb) (hs : PlainIx b) : DE X c W (.Subscript a b pos) (mBin opIx ma mb) :=
  pe_imp (pe_ix (ix_all hu hw) ha hb hs) fun _ _ _ h => bin_imp h
end

/-! ### slices -/
def cutIx (n d : Nat) : Option Int → Nat
  | none => d
  | some v => if v < 0 then (v + (n : Int)).toNat else min v.toNat n
theorem cutIx_eq (n d : Nat) (o : Option Int) : cutIx n d o = HT.sIx n d o := by cases o <;> rfl
def cutA {α : Type} (xs : List α) (lo hi : Option Int) : List α := (xs.drop (cutIx xs.length 0 lo)).take (cutIx xs.length xs.length hi - cutIx xs.length 0 lo)
def opSlice (x : AV) (lo hi : Option Int) (h : Hh) : Option (AV × Hh) := match x with
  | .str s => if s.length ≤ LINE then some (.str (cutA s lo hi), h) else none
  | x => match rdL h x with
    | some xs => some (.ref h.length, h ++ [.lst (cutA xs lo hi)])
    | none => match rdT h x with
      | some xs => if cutIx xs.length 0 lo = 0 ∧ cutIx xs.length xs.length hi = xs.length then none else some (.ref h.length, h ++ [.tup (cutA xs lo hi)])
      | none => none
abbrev Eo := Sl → Hh → R (Option Int)
def mNo : Eo := fun _ h => .ok none h
def mSome (m : Ev) : Eo := fun sl h => (m sl h).bind fun v h1 => match v with
  | .int i => .ok (some i) h1
  | _ => .no
def mSlice (mo : Ev) (ml mh : Eo) : Ev := fun sl h => (mo sl h).bind fun x h1 => (ml sl h1).bind fun l h2 => (mh sl h2).bind fun u h3 => R.of (opSlice x l u h3)
def tDo (K : PySem.W.Frag) (c : Ct) (W : WX) (m : Eo) : TO := fun σ H Q => ∃ ι sl ah, RelH K c ι ah H ∧ RS c ι sl σ ∧ Post K c W σ H ι (fun _ a b => a = b) (m sl ah) Q
abbrev DO (X : Cx) (c : Ct) (W : WX) (e : Option Expr) (m : Eo) : Prop := PO X e (tDo X.K c W m)
theorem Paired.cut {α β : Type} {G : α → β → Prop} {xs : List α} {ys : List β} (p : Paired G xs ys) (n k : Nat) : Paired G ((xs.drop n).take k) ((ys.drop n).take k) := by
  have hd : ∀ {xs : List α} {ys : List β}, Paired G xs ys → ∀ n, Paired G (xs.drop n) (ys.drop n) := by
    intro xs ys p
    induction p with
    | nil => intro n; simp; exact .nil
    | cons r t ih => intro n; cases n with
      | zero => exact .cons r t
      | succ n => exact ih n
  have ht : ∀ {xs : List α} {ys : List β}, Paired G xs ys → ∀ n, Paired G (xs.take n) (ys.take n) := by
    intro xs ys p
    induction p with
    | nil => intro n; simp; exact .nil
    | cons r t ih => intro n; cases n with
      | zero => exact .nil
      | succ n => exact .cons r (ih n)
  exact ht (hd p n) k
section
variable {X : Cx} {c : Ct} {W : WX}
theorem po_imp {X : Cx} {e : Option Expr} {t t' : TO} (h : PO X e t) (k : ∀ σ H Q, t' σ H Q → t σ H Q) : PO X e t' := ⟨by
  obtain ⟨r⟩ := h
  intros
  first
    | exact r _ _ _ _ _ (by assumption) (k _ _ _ (by assumption))
    | exact r _ _ _ _ _ _ (by assumption) (k _ _ _ (by assumption))⟩
theorem do_none : DO X c W none mNo := po_imp po_none fun σ H Q ⟨ι, sl, ah, rh, S, p⟩ => p ι H none (Ext.refl _ _) rh rfl
theorem do_some {e : Expr} {m : Ev} (h : DE X c W e m) : DO X c W (some e) (mSome m) :=
  po_imp (po_some h) fun σ H Q ⟨ι, sl, ah, rh, S, p⟩ => ⟨ι, sl, ah, rh, S, Post.step p fun x H1 ι1 v ah1 e1 r1 rv p1 => by
    split at p1
    · cases rv; exact ⟨_, rfl, p1 ι1 H1 _ (Ext.refl _ _) r1 rfl⟩
    · exact p1.elim⟩
def rSlA (K : PySem.W.Frag) (c : Ct) : V → Option Int → Option Int → Hp → VK → Prop := fun x lo hi H Q => ∃ ι a ah v ah', RelH K c ι ah H ∧ RV c ι a x ∧ opSlice a lo hi ah = some (v, ah') ∧ ∀ ι' H' z, Ext H ι H' ι' → RelH K c ι' ah' H' → RV c ι' v z → Q z H'
theorem sl_all : SlR X (rSlA X.K c) := by
  intro pins s σ H x v vl vu lo hi sl Q I rx hs pl pu h
  obtain ⟨ι, a, ah, w, ah', rh, ra, e, q⟩ := h
  unfold opSlice at e
  split at e
  · rename_i t
    split at e
    · rename_i hl
      cases e; cases ra
      refine sl_str pins s σ H _ v vl vu lo hi sl Q I rx hs pl pu ⟨mkS t, rfl, by rw [mkS_len]; exact le_of_line hl, ?_⟩
      refine q ι H _ (Ext.refl _ _) rh ?_
      show V.str (cutS (mkS t) lo hi) = V.str (mkS (cutA t lo hi))
      unfold cutS cutA
      rw [mkS_len, mkS_cps, cutIx_eq, cutIx_eq]
      rfl
    · cases e
  · split at e
    · rename_i xs hx
      cases e
      obtain ⟨a', vs, rfl, s1, rv⟩ := rdL_ok rh hx ra
      refine sl_list pins s σ H _ v vl vu lo hi sl Q I rx hs pl pu ⟨a', vs, rfl, s1, ?_⟩
      refine lay_lst rh (xs := cutA xs lo hi) ?_ q
      unfold cutA cutV
      rw [← Paired.length rv, cutIx_eq, cutIx_eq]
      exact Paired.cut rv _ _
    · split at e
      · rename_i xs hx
        split at e
        · cases e
        · rename_i hne
          cases e
          obtain ⟨a', vs, rfl, s1, rv⟩ := rdT_ok rh hx ra
          refine sl_tup pins s σ H _ v vl vu lo hi sl Q I rx hs pl pu ⟨a', vs, rfl, s1, ?_, ?_⟩
          · rw [← Paired.length rv, ← cutIx_eq, ← cutIx_eq]; exact hne
          · refine lay_tup rh (xs := cutA xs lo hi) ?_ q
            unfold cutA cutV
            rw [← Paired.length rv, cutIx_eq, cutIx_eq]
            exact Paired.cut rv _ _
      · cases e
theorem de_slice {e : Expr} {lo hi : Option Expr} {p2 pos : Pos} {mo : Ev} {ml mh : Eo} (he : DE X c W e mo) (hl : DO X c W lo ml) (hh : DO X c W hi mh) : DE X c W (.Subscript e (.Slice lo hi none p2) pos) (mSlice mo ml mh) :=
  pe_imp (pe_slice (sl_all (c := c)) he hl hh) fun σ H Q ⟨ι, sl, ah, rh, S, p⟩ => ⟨ι, sl, ah, rh, S, Post.step p fun x H1 ι1 a ah1 e1 r1 ra p1 => ⟨ι1, sl, ah1, r1, S.ext e1, Post.step p1 fun l H2 ι2 l' ah2 e2 r2 el p2 =>
    ⟨ι2, sl, ah2, r2, (S.ext e1).ext e2, Post.step p2 fun u H3 ι3 u' ah3 e3 r3 eu p3 => by
      cases el; cases eu
      cases e : opSlice a l u ah3 with
      | none => rw [e] at p3; exact p3.elim
      | some r =>
        obtain ⟨w, ah4⟩ := r
        rw [e] at p3
        exact ⟨ι3, a, ah3, w, ah4, r3, (ra.ext e2).ext e3, e, fun ι' H' z e1 r1 rz => p3 ι' H' z e1 r1 rz⟩⟩⟩⟩
end

/-! ### in, not in -/
def flatA : AV → Bool
  | .non => true | .bl _ => true | .int _ => true | .str _ => true | _ => false
def eqF : AV → AV → Bool
  | .non, .non => true
  | .bl a, .bl b => a == b
  | .bl a, .int b => (if a then 1 else 0) == b
  | .int a, .bl b => a == (if b then 1 else 0)
  | .int a, .int b => a == b
  | .str a, .str b => a == b
  | _, _ => false
def inB (h : Hh) (x y : AV) : Option Bool := match x, y with
  | .str s, .str t => match s with
    | [ch] => some (decide (ch ∈ t))
    | _ => none
  | .str s, .con k => match k.dic? with
    | some kvs => some (conA kvs s).isSome
    | none => none
  | x, y => match dicOf h y with
    | some kvs => (keyOf x).map fun k => (valA kvs k).isSome
    | none => match rdL h y with
      | some xs => if (flatA x && xs.all flatA) = true then some (xs.any fun z => eqF z x) else match reify 40 h x, mapO (reify 39 h) xs with
        | some d, some ds => if (d.fine && D.fines ds) = true then some (ds.any fun z => D.eqv z d) else none
        | _, _ => none
      | none => match rdT h y with
        | some xs => if (flatA x && xs.all flatA) = true then some (xs.any fun z => eqF z x) else none
        | none => none
def opIn : Op2 := fun x y h => (inB h x y).map fun b => (.bl b, h)
def opNotIn : Op2 := fun x y h => (inB h x y).map fun b => (.bl (!b), h)
section
variable {X : Cx} {c : Ct} {W : WX} {ι : List Addr}
theorem flat_ok {a : AV} {x : V} (r : RV c ι a x) (h : flatA a = true) : flatV x = true := by
  cases a with
  | non => cases r; rfl
  | bl b => cases r; rfl
  | int b => cases r; rfl
  | str b => cases r; rfl
  | _ => cases h
theorem eqF_ok {a b : AV} {x y : V} (r : RV c ι a x) (r' : RV c ι b y) (h : flatA a = true) (h' : flatA b = true) : eqV x y = eqF a b := by
  cases a with
  | non => cases r; cases b with
    | non => cases r'; rfl
    | bl b => cases r'; rfl
    | int b => cases r'; rfl
    | str b => cases r'; rfl
    | _ => cases h'
  | bl a => cases r; cases b with
    | non => cases r'; rfl
    | bl b => cases r'; rfl
    | int b => cases r'; rfl
    | str b => cases r'; rfl
    | _ => cases h'
  | int a => cases r; cases b with
    | non => cases r'; rfl
    | bl b => cases r'; rfl
    | int b => cases r'; rfl
    | str b => cases r'; rfl
    | _ => cases h'
  | str a => cases r; cases b with
    | non => cases r'; rfl
    | bl b => cases r'; rfl
    | int b => cases r'; rfl
    | str b => cases r'; exact mkS_beq a b
    | _ => cases h'
  | _ => cases h
theorem all_flat {xs : List AV} {vs : List V} (r : RVs c ι xs vs) (h : xs.all flatA = true) : vs.all flatV = true := by
  induction r with
  | nil => rfl
  | cons q t ih =>
    rw [List.all_cons, Bool.and_eq_true] at h ⊢
    exact ⟨flat_ok q h.1, ih h.2⟩
theorem any_eqF {xs : List AV} {vs : List V} {a : AV} {x : V} (r : RVs c ι xs vs) (ra : RV c ι a x) (h : xs.all flatA = true) (ha : flatA a = true) : inV x vs = xs.any fun z => eqF z a := by
  unfold inV
  induction r with
  | nil => rfl
  | cons q t ih =>
    rw [List.all_cons, Bool.and_eq_true] at h
    rw [List.any_cons, List.any_cons, eqF_ok q ra h.1 ha, ih h.2]
theorem pys_any (ds : List D) (d : D) : ((D.pys ds).any fun z => PyData.eqv z d.py) = ds.any fun z => D.eqv z d := by
  induction ds with
  | nil => rfl
  | cons x r ih => rw [D.pys, List.any_cons, List.any_cons, py_eqv, ih]
theorem in_any (hu : X.A.units + 65 < cLine) (hw : X.w.params = c.P) {f : Bool → Bool} {op : CmpOp} (h1 : (op = .In ∧ f = id) ∨ (op = .NotIn ∧ f = not)) : DOp X c (compareOp op) (fun x y h => (inB h x y).map fun b => (.bl (f b), h)) := dop fun pins s σ H x y v u Q ι a b ah w ah' I rx ry rh ra rb e q => by
  obtain ⟨k, e1, e2⟩ := Option.map_eq_some_iff.mp e
  cases e2
  have qq := fin_b rh q
  have hu1 : X.A.units + 1 < cLine := by omega
  unfold inB at e1
  split at e1
  · rename_i t z
    split at e1
    · rename_i ch
      cases e1; cases ra; cases rb
      rcases h1 with ⟨rfl, rfl⟩ | ⟨rfl, rfl⟩
      · exact op_in_sign pins s σ H _ _ v u Q I rx ry ⟨ch, _, rfl, rfl, by rw [mkS_cps]; exact qq⟩
      · exact op_notIn_sign pins s σ H _ _ v u Q I rx ry ⟨ch, _, rfl, rfl, by rw [mkS_cps]; exact qq⟩
    · cases e1
  · rename_i t kc
    split at e1
    · rename_i kvs hk
      cases e1
      cases ra
      obtain ⟨rfl, hh⟩ := rb
      obtain ⟨es, n, hl, lit, low, hp⟩ := rh.cok.dic kc kvs hh hk
      have D : KDict X.K X.w (c.con kc) es n := ⟨hl, by rw [hw]; exact lit, low⟩
      obtain ⟨n1, n2⟩ := con_ns hl hp t
      have hn : ∃ r, PySem.W.nsIn X.K (c.con kc) (mkS t) = some r ∧ r.isSome = (conA kvs t).isSome := by
        cases ec : conA kvs t with
        | none => exact ⟨none, n2 ec, rfl⟩
        | some v0 => obtain ⟨u0, x0, h, _⟩ := n1 v0 ec; exact ⟨_, h, rfl⟩
      obtain ⟨r, hr, hs⟩ := hn
      rcases h1 with ⟨rfl, rfl⟩ | ⟨rfl, rfl⟩
      · exact op_in_kd D pins s σ H _ _ v u Q I rx ry ⟨_, r, rfl, rfl, hr, by rw [hs]; exact qq⟩
      · exact op_notIn_kd D pins s σ H _ _ v u Q I rx ry ⟨_, r, rfl, rfl, hr, by rw [hs]; exact qq⟩
    · cases e1
  · split at e1
    · rename_i kvs hd
      obtain ⟨key, hk, e3⟩ := Option.map_eq_some_iff.mp e1
      obtain ⟨n, a', vs, rfl, rfl, ha, hn, rk, hH⟩ := dicOf_ok rh hd rb
      have hy := keyOf_ok hk ra
      subst hy
      have hs : (valV vs (kk key)).isSome = k := by
        rw [← e3]
        cases ec : valA kvs key with
        | none => rw [(valA_ok key rk).2 ec]; rfl
        | some v0 => obtain ⟨x0, h, _⟩ := (valA_ok key rk).1 v0 ec; rw [h]; rfl
      cases ry
      rcases h1 with ⟨rfl, rfl⟩ | ⟨rfl, rfl⟩
      · exact d_in hu1 I (DGet.k (k := kk key) hH) rx fun s' I' => ⟨.bl _, H, I', rfl, by rw [hs]; exact qq⟩
      · exact d_notIn hu1 I (DGet.k (k := kk key) hH) rx fun s' I' => ⟨.bl _, H, I', rfl, by rw [hs]; exact qq⟩
    · split at e1
      · rename_i xs hx
        obtain ⟨a', vs, rfl, s1, rv⟩ := rdL_ok rh hx rb
        split at e1
        · rename_i hf
          rw [Bool.and_eq_true] at hf
          cases e1
          rcases h1 with ⟨rfl, rfl⟩ | ⟨rfl, rfl⟩
          · exact op_in_seq pins s σ H _ _ v u Q I rx ry ⟨a', vs, rfl, .inl s1, flat_ok ra hf.1, all_flat rv hf.2, by rw [any_eqF rv ra hf.2 hf.1]; exact qq⟩
          · exact op_notIn_seq pins s σ H _ _ v u Q I rx ry ⟨a', vs, rfl, .inl s1, flat_ok ra hf.1, all_flat rv hf.2, by rw [any_eqF rv ra hf.2 hf.1]; exact qq⟩
        · split at e1
          · rename_i d ds f1 f2
            split at e1
            · rename_i hf
              rw [Bool.and_eq_true] at hf
              cases e1
              have lst : reify 40 (ah.concat (.lst xs)) (.ref ah.length) = reify 40 (ah.concat (.lst xs)) (.ref ah.length) := rfl
              have hall : ∀ (ys : List AV) (es : List D) (us : List V), mapO (reify 39 ah) ys = some es → RVs c ι ys us → DpAll X.K H us (D.pys es) ∧ PyData.depthAll (D.pys es) ≤ 39 := by
                intro ys
                induction ys with
                | nil => intro es us e r; cases r; rw [mapO_nil e]; exact ⟨.nil, by simp [D.pys, PyData.depthAll]⟩
                | cons y ys ih =>
                  intro es us e r
                  obtain ⟨z, zs, q1, q2, rfl⟩ := mapO_cons e
                  cases r with
                  | cons r1 r2 =>
                    obtain ⟨i1, i2⟩ := ih zs _ q2 r2
                    refine ⟨.cons (reify_dp rh 39 _ _ _ q1 r1) i1, ?_⟩
                    simp only [D.pys, PyData.depthAll]
                    exact Nat.max_le.mpr ⟨reify_depth 39 ah y z q1, i2⟩
              obtain ⟨g1, g2⟩ := hall xs ds vs f2 rv
              have hdp : Dp X.K H (.ref a') (.list (D.pys ds)) := .lst s1 g1
              have hsh : SeqAt.shaped (.list (D.pys ds)) = true := by
                unfold SeqAt.shaped
                rw [Bool.and_eq_true]
                refine ⟨by simp only [PyData.canLay0]; exact pys_lay ds hf.2, decide_eq_true ?_⟩
                simp only [PyData.depth]
                exact Nat.le_trans (Nat.succ_le_succ g2) (by decide)
              rcases h1 with ⟨rfl, rfl⟩ | ⟨rfl, rfl⟩
              · exact op_inD hu pins s σ H _ _ v u Q I rx ry ⟨_, _, reify_dp rh 40 _ _ _ f1 ra, hdp, reify_shaped f1 (by decide) hf.1, hsh, by rw [pys_any]; exact qq⟩
              · exact op_notInD hu pins s σ H _ _ v u Q I rx ry ⟨_, _, reify_dp rh 40 _ _ _ f1 ra, hdp, reify_shaped f1 (by decide) hf.1, hsh, by rw [pys_any]; exact qq⟩
            · cases e1
          · cases e1
      · split at e1
        · rename_i xs hx
          obtain ⟨a', vs, rfl, s1, rv⟩ := rdT_ok rh hx rb
          split at e1
          · rename_i hf
            rw [Bool.and_eq_true] at hf
            cases e1
            rcases h1 with ⟨rfl, rfl⟩ | ⟨rfl, rfl⟩
            · exact op_in_seq pins s σ H _ _ v u Q I rx ry ⟨a', vs, rfl, .inr s1, flat_ok ra hf.1, all_flat rv hf.2, by rw [any_eqF rv ra hf.2 hf.1]; exact qq⟩
            · exact op_notIn_seq pins s σ H _ _ v u Q I rx ry ⟨a', vs, rfl, .inr s1, flat_ok ra hf.1, all_flat rv hf.2, by rw [any_eqF rv ra hf.2 hf.1]; exact qq⟩
          · cases e1
        · cases e1
theorem do_in (hu : X.A.units + 65 < cLine) (hw : X.w.params = c.P) : DOp X c (compareOp .In) opIn := in_any (f := id) hu hw (.inl ⟨rfl, rfl⟩)
theorem do_notIn (hu : X.A.units + 65 < cLine) (hw : X.w.params = c.P) : DOp X c (compareOp .NotIn) opNotIn := in_any (f := not) hu hw (.inr ⟨rfl, rfl⟩)
end
end Det

/-! Det9: stores, built-ins, methods. -/
namespace Det
open PySem PySem.Spec PyProof.Rows L2

/-! ### o[i] = v -/
def opSet (o i v : AV) (h : Hh) : Option Hh := match o with
  | .ref n => match h[n]? with
    | some (.lst xs) => match i with
      | .int k => match L2.ixN xs.length k with
        | some j => some (h.set n (.lst (xs.set j v)))
        | none => none
      | _ => none
    | some (.dic kvs) => match keyOf i with
      | some k => if kvs.length < LINE then some (h.set n (.dic (putA kvs k v))) else none
      | none => none
    | _ => none
  | _ => none
section
variable {X : Cx} {c : Ct} {W : WX} {ι : List Addr}
theorem Paired.set {α β : Type} {G : α → β → Prop} {xs : List α} {ys : List β} {v : α} {w : β} (p : Paired G xs ys) (r : G v w) (j : Nat) : Paired G (xs.set j v) (ys.set j w) := by
  induction p generalizing j with
  | nil => exact .nil
  | cons q t ih => cases j with
    | zero => exact .cons r t
    | succ j => exact .cons q (ih j)
theorem putA_ok {kvs : List (AKey × AV)} {vs : List (Key × V)} {k : AKey} {v : AV} {x : V} (p : RKV c ι kvs vs) (r : RV c ι v x) : RKV c ι (putA kvs k v) (putK vs (kk k) x) := by
  have dec : ∀ {a : AKey × AV} {b : Key × V}, b.1 = kk a.1 → decide (b.1 = kk k) = decide (a.1 = k) := fun {a b} e => by
    by_cases h : a.1 = k
    · rw [decide_eq_true h, decide_eq_true (by rw [e, h])]
    · rw [decide_eq_false h, decide_eq_false fun z => h (kk_inj (e.symm.trans z))]
  have hany : ∀ {kvs : List (AKey × AV)} {vs : List (Key × V)}, RKV c ι kvs vs → (vs.any fun kv => decide (kv.1 = kk k)) = kvs.any fun q => decide (q.1 = k) := by
    intro kvs vs p
    induction p with
    | nil => rfl
    | cons q t ih => rw [List.any_cons, List.any_cons, ih, dec q.1]
  have hmap : ∀ {kvs : List (AKey × AV)} {vs : List (Key × V)}, RKV c ι kvs vs → RKV c ι (kvs.map fun p => if p.1 = k then (p.1, v) else p) (vs.map fun kv => if kv.1 = kk k then (kv.1, x) else kv) := by
    intro kvs vs p
    induction p with
    | nil => exact .nil
    | @cons a b as bs q t ih =>
      rw [List.map_cons, List.map_cons]
      refine .cons ?_ ih
      by_cases h : a.1 = k
      · rw [if_pos h, if_pos (by rw [q.1, h])]; exact ⟨q.1, r⟩
      · rw [if_neg h, if_neg fun z => h (kk_inj (q.1.symm.trans z))]; exact q
  unfold putA putK
  rw [hany p]
  split
  · exact hmap p
  · exact Paired.app p (.cons ⟨rfl, r⟩ .nil)
def rSetA (K : PySem.W.Frag) (c : Ct) : TSet := fun o i v H Q => ∃ ι ao ai av ah ah', RelH K c ι ah H ∧ RV c ι ao o ∧ RV c ι ai i ∧ RV c ι av v ∧ opSet ao ai av ah = some ah' ∧ ∀ ι' H', Ext H ι H' ι' → RelH K c ι' ah' H' → Q H'
theorem set_all (hu : X.A.units + 64 < cLine) : PSet X (rSetA X.K c) := by
  intro pins s σ H o i v ov iv u Q I ro ri rv h
  obtain ⟨ι, ao, ai, av, ah, ah', rh, ra, rb, rc, e, q⟩ := h
  unfold opSet at e
  split at e
  · rename_i n
    split at e
    · rename_i xs hn
      split at e
      · rename_i k
        split at e
        · rename_i j hj
          cases e; cases rb
          obtain ⟨a, rfl, ha, vs, rvs, hH⟩ := rh.at hn ra
          refine set_list pins s σ H _ _ v ov iv u Q I ro ri rv ⟨a, vs, k, j, rfl, rfl, hH, by rw [← Paired.length rvs]; exact hj, ?_⟩
          exact q ι _ (Ext.set ha) (rh.set hn rfl rfl ha ⟨_, Paired.set rvs rc j, upd_same⟩)
        · cases e
      · cases e
    · rename_i kvs hn
      split at e
      · rename_i k hk
        split at e
        · rename_i hl
          cases e
          obtain ⟨a, rfl, ha, vs, rvs, hH⟩ := rh.at hn ra
          have hy := keyOf_ok hk rb
          subst hy
          cases ro
          refine d_setItem (Nat.lt_of_le_of_lt (Nat.add_le_add_left (by decide) _) hu) I (DPut.k (v := v) hH (by rw [← Paired.length rvs, line_eq]; exact hl)) ri rv fun s' I' => ⟨_, I', ?_⟩
          exact q ι _ (Ext.set ha) (rh.set hn rfl rfl ha ⟨_, putA_ok rvs rc, upd_same⟩)
        · cases e
      · cases e
    · cases e
  · cases e
/-- the target o[i] -/
def mGsub (mo mi : Ev) : Eg := fun it sl h => match it with
  | [a] => match mo sl h with
    | .ok o h1 => match mi sl h1 with
      | .ok i h2 => (opSet o i a h2).map fun h3 => (sl, h3)
      | _ => none
    | _ => none
  | _ => none
theorem dg_sub {o i : Expr} {mo mi : Ev} {pos : Pos} {vs : List Nat} (hu : X.A.units + 64 < cLine) (ho : DE X c W o mo) (hi : DE X c W i mi)
    (ha : ∀ v, assign (.Subscript o i pos) X.env v = (do
      let ov ← holding [v] (eval o X.env)
      let iv ← holding [v, ov] (eval i X.env)
      standAt pos
      holding [v, ov, iv] (setItem ov iv v)
      release [v, ov, iv] []) := by intro _; rfl) : DG X c vs (.Subscript o i pos) (mGsub mo mi) :=
  pg_imp (pg_sub ho hi (set_all (c := c) hu) ha) fun v σ H Q ⟨ι, sl, ah, it, sl', ah', rh, S, y, e, q⟩ => by
    unfold mGsub at e
    split at e
    · rename_i a
      split at e
      · rename_i ov h1 e1
        split at e
        · rename_i iv h2 e2
          obtain ⟨h3, e3, e4⟩ := Option.map_eq_some_iff.mp e
          cases e4
          refine ⟨ι, sl, ah, rh, S, ?_⟩
          rw [e1]
          refine fun ι1 H1 ox x1 r1 ro => ⟨ι1, sl, h1, r1, S.ext x1, ?_⟩
          rw [e2]
          refine fun ι2 H2 ix x2 r2 ri => ⟨ι2, ov, iv, a, h2, _, r2, ro.ext x2, ri, (RV.ext y x1).ext x2, e3, fun ι3 H3 x3 r3 => ?_⟩
          have x12 := x1.trans r1 x2
          exact q ι3 H3 σ (x12.trans r2 x3) r3 ((S.ext x12).ext x3) rfl
        · cases e
      · cases e
    · cases e
/-! ### name op= e -/
def DIp (X : Cx) (c : Ct) (op : Operator) (f : Op2) : Prop := PIp X op (rD X.K c f)
def mAug (i : Nat) (f : Op2) (m : Ev) : Es := fun sl h => match sl[i]? with
  | some (some x) => (m sl h).bindS sl fun y h1 => match f x y h1 with
    | some (z, h2) => .nx (sl.set i (some z)) h2
    | none => .no
  | _ => .no
theorem ds_aug {i : Nat} {x : Str} {e : Expr} {m : Ev} {op : Operator} {f : Op2} {pos pos' : Pos} (hN : X.N.Nodup) (hi : X.N[i]? = some x) (hx : Loc X.env.scope x) (he : DE X c W e m) (ho : DIp X c op f) (hf : X.fn x = true ∨ X.env.scope.names.lookup x = some .local := by first | exact .inl rfl | exact .inr rfl | assumption) :
    DS X c W (.AugAssign (.Name x pos') op e pos) (mAug i f m) :=
  ps_imp (ps_aug hN hi hx he ho hf) fun D σ H ⟨ι, sl, ah, rh, S, p⟩ => by
    unfold mAug at p
    split at p
    · rename_i v ev
      obtain ⟨x, hx, rv⟩ := S.get ev
      refine ⟨x, hx, ι, sl, ah, rh, S, PostS.step S p fun y H1 ι1 b ah1 e1 r1 rb S1 p1 => ?_⟩
      cases e : f v b ah1 with
      | none => rw [e] at p1; exact p1.elim
      | some z =>
        obtain ⟨z, h2⟩ := z
        rw [e] at p1
        exact ⟨ι1, v, b, ah1, z, h2, r1, rv.ext e1, rb, e, fun ι' H' w x' r' rz => p1 ι' H' _ x' r' ((S1.ext x').set rz i)⟩
    · exact p.elim
def opIAdd : Op2 := fun x y h => match x, y with
  | .int i, .int j => some (.int (i + j), h)
  | .str s, .str t => if s.length + t.length ≤ LINE then some (.str (s ++ t), h) else none
  | .ref n, .ref k => match h[n]?, h[k]? with
    | some (.lst xs), some (.lst ys) => if xs.length + ys.length ≤ LINE then some (.ref n, h.set n (.lst (xs ++ ys))) else none
    | _, _ => none
  | _, _ => none
theorem di_add : DIp X c .Add opIAdd := fun pins s σ H x y v u Q I rx ry ⟨ι, a, b, ah, w, ah', rh, ra, rb, e, q⟩ => by
  unfold opIAdd at e
  split at e
  · cases e; cases ra; cases rb
    exact iop_add pins s σ H _ _ v u Q I rx ry ⟨_, _, rfl, rfl, q ι H _ (Ext.refl _ _) rh rfl⟩
  · split at e
    · rename_i hl
      cases e; cases ra; cases rb
      exact iop_add_str pins s σ H _ _ v u Q I rx ry ⟨_, _, rfl, rfl, by rw [mkS_len, mkS_len]; exact le_of_line hl, by rw [mkS_app]; exact q ι H _ (Ext.refl _ _) rh rfl⟩
    · cases e
  · split at e
    · rename_i n k xs ys h1 h2
      split at e
      · rename_i hl
        cases e
        obtain ⟨a1, rfl, ha1, vs, rv1, hH1⟩ := rh.at h1 ra
        obtain ⟨a2, rfl, ha2, ws, rv2, hH2⟩ := rh.at h2 rb
        refine iop_ext pins s σ H _ _ v u Q I rx ry ⟨a1, a2, vs, ws, rfl, rfl, hH1, hH2, by rw [← Paired.length rv1, ← Paired.length rv2]; exact le_of_line hl, ?_⟩
        exact q ι _ _ (Ext.set ha1) (rh.set h1 rfl rfl ha1 ⟨_, Paired.app rv1 rv2, upd_same⟩) ⟨a1, ha1, rfl⟩
      · cases e
    · cases e
  · cases e
theorem di_sub : DIp X c .Sub opSub := fun pins s σ H x y v u Q I rx ry ⟨ι, a, b, ah, w, ah', rh, ra, rb, e, q⟩ => by
  unfold opSub at e
  split at e
  · cases e; cases ra; cases rb
    exact iop_sub pins s σ H _ _ v u Q I rx ry ⟨_, _, rfl, rfl, q ι H _ (Ext.refl _ _) rh rfl⟩
  · cases e

/-! ### built-ins by values -/
abbrev OpN := List AV → Hh → Option (AV × Hh)
def rC (K : PySem.W.Frag) (c : Ct) (op : OpN) : List V → Hp → VK → Prop := fun vs H Q => ∃ ι as ah v ah', RelH K c ι ah H ∧ RVs c ι as vs ∧ op as ah = some (v, ah') ∧ ∀ ι' H' z, Ext H ι H' ι' → RelH K c ι' ah' H' → RV c ι' v z → Q z H'
def DCl (X : Cx) (c : Ct) (f : Value) (op : OpN) : Prop := CallR X f (rC X.K c op)
def mB1 (op : OpN) (ma : Ea) : Ev := fun sl h => (ma sl h).bind fun vs h1 => R.of (op vs h1)
theorem b1_imp {K : PySem.W.Frag} {op : OpN} {ma : Ea} {σ : L2.St} {H : Hp} {Q : VK} (h : tD K c W (mB1 op ma) σ H Q) : tCB (rC K c op) (tDa K c W ma) σ H Q := by
  obtain ⟨ι, sl, ah, rh, S, p⟩ := h
  refine ⟨ι, sl, ah, rh, S, Post.step p fun vs H1 ι1 as ah1 e1 r1 ra p1 => ?_⟩
  cases e : op as ah1 with
  | none => rw [e] at p1; exact p1.elim
  | some r =>
    obtain ⟨v, ah2⟩ := r
    rw [e] at p1
    exact ⟨ι1, as, ah1, v, ah2, r1, ra, e, fun ι' H' z x' r' rz => p1 ι' H' z x' r' rz⟩
theorem de_callB {x : Str} {p pos : Pos} {e : Expr} {es : List Expr} {ma : Ea} {id : String} {op : OpN} (hc : DCl X c (.builtin id) op) (hg : Gl X x) (hm : X.mg x = none) (hv : bootBuiltins x = some (.builtin id)) (ha : DA X c W (e :: es) ma) (hn : x ≠ "__name__" := by decide) (hdb : (x == ("__debug__" : Str)) = false := by decide)
    (he : starEach (e :: es) X.env = (false, eval e X.env) :: starEach es X.env := by rfl) (hpl : (backTo pos (starEach es X.env)).any (·.1) = false := by rfl) : DE X c W (.Call (.Name x p) (e :: es) [] pos) (mB1 op ma) :=
  pe_imp (pe_callB hc hg hm hv ha hn hdb he hpl) fun _ _ _ h => b1_imp h
theorem de_callTy {x : Str} {p pos : Pos} {e : Expr} {es : List Expr} {ma : Ea} {T : String} {op : OpN} (hc : DCl X c (.type T) op) (hg : Gl X x) (hm : X.mg x = none) (hv : bootBuiltins x = some (.type T)) (ha : DA X c W (e :: es) ma) (hn : x ≠ "__name__" := by decide) (hdb : (x == ("__debug__" : Str)) = false := by decide)
    (he : starEach (e :: es) X.env = (false, eval e X.env) :: starEach es X.env := by rfl) (hpl : (backTo pos (starEach es X.env)).any (·.1) = false := by rfl) : DE X c W (.Call (.Name x p) (e :: es) [] pos) (mB1 op ma) :=
  pe_imp (pe_callTy hc hg hm hv ha hn hdb he hpl) fun _ _ _ h => b1_imp h
theorem dcl {f : Value} {op : OpN} (h : ∀ (pins : List (Addr × Obj)) (s : Shared) (σ : L2.St) (H : Hp) (xs : List V) (us : List Value) (Q : VK) ι as ah w ah', Inv X pins σ H s → Vals xs us → RelH X.K c ι ah H → RVs c ι as xs → op as ah = some (w, ah') →
    (∀ ι' H' z, Ext H ι H' ι' → RelH X.K c ι' ah' H' → RV c ι' w z → Q z H') → wpAny (model X.prog X.w) X.A (call f us) (EP X pins σ Q) X.xe s) : DCl X c f op :=
  fun pins s σ H xs us Q I r ⟨ι, as, ah, w, ah', rh, ra, e, q⟩ => h pins s σ H xs us Q ι as ah w ah' I r rh ra e q
theorem rvs1 {a : AV} {xs : List V} (r : RVs c ι [a] xs) : ∃ x, xs = [x] ∧ RV c ι a x := by
  cases r with
  | cons r t => cases t; exact ⟨_, rfl, r⟩
theorem rvs2 {a b : AV} {xs : List V} (r : RVs c ι [a, b] xs) : ∃ x y, xs = [x, y] ∧ RV c ι a x ∧ RV c ι b y := by
  cases r with
  | cons r t => cases t with
    | cons r2 t2 => cases t2; exact ⟨_, _, rfl, r, r2⟩
def bLen : OpN := fun as h => match as with
  | [.str s] => if s.length ≤ LINE then some (.int s.length, h) else none
  | [x] => match rdL h x with
    | some xs => some (.int xs.length, h)
    | none => match rdT h x with
      | some xs => some (.int xs.length, h)
      | none => match dicOf h x with
        | some kvs => some (.int kvs.length, h)
        | none => none
  | _ => none
theorem dl_len : DCl X c (.builtin "len") bLen := dcl fun pins s σ H xs us Q ι as ah w ah' I r rh ra e q => by
  unfold bLen at e
  split at e
  · split at e
    · rename_i hl
      cases e
      obtain ⟨x, rfl, rx⟩ := rvs1 ra
      cases rx
      exact call_len_str pins s σ H _ us Q I r ⟨_, rfl, by rw [mkS_len]; exact le_of_line hl, by rw [mkS_len]; exact q ι H _ (Ext.refl _ _) rh rfl⟩
    · cases e
  · obtain ⟨x, rfl, rx⟩ := rvs1 ra
    split at e
    · rename_i ys hy
      cases e
      obtain ⟨a, vs, rfl, s1, rv⟩ := rdL_ok rh hy rx
      exact call_len_seq pins s σ H _ us Q I r ⟨a, vs, rfl, .inl s1, by rw [← Paired.length rv]; exact q ι H _ (Ext.refl _ _) rh rfl⟩
    · split at e
      · rename_i ys hy
        cases e
        obtain ⟨a, vs, rfl, s1, rv⟩ := rdT_ok rh hy rx
        exact call_len_seq pins s σ H _ us Q I r ⟨a, vs, rfl, .inr s1, by rw [← Paired.length rv]; exact q ι H _ (Ext.refl _ _) rh rfl⟩
      · split at e
        · rename_i kvs hd
          cases e
          obtain ⟨n, a, vs, rfl, rfl, ha, hn, rk, hH⟩ := dicOf_ok rh hd rx
          obtain ⟨u, rfl, ru⟩ := vals1 r
          cases ru
          exact d_len I (.inl hH) fun t s' I' => ⟨.int _, H, I', ⟨t, rfl⟩, by rw [← Paired.length rk]; exact q ι H _ (Ext.refl _ _) rh rfl⟩
        · cases e
  · cases e
def bInt : OpN := fun as h => match as with
  | [.int i] => some (.int i, h)
  | [.bl k] => some (.int (if k then 1 else 0), h)
  | _ => none
theorem dl_int : DCl X c (.type "int") bInt := dcl fun pins s σ H xs us Q ι as ah w ah' I r rh ra e q => by
  unfold bInt at e
  split at e
  · cases e
    obtain ⟨x, rfl, rx⟩ := rvs1 ra
    cases rx
    exact call_int1 pins s σ H _ us Q I r (.inl ⟨_, rfl, q ι H _ (Ext.refl _ _) rh rfl⟩)
  · cases e
    obtain ⟨x, rfl, rx⟩ := rvs1 ra
    cases rx
    exact call_int1 pins s σ H _ us Q I r (.inr ⟨_, rfl, q ι H _ (Ext.refl _ _) rh rfl⟩)
  · cases e
def bBool : OpN := fun as h => match as with
  | [.int i] => some (.bl (i != 0), h)
  | [.bl k] => some (.bl k, h)
  | _ => none
theorem dl_bool : DCl X c (.type "bool") bBool := dcl fun pins s σ H xs us Q ι as ah w ah' I r rh ra e q => by
  unfold bBool at e
  split at e
  · cases e
    obtain ⟨x, rfl, rx⟩ := rvs1 ra
    cases rx
    exact call_bool1 pins s σ H _ us Q I r (.inl ⟨_, rfl, q ι H _ (Ext.refl _ _) rh rfl⟩)
  · cases e
    obtain ⟨x, rfl, rx⟩ := rvs1 ra
    cases rx
    exact call_bool1 pins s σ H _ us Q I r (.inr ⟨_, rfl, q ι H _ (Ext.refl _ _) rh rfl⟩)
  · cases e
def bAbs : OpN := fun as h => match as with
  | [.int i] => some (.int (if i < 0 then -i else i), h)
  | _ => none
theorem dl_abs : DCl X c (.builtin "abs") bAbs := dcl fun pins s σ H xs us Q ι as ah w ah' I r rh ra e q => by
  unfold bAbs at e
  split at e
  · cases e
    obtain ⟨x, rfl, rx⟩ := rvs1 ra
    cases rx
    exact call_abs pins s σ H _ us Q I r ⟨_, rfl, q ι H _ (Ext.refl _ _) rh rfl⟩
  · cases e
def intsOf : List AV → Option (List Int)
  | [] => some []
  | .int i :: r => (intsOf r).map fun l => i :: l
  | _ :: _ => none
theorem intsOf_ok : ∀ {xs : List AV} {vs : List V} {ns : List Int}, intsOf xs = some ns → RVs c ι xs vs → vs = ns.map V.int
  | [], _, _, e, .nil => by cases e; rfl
  | .int i :: r, _, ns, e, .cons q t => by
    obtain ⟨l, e1, e2⟩ := Option.map_eq_some_iff.mp e
    subst e2
    cases q
    rw [intsOf_ok e1 t]; rfl
  | .non :: _, _, _, e, _ => by cases e
  | .bl _ :: _, _, _, e, _ => by cases e
  | .str _ :: _, _, _, e, _ => by cases e
  | .ref _ :: _, _, _, e, _ => by cases e
  | .con _ :: _, _, _, e, _ => by cases e
  | .scr _ :: _, _, _, e, _ => by cases e
def maxL : List Int → Int
  | [] => 0
  | [x] => x
  | x :: r => if maxL r > x then maxL r else x
def minL : List Int → Int
  | [] => 0
  | [x] => x
  | x :: r => if minL r < x then minL r else x
theorem maxL_ok : ∀ (ns : List Int) (m : Int), m ∈ ns → (∀ y, y ∈ ns → y ≤ m) → maxL ns = m
  | [], _, h, _ => by cases h
  | [x], m, h, _ => by simp at h; exact h.symm
  | x :: y :: r, m, h, hm => by
    have key : ∀ l : List Int, l ≠ [] → maxL l ∈ l ∧ ∀ z ∈ l, z ≤ maxL l := by
      intro l
      induction l with
      | nil => intro h; exact absurd rfl h
      | cons a l ih =>
        intro _
        cases l with
        | nil => simp [maxL]
        | cons b l =>
          obtain ⟨i1, i2⟩ := ih (by simp)
          simp only [maxL]
          split
          · rename_i hgt
            refine ⟨List.mem_cons_of_mem _ i1, fun z hz => ?_⟩
            rcases List.mem_cons.mp hz with rfl | hz
            · exact Int.le_of_lt hgt
            · exact i2 z hz
          · rename_i hgt
            refine ⟨List.mem_cons_self, fun z hz => ?_⟩
            rcases List.mem_cons.mp hz with rfl | hz
            · exact Int.le_refl _
            · exact Int.le_trans (i2 z hz) (Int.not_lt.mp hgt)
    obtain ⟨k1, k2⟩ := key (x :: y :: r) (by simp)
    exact Int.le_antisymm (hm _ k1) (k2 _ h)
theorem minL_ok : ∀ (ns : List Int) (m : Int), m ∈ ns → (∀ y, y ∈ ns → m ≤ y) → minL ns = m
  | [], _, h, _ => by cases h
  | [x], m, h, _ => by simp at h; exact h.symm
  | x :: y :: r, m, h, hm => by
    have key : ∀ l : List Int, l ≠ [] → minL l ∈ l ∧ ∀ z ∈ l, minL l ≤ z := by
      intro l
      induction l with
      | nil => intro h; exact absurd rfl h
      | cons a l ih =>
        intro _
        cases l with
        | nil => simp [minL]
        | cons b l =>
          obtain ⟨i1, i2⟩ := ih (by simp)
          simp only [minL]
          split
          · rename_i hgt
            refine ⟨List.mem_cons_of_mem _ i1, fun z hz => ?_⟩
            rcases List.mem_cons.mp hz with rfl | hz
            · exact Int.le_of_lt hgt
            · exact i2 z hz
          · rename_i hgt
            refine ⟨List.mem_cons_self, fun z hz => ?_⟩
            rcases List.mem_cons.mp hz with rfl | hz
            · exact Int.le_refl _
            · exact Int.le_trans (Int.not_lt.mp hgt) (i2 z hz)
    obtain ⟨k1, k2⟩ := key (x :: y :: r) (by simp)
    exact Int.le_antisymm (k2 _ h) (hm _ k1)
def bMax : OpN := fun as h => match as with
  | [.int i, .int j] => some (.int (if j > i then j else i), h)
  | [x] => match (rdL h x).bind intsOf with
    | some ns => if ns = [] then none else some (.int (maxL ns), h)
    | none => none
  | _ => none
def bMin : OpN := fun as h => match as with
  | [.int i, .int j] => some (.int (if j < i then j else i), h)
  | [x] => match (rdL h x).bind intsOf with
    | some ns => if ns = [] then none else some (.int (minL ns), h)
    | none => none
  | _ => none
def bSum : OpN := fun as h => match as with
  | [x] => match (rdL h x).bind intsOf with
    | some ns => some (.int ns.sum, h)
    | none => none
  | _ => none
theorem len_pos {ns : List Int} (h : ¬ ns = []) : 0 < ns.length := by cases ns with
  | nil => exact absurd rfl h
  | cons x r => simp
theorem rd_ints {K : PySem.W.Frag} {ah : Hh} {H : Hp} {x : AV} {v : V} {ns : List Int} (rh : RelH K c ι ah H) (e : (rdL ah x).bind intsOf = some ns) (r : RV c ι x v) : ∃ a, v = .ref a ∧ SqL K H a (ns.map V.int) := by
  obtain ⟨xs, e1, e2⟩ := Option.bind_eq_some_iff.mp e
  obtain ⟨a, vs, rfl, s, rv⟩ := rdL_ok rh e1 r
  rw [intsOf_ok e2 rv] at s
  exact ⟨a, rfl, s⟩
theorem dl_max (hc : X.calm = true) : DCl X c (.builtin "max") bMax := dcl fun pins s σ H xs us Q ι as ah w ah' I r rh ra e q => by
  unfold bMax at e
  split at e
  · cases e
    obtain ⟨x, y, rfl, rx, ry⟩ := rvs2 ra
    cases rx; cases ry
    exact call_max2 hc pins s σ H _ us Q I r ⟨_, _, rfl, q ι H _ (Ext.refl _ _) rh rfl⟩
  · obtain ⟨x, rfl, rx⟩ := rvs1 ra
    split at e
    · rename_i ns hn
      split at e
      · cases e
      · rename_i hne
        cases e
        obtain ⟨a, rfl, s1⟩ := rd_ints rh hn rx
        exact cr_max hc pins s σ H _ us Q I r ⟨a, ns, rfl, s1, len_pos hne, fun m h1 h2 => by rw [maxL_ok ns m h1 h2] at q; exact q ι H _ (Ext.refl _ _) rh rfl⟩
    · cases e
  · cases e
theorem dl_min (hc : X.calm = true) : DCl X c (.builtin "min") bMin := dcl fun pins s σ H xs us Q ι as ah w ah' I r rh ra e q => by
  unfold bMin at e
  split at e
  · cases e
    obtain ⟨x, y, rfl, rx, ry⟩ := rvs2 ra
    cases rx; cases ry
    exact call_min2 hc pins s σ H _ us Q I r ⟨_, _, rfl, q ι H _ (Ext.refl _ _) rh rfl⟩
  · obtain ⟨x, rfl, rx⟩ := rvs1 ra
    split at e
    · rename_i ns hn
      split at e
      · cases e
      · rename_i hne
        cases e
        obtain ⟨a, rfl, s1⟩ := rd_ints rh hn rx
        exact cr_min hc pins s σ H _ us Q I r ⟨a, ns, rfl, s1, len_pos hne, fun m h1 h2 => by rw [minL_ok ns m h1 h2] at q; exact q ι H _ (Ext.refl _ _) rh rfl⟩
    · cases e
  · cases e
theorem dl_sum (hc : X.calm = true) : DCl X c (.builtin "sum") bSum := dcl fun pins s σ H xs us Q ι as ah w ah' I r rh ra e q => by
  unfold bSum at e
  split at e
  · obtain ⟨x, rfl, rx⟩ := rvs1 ra
    split at e
    · rename_i ns hn
      cases e
      obtain ⟨a, rfl, s1⟩ := rd_ints rh hn rx
      exact cr_sum hc pins s σ H _ us Q I r ⟨a, ns, rfl, s1, q ι H _ (Ext.refl _ _) rh rfl⟩
    · cases e
  · cases e
def blsOf : List AV → Option (List Bool)
  | [] => some []
  | .bl i :: r => (blsOf r).map fun l => i :: l
  | _ :: _ => none
theorem blsOf_ok : ∀ {xs : List AV} {vs : List V} {ns : List Bool}, blsOf xs = some ns → RVs c ι xs vs → vs = ns.map V.bl
  | [], _, _, e, .nil => by cases e; rfl
  | .bl i :: r, _, ns, e, .cons q t => by
    obtain ⟨l, e1, e2⟩ := Option.map_eq_some_iff.mp e
    subst e2
    cases q
    rw [blsOf_ok e1 t]; rfl
  | .non :: _, _, _, e, _ => by cases e
  | .int _ :: _, _, _, e, _ => by cases e
  | .str _ :: _, _, _, e, _ => by cases e
  | .ref _ :: _, _, _, e, _ => by cases e
  | .con _ :: _, _, _, e, _ => by cases e
  | .scr _ :: _, _, _, e, _ => by cases e
def bAll : OpN := fun as h => match as with
  | [x] => match (rdL h x).bind blsOf with
    | some ns => some (.bl (ns.all id), h)
    | none => none
  | _ => none
def bAny : OpN := fun as h => match as with
  | [x] => match (rdL h x).bind blsOf with
    | some ns => some (.bl (ns.any id), h)
    | none => none
  | _ => none
theorem rd_bls {K : PySem.W.Frag} {ah : Hh} {H : Hp} {x : AV} {v : V} {ns : List Bool} (rh : RelH K c ι ah H) (e : (rdL ah x).bind blsOf = some ns) (r : RV c ι x v) : ∃ a, v = .ref a ∧ SqL K H a (ns.map V.bl) := by
  obtain ⟨xs, e1, e2⟩ := Option.bind_eq_some_iff.mp e
  obtain ⟨a, vs, rfl, s, rv⟩ := rdL_ok rh e1 r
  rw [blsOf_ok e2 rv] at s
  exact ⟨a, rfl, s⟩
theorem dl_all (hc : X.calm = true) : DCl X c (.builtin "all") bAll := dcl fun pins s σ H xs us Q ι as ah w ah' I r rh ra e q => by
  unfold bAll at e
  split at e
  · obtain ⟨x, rfl, rx⟩ := rvs1 ra
    split at e
    · rename_i ns hn
      cases e
      obtain ⟨a, rfl, s1⟩ := rd_bls rh hn rx
      exact cr_all hc pins s σ H _ us Q I r ⟨a, ns, rfl, s1, q ι H _ (Ext.refl _ _) rh rfl⟩
    · cases e
  · cases e
theorem dl_any (hc : X.calm = true) : DCl X c (.builtin "any") bAny := dcl fun pins s σ H xs us Q ι as ah w ah' I r rh ra e q => by
  unfold bAny at e
  split at e
  · obtain ⟨x, rfl, rx⟩ := rvs1 ra
    split at e
    · rename_i ns hn
      cases e
      obtain ⟨a, rfl, s1⟩ := rd_bls rh hn rx
      exact cr_any hc pins s σ H _ us Q I r ⟨a, ns, rfl, s1, q ι H _ (Ext.refl _ _) rh rfl⟩
    · cases e
  · cases e
def bList : OpN := fun as h => match as with
  | [x] => match rdL h x with
    | some xs => some (.ref h.length, h ++ [.lst xs])
    | none => match rdT h x with
      | some xs => some (.ref h.length, h ++ [.lst xs])
      | none => none
  | _ => none
theorem dl_list : DCl X c (.type "list") bList := dcl fun pins s σ H xs us Q ι as ah w ah' I r rh ra e q => by
  unfold bList at e
  split at e
  · obtain ⟨x, rfl, rx⟩ := rvs1 ra
    split at e
    · rename_i ys hy
      cases e
      obtain ⟨a, vs, rfl, s1, rv⟩ := rdL_ok rh hy rx
      exact call_list_of pins s σ H _ us Q I r ⟨a, vs, rfl, .inl s1, lay_lst rh rv q⟩
    · split at e
      · rename_i ys hy
        cases e
        obtain ⟨a, vs, rfl, s1, rv⟩ := rdT_ok rh hy rx
        exact call_list_of pins s σ H _ us Q I r ⟨a, vs, rfl, .inr s1, lay_lst rh rv q⟩
      · cases e
  · cases e
def bTuple : OpN := fun as h => match as with
  | [x] => match rdL h x with
    | some xs => some (.ref h.length, h ++ [.tup xs])
    | none => match rdT h x with
      | some _ => some (x, h)
      | none => none
  | _ => none
theorem dl_tuple : DCl X c (.type "tuple") bTuple := dcl fun pins s σ H xs us Q ι as ah w ah' I r rh ra e q => by
  unfold bTuple at e
  split at e
  · obtain ⟨x, rfl, rx⟩ := rvs1 ra
    split at e
    · rename_i ys hy
      cases e
      obtain ⟨a, vs, rfl, s1, rv⟩ := rdL_ok rh hy rx
      exact call_tuple_of pins s σ H _ us Q I r ⟨a, vs, rfl, .inl ⟨s1, lay_tup rh rv q⟩⟩
    · split at e
      · rename_i ys hy
        cases e
        obtain ⟨a, vs, rfl, s1, rv⟩ := rdT_ok rh hy rx
        exact call_tuple_of pins s σ H _ us Q I r ⟨a, vs, rfl, .inr ⟨s1, q ι H _ (Ext.refl _ _) rh rx⟩⟩
      · cases e
  · cases e

/-! ### methods of built-in types -/
abbrev OpM := AV → List AV → Hh → Option (AV × Hh)
def rM (K : PySem.W.Frag) (c : Ct) (op : OpM) : V → List V → Hp → VK → Prop := fun x vs H Q => ∃ ι a as ah v ah', RelH K c ι ah H ∧ RV c ι a x ∧ RVs c ι as vs ∧ op a as ah = some (v, ah') ∧ ∀ ι' H' z, Ext H ι H' ι' → RelH K c ι' ah' H' → RV c ι' v z → Q z H'
def DMt (X : Cx) (c : Ct) (id : String) (op : OpM) : Prop := MtR X id (rM X.K c op)
def isTy (T : String) (h : Hh) (x : AV) : Bool := match x with
  | .str _ => T == "str"
  | x => (T == "list" && (rdL h x).isSome) || (T == "dict" && (dicOf h x).isSome)
theorem isTy_ok {K : PySem.W.Frag} {T : String} {ah : Hh} {H : Hp} {x : AV} {v : V} (rh : RelH K c ι ah H) (h : isTy T ah x = true) (r : RV c ι x v) : tyV K T v H := by
  unfold isTy at h
  split at h
  · cases r; exact beq_iff_eq.mp h
  · rw [Bool.or_eq_true, Bool.and_eq_true, Bool.and_eq_true, beq_iff_eq, beq_iff_eq] at h
    rcases h with ⟨rfl, h⟩ | ⟨rfl, h⟩
    · obtain ⟨xs, e⟩ := Option.isSome_iff_exists.mp h
      obtain ⟨a, vs, rfl, s, rv⟩ := rdL_ok rh e r
      exact .inl ⟨rfl, vs, s⟩
    · obtain ⟨xs, e⟩ := Option.isSome_iff_exists.mp h
      obtain ⟨n, a, vs, rfl, rfl, ha, hn, rk, hH⟩ := dicOf_ok rh e r
      exact .inr (.inr (.inl ⟨rfl, .inl ⟨vs, hH⟩⟩))
def mMeth (T : String) (op : OpM) (mo : Ev) (ma : Ea) : Ev := fun sl h => (mo sl h).bind fun x h1 => if isTy T h1 x = true then (ma sl h1).bind fun vs h2 => R.of (op x vs h2) else .no
theorem meth_fin {K : PySem.W.Frag} {op : OpM} {a : AV} {as : List AV} {x : V} {vs : List V} {ah : Hh} {σ : L2.St} {H : Hp} {Q : VK} (rh : RelH K c ι ah H) (ra : RV c ι a x) (rs : RVs c ι as vs) (p : Post K c W σ H ι (RV c) (R.of (op a as ah)) Q) : rM K c op x vs H Q := by
  cases e : op a as ah with
  | none => rw [e] at p; exact p.elim
  | some r =>
    obtain ⟨v, ah2⟩ := r
    rw [e] at p
    exact ⟨ι, a, as, ah, v, ah2, rh, ra, rs, e, fun ι' H' z x' r' rz => p ι' H' z x' r' rz⟩
theorem de_meth {o e : Expr} {es : List Expr} {mo : Ev} {ma : Ea} {name : Str} {apos cpos : Pos} {T id : String} {op : OpM} (pa : PlainAttrs T) (slot : Slot T name id) (hty : typeOf (.builtin id) = pure (.type "method_descriptor")) (hm : DMt X c id op) (ho : DE X c W o mo) (ha : DA X c W (e :: es) ma)
    (hbase : attributeBase o name X.env (eval o X.env) = eval o X.env := by rfl)
    (hfew : ((backTo cpos (starEach (e :: es) X.env)).all (fun x => !x.1) && (backToKw cpos (keywordEach [] X.env)).all (fun x => x.1.isSome)
      && decide ((e :: es).length + ([] : List Keyword).length + (if ([] : List Keyword).isEmpty then 0 else 1) < 30)) = true := by rfl)
    (hline : (apos.endLine == cpos.line) = true := by rfl) (hs : starEach (e :: es) X.env = (false, eval e X.env) :: starEach es X.env := by rfl) (hplain : (backTo cpos (starEach es X.env)).any (·.1) = false := by rfl) :
    DE X c W (.Call (.Attribute o name apos) (e :: es) [] cpos) (mMeth T op mo ma) :=
  pe_imp (pe_bm pa slot hty hm ho ha hbase hfew hline hs hplain) fun σ H Q ⟨ι, sl, ah, rh, S, p⟩ => ⟨ι, sl, ah, rh, S, Post.step p fun x H1 ι1 a ah1 e1 r1 ra p1 => by
    split at p1
    · rename_i ht
      exact ⟨isTy_ok r1 ht ra, ι1, sl, ah1, r1, S.ext e1, Post.step p1 fun vs H2 ι2 as ah2 e2 r2 rs p2 => meth_fin r2 (ra.ext e2) rs p2⟩
    · exact p1.elim⟩
theorem de_meth0 {o : Expr} {mo : Ev} {name : Str} {apos cpos : Pos} {T id : String} {op : OpM} (pa : PlainAttrs T) (slot : Slot T name id) (hty : typeOf (.builtin id) = pure (.type "method_descriptor")) (hm : DMt X c id op) (ho : DE X c W o mo)
    (hbase : attributeBase o name X.env (eval o X.env) = eval o X.env := by rfl) (hline : (apos.endLine == cpos.line) = true := by rfl) : DE X c W (.Call (.Attribute o name apos) [] [] cpos) (mMeth T op mo mNil) :=
  pe_imp (pe_bm0 pa slot hty hm ho hbase hline) fun σ H Q ⟨ι, sl, ah, rh, S, p⟩ => ⟨ι, sl, ah, rh, S, Post.step p fun x H1 ι1 a ah1 e1 r1 ra p1 => by
    split at p1
    · rename_i ht
      exact ⟨isTy_ok r1 ht ra, meth_fin r1 ra .nil p1⟩
    · exact p1.elim⟩
theorem dmt {id : String} {op : OpM} (h : ∀ (pins : List (Addr × Obj)) (s : Shared) (σ : L2.St) (H : Hp) (x : V) (xs : List V) (v : Value) (us : List Value) (Q : VK) ι a as ah w ah', Inv X pins σ H s → RelV x v → Vals xs us → RelH X.K c ι ah H → RV c ι a x → RVs c ι as xs → op a as ah = some (w, ah') →
    (∀ ι' H' z, Ext H ι H' ι' → RelH X.K c ι' ah' H' → RV c ι' w z → Q z H') → wpAny (model X.prog X.w) X.A (call (.builtin id) (v :: us)) (EP X pins σ Q) X.xe s) : DMt X c id op :=
  fun pins s σ H x xs v us Q I rx r ⟨ι, a, as, ah, w, ah', rh, ra, rs, e, q⟩ => h pins s σ H x xs v us Q ι a as ah w ah' I rx r rh ra rs e q
/-- a tracked list -/
def lsAt (h : Hh) : AV → Option (Nat × List AV)
  | .ref n => match h[n]? with
    | some (.lst xs) => some (n, xs)
    | _ => none
  | _ => none
theorem lsAt_ok {K : PySem.W.Frag} {ah : Hh} {H : Hp} {x : AV} {v : V} {n : Nat} {xs : List AV} (rh : RelH K c ι ah H) (e : lsAt ah x = some (n, xs)) (r : RV c ι x v) : ∃ a vs, v = .ref a ∧ ι[n]? = some a ∧ ah[n]? = some (.lst xs) ∧ RVs c ι xs vs ∧ H a = some (.lst vs) ∧ x = .ref n := by
  unfold lsAt at e
  split at e
  · split at e
    · rename_i n' _ ys h
      cases e
      obtain ⟨a, rfl, ha, vs, rv, hH⟩ := rh.at h r
      exact ⟨a, vs, rfl, ha, h, rv, hH, rfl⟩
    · cases e
  · cases e
def mAppend : OpM := fun x as h => match lsAt h x, as with
  | some (n, xs), [y] => if xs.length < LINE then some (.non, h.set n (.lst (xs ++ [y]))) else none
  | _, _ => none
theorem dm_append : DMt X c "list.append" mAppend := dmt fun pins s σ H x xs v us Q ι a as ah w ah' I rx r rh ra rs e q => by
  unfold mAppend at e
  split at e
  · rename_i n ys y hl
    split at e
    · rename_i hlt
      cases e
      obtain ⟨a', vs, rfl, ha, hn, rv, hH, rfl⟩ := lsAt_ok rh hl ra
      obtain ⟨z, rfl, rz⟩ := rvs1 rs
      exact mt_append pins s σ H _ _ v us Q I rx r ⟨a', vs, z, rfl, rfl, hH, by rw [← Paired.length rv, line_eq]; exact hlt, q ι _ _ (Ext.set ha) (rh.set hn rfl rfl ha ⟨_, Paired.app rv (.cons rz .nil), upd_same⟩) rfl⟩
    · cases e
  · cases e
def mPop : OpM := fun x as h => match lsAt h x, as with
  | some (n, xs), [] => match xs.getLast? with
    | some y => some (y, h.set n (.lst xs.dropLast))
    | none => none
  | some (n, xs), [.int i] => match L2.ixN xs.length i with
    | some k => match xs[k]? with
      | some y => if -(2 ^ 63) ≤ i ∧ i < 2 ^ 63 then some (y, h.set n (.lst (xs.eraseIdx k))) else none
      | none => none
    | none => none
  | _, _ => none
theorem Paired.dropLast {α β : Type} {G : α → β → Prop} : ∀ {xs : List α} {ys : List β}, Paired G xs ys → Paired G xs.dropLast ys.dropLast
  | _, _, .nil => .nil
  | _, _, .cons _ .nil => .nil
  | _, _, .cons r (.cons q t) => .cons r (Paired.dropLast (.cons q t))
theorem Paired.erase {α β : Type} {G : α → β → Prop} : ∀ {xs : List α} {ys : List β}, Paired G xs ys → ∀ k, Paired G (xs.eraseIdx k) (ys.eraseIdx k)
  | _, _, .nil, _ => .nil
  | _, _, .cons _ t, 0 => t
  | _, _, .cons r t, k + 1 => .cons r (Paired.erase t k)
theorem Paired.rev {α β : Type} {G : α → β → Prop} {xs : List α} {ys : List β} (p : Paired G xs ys) : Paired G xs.reverse ys.reverse := by
  induction p with
  | nil => exact .nil
  | cons r t ih => rw [List.reverse_cons, List.reverse_cons]; exact Paired.app ih (.cons r .nil)
theorem dm_pop : DMt X c "list.pop" mPop := dmt fun pins s σ H x xs v us Q ι a as ah w ah' I rx r rh ra rs e q => by
  unfold mPop at e
  split at e
  · rename_i n ys hl
    split at e
    · rename_i y hy
      cases e
      obtain ⟨a', vs, rfl, ha, hn, rv, hH, rfl⟩ := lsAt_ok rh hl ra
      cases rs
      rw [List.getLast?_eq_getElem?] at hy
      obtain ⟨z, hz, rz⟩ := paired_get rv hy
      exact mt_pop pins s σ H _ _ v us Q I rx r ⟨a', vs, z, rfl, rfl, hH, by rw [← Paired.length rv]; exact hz, q ι _ _ (Ext.set ha) (rh.set hn rfl rfl ha ⟨_, Paired.dropLast rv, upd_same⟩) rz⟩
    · cases e
  · rename_i n ys i hl
    split at e
    · rename_i k hk
      split at e
      · rename_i y hy
        split at e
        · rename_i hb
          cases e
          obtain ⟨a', vs, rfl, ha, hn, rv, hH, rfl⟩ := lsAt_ok rh hl ra
          obtain ⟨zi, rfl, rzi⟩ := rvs1 rs
          cases rzi
          obtain ⟨z, hz, rz⟩ := paired_get rv hy
          exact mt_popAt pins s σ H _ _ v us Q I rx r ⟨a', vs, i, k, z, rfl, rfl, hH, hb.1, hb.2, by rw [← Paired.length rv]; exact (ixN_seq hk).1, hz, q ι _ _ (Ext.set ha) (rh.set hn rfl rfl ha ⟨_, Paired.erase rv k, upd_same⟩) rz⟩
        · cases e
      · cases e
    · cases e
  · cases e
def mExtend : OpM := fun x as h => match lsAt h x, as with
  | some (n, xs), [y] => match lsAt h y with
    | some (_, ys) => if xs.length + ys.length ≤ LINE then some (.non, h.set n (.lst (xs ++ ys))) else none
    | none => none
  | _, _ => none
theorem dm_extend : DMt X c "list.extend" mExtend := dmt fun pins s σ H x xs v us Q ι a as ah w ah' I rx r rh ra rs e q => by
  unfold mExtend at e
  split at e
  · rename_i n ys y hl
    split at e
    · rename_i k zs hl2
      split at e
      · rename_i hlt
        cases e
        obtain ⟨a', vs, rfl, ha, hn, rv, hH, rfl⟩ := lsAt_ok rh hl ra
        obtain ⟨z, rfl, rz⟩ := rvs1 rs
        obtain ⟨a2, ws, rfl, ha2, hn2, rv2, hH2, rfl⟩ := lsAt_ok rh hl2 rz
        exact mt_extend pins s σ H _ _ v us Q I rx r ⟨a', a2, vs, ws, rfl, rfl, hH, hH2, by rw [← Paired.length rv, ← Paired.length rv2]; exact le_of_line hlt, q ι _ _ (Ext.set ha) (rh.set hn rfl rfl ha ⟨_, Paired.app rv rv2, upd_same⟩) rfl⟩
      · cases e
    · cases e
  · cases e
def mReverse : OpM := fun x as h => match lsAt h x, as with
  | some (n, xs), [] => some (.non, h.set n (.lst xs.reverse))
  | _, _ => none
theorem dm_reverse : DMt X c "list.reverse" mReverse := dmt fun pins s σ H x xs v us Q ι a as ah w ah' I rx r rh ra rs e q => by
  unfold mReverse at e
  split at e
  · rename_i n ys hl
    cases e
    obtain ⟨a', vs, rfl, ha, hn, rv, hH, rfl⟩ := lsAt_ok rh hl ra
    cases rs
    exact mt_reverse pins s σ H _ _ v us Q I rx r ⟨a', vs, rfl, rfl, hH, q ι _ _ (Ext.set ha) (rh.set hn rfl rfl ha ⟨_, Paired.rev rv, upd_same⟩) rfl⟩
  · cases e
def mClear : OpM := fun x as h => match lsAt h x, as with
  | some (n, _), [] => some (.non, h.set n (.lst []))
  | _, _ => none
theorem dm_clear : DMt X c "list.clear" mClear := dmt fun pins s σ H x xs v us Q ι a as ah w ah' I rx r rh ra rs e q => by
  unfold mClear at e
  split at e
  · rename_i n ys hl
    cases e
    obtain ⟨a', vs, rfl, ha, hn, rv, hH, rfl⟩ := lsAt_ok rh hl ra
    cases rs
    exact mt_clear pins s σ H _ _ v us Q I rx r ⟨a', vs, rfl, rfl, hH, q ι _ _ (Ext.set ha) (rh.set hn rfl rfl ha ⟨_, .nil, upd_same⟩) rfl⟩
  · cases e
def mInsert : OpM := fun x as h => match lsAt h x, as with
  | some (n, xs), [.int i, y] => if xs.length < LINE ∧ 0 ≤ i ∧ i < 2 ^ 63 then some (.non, h.set n (.lst (xs.take i.toNat ++ [y] ++ xs.drop i.toNat))) else none
  | _, _ => none
theorem Paired.tk {α β : Type} {G : α → β → Prop} : ∀ {xs : List α} {ys : List β}, Paired G xs ys → ∀ k, Paired G (xs.take k) (ys.take k)
  | _, _, .nil, k => by simp; exact .nil
  | _, _, .cons _ _, 0 => .nil
  | _, _, .cons r t, k + 1 => .cons r (Paired.tk t k)
theorem Paired.dp {α β : Type} {G : α → β → Prop} : ∀ {xs : List α} {ys : List β}, Paired G xs ys → ∀ k, Paired G (xs.drop k) (ys.drop k)
  | _, _, .nil, k => by simp; exact .nil
  | _, _, .cons r t, 0 => .cons r t
  | _, _, .cons _ t, k + 1 => Paired.dp t k
theorem dm_insert : DMt X c "list.insert" mInsert := dmt fun pins s σ H x xs v us Q ι a as ah w ah' I rx r rh ra rs e q => by
  unfold mInsert at e
  split at e
  · rename_i n ys i y hl
    split at e
    · rename_i hb
      cases e
      obtain ⟨a', vs, rfl, ha, hn, rv, hH, rfl⟩ := lsAt_ok rh hl ra
      obtain ⟨zi, z, rfl, rzi, rz⟩ := rvs2 rs
      cases rzi
      exact mt_insert pins s σ H _ _ v us Q I rx r ⟨a', vs, i, z, rfl, rfl, hH, by rw [← Paired.length rv, line_eq]; exact hb.1, hb.2.1, hb.2.2, q ι _ _ (Ext.set ha) (rh.set hn rfl rfl ha ⟨_, Paired.app (Paired.app (Paired.tk rv _) (.cons rz .nil)) (Paired.dp rv _), upd_same⟩) rfl⟩
    · cases e
  · cases e
def strsOf : List AV → Option (List (List Nat))
  | [] => some []
  | .str s :: r => (strsOf r).map fun l => s :: l
  | _ :: _ => none
theorem strsOf_ok : ∀ {xs : List AV} {vs : List V} {ns : List (List Nat)}, strsOf xs = some ns → RVs c ι xs vs → vs = (ns.map mkS).map V.str
  | [], _, _, e, .nil => by cases e; rfl
  | .str i :: r, _, ns, e, .cons q t => by
    obtain ⟨l, e1, e2⟩ := Option.map_eq_some_iff.mp e
    subst e2
    cases q
    rw [strsOf_ok e1 t]; rfl
  | .non :: _, _, _, e, _ => by cases e
  | .int _ :: _, _, _, e, _ => by cases e
  | .bl _ :: _, _, _, e, _ => by cases e
  | .ref _ :: _, _, _, e, _ => by cases e
  | .con _ :: _, _, _, e, _ => by cases e
  | .scr _ :: _, _, _, e, _ => by cases e
def joinA (sep : List Nat) : List (List Nat) → List Nat
  | [] => []
  | [x] => x
  | x :: r => x ++ (sep ++ joinA sep r)
def sumLen : List (List Nat) → Nat
  | [] => 0
  | x :: r => x.length + sumLen r
def mJoin : OpM := fun x as h => match x, as with
  | .str sep, [y] => match (rdL h y).bind strsOf with
    | some ss => if sumLen ss + ss.length * sep.length ≤ LINE then some (.str (joinA sep ss), h) else none
    | none => none
  | _, _ => none
theorem joinL_eq (sep : List Nat) : ∀ ss : List (List Nat), TL.joinL sep ss = joinA sep ss
  | [] => rfl
  | [_] => rfl
  | x :: y :: r => by
    have ih := joinL_eq sep (y :: r)
    simp only [TL.joinL, joinA, ih]
theorem join_eq (sep : List Nat) (ss : List (List Nat)) : Txt.join (mkS sep) (ss.map mkS) = mkS (joinA sep ss) := by
  have h1 : Txt.join (mkS sep) (ss.map mkS) = Str.join (mkS sep) (ss.map mkS) := TL.join_eq _ _
  rw [h1]
  apply TL.ext_tl
  rw [TL.tl_join]
  have e1 : TL.tl (mkS sep) = sep := mkS_cps sep
  have e2 : (ss.map mkS).map TL.tl = ss := by
    rw [List.map_map]
    have : (TL.tl ∘ mkS) = id := by funext s; exact mkS_cps s
    rw [this, List.map_id]
  have e3 : TL.tl (mkS (joinA sep ss)) = joinA sep ss := mkS_cps _
  rw [e1, e2, e3]
  exact joinL_eq sep ss
theorem dm_join : DMt X c "str.join" mJoin := dmt fun pins s σ H x xs v us Q ι a as ah w ah' I rx r rh ra rs e q => by
  unfold mJoin at e
  split at e
  · rename_i sep y
    split at e
    · rename_i ss hs
      split at e
      · rename_i hlt
        cases e
        cases ra
        obtain ⟨z, rfl, rz⟩ := rvs1 rs
        obtain ⟨ys, e1, e2⟩ := Option.bind_eq_some_iff.mp hs
        obtain ⟨a', vs, rfl, s1, rv⟩ := rdL_ok rh e1 rz
        rw [strsOf_ok e2 rv] at s1
        refine mt_join pins s σ H _ _ v us Q I rx r ⟨mkS sep, a', ss.map mkS, rfl, rfl, .inl s1, ?_, by rw [join_eq]; exact q ι H _ (Ext.refl _ _) rh rfl⟩
        have e3 : ((ss.map mkS).map (·.length)).sum = sumLen ss := by
          rw [List.map_map]
          clear hlt hs e2 s1 rv q e1
          induction ss with
          | nil => rfl
          | cons x r ih => simp only [List.map_cons, List.sum_cons, sumLen, Function.comp, mkS_len]; exact congrArg _ ih
        rw [e3, List.length_map, mkS_len]
        exact hlt
      · cases e
    · cases e
  · cases e
end
end Det

/-! Det10: isinstance, the law's end. -/
namespace Det
open PySem PySem.Spec PyProof.Rows L2

inductive Ty where | non | bool | int | str | list | tuple | dict
  deriving DecidableEq
def Ty.name : Ty → String
  | .non => "NoneType" | .bool => "bool" | .int => "int" | .str => "str" | .list => "list" | .tuple => "tuple" | .dict => "dict"
def Ty.sub : Ty → Ty → Bool
  | .bool, .int => true
  | a, b => decide (a = b)
theorem sub_kit : ∀ a b : Ty, b ≠ .non → kitB a.name b.name = some (a.sub b) := by
  intro a b hb
  cases b <;> first | exact absurd rfl hb | (cases a <;> decide +kernel)
def tyOf (h : Hh) : AV → Option Ty
  | .non => some .non
  | .bl _ => some .bool
  | .int _ => some .int
  | .str _ => some .str
  | .ref n => match h[n]? with
    | some (.lst _) => some .list
    | some (.rol _) => some .list
    | some (.tup _) => some .tuple
    | some (.dic _) => some .dict
    | _ => none
  | .con k => match k with
    | .empty => some .tuple
    | _ => some .dict
  | .scr _ => some .list
section
variable {X : Cx} {c : Ct} {W : WX} {K : PySem.W.Frag} {ι : List Addr} {ah : Hh} {H : Hp}
theorem tyOf_ok (rh : RelH K c ι ah H) {v : AV} {x : V} {t : Ty} (h : tyOf ah v = some t) (r : RV c ι v x) : TyX K H x (.type t.name) := by
  unfold tyOf at h
  split at h
  · cases h; cases r; exact .base .non
  · cases h; cases r; exact .base (.bl _)
  · cases h; cases r; exact .base (.int _)
  · cases h; cases r; exact .base (.str _)
  · split at h
    · rename_i n _ xs e
      cases h
      obtain ⟨a, rfl, _, vs, _, q⟩ := rh.at e r
      exact .base (.lst q)
    · rename_i n _ xs e
      cases h
      obtain ⟨a, rfl, _, vs, _, q | ⟨o, q⟩⟩ := rh.at e r
      · exact .base (.lst q)
      · exact .base (.frz q)
    · rename_i n _ xs e
      cases h
      obtain ⟨a, rfl, _, vs, _, q | ⟨o, q⟩⟩ := rh.at e r
      · exact .base (.tup q)
      · exact .fTuple q
    · rename_i n _ xs e
      cases h
      obtain ⟨a, rfl, _, vs, _, q⟩ := rh.at e r
      exact .base (.dK q)
    · cases h
  · rename_i k
    obtain ⟨rfl, hk⟩ := r
    have hd : ∀ kvs, k.dic? = some kvs → TyX K H (.ref (c.con k)) (.type "dict") := fun kvs e => by
      obtain ⟨es, n, hl, _⟩ := rh.cok.dic k kvs hk e
      exact .kDict hl rfl
    cases k with
    | empty =>
      cases h
      obtain ⟨vs, _, o, its, n, hl, hc, _⟩ := rh.cok.tup .empty _ hk rfl
      exact .kTuple hl hc
    | closingOf => cases h; exact hd _ rfl
    | letterOf => cases h; exact hd _ rfl
    | nameOf => cases h; exact hd _ rfl
  · cases h
    obtain ⟨rfl, _⟩ := r
    rcases rh.scr with ⟨o, q⟩ | ⟨o, its, n, hl, hc, _⟩
    · exact .base (.frz q)
    · exact .kList hl hc
def mIsi (ts : List Ty) (me : Ev) : Ev := fun sl h => (me sl h).bind fun v h1 => match tyOf h1 v with
  | some t => .ok (.bl (ts.any fun u => t.sub u)) h1
  | none => .no
theorem de_isi {e : Expr} {me : Ev} {T : Str} {n : String} {t : Ty} {p q pos : Pos} (ht : t ≠ .non) (hn : n = t.name) (hg : Gl X "isinstance") (hm : X.mg "isinstance" = none) (he : DE X c W e me) (hT : Gl X T) (hmT : X.mg T = none) (hbT : bootBuiltins T = some (.type n)) (hnn : T ≠ "__name__" := by decide) (hdb : (T == ("__debug__" : Str)) = false := by decide)
    (hs : starEach [e, .Name T q] X.env = (false, eval e X.env) :: starEach [.Name T q] X.env := by rfl) (hs2 : starEach [.Name T q] X.env = (false, eval (.Name T q) X.env) :: starEach [] X.env := by rfl) (hpl : (backTo pos (starEach [.Name T q] X.env)).any (·.1) = false := by rfl) :
    DE X c W (.Call (.Name "isinstance" p) [e, .Name T q] [] pos) (mIsi [t] me) := by
  subst hn
  exact pe_imp (pe_callB call_isi hg hm boot_isinstance (pa_cons he (pa_cons (pe_bltn (v := .ty t.name) hT hmT hbT rfl hnn hdb) pa_nil hs2) hs) (by decide) (by decide) hs hpl) fun σ H Q ⟨ι, sl, ah, rh, S, p⟩ => ⟨ι, sl, ah, rh, S, Post.step p fun x H1 ι1 v ah1 e1 r1 rv p1 => by
    cases et : tyOf ah1 v with
    | none => rw [et] at p1; exact p1.elim
    | some u =>
      rw [et] at p1
      refine ⟨x, .ty t.name, .type u.name, .type t.name, u.sub t, rfl, .ty _, tyOf_ok r1 et rv, kit_ty (sub_kit u t ht), ?_⟩
      have := p1 ι1 H1 (.bl ([t].any fun z => u.sub z)) (Ext.refl _ _) r1 rfl
      simpa using this⟩
theorem any_kit {K : PySem.W.Frag} (u : Ty) : ∀ (ts : List Ty), (∀ t ∈ ts, t ≠ .non) → PySem.W.kitAny K (.type u.name) (ts.map fun t => Value.type t.name) = some (ts.any fun t => u.sub t)
  | [], _ => kitAny_nil
  | t :: ts, h => by
    have ih := any_kit (K := K) u ts fun z hz => h z (List.mem_cons_of_mem _ hz)
    refine kitAny_cons (kit_ty (sub_kit u t (h t List.mem_cons_self))) (fun hb => ?_) (fun hb => ?_)
    · rw [ih, List.any_cons, hb, Bool.false_or]
    · rw [List.any_cons, hb, Bool.true_or]
/-- isinstance(e, (T1, T2)) -/
theorem de_isiT {e : Expr} {me : Ev} {T1 T2 : Str} {n1 n2 : String} {t1 t2 : Ty} {p q1 q2 pos tpos : Pos} {kt : Nat} (ht1 : t1 ≠ .non) (ht2 : t2 ≠ .non) (hn1 : n1 = t1.name) (hn2 : n2 = t2.name) (hg : Gl X "isinstance") (hm : X.mg "isinstance" = none) (he : DE X c W e me) (hT1 : Gl X T1) (hmT1 : X.mg T1 = none) (hbT1 : bootBuiltins T1 = some (.type n1)) (hT2 : Gl X T2) (hmT2 : X.mg T2 = none) (hbT2 : bootBuiltins T2 = some (.type n2))
    (hnn1 : T1 ≠ "__name__" := by decide) (hdb1 : (T1 == ("__debug__" : Str)) = false := by decide) (hnn2 : T2 ≠ "__name__" := by decide) (hdb2 : (T2 == ("__debug__" : Str)) = false := by decide)
    (hs : starEach [e, .Tuple [.Name T1 q1, .Name T2 q2] kt tpos] X.env = (false, eval e X.env) :: starEach [.Tuple [.Name T1 q1, .Name T2 q2] kt tpos] X.env := by rfl) (hs2 : starEach [.Tuple [.Name T1 q1, .Name T2 q2] kt tpos] X.env = (false, eval (.Tuple [.Name T1 q1, .Name T2 q2] kt tpos) X.env) :: starEach [] X.env := by rfl)
    (hs3 : starEach [.Name T1 q1, .Name T2 q2] X.env = (false, eval (.Name T1 q1) X.env) :: starEach [.Name T2 q2] X.env := by rfl) (hs4 : starEach [.Name T2 q2] X.env = (false, eval (.Name T2 q2) X.env) :: starEach [] X.env := by rfl)
    (hpl : (backTo pos (starEach [.Tuple [.Name T1 q1, .Name T2 q2] kt tpos] X.env)).any (·.1) = false := by rfl) :
    DE X c W (.Call (.Name "isinstance" p) [e, .Tuple [.Name T1 q1, .Name T2 q2] kt tpos] [] pos) (mIsi [t1, t2] me) := by
  subst hn1 hn2
  exact pe_imp (pe_callB call_isiT hg hm boot_isinstance (pa_cons he (pa_cons (pe_tup (pa_cons (pe_bltn (v := .ty t1.name) hT1 hmT1 hbT1 rfl hnn1 hdb1) (pa_cons (pe_bltn (v := .ty t2.name) hT2 hmT2 hbT2 rfl hnn2 hdb2) pa_nil hs4) hs3)) pa_nil hs2) hs) (by decide) (by decide) hs hpl) fun σ H Q ⟨ι, sl, ah, rh, S, p⟩ => ⟨ι, sl, ah, rh, S, Post.step p fun x H1 ι1 v ah1 e1 r1 rv p1 => by
    cases et : tyOf ah1 v with
    | none => rw [et] at p1; exact p1.elim
    | some u =>
      rw [et] at p1
      refine ⟨by show 2 ≤ sizeLine; decide, fun T hT => ?_⟩
      have r2 := r1.junk (o := .tup [.ty t1.name, .ty t2.name]) hT
      refine ⟨x, T, [.ty t1.name, .ty t2.name], .type u.name, [.type t1.name, .type t2.name], _, rfl, upd_same, .cons (.ty _) (.cons (.ty _) .nil), tyOf_ok r2 et rv, any_kit (K := X.K) u [t1, t2] (by simp [ht1, ht2]), ?_⟩
      exact p1 ι1 _ _ (Ext.junk hT) r2 rfl⟩
end

/-! ### the law -/
def spLaw (K : PySem.W.Frag) : Sp := fun vs H Q _ => ∃ (a : Addr) (ns : List Int), vs = [.ref a] ∧ ns.length ≤ 63 ∧ Only H ∧ SqL K H a (ns.map V.int) ∧ ∀ H', Q (.bl true) H'
theorem scr_of {K : PySem.W.Frag} {c : Ct} {H : Hp} (hO : Only H) (h : SqL K H c.sa (c.sns.map V.int)) : Scr K c H := by
  rcases h with (h | ⟨o, h⟩) | h
  · rcases hO c.sa with z | ⟨o, xs, z⟩
    · rw [h] at z; cases z
    · rw [h] at z; cases z
  · exact .inl ⟨o, h⟩
  · exact .inr h
theorem law_fn {P : Program} {w : World} {K : PySem.W.Frag} {mg : Str → Option Value} {base : Heap} {k : Nat} {f : Addr} {fd : FuncData} {x : Str} {m : Fn} (mk : Addr → List Int → Ct) (hsa : ∀ a ns, (mk a ns).sa = a ∧ (mk a ns).sns = ns) (hc : ∀ a ns, ns.length ≤ 63 → CtOk K (mk a ns))
    (hF : ∀ a ns, FnOk P w K mg base (L2.CX P w) k f fd [x] (spM K (mk a ns) 1 m)) (hm : ∀ ns : List Int, ns.length ≤ 63 → ∃ h, m [.scr ns] [] = .ok (.bl true) h) : FnOk P w K mg base (L2.CX P w) k f fd [x] (spLaw K) := by
  refine ⟨fun vs H Q E ⟨a, ns, e, _⟩ => by rw [e]; rfl, fun A outer s H args us vs Q E hr e0 hb r hsp => ?_⟩
  obtain ⟨a, ns, rfl, hl, hO, hS, q⟩ := hsp
  obtain ⟨h1, h2⟩ := hsa a ns
  refine (hF a ns).run A outer s H args us [.ref a] Q E hr e0 hb r ⟨[], [.scr ns], [], ⟨hc a ns hl, scr_of hO (by rw [h1, h2]; exact hS), rfl, fun n o e => by simp at e, fun n m a o e => by simp at e⟩, .cons ⟨by rw [h1], h2.symm⟩ .nil, rfl, ?_⟩
  obtain ⟨h', e⟩ := hm ns hl
  rw [e]
  intro ι' H' b e1 r1 rb
  cases rb
  exact q H'
theorem law_end {l : PySem.W.OpenLaw} {q : Program} {loose : List Str} {XP : (Str → Option Value) → Heap → Prop} {YP : World → Heap → Prop} {d : DefRec} {K : Params → PySem.W.Frag} {k : Nat} {x : Str} (hn : l.most = some 63) (hdf : d.params.defaults = []) (hr : Room k callerA)
    (hY : ∀ (w : World) (h : Heap), YP w h → (K w.params).In h)
    (F : ∀ (w : World) (mg : Str → Option Value) (fa : Addr) (h : Heap), (K w.params).In h → h.Ns mainGlobals mg → mg d.name = some (.ref fa) →
      ∃ fd : FuncData, (∀ (s : Shared) (u : Value), BindsTo s fd ⟨[u], []⟩ [(x, u)]) ∧ ∀ base : Heap, (K w.params).In base → base.Ns mainGlobals mg → FnOk l.prog w (K w.params) mg base (L2.CX l.prog w) k fa fd [x] (spLaw (K w.params))) :
    PySem.W.WalkO q loose XP YP l.row.toRowW d [] (fun f vs => PySem.call f vs) :=
  walk_of (K := K) (CX := fun w => L2.CX l.prog w) (sp := fun w => spLaw (K w.params)) hn (by decide) hdf hr hY F (fun w H a ns h1 h2 h3 => ⟨a, ns, rfl, h1, h2, h3, fun _ => rfl⟩) fun w H s e s' h => by
    obtain ⟨_, _, _, _, _, _, _, _, _, _, _, _, z⟩ := h
    exact z.elim
end Det

/-! Det11: what the printer leans on. -/
namespace Det
open PySem PySem.Spec PyProof.Rows L2
section
variable {X : Cx} {c : Ct} {W : WX}
theorem hu64 {A : Around} {k : Nat} (hr : Room k A) : A.units + 64 < cLine := hr.units
theorem hu65 {A : Around} {k : Nat} (hr : Room k A) : A.units + 65 < cLine := by have := hr.un; omega
theorem dt_val {e : Expr} {m : Ev} (h : DE X c W e m) (he : ∀ whole, isTrue e X.env whole = (do let v ← whole; standAt e.pos; holding [v] (truthy v)) := by intro _; rfl) : DT X c W e (mB m) :=
  pt_imp (pt_val h he) fun σ H Q h => tB_imp h
theorem de_gstr {x : Str} {s : List Nat} {pos : Pos} (hg : Gl X x) (hm : ∃ t, X.mg x = some (.str (mkS s) t)) (hd : (x == ("__debug__" : Str)) = false := by decide) : DE X c W (.Name x pos) (mC (.str s)) := by
  obtain ⟨t, e⟩ := hm
  exact de_c (pe_glob (v := .str (mkS s)) hg e ⟨t, rfl⟩ hd) fun _ => rfl
theorem de_gint {x : Str} {s : Int} {pos : Pos} (hg : Gl X x) (hm : ∃ t, X.mg x = some (.int s t)) (hd : (x == ("__debug__" : Str)) = false := by decide) : DE X c W (.Name x pos) (mC (.int s)) := by
  obtain ⟨t, e⟩ := hm
  exact de_c (pe_glob (v := .int s) hg e ⟨t, rfl⟩ hd) fun _ => rfl
theorem de_gcon {x : Str} (k : CK) {pos : Pos} (hg : Gl X x) (hm : X.mg x = some (.ref (c.con k))) (hh : c.has k = true) (hd : (x == ("__debug__" : Str)) = false := by decide) : DE X c W (.Name x pos) (mC (.con k)) :=
  de_c (pe_glob (v := .ref (c.con k)) hg hm rfl hd) fun _ => ⟨rfl, hh⟩
abbrev Op1 := AV → Hh → Option (AV × Hh)
def mUn (f : Op1) (m : Ev) : Ev := fun sl h => (m sl h).bind fun v h1 => R.of (f v h1)
def opNeg : Op1 := fun v h => match v with
  | .int i => some (.int (-i), h)
  | _ => none
theorem de_neg {a : Expr} {m : Ev} {pos : Pos} (ha : DE X c W a m) : DE X c W (.UnaryOp .USub a pos) (mUn opNeg m) :=
  pe_imp (pe_un un_neg ha) fun σ H Q ⟨ι, sl, ah, rh, S, p⟩ => ⟨ι, sl, ah, rh, S, Post.step p fun x H1 ι1 v ah1 e1 r1 rv p1 => by
    cases v with
    | int i => cases rv; exact ⟨i, rfl, p1 ι1 H1 _ (Ext.refl _ _) r1 rfl⟩
    | _ => exact p1.elim⟩
theorem Fun.kbinds {K : PySem.W.Frag} {x qual : Str} {st : Stmt} {f : Addr} {fd : FuncData} {ps ks : List Str} {p : List Nat} {n m : Nat} (F : Fun K x qual st f fd) (h0 : ps ≠ [])
    (h : ∀ (kV doc pm : Value) (an : Option Addr) (cdv ct : Value) (us ws : List Value), us.length = n → ws.length = m → bindArgs (PySem.W.fnOf x qual (defArgs st) (defBody st) (defScope st) .none kV doc pm an cdv ct) ⟨us, ks.zip ws⟩ = pure (ps.zip (perm p n m us ws))) :
    KBinds K fd ps ks (perm p n m) (perm p n m) := by
  obtain ⟨oc, od, kV, doc, pm, an, cdv, ct, osl, rfl, lk, hcd⟩ := F.ex
  exact kbinds_mk h0 (h kV doc pm an cdv ct)
end
end Det

/-! Det12: reckoning with mirrors. -/
namespace Det
open PySem PySem.Spec PyProof.Rows L2

/-! ### what stays -/
def Kp (M : List Nat) (h h' : Hh) : Prop := h.length ≤ h'.length ∧ ∀ m o, m ∉ M → h[m]? = some o → h'[m]? = some o
theorem Kp.rfl' {M : List Nat} {h : Hh} : Kp M h h := ⟨Nat.le_refl _, fun _ _ _ e => e⟩
theorem Kp.app {M : List Nat} {h h' : Hh} (k : Kp M h h') (r : Hh) : Kp M h (h' ++ r) :=
  ⟨by rw [List.length_append]; have := k.1; omega, fun m o hm e => getElem?_pre (k.2 m o hm e)⟩
theorem lt_of_get {h : Hh} {n : Nat} {o : AO} (e : h[n]? = some o) : n < h.length := (List.getElem?_eq_some_iff.mp e).1
theorem Kp.set {M : List Nat} {h h' : Hh} (k : Kp M h h') {n : Nat} (hn : n ∈ M ∨ h.length ≤ n) (o : AO) : Kp M h (h'.set n o) :=
  ⟨by rw [List.length_set]; exact k.1, fun m o' hm e => by
    have : n ≠ m := fun z => by
      subst z
      rcases hn with hn | hn
      · exact hm hn
      · have := lt_of_get e; omega
    rw [List.getElem?_set_ne this]
    exact k.2 m o' hm e⟩
theorem Kp.trans {M M' : List Nat} {h h1 h2 : Hh} (k : Kp M h h1) (k' : Kp M' h1 h2) (hm : ∀ m ∈ M', m ∈ M ∨ h.length ≤ m) : Kp M h h2 :=
  ⟨Nat.le_trans k.1 k'.1, fun m o hn e => k'.2 m o (fun z => by
    rcases hm m z with q | q
    · exact hn q
    · have := lt_of_get e; omega) (k.2 m o hn e)⟩
theorem Kp.trans0 {M : List Nat} {h h1 h2 : Hh} (k : Kp M h h1) (k' : Kp [] h1 h2) : Kp M h h2 := k.trans k' (by simp)
theorem Kp.transM {M : List Nat} {h h1 h2 : Hh} (k : Kp M h h1) (k' : Kp M h1 h2) : Kp M h h2 := k.trans k' fun _ z => .inl z
theorem Kp.get {M : List Nat} {h h' : Hh} (k : Kp M h h') {n : Nat} {o : AO} (e : h[n]? = some o) (hn : n ∉ M) : h'[n]? = some o := k.2 n o hn e
theorem Kp.get0 {h h' : Hh} (k : Kp [] h h') {n : Nat} {o : AO} (e : h[n]? = some o) : h'[n]? = some o := k.2 n o (by simp) e
theorem Kp.mono {M M' : List Nat} {h h' : Hh} (k : Kp M h h') (hm : ∀ m ∈ M, m ∈ M') : Kp M' h h' := ⟨k.1, fun m o hn e => k.2 m o (fun z => hn (hm m z)) e⟩
theorem get_set_eq {h : Hh} {n : Nat} {o o' : AO} (e : h[n]? = some o) : (h.set n o')[n]? = some o' := by
  rw [List.getElem?_set_self (lt_of_get e)]
theorem get_new (h : Hh) (o : AO) : (h ++ [o])[h.length]? = some o := by simp
theorem get_set_ne {h : Hh} {n m : Nat} {o' : AO} (e : n ≠ m) : (h.set n o')[m]? = h[m]? := List.getElem?_set_ne e

/-! ### posts -/
def Wp {α : Type} (r : R α) (Q : α → Hh → Prop) : Prop := match r with
  | .ok a h => Q a h
  | _ => False
def WpO (o : Option (Sl × Hh)) (Q : Sl → Hh → Prop) : Prop := match o with
  | some (s, h) => Q s h
  | none => False
@[simp] theorem wpO_some {s : Sl} {h : Hh} {Q : Sl → Hh → Prop} : WpO (some (s, h)) Q ↔ Q s h := Iff.rfl
@[simp] theorem of_some {α : Type} {a : α} {h : Hh} : R.of (some (a, h)) = .ok a h := rfl
structure En where
  nx : Sl → Hh → Prop
  rt : AV → Hh → Prop := fun _ _ => False
  bk : Sl → Hh → Prop := fun _ _ => False
  ct : Sl → Hh → Prop := fun _ _ => False
def WpS (r : RSt) (D : En) : Prop := match r with
  | .nx s h => D.nx s h
  | .rt v h => D.rt v h
  | .bk s h => D.bk s h
  | .ct s h => D.ct s h
  | _ => False
section
variable {α β : Type} {r : R α} {k : α → Hh → R β} {Q : β → Hh → Prop} {D : En} {sl : Sl} {h : Hh} {m n : Es}
@[simp] theorem wp_ok {a : α} {Q : α → Hh → Prop} : Wp (.ok a h) Q ↔ Q a h := Iff.rfl
@[simp] theorem wp_bind : Wp (r.bind k) Q ↔ Wp r fun a h => Wp (k a h) Q := by cases r <;> exact Iff.rfl
@[simp] theorem wp_bindS {k : α → Hh → RSt} : WpS (r.bindS sl k) D ↔ Wp r fun a h => WpS (k a h) D := by cases r <;> exact Iff.rfl
theorem wp_seq : WpS (mSeq m n sl h) D ↔ WpS (m sl h) { D with nx := fun s h => WpS (n s h) D } := by
  unfold mSeq
  cases m sl h <;> exact Iff.rfl
theorem Wp.mono {Q Q' : α → Hh → Prop} (w : Wp r Q) (k : ∀ a h, Q a h → Q' a h) : Wp r Q' := by
  cases r with
  | ok a h => exact k a h w
  | _ => exact w
theorem Wp.ex {Q : α → Hh → Prop} (w : Wp r Q) : ∃ a h, r = .ok a h ∧ Q a h := by
  cases r with
  | ok a h => exact ⟨a, h, rfl, w⟩
  | _ => exact w.elim
theorem WpS.mono {r : RSt} {D D' : En} (w : WpS r D) (h1 : ∀ s h, D.nx s h → D'.nx s h) (h2 : ∀ v h, D.rt v h → D'.rt v h) (h3 : ∀ s h, D.bk s h → D'.bk s h) (h4 : ∀ s h, D.ct s h → D'.ct s h) : WpS r D' := by
  cases r with
  | nx s h => exact h1 _ _ w
  | rt s h => exact h2 _ _ w
  | bk s h => exact h3 _ _ w
  | ct s h => exact h4 _ _ w
  | _ => exact w.elim
/-- a loop: what holds ahead of each turn of what is left -/
theorem loop_wp {cs : List (Bool × AV × List AV)} {g : Eg} {body : Es} (I : List (List AV) → Sl → Hh → Prop) {D : En} (hc : ∀ its sl h, I its sl h → chkOk cs h = true) (hd : ∀ sl h, I [] sl h → D.nx sl h)
    (hs : ∀ it r sl h, I (it :: r) sl h → ∃ sl1 h1, g it sl h = some (sl1, h1) ∧ WpS (body sl1 h1) { nx := I r, ct := I r, bk := D.nx, rt := D.rt }) :
    ∀ its sl h, I its sl h → WpS (loopF cs g body its sl h) D
  | [], sl, h, i => by unfold loopF; rw [if_pos (hc _ _ _ i)]; exact hd _ _ i
  | it :: r, sl, h, i => by
    obtain ⟨sl1, h1, e, w⟩ := hs it r sl h i
    unfold loopF
    rw [if_pos (hc _ _ _ i), e]
    revert w
    show WpS (body sl1 h1) _ → WpS (match body sl1 h1 with
      | .nx s h => loopF cs g body r s h
      | .ct s h => loopF cs g body r s h
      | .bk s h => .nx s h
      | .rt v h => .rt v h
      | .ex x s h => .ex x s h
      | .no => .no) D
    cases body sl1 h1 with
    | nx s h => exact fun w => loop_wp I hc hd hs r s h w
    | ct s h => exact fun w => loop_wp I hc hd hs r s h w
    | bk s h => exact fun w => w
    | rt v h => exact fun w => w
    | ex x s h => exact fun w => w.elim
    | no => exact fun w => w.elim
/-- a comprehension's loop -/
theorem loopC_wp {cs : List (Bool × AV × List AV)} {slw : Sl} {dn : Nat} {g : Eg} {tt : Et} {te : Ev} (I : List (List AV) → Hh → Prop) {Q : AV → Hh → Prop} (hc : ∀ its h, I its h → chkOk cs h = true) (hd : ∀ h, I [] h → Q (.ref dn) h)
    (hs : ∀ it r h, I (it :: r) h → ∃ sl1 h1, g it slw h = some (sl1, h1) ∧ Wp (tt sl1 h1) fun b h2 => if b = true then Wp (te sl1 h2) fun y h3 => ∃ acc, h3[dn]? = some (.lst acc) ∧ acc.length < LINE ∧ I r (h3.set dn (.lst (acc ++ [y]))) else I r h2) :
    ∀ its h, I its h → Wp (loopC cs slw dn g tt te its h) Q
  | [], h, i => by unfold loopC; rw [if_pos (hc _ _ i)]; exact hd _ i
  | it :: r, h, i => by
    obtain ⟨sl1, h1, e, w⟩ := hs it r h i
    unfold loopC
    rw [if_pos (hc _ _ i), e]
    obtain ⟨b, h2, e2, w2⟩ := w.ex
    show Wp ((tt sl1 h1).only _) Q
    rw [e2]
    show Wp (if b = true then _ else _) Q
    split
    · rename_i hb
      rw [if_pos hb] at w2
      obtain ⟨y, h3, e3, acc, w3, w4, w5⟩ := w2.ex
      rw [e3]
      show Wp (match h3[dn]? with
          | some (.lst acc) => if acc.length < LINE then loopC cs slw dn g tt te r (h3.set dn (.lst (acc ++ [y]))) else .no
          | _ => .no) Q
      rw [w3]
      show Wp (if acc.length < LINE then _ else _) Q
      rw [if_pos w4]
      exact loopC_wp I hc hd hs r _ w5
    · rename_i hb
      rw [if_neg hb] at w2
      exact loopC_wp I hc hd hs r _ w2
end
theorem fn_wp {n : Nat} {b : Es} {as : List AV} {h : Hh} {Q : AV → Hh → Prop} (w : WpS (b (as.map some ++ List.replicate (n - as.length) none) h) { nx := fun _ h => Q .non h, rt := Q }) : Wp (mFn n b as h) Q := by
  unfold mFn
  revert w
  cases b (as.map some ++ List.replicate (n - as.length) none) h with
  | nx s h => exact fun w => w
  | rt s h => exact fun w => w
  | _ => exact fun w => w.elim
section
variable {m n : Es} {me ma mb : Ev} {ea : Ea} {t : Et} {sl : Sl} {h : Hh} {D : En} {Q : AV → Hh → Prop} {Qb : Bool → Hh → Prop}
@[simp] theorem wp_seq' : WpS (mSeq m n sl h) D ↔ WpS (m sl h) { D with nx := fun s h => WpS (n s h) D } := wp_seq
@[simp] theorem wps_nx {s : Sl} : WpS (.nx s h) D ↔ D.nx s h := Iff.rfl
@[simp] theorem wps_rt {v : AV} : WpS (.rt v h) D ↔ D.rt v h := Iff.rfl
@[simp] theorem wps_bk {s : Sl} : WpS (.bk s h) D ↔ D.bk s h := Iff.rfl
@[simp] theorem wps_ct {s : Sl} : WpS (.ct s h) D ↔ D.ct s h := Iff.rfl
@[simp] theorem wp_set {i : Nat} : WpS (mSet i me sl h) D ↔ Wp (me sl h) fun v h => D.nx (sl.set i (some v)) h := by unfold mSet; rw [wp_bindS]; exact Iff.rfl
@[simp] theorem wp_ret : WpS (mRet me sl h) D ↔ Wp (me sl h) D.rt := by unfold mRet; rw [wp_bindS]; exact Iff.rfl
@[simp] theorem wp_expr : WpS (mExpr me sl h) D ↔ Wp (me sl h) fun _ h => D.nx sl h := by unfold mExpr; rw [wp_bindS]; exact Iff.rfl
@[simp] theorem wp_skip : WpS (mSkip sl h) D ↔ D.nx sl h := Iff.rfl
@[simp] theorem wp_break : WpS (mBreak sl h) D ↔ D.bk sl h := Iff.rfl
@[simp] theorem wp_cont : WpS (mCont sl h) D ↔ D.ct sl h := Iff.rfl
@[simp] theorem wp_if : WpS (mIf t m n sl h) D ↔ Wp (t sl h) fun b h => if b = true then WpS (m sl h) D else WpS (n sl h) D := by
  unfold mIf
  rw [wp_bindS]
  cases t sl h with
  | ok b h => cases b <;> exact Iff.rfl
  | _ => exact Iff.rfl
@[simp] theorem wp_par {i j : Nat} : WpS (mPar i j ma mb sl h) D ↔ Wp (ma sl h) fun v h1 => Wp (mb sl h1) fun w h2 => D.nx ((sl.set i (some v)).set j (some w)) h2 := by unfold mPar; rw [wp_bindS]; simp only [wp_bindS]; exact Iff.rfl
@[simp] theorem wp_asg {g : Eg} : WpS (mAsg g me sl h) D ↔ Wp (me sl h) fun v h1 => WpO (g [v] sl h1) D.nx := by
  unfold mAsg
  rw [wp_bindS]
  cases me sl h with
  | ok v h1 =>
    show WpS (match g [v] sl h1 with | some (sl', h2) => .nx sl' h2 | none => .no) D ↔ WpO (g [v] sl h1) D.nx
    cases g [v] sl h1 with
    | none => exact Iff.rfl
    | some z => exact Iff.rfl
  | _ => exact Iff.rfl
@[simp] theorem wp_for {src : Ei} {g : Eg} : WpS (mFor src g m sl h) D ↔ Wp (src sl h) fun s h1 => WpS (loopF s.chks g m s.items sl h1) D := by unfold mFor; rw [wp_bindS]
@[simp] theorem wp_aug {i : Nat} {f : Op2} {x : AV} (e : sl[i]? = some (some x)) : WpS (mAug i f me sl h) D ↔ Wp (me sl h) fun y h1 => Wp (R.of (f x y h1)) fun v h2 => D.nx (sl.set i (some v)) h2 := by
  unfold mAug
  rw [e]
  show WpS ((me sl h).bindS sl _) D ↔ _
  rw [wp_bindS]
  cases me sl h with
  | ok y h1 =>
    show WpS (match f x y h1 with | some (v, h2) => .nx (sl.set i (some v)) h2 | none => .no) D ↔ Wp (R.of (f x y h1)) _
    cases f x y h1 with
    | none => exact Iff.rfl
    | some z => exact Iff.rfl
  | _ => exact Iff.rfl
@[simp] theorem wp_C {v : AV} : Wp (mC v sl h) Q ↔ Q v h := Iff.rfl
@[simp] theorem wp_bin {f : Op2} : Wp (mBin f ma mb sl h) Q ↔ Wp (ma sl h) fun x h1 => Wp (mb sl h1) fun y h2 => Wp (R.of (f x y h2)) Q := by unfold mBin; simp only [wp_bind]
@[simp] theorem wp_un {f : Op1} : Wp (mUn f ma sl h) Q ↔ Wp (ma sl h) fun x h1 => Wp (R.of (f x h1)) Q := by unfold mUn; simp only [wp_bind]
@[simp] theorem wp_b1 {f : OpN} : Wp (mB1 f ea sl h) Q ↔ Wp (ea sl h) fun x h1 => Wp (R.of (f x h1)) Q := by unfold mB1; simp only [wp_bind]
@[simp] theorem wp_nil {Q : List AV → Hh → Prop} : Wp (mNil sl h) Q ↔ Q [] h := Iff.rfl
@[simp] theorem wp_cons {Q : List AV → Hh → Prop} : Wp (mCons me ea sl h) Q ↔ Wp (me sl h) fun v h1 => Wp (ea sl h1) fun vs h2 => Q (v :: vs) h2 := by unfold mCons; simp only [wp_bind, wp_ok]
@[simp] theorem wp_tup : Wp (mTup ea sl h) Q ↔ Wp (ea sl h) fun vs h1 => vs.length ≤ LINE ∧ Q (.ref h1.length) (h1 ++ [.tup vs]) := by
  unfold mTup
  rw [wp_bind]
  cases ea sl h with
  | ok vs h1 =>
    show Wp (if vs.length ≤ LINE then _ else _) Q ↔ (vs.length ≤ LINE ∧ _)
    split
    · rename_i hl; simp [hl]
    · rename_i hl; simp [hl, Wp]
  | _ => exact Iff.rfl
@[simp] theorem wp_lst : Wp (mLst ea sl h) Q ↔ Wp (ea sl h) fun vs h1 => vs.length ≤ LINE ∧ Q (.ref h1.length) (h1 ++ [.lst vs]) := by
  unfold mLst
  rw [wp_bind]
  cases ea sl h with
  | ok vs h1 =>
    show Wp (if vs.length ≤ LINE then _ else _) Q ↔ (vs.length ≤ LINE ∧ _)
    split
    · rename_i hl; simp [hl]
    · rename_i hl; simp [hl, Wp]
  | _ => exact Iff.rfl
@[simp] theorem wp_B : Wp (mB me sl h) Qb ↔ Wp (me sl h) fun v h1 => ∃ b, v = .bl b ∧ Qb b h1 := by
  unfold mB
  rw [wp_bind]
  cases me sl h with
  | ok v h1 => cases v <;> simp [Wp]
  | _ => exact Iff.rfl
@[simp] theorem wp_andV : Wp (mAndV ma mb sl h) Q ↔ Wp (ma sl h) fun v h1 => ∃ b, v = .bl b ∧ if b = true then Wp (mb sl h1) Q else Q (.bl false) h1 := by
  unfold mAndV
  rw [wp_bind]
  cases ma sl h with
  | ok v h1 => cases v with
    | bl b => cases b <;> simp [Wp]
    | _ => simp [Wp]
  | _ => exact Iff.rfl
@[simp] theorem wp_orV : Wp (mOrV ma mb sl h) Q ↔ Wp (ma sl h) fun v h1 => ∃ b, v = .bl b ∧ if b = true then Q (.bl true) h1 else Wp (mb sl h1) Q := by
  unfold mOrV
  rw [wp_bind]
  cases ma sl h with
  | ok v h1 => cases v with
    | bl b => cases b <;> simp [Wp]
    | _ => simp [Wp]
  | _ => exact Iff.rfl
@[simp] theorem wp_notV : Wp (mNotV ma sl h) Q ↔ Wp (ma sl h) fun v h1 => ∃ b, v = .bl b ∧ Q (.bl (!b)) h1 := by
  unfold mNotV
  rw [wp_bind]
  cases ma sl h with
  | ok v h1 => cases v <;> simp [Wp]
  | _ => exact Iff.rfl
variable {ta tb : Et}
@[simp] theorem wp_and : Wp (mAnd ta tb sl h) Qb ↔ Wp (ta sl h) fun b h1 => if b = true then Wp (tb sl h1) Qb else Qb false h1 := by
  unfold mAnd
  rw [wp_bind]
  cases ta sl h with
  | ok b h1 => cases b <;> exact Iff.rfl
  | _ => exact Iff.rfl
@[simp] theorem wp_or : Wp (mOr ta tb sl h) Qb ↔ Wp (ta sl h) fun b h1 => if b = true then Qb true h1 else Wp (tb sl h1) Qb := by
  unfold mOr
  rw [wp_bind]
  cases ta sl h with
  | ok b h1 => cases b <;> exact Iff.rfl
  | _ => exact Iff.rfl
@[simp] theorem wp_not : Wp (mNot ta sl h) Qb ↔ Wp (ta sl h) fun b h1 => Qb (!b) h1 := by unfold mNot; rw [wp_bind]; exact Iff.rfl
@[simp] theorem wp_ifE : Wp (mIfE ta ma mb sl h) Q ↔ Wp (ta sl h) fun b h1 => if b = true then Wp (ma sl h1) Q else Wp (mb sl h1) Q := by
  unfold mIfE
  rw [wp_bind]
  cases ta sl h with
  | ok b h1 => cases b <;> exact Iff.rfl
  | _ => exact Iff.rfl
@[simp] theorem wp_yes : Wp (mYes sl h) Qb ↔ Qb true h := Iff.rfl
@[simp] theorem wp_var0 {v : AV} {r : Sl} : Wp (mVar 0 (some v :: r) h) Q ↔ Q v h := Iff.rfl
@[simp] theorem wp_varS {i : Nat} {v : Option AV} {r : Sl} : Wp (mVar (i + 1) (v :: r) h) Q ↔ Wp (mVar i r h) Q := by unfold mVar; rw [List.getElem?_cons_succ]
theorem wp_var {i : Nat} {v : AV} (e : sl[i]? = some (some v)) : Wp (mVar i sl h) Q ↔ Q v h := by unfold mVar; rw [e]; exact Iff.rfl
@[simp] theorem wp_call {f : Fn} : Wp (mCall f ea sl h) Q ↔ Wp (ea sl h) fun vs h1 => Wp (f vs h1) Q := by unfold mCall; rw [wp_bind]
@[simp] theorem wp_meth {T : String} {op : OpM} : Wp (mMeth T op me ea sl h) Q ↔ Wp (me sl h) fun x h1 => isTy T h1 x = true ∧ Wp (ea sl h1) fun vs h2 => Wp (R.of (op x vs h2)) Q := by
  unfold mMeth
  rw [wp_bind]
  cases me sl h with
  | ok x h1 =>
    show Wp (if isTy T h1 x = true then _ else _) Q ↔ (isTy T h1 x = true ∧ _)
    split
    · rename_i hl; simp [hl]
    · rename_i hl; simp [hl, Wp]
  | _ => exact Iff.rfl
theorem wp_of {o : Option (AV × Hh)} : Wp (R.of o) Q ↔ ∃ v h, o = some (v, h) ∧ Q v h := by
  cases o with
  | none => simp [R.of, Wp]
  | some z => obtain ⟨z1, z2⟩ := z; exact ⟨fun w => ⟨z1, z2, rfl, w⟩, fun ⟨_, _, e, w⟩ => by cases e; exact w⟩
@[simp] theorem wp_iter {Qs : Src → Hh → Prop} : Wp (mIter me sl h) Qs ↔ Wp (me sl h) fun v h1 => ∃ s, srcOf h1 v = some s ∧ Qs s h1 := by
  unfold mIter
  rw [wp_bind]
  cases me sl h with
  | ok v h1 =>
    show Wp (match srcOf h1 v with | some s => R.ok s h1 | none => .no) Qs ↔ ∃ s, srcOf h1 v = some s ∧ Qs s h1
    cases srcOf h1 v <;> simp [Wp]
  | _ => exact Iff.rfl
@[simp] theorem wp_enum {Qs : Src → Hh → Prop} : Wp (mEnum me sl h) Qs ↔ Wp (me sl h) fun v h1 => ∃ s, srcEnum h1 v = some s ∧ Qs s h1 := by
  unfold mEnum
  rw [wp_bind]
  cases me sl h with
  | ok v h1 =>
    show Wp (match srcEnum h1 v with | some s => R.ok s h1 | none => .no) Qs ↔ ∃ s, srcEnum h1 v = some s ∧ Qs s h1
    cases srcEnum h1 v <;> simp [Wp]
  | _ => exact Iff.rfl
@[simp] theorem wp_slice {ml mh : Eo} : Wp (mSlice me ml mh sl h) Q ↔ Wp (me sl h) fun x h1 => Wp (ml sl h1) fun l h2 => Wp (mh sl h2) fun u h3 => Wp (R.of (opSlice x l u h3)) Q := by unfold mSlice; simp only [wp_bind]
@[simp] theorem wp_no {Qo : Option Int → Hh → Prop} : Wp (mNo sl h) Qo ↔ Qo none h := Iff.rfl
@[simp] theorem wp_some {Qo : Option Int → Hh → Prop} : Wp (mSome me sl h) Qo ↔ Wp (me sl h) fun v h1 => ∃ i, v = .int i ∧ Qo (some i) h1 := by
  unfold mSome
  rw [wp_bind]
  cases me sl h with
  | ok v h1 => cases v <;> simp [Wp]
  | _ => exact Iff.rfl
@[simp] theorem wp_isi {ts : List Ty} : Wp (mIsi ts me sl h) Q ↔ Wp (me sl h) fun v h1 => ∃ t, tyOf h1 v = some t ∧ Q (.bl (ts.any fun u => t.sub u)) h1 := by
  unfold mIsi
  rw [wp_bind]
  cases me sl h with
  | ok v h1 =>
    show Wp (match tyOf h1 v with | some t => R.ok _ h1 | none => .no) Q ↔ ∃ t, tyOf h1 v = some t ∧ Q (.bl (ts.any fun u => t.sub u)) h1
    cases tyOf h1 v <;> simp [Wp]
  | _ => exact Iff.rfl
@[simp] theorem wp_lc {src : Ei} {vs : List Nat} {g : Eg} {tt : Et} {te : Ev} : Wp (mLc src vs g tt te sl h) Q ↔ Wp (src sl h) fun s h1 => Wp (loopC s.chks (wipeA sl vs) h1.length g tt te s.items (h1 ++ [.lst []])) Q := by unfold mLc; rw [wp_bind]
@[simp] theorem wp_callK {f : Fn} {pp : List Nat} {a b : Nat} {ek : Ea} : Wp (mCallK f pp a b ea ek sl h) Q ↔ Wp (ea sl h) fun vs h1 => Wp (ek sl h1) fun zs h2 => (perm pp a b vs zs).length = pp.length ∧ Wp (f (perm pp a b vs zs) h2) Q := by
  unfold mCallK
  rw [wp_bind]
  cases ea sl h with
  | ok vs h1 =>
    show Wp ((ek sl h1).bind _) Q ↔ Wp (ek sl h1) _
    rw [wp_bind]
    cases ek sl h1 with
    | ok zs h2 =>
      show Wp (if (perm pp a b vs zs).length = pp.length then _ else _) Q ↔ _
      split
      · rename_i hl; simp [hl]
      · rename_i hl; simp [hl, Wp]
    | _ => exact Iff.rfl
  | _ => exact Iff.rfl
@[simp] theorem wp_range1 {Qs : Src → Hh → Prop} : Wp (mRange1 me sl h) Qs ↔ Wp (me sl h) fun v h1 => ∃ j, v = .int j ∧ small60 j = true ∧ Qs ⟨rangeIt 0 j.toNat, []⟩ h1 := by
  unfold mRange1
  rw [wp_bind]
  cases me sl h with
  | ok v h1 => cases v with
    | int j =>
      show Wp (if small60 j = true then R.ok _ h1 else .no) Qs ↔ ∃ j', AV.int j = .int j' ∧ small60 j' = true ∧ Qs ⟨rangeIt 0 j'.toNat, []⟩ h1
      split
      · rename_i hs; simp [Wp, hs]
      · rename_i hs
        simp [Wp]
        intro q; exact absurd q hs
    | _ => simp [Wp]
  | _ => exact Iff.rfl
end
end Det

/-! Det13: operators at known values. -/
namespace Det
open PySem PySem.Spec PyProof.Rows L2
section
variable {h : Hh} {i j : Int} {s t : List Nat} {a b : Bool} {n k : Nat} {v : AV}
@[simp] theorem var0 {r : Sl} : mVar 0 (some v :: r) h = .ok v h := rfl
@[simp] theorem varS {o : Option AV} {r : Sl} : mVar (n + 1) (o :: r) h = mVar n r h := by unfold mVar; rw [List.getElem?_cons_succ]
@[simp] theorem evC {sl : Sl} : mC v sl h = .ok v h := rfl
@[simp] theorem add_ii : opAdd (.int i) (.int j) h = some (.int (i + j), h) := rfl
@[simp] theorem add_ss : opAdd (.str s) (.str t) h = if s.length + t.length ≤ LINE then some (.str (s ++ t), h) else none := rfl
@[simp] theorem iadd_ii : opIAdd (.int i) (.int j) h = some (.int (i + j), h) := rfl
@[simp] theorem iadd_ss : opIAdd (.str s) (.str t) h = if s.length + t.length ≤ LINE then some (.str (s ++ t), h) else none := rfl
@[simp] theorem sub_ii : opSub (.int i) (.int j) h = some (.int (i - j), h) := rfl
@[simp] theorem mul_ii : opMul (.int i) (.int j) h = if (fits i && fits j) = true then some (.int (i * j), h) else none := rfl
@[simp] theorem div_ii : opDiv (.int i) (.int j) h = if 0 < j ∧ fits j = true then some (.int (i / j), h) else none := rfl
@[simp] theorem mod_ii : opMod (.int i) (.int j) h = if 0 < j then some (.int (i % j), h) else none := rfl
@[simp] theorem pow_ii : opPow (.int i) (.int j) h = if 0 ≤ j ∧ j ≤ 1000 ∧ fits i = true then some (.int (i ^ j.toNat), h) else none := rfl
@[simp] theorem neg_i : opNeg (.int i) h = some (.int (-i), h) := rfl
@[simp] theorem eq_ii : opEq (.int i) (.int j) h = some (.bl (i == j), h) := rfl
@[simp] theorem eq_ss : opEq (.str s) (.str t) h = some (.bl (s == t), h) := rfl
@[simp] theorem eq_bb : opEq (.bl a) (.bl b) h = some (.bl (a == b), h) := rfl
@[simp] theorem ne_ii : opNe (.int i) (.int j) h = some (.bl (!(i == j)), h) := rfl
@[simp] theorem ne_ss : opNe (.str s) (.str t) h = some (.bl (!(s == t)), h) := rfl
@[simp] theorem ne_bb : opNe (.bl a) (.bl b) h = some (.bl (!(a == b)), h) := rfl
@[simp] theorem lt_ii : opLt (.int i) (.int j) h = some (.bl (decide (i < j)), h) := rfl
@[simp] theorem le_ii : opLe (.int i) (.int j) h = some (.bl (decide (i ≤ j)), h) := rfl
@[simp] theorem gt_ii : opGt (.int i) (.int j) h = some (.bl (decide (j < i)), h) := rfl
@[simp] theorem ge_ii : opGe (.int i) (.int j) h = some (.bl (decide (j ≤ i)), h) := rfl
@[simp] theorem is_non : opIs v .non h = some (.bl (decide (v = .non)), h) := rfl
@[simp] theorem isNot_non : opIsNot v .non h = some (.bl (!decide (v = .non)), h) := rfl
@[simp] theorem ix_s : opIx (.str s) (.int i) h = if s.length ≤ LINE then (atA s i).map fun ch => (.str [ch], h) else none := rfl
@[simp] theorem ix_con {k : CK} : opIx (.con k) (.str s) h = match k.dic? with
    | some kvs => (conA kvs s).map fun v => (v, h)
    | none => none := rfl
def ixO (o : Option AO) (i : Int) (h : Hh) : Option (AV × Hh) := match o with
  | some (.dic kvs) => (valA kvs (.inl i)).map fun v => (v, h)
  | some (.lst xs) => (atA xs i).map fun v => (v, h)
  | some (.rol xs) => (atA xs i).map fun v => (v, h)
  | some (.tup xs) => (atA xs i).map fun v => (v, h)
  | _ => none
@[simp] theorem ix_ref : opIx (.ref n) (.int i) h = ixO h[n]? i h := by
  unfold opIx ixO dicOf rdL rdT
  simp only [keyOf]
  cases h[n]? with
  | none => rfl
  | some o => cases o <;> rfl
@[simp] theorem ixO_lst {xs : List AV} : ixO (some (.lst xs)) i h = (atA xs i).map fun v => (v, h) := rfl
@[simp] theorem ixO_tup {xs : List AV} : ixO (some (.tup xs)) i h = (atA xs i).map fun v => (v, h) := rfl
@[simp] theorem ixO_rol {xs : List AV} : ixO (some (.rol xs)) i h = (atA xs i).map fun v => (v, h) := rfl
theorem atA_nat {α : Type} {xs : List α} {m : Nat} {x : α} (e : xs[m]? = some x) : atA xs (m : Int) = some x := by
  unfold atA
  rw [if_pos (by omega)]
  simpa using e
theorem atA_int {α : Type} {xs : List α} {i : Int} {x : α} (h0 : 0 ≤ i) (e : xs[i.toNat]? = some x) : atA xs i = some x := by
  unfold atA
  rw [if_pos h0]
  exact e
theorem atA_lt {α : Type} {xs : List α} {i : Int} (h0 : 0 ≤ i) (h1 : i < xs.length) : ∃ x, atA xs i = some x ∧ x ∈ xs := by
  have hl : i.toNat < xs.length := by omega
  exact ⟨xs[i.toNat], atA_int h0 (List.getElem?_eq_getElem hl), List.getElem_mem hl⟩
@[simp] theorem at0 {α : Type} {x : α} {r : List α} : atA (x :: r) 0 = some x := rfl
@[simp] theorem at1 {α : Type} {x y : α} {r : List α} : atA (x :: y :: r) 1 = some y := rfl
@[simp] theorem at2 {α : Type} {x y z : α} {r : List α} : atA (x :: y :: z :: r) 2 = some z := rfl
@[simp] theorem len_s : bLen [.str s] h = if s.length ≤ LINE then some (.int s.length, h) else none := rfl
def lenO (o : Option AO) (h : Hh) : Option (AV × Hh) := match o with
  | some (.lst xs) => some (.int xs.length, h)
  | some (.rol xs) => some (.int xs.length, h)
  | some (.tup xs) => some (.int xs.length, h)
  | some (.dic xs) => some (.int xs.length, h)
  | _ => none
@[simp] theorem len_scr {ns : List Int} : bLen [.scr ns] h = some (.int ns.length, h) := by
  show some (AV.int ((ns.map AV.int).length : Nat), h) = _
  simp
@[simp] theorem rdL_ref : rdL h (.ref n) = match h[n]? with
    | some (.lst xs) => some xs
    | some (.rol xs) => some xs
    | _ => none := rfl
@[simp] theorem rdT_ref : rdT h (.ref n) = match h[n]? with
    | some (.tup xs) => some xs
    | _ => none := rfl
@[simp] theorem rdL_scr {ns : List Int} : rdL h (.scr ns) = some (ns.map .int) := rfl
@[simp] theorem lsAt_ref : lsAt h (.ref n) = match h[n]? with
    | some (.lst xs) => some (n, xs)
    | _ => none := rfl
@[simp] theorem ty_ref : isTy "list" h (.ref n) = (rdL h (.ref n)).isSome := by simp [isTy]
@[simp] theorem ty_str : isTy "str" h (.str s) = true := rfl
@[simp] theorem tyOf_s : tyOf h (.str s) = some .str := rfl
@[simp] theorem tyOf_i : tyOf h (.int i) = some .int := rfl
@[simp] theorem tyOf_b : tyOf h (.bl a) = some .bool := rfl
@[simp] theorem tyOf_n : tyOf h .non = some .non := rfl
@[simp] theorem tyOf_ref : tyOf h (.ref n) = match h[n]? with
    | some (.lst _) => some .list
    | some (.rol _) => some .list
    | some (.tup _) => some .tuple
    | some (.dic _) => some .dict
    | _ => none := rfl
@[simp] theorem append_at {xs : List AV} (e : h[n]? = some (.lst xs)) : mAppend (.ref n) [v] h = if xs.length < LINE then some (.non, h.set n (.lst (xs ++ [v]))) else none := by
  unfold mAppend; simp only [lsAt_ref, e]
theorem pop_at {xs : List AV} (e : h[n]? = some (.lst (xs ++ [v]))) : mPop (.ref n) [] h = some (v, h.set n (.lst xs)) := by
  unfold mPop; simp [lsAt_ref, e]
@[simp] theorem in_ss {ch : Nat} : opIn (.str [ch]) (.str t) h = some (.bl (decide (ch ∈ t)), h) := rfl
@[simp] theorem notIn_ss {ch : Nat} : opNotIn (.str [ch]) (.str t) h = some (.bl (!decide (ch ∈ t)), h) := rfl
@[simp] theorem in_con {k : CK} : opIn (.str s) (.con k) h = (match k.dic? with
    | some kvs => some (conA kvs s).isSome
    | none => none).map fun b => (.bl b, h) := by
  unfold opIn inB
  cases s with
  | nil => rfl
  | cons x r => cases r <;> rfl
@[simp] theorem notIn_con {k : CK} : opNotIn (.str s) (.con k) h = (match k.dic? with
    | some kvs => some (conA kvs s).isSome
    | none => none).map fun b => (.bl (!b), h) := by
  unfold opNotIn inB
  cases s with
  | nil => rfl
  | cons x r => cases r <;> rfl
theorem reify_strs (h : Hh) (f : Nat) : ∀ {ss : List (List Nat)}, mapO (reify (f + 1) h) (ss.map AV.str) = some (ss.map D.str)
  | [] => rfl
  | s :: r => by
    have ih := reify_strs h f (ss := r)
    rw [List.map_cons]
    unfold mapO
    rw [ih]
    rfl
theorem fine_strs : ∀ {ss : List (List Nat)}, (∀ s ∈ ss, ∀ c ∈ s, c < 1114112) → D.fines (ss.map D.str) = true
  | [], _ => rfl
  | s :: r, hs => by
    show (D.fine (.str s) && D.fines (r.map D.str)) = true
    rw [fine_strs fun x hx => hs x (List.mem_cons_of_mem _ hx), Bool.and_true]
    unfold D.fine
    rw [List.all_eq_true]
    exact fun c hc => decide_eq_true (hs s List.mem_cons_self c hc)
theorem eq_empty {ss : List (List Nat)} (ex : h[n]? = some (.lst (ss.map .str))) (ey : h[k]? = some (.lst [])) (hl : ∀ s ∈ ss, ∀ c ∈ s, c < 1114112) : opEq (.ref n) (.ref k) h = some (.bl (decide (ss = [])), h) := by
  have e1 : reify 40 h (.ref n) = some (.lst (ss.map D.str)) := by
    show (match h[n]? with
      | some (.lst xs) => (mapO (reify 39 h) xs).map D.lst
      | some (.rol xs) => (mapO (reify 39 h) xs).map D.lst
      | some (.tup xs) => (mapO (reify 39 h) xs).map D.tup
      | _ => none) = _
    rw [ex]
    simp only [reify_strs]
    rfl
  have e2 : reify 40 h (.ref k) = some (.lst []) := by
    show (match h[k]? with
      | some (.lst xs) => (mapO (reify 39 h) xs).map D.lst
      | some (.rol xs) => (mapO (reify 39 h) xs).map D.lst
      | some (.tup xs) => (mapO (reify 39 h) xs).map D.tup
      | _ => none) = _
    rw [ey]
    rfl
  have f1 : D.fine (.lst (ss.map D.str)) = true := by
    unfold D.fine
    exact fine_strs hl
  have f2 : D.fine (.lst []) = true := by decide
  show (match reify 40 h (.ref n), reify 40 h (.ref k) with
      | some d, some e => if (d.fine && e.fine) = true then some (D.eqv d e) else none
      | _, _ => none).map (fun b => (AV.bl b, h)) = _
  rw [e1, e2]
  simp only [f1, f2]
  cases ss <;> rfl
@[simp] theorem cut_s {lo hi : Option Int} : opSlice (.str s) lo hi h = if s.length ≤ LINE then some (.str (cutA s lo hi), h) else none := rfl
@[simp] theorem cut_scr {ns : List Int} {lo hi : Option Int} : opSlice (.scr ns) lo hi h = some (.ref h.length, h ++ [.lst (cutA (ns.map .int) lo hi)]) := rfl
@[simp] theorem cut_ref {lo hi : Option Int} : opSlice (.ref n) lo hi h = match rdL h (.ref n) with
    | some xs => some (.ref h.length, h ++ [.lst (cutA xs lo hi)])
    | none => match rdT h (.ref n) with
      | some xs => if cutIx xs.length 0 lo = 0 ∧ cutIx xs.length xs.length hi = xs.length then none else some (.ref h.length, h ++ [.tup (cutA xs lo hi)])
      | none => none := rfl
theorem cutA_to {α : Type} (xs : List α) (m : Nat) : cutA xs none (some (m : Int)) = xs.take m := by
  unfold cutA
  have e : cutIx xs.length 0 none = 0 := rfl
  have e2 : cutIx xs.length xs.length (some (m : Int)) = min m xs.length := by rw [cutIx_eq]; exact HT.sIx_nat _ _ _
  rw [e, e2]
  simp
theorem cutA_from {α : Type} (xs : List α) (m : Nat) : cutA xs (some (m : Int)) none = xs.drop m := by
  unfold cutA
  have e : cutIx xs.length xs.length none = xs.length := rfl
  have e2 : cutIx xs.length 0 (some (m : Int)) = min m xs.length := by rw [cutIx_eq]; exact HT.sIx_nat _ _ _
  rw [e, e2]
  by_cases hm : m ≤ xs.length
  · rw [Nat.min_eq_left hm]
    apply List.take_of_length_le
    simp
  · rw [Nat.min_eq_right (by omega)]
    simp
    omega
@[simp] theorem src_s : srcOf h (.str s) = some ⟨s.map fun ch => [.str [ch]], []⟩ := rfl
@[simp] theorem src_ref : srcOf h (.ref n) = match h[n]? with
    | some (.lst xs) => some ⟨one xs, [(true, .ref n, xs)]⟩
    | some (.rol xs) => some ⟨one xs, [(true, .ref n, xs)]⟩
    | some (.tup xs) => some ⟨one xs, [(false, .ref n, xs)]⟩
    | _ => none := by
  unfold srcOf
  simp only [rdL_ref, rdT_ref]
  cases h[n]? with
  | none => rfl
  | some o => cases o <;> rfl
@[simp] theorem enum_s : srcEnum h (.str s) = some ⟨pairsFrom 0 (s.map fun ch => .str [ch]), []⟩ := rfl
@[simp] theorem enum_ref : srcEnum h (.ref n) = match h[n]? with
    | some (.lst xs) => some ⟨pairsFrom 0 xs, [(true, .ref n, xs)]⟩
    | some (.rol xs) => some ⟨pairsFrom 0 xs, [(true, .ref n, xs)]⟩
    | _ => none := by
  unfold srcEnum
  simp only [rdL_ref]
  cases h[n]? with
  | none => rfl
  | some o => cases o <;> rfl
@[simp] theorem chk_nil : chkOk [] h = true := rfl
theorem chk_lst {xs : List AV} (e : h[n]? = some (.lst xs)) : chkOk [(true, .ref n, xs)] h = true := by simp [chkOk, rdB, e]
theorem chk_tup {xs : List AV} (e : h[n]? = some (.tup xs)) : chkOk [(false, .ref n, xs)] h = true := by simp [chkOk, rdB, e]
theorem chk_scr {ns : List Int} : chkOk [(true, .scr ns, ns.map .int)] h = true := by simp [chkOk, rdB]
@[simp] theorem gn {sl : Sl} : mGn n [v] sl h = some (sl.set n (some v), h) := rfl
@[simp] theorem gt2 {gs : List Eg} {x y : AV} {sl : Sl} : mGt gs [x, y] sl h = mGs gs [x, y] sl h := rfl
@[simp] theorem gt1 {gs : List Eg} {x : AV} {sl : Sl} : mGt gs [x] sl h = match rdT h x with
    | some xs => mGs gs xs sl h
    | none => none := rfl
@[simp] theorem gs_nil {sl : Sl} : mGs [] [] sl h = some (sl, h) := rfl
@[simp] theorem gs_cons {g : Eg} {gs : List Eg} {vs : List AV} {sl : Sl} : mGs (g :: gs) (v :: vs) sl h = match g [v] sl h with
    | some (sl1, h1) => mGs gs vs sl1 h1
    | none => none := rfl
@[simp] theorem gsub {mo mi : Ev} {sl : Sl} : mGsub mo mi [v] sl h = match mo sl h with
    | .ok o h1 => match mi sl h1 with
      | .ok i h2 => (opSet o i v h2).map fun h3 => (sl, h3)
      | _ => none
    | _ => none := rfl
theorem set_lst {xs : List AV} {m : Nat} (e : h[n]? = some (.lst xs)) (hm : m < xs.length) : opSet (.ref n) (.int (m : Int)) v h = some (h.set n (.lst (xs.set m v))) := by
  have : L2.ixN xs.length (m : Int) = some m := by unfold L2.ixN; rw [if_pos (by omega), if_pos (by omega)]; simp
  simp only [opSet, e, this]
@[simp] theorem max_ii : bMax [.int i, .int j] h = some (.int (if j > i then j else i), h) := rfl
@[simp] theorem min_ii : bMin [.int i, .int j] h = some (.int (if j < i then j else i), h) := rfl
@[simp] theorem int_b : bInt [.bl a] h = some (.int (if a then 1 else 0), h) := rfl
@[simp] theorem int_i : bInt [.int i] h = some (.int i, h) := rfl
theorem wp_chain {f g : Op2} {ma mb mc : Ev} {sl : Sl} {Q : AV → Hh → Prop} : Wp (mChain f g ma mb mc sl h) Q ↔ Wp (ma sl h) fun x h1 => Wp (mb sl h1) fun y h2 => Wp (R.of (f x y h2)) fun r h3 => ∃ b, r = .bl b ∧ if b = true then Wp (mc sl h3) fun z h4 => Wp (R.of (g y z h4)) Q else Q (.bl false) h3 := by
  unfold mChain
  simp only [wp_bind]
  cases ma sl h with
  | ok x h1 =>
    show Wp (mb sl h1) _ ↔ Wp (mb sl h1) _
    cases mb sl h1 with
    | ok y h2 =>
      show Wp (R.of (f x y h2)) _ ↔ Wp (R.of (f x y h2)) _
      cases R.of (f x y h2) with
      | ok r h3 => cases r with
        | bl b => cases b with
          | false => simp [Wp]
          | true =>
            show Wp ((mc sl h3).bind fun z h4 => R.of (g y z h4)) Q ↔ ∃ b, AV.bl true = .bl b ∧ if b = true then Wp (mc sl h3) (fun z h4 => Wp (R.of (g y z h4)) Q) else Q (.bl false) h3
            simp
        | _ => simp [Wp]
      | _ => exact Iff.rfl
    | _ => exact Iff.rfl
  | _ => exact Iff.rfl
end
end Det

/-! Det14: values as data. -/
namespace Det
open PySem PySem.Spec PyProof.Rows L2
mutual
def Rp (h : Hh) : D → AV → Prop
  | .non, v => v = .non
  | .bl b, v => v = .bl b
  | .int i, v => v = .int i
  | .str s, v => v = .str s
  | .lst ds, v => ∃ n xs, v = .ref n ∧ h[n]? = some (.lst xs) ∧ RpL h ds xs
  | .tup ds, v => ∃ n xs, v = .ref n ∧ h[n]? = some (.tup xs) ∧ RpL h ds xs
def RpL (h : Hh) : List D → List AV → Prop
  | [], xs => xs = []
  | d :: ds, xs => ∃ y ys, xs = y :: ys ∧ Rp h d y ∧ RpL h ds ys
end
mutual
theorem Rp.kp {h h' : Hh} (k : Kp [] h h') : ∀ {d : D} {v : AV}, Rp h d v → Rp h' d v
  | .non, _, r => r
  | .bl _, _, r => r
  | .int _, _, r => r
  | .str _, _, r => r
  | .lst ds, _, r => by
    obtain ⟨n, xs, rfl, e, rs⟩ := (by simpa only [Rp] using r : ∃ n xs, _ ∧ _ ∧ _)
    show Rp h' (.lst ds) (.ref n)
    simp only [Rp]
    exact ⟨n, xs, rfl, k.get0 e, RpL.kp k rs⟩
  | .tup ds, _, r => by
    obtain ⟨n, xs, rfl, e, rs⟩ := (by simpa only [Rp] using r : ∃ n xs, _ ∧ _ ∧ _)
    show Rp h' (.tup ds) (.ref n)
    simp only [Rp]
    exact ⟨n, xs, rfl, k.get0 e, RpL.kp k rs⟩
theorem RpL.kp {h h' : Hh} (k : Kp [] h h') : ∀ {ds : List D} {vs : List AV}, RpL h ds vs → RpL h' ds vs
  | [], _, r => r
  | d :: ds, _, r => by
    obtain ⟨y, ys, rfl, r1, r2⟩ := (by simpa only [RpL] using r : ∃ y ys, _ ∧ _ ∧ _)
    simp only [RpL]
    exact ⟨y, ys, rfl, Rp.kp k r1, RpL.kp k r2⟩
end
section
variable {h h' : Hh} {n : Nat} {ds : List D} {xs : List AV} {v : AV}
theorem Rp.int {i : Int} : Rp h (.int i) (.int i) := by simp [Rp]
theorem Rp.str {i : List Nat} : Rp h (.str i) (.str i) := by simp [Rp]
theorem Rp.bl {i : Bool} : Rp h (.bl i) (.bl i) := by simp [Rp]
theorem Rp.non : Rp h .non .non := by simp [Rp]
theorem Rp.lst (e : h[n]? = some (.lst xs)) (r : RpL h ds xs) : Rp h (.lst ds) (.ref n) := by
  simp only [Rp]
  exact ⟨n, xs, rfl, e, r⟩
theorem Rp.tup (e : h[n]? = some (.tup xs)) (r : RpL h ds xs) : Rp h (.tup ds) (.ref n) := by
  simp only [Rp]
  exact ⟨n, xs, rfl, e, r⟩
theorem Rp.lst_inv (r : Rp h (.lst ds) v) : ∃ n xs, v = .ref n ∧ h[n]? = some (.lst xs) ∧ RpL h ds xs := by simpa only [Rp] using r
theorem Rp.tup_inv (r : Rp h (.tup ds) v) : ∃ n xs, v = .ref n ∧ h[n]? = some (.tup xs) ∧ RpL h ds xs := by simpa only [Rp] using r
theorem RpL.nil : RpL h [] [] := by simp [RpL]
theorem RpL.cons {d : D} {x : AV} (r : Rp h d x) (rs : RpL h ds xs) : RpL h (d :: ds) (x :: xs) := by
  simp only [RpL]
  exact ⟨x, xs, rfl, r, rs⟩
theorem RpL.cons_inv {d : D} (r : RpL h (d :: ds) xs) : ∃ y ys, xs = y :: ys ∧ Rp h d y ∧ RpL h ds ys := by simpa only [RpL] using r
theorem RpL.nil_inv (r : RpL h [] xs) : xs = [] := by simpa only [RpL] using r
theorem RpL.len : ∀ {ds : List D} {xs : List AV}, RpL h ds xs → xs.length = ds.length
  | [], _, r => by rw [r.nil_inv]; rfl
  | d :: ds, _, r => by
    obtain ⟨y, ys, rfl, _, rs⟩ := r.cons_inv
    rw [List.length_cons, List.length_cons, RpL.len rs]
theorem RpL.app : ∀ {ds es : List D} {xs ys : List AV}, RpL h ds xs → RpL h es ys → RpL h (ds ++ es) (xs ++ ys)
  | [], es, _, ys, r, r2 => by rw [r.nil_inv]; exact r2
  | d :: ds, es, _, ys, r, r2 => by
    obtain ⟨y, zs, rfl, q, rs⟩ := r.cons_inv
    exact RpL.cons q (RpL.app rs r2)
theorem RpL.get : ∀ {ds : List D} {xs : List AV} {i : Nat} {d : D}, RpL h ds xs → ds[i]? = some d → ∃ x, xs[i]? = some x ∧ Rp h d x
  | [], _, _, _, r, e => by simp at e
  | d :: ds, _, 0, _, r, e => by
    obtain ⟨y, zs, rfl, q, rs⟩ := r.cons_inv
    cases e
    exact ⟨y, rfl, q⟩
  | d :: ds, _, i + 1, _, r, e => by
    obtain ⟨y, zs, rfl, q, rs⟩ := r.cons_inv
    exact RpL.get (ds := ds) (xs := zs) (i := i) rs (by simpa using e)
end
mutual
def D.dep : D → Nat
  | .lst xs => D.deps xs + 1
  | .tup xs => D.deps xs + 1
  | _ => 0
def D.deps : List D → Nat
  | [] => 0
  | x :: xs => max (D.dep x) (D.deps xs)
end
mutual
theorem Rp.reify {h : Hh} : ∀ {d : D} {v : AV} {f : Nat}, Rp h d v → d.dep < f → reify f h v = some d
  | .non, _, f + 1, r, _ => by rw [show _ = AV.non from r]; rfl
  | .bl _, _, f + 1, r, _ => by rw [show _ = AV.bl _ from r]; rfl
  | .int _, _, f + 1, r, _ => by rw [show _ = AV.int _ from r]; rfl
  | .str _, _, f + 1, r, _ => by rw [show _ = AV.str _ from r]; rfl
  | .lst ds, _, f + 1, r, hf => by
    obtain ⟨n, xs, rfl, e, rs⟩ := r.lst_inv
    have hd : D.deps ds < f := by simp only [D.dep] at hf; omega
    show (match h[n]? with
      | some (.lst xs) => (mapO (Det.reify f h) xs).map D.lst
      | some (.rol xs) => (mapO (Det.reify f h) xs).map D.lst
      | some (.tup xs) => (mapO (Det.reify f h) xs).map D.tup
      | _ => none) = _
    rw [e]
    simp only [RpL.reify rs hd]
    rfl
  | .tup ds, _, f + 1, r, hf => by
    obtain ⟨n, xs, rfl, e, rs⟩ := r.tup_inv
    have hd : D.deps ds < f := by simp only [D.dep] at hf; omega
    show (match h[n]? with
      | some (.lst xs) => (mapO (Det.reify f h) xs).map D.lst
      | some (.rol xs) => (mapO (Det.reify f h) xs).map D.lst
      | some (.tup xs) => (mapO (Det.reify f h) xs).map D.tup
      | _ => none) = _
    rw [e]
    simp only [RpL.reify rs hd]
    rfl
theorem RpL.reify {h : Hh} : ∀ {ds : List D} {vs : List AV} {f : Nat}, RpL h ds vs → D.deps ds < f → mapO (reify f h) vs = some ds
  | [], _, _, r, _ => by rw [r.nil_inv]; rfl
  | d :: ds, _, f, r, hf => by
    obtain ⟨y, ys, rfl, r1, r2⟩ := r.cons_inv
    have h1 : d.dep < f := by simp only [D.deps] at hf; omega
    have h2 : D.deps ds < f := by simp only [D.deps] at hf; omega
    unfold mapO
    rw [Rp.reify r1 h1, RpL.reify r2 h2]
end
/-- == of data -/
theorem eqH_D {h : Hh} {d e : D} {v u : AV} (r1 : Rp h d v) (r2 : Rp h e u) (d1 : d.dep < 40) (d2 : e.dep < 40) (f1 : d.fine = true) (f2 : e.fine = true) (hs : (∃ n, v = .ref n) ∨ (∃ n, u = .ref n)) : eqH h v u = some (D.eqv d e) := by
  have key : (match Det.reify 40 h v, Det.reify 40 h u with
      | some d, some e => if (d.fine && e.fine) = true then some (D.eqv d e) else none
      | _, _ => none) = some (D.eqv d e) := by
    rw [r1.reify d1, r2.reify d2]
    simp only [f1, f2]
    rfl
  rcases hs with ⟨n, rfl⟩ | ⟨n, rfl⟩
  · exact key
  · cases v <;> exact key
mutual
theorem D.eqv_refl : ∀ d : D, D.eqv d d = true
  | .non => rfl
  | .bl b => by show (b == b) = true; simp
  | .int b => by show (b == b) = true; simp
  | .str b => by show (b == b) = true; simp
  | .lst xs => D.eqvs_refl xs
  | .tup xs => D.eqvs_refl xs
theorem D.eqvs_refl : ∀ d : List D, D.eqvs d d = true
  | [] => rfl
  | x :: xs => by
    show (D.eqv x x && D.eqvs xs xs) = true
    rw [D.eqv_refl x, D.eqvs_refl xs]
    rfl
end
def D.ty : D → Ty
  | .non => .non | .bl _ => .bool | .int _ => .int | .str _ => .str | .lst _ => .list | .tup _ => .tuple
theorem isTyD {h : Hh} : ∀ {d : D} {v : AV}, Rp h d v → tyOf h v = some d.ty
  | .non, v, r => by have e : v = AV.non := by simpa only [Rp] using r
                     subst e; rfl
  | .bl b, v, r => by have e : v = AV.bl b := by simpa only [Rp] using r
                      subst e; rfl
  | .int b, v, r => by have e : v = AV.int b := by simpa only [Rp] using r
                       subst e; rfl
  | .str b, v, r => by have e : v = AV.str b := by simpa only [Rp] using r
                       subst e; rfl
  | .lst ds, v, r => by obtain ⟨n, xs, rfl, e, _⟩ := r.lst_inv; simp [e, D.ty]
  | .tup ds, v, r => by obtain ⟨n, xs, rfl, e, _⟩ := r.tup_inv; simp [e, D.ty]
end Det

/-! Det15: more built-ins, methods, stores. -/
namespace Det
open PySem PySem.Spec PyProof.Rows L2
section
variable {X : Cx} {c : Ct} {W : WX} {ι : List Addr}
theorem calm_hh (hc : X.calm = true) : True := trivial
/-- list(..) of a list, a tuple or a text -/
def bListA : OpN := fun as h => match as with
  | [.str s] => if s.length ≤ LINE then some (.ref h.length, h ++ [.lst (s.map fun ch => .str [ch])]) else none
  | as => bList as h
theorem vals_signs {x : Str} {acc : Array Value} (h : ItemsOf (SignAt x) acc x.cps.size) : Vals ((x.cps.toList.map fun ch => V.str (mkS [ch]))) acc.toList := by
  have key : ∀ (cs : List Nat) (vs : List Value), vs.length = cs.length → (∀ (j : Nat) (v : Value), vs[j]? = some v → ∃ ch u, cs[j]? = some ch ∧ v = .str ⟨#[ch]⟩ u) → Vals (cs.map fun ch => V.str (mkS [ch])) vs := by
    intro cs
    induction cs with
    | nil =>
      intro vs hl _
      have : vs = [] := List.eq_nil_of_length_eq_zero hl
      subst this
      exact .nil
    | cons a r ih =>
      intro vs hl hj
      cases vs with
      | nil => cases hl
      | cons v vs =>
        refine .cons ?_ (ih vs (by simpa using hl) fun j w hw => by simpa using hj (j + 1) w (by simpa using hw))
        obtain ⟨ch, u, e1, rfl⟩ := hj 0 v rfl
        cases e1
        exact ⟨u, rfl⟩
  refine key _ _ (by simp [h.1]) fun j v hv => ?_
  obtain ⟨ch, u, e1, e2⟩ := h.2 j v (by simpa using hv)
  exact ⟨ch, u, by simpa using e1, e2⟩
theorem rvs_signs : ∀ s : List Nat, RVs c ι (s.map fun ch => AV.str [ch]) (s.map fun ch => V.str (mkS [ch]))
  | [] => .nil
  | a :: r => .cons rfl (rvs_signs r)
theorem dl_listA (hh : X.A.handled = none) : DCl X c (.type "list") bListA := dcl fun pins s σ H xs us Q ι as ah w ah' I r rh ra e q => by
  unfold bListA at e
  split at e
  · rename_i t
    split at e
    · rename_i hl
      cases e
      obtain ⟨x, rfl, rx⟩ := rvs1 ra
      cases rx
      obtain ⟨u, rfl, tk, rfl⟩ := vals1 r
      refine call_list_str hh (mkS t) tk (fun h' tk' acc' c' hk hS hacc => ?_) (by rw [size_mkS, line_eq]; exact hl)
      have hv := vals_signs hacc
      have et : (mkS t).cps.toList = t := mkS_cps t
      rw [et] at hv
      have hsz : ((t.map fun ch => V.str (mkS [ch]))).length ≤ sizeLine := by rw [List.length_map, line_eq]; exact hl
      refine ⟨.ref s.heap.objs.size, _, I.laid (t' := tk') hk (Nat.le_refl _) (show ObjOk X.prog X.w _ h' _ (.lst (t.map fun ch => V.str (mkS [ch]))) from ⟨hsz, acc'.toList, c', hv, by simpa using hS⟩), rfl, ?_⟩
      exact lay_lst rh (rvs_signs t) q _ (I.hok.fresh (Nat.le_refl _))
    · cases e
  · exact dl_list pins s σ H xs us Q I r ⟨ι, as, ah, w, ah', rh, ra, e, q⟩
end
@[simp] theorem listA_s {s : List Nat} {h : Hh} : bListA [.str s] h = if s.length ≤ LINE then some (.ref h.length, h ++ [.lst (s.map fun ch => .str [ch])]) else none := rfl
@[simp] theorem listA_ref {n : Nat} {h : Hh} : bListA [.ref n] h = match h[n]? with
    | some (.lst xs) => some (.ref h.length, h ++ [.lst xs])
    | some (.rol xs) => some (.ref h.length, h ++ [.lst xs])
    | some (.tup xs) => some (.ref h.length, h ++ [.lst xs])
    | _ => none := by
  show bList [.ref n] h = _
  unfold bList
  simp only [rdL_ref, rdT_ref]
  cases h[n]? with
  | none => rfl
  | some o => cases o <;> rfl
end Det

/-! Det16: while loops, data that stays. -/
namespace Det
open PySem PySem.Spec PyProof.Rows L2
theorem while_wp {t : Et} {body : Es} (I : Nat → Sl → Hh → Prop) {D : En}
    (hs : ∀ k sl h, I k sl h → Wp (t sl h) fun b h1 => if b = true then WpS (body sl h1) { nx := fun s h => ∃ k', k' < k ∧ I k' s h, ct := fun s h => ∃ k', k' < k ∧ I k' s h, bk := D.nx, rt := D.rt } else D.nx sl h1) :
    ∀ n k sl h, k < n → I k sl h → WpS (mWhile t body n sl h) D
  | 0, k, sl, h, hk, i => by omega
  | n + 1, k, sl, h, hk, i => by
    have w := hs k sl h i
    show WpS ((t sl h).bindS sl fun b h1 => if b = true then match body sl h1 with
      | .nx s h => mWhile t body n s h
      | .ct s h => mWhile t body n s h
      | .bk s h => .nx s h
      | .rt v h => .rt v h
      | .ex x s h => .ex x s h
      | .no => .no
    else .nx sl h1) D
    rw [wp_bindS]
    refine w.mono fun b h1 q => ?_
    cases b with
    | false => exact q
    | true =>
      rw [if_pos rfl] at q ⊢
      revert q
      cases body sl h1 with
      | nx s h => exact fun ⟨k', hk', i'⟩ => while_wp I hs n k' s h (by omega) i'
      | ct s h => exact fun ⟨k', hk', i'⟩ => while_wp I hs n k' s h (by omega) i'
      | bk s h => exact fun q => q
      | rt v h => exact fun q => q
      | ex x s h => exact fun q => q.elim
      | no => exact fun q => q.elim
@[simp] theorem wp_while {t : Et} {body : Es} {n : Nat} {sl : Sl} {h : Hh} {D : En} : WpS (mWhile t body n sl h) D ↔ WpS (mWhile t body n sl h) D := Iff.rfl
mutual
/-- no lists in it -/
def D.noL : D → Bool
  | .lst _ => false
  | .tup xs => D.noLs xs
  | _ => true
def D.noLs : List D → Bool
  | [] => true
  | x :: xs => D.noL x && D.noLs xs
end
def KpT (h h' : Hh) : Prop := ∀ (m : Nat) (xs : List AV), h[m]? = some (.tup xs) → h'[m]? = some (.tup xs)
mutual
theorem Rp.kpT {h h' : Hh} (k : KpT h h') : ∀ {d : D} {v : AV}, d.noL = true → Rp h d v → Rp h' d v
  | .non, _, _, r => r
  | .bl _, _, _, r => r
  | .int _, _, _, r => r
  | .str _, _, _, r => r
  | .lst ds, _, hn, r => by cases hn
  | .tup ds, _, hn, r => by
    obtain ⟨n, xs, rfl, e, rs⟩ := r.tup_inv
    exact Rp.tup (k _ _ e) (RpL.kpT k hn rs)
theorem RpL.kpT {h h' : Hh} (k : KpT h h') : ∀ {ds : List D} {vs : List AV}, D.noLs ds = true → RpL h ds vs → RpL h' ds vs
  | [], _, _, r => r
  | d :: ds, _, hn, r => by
    obtain ⟨y, ys, rfl, r1, r2⟩ := r.cons_inv
    have hn' : (d.noL && D.noLs ds) = true := hn
    rw [Bool.and_eq_true] at hn'
    exact RpL.cons (Rp.kpT k hn'.1 r1) (RpL.kpT k hn'.2 r2)
end
theorem KpT.of {h h' : Hh} (k : Kp [] h h') : KpT h h' := fun m xs e => k.get0 e
theorem KpT.trans {h h1 h2 : Hh} (a : KpT h h1) (b : KpT h1 h2) : KpT h h2 := fun m xs e => b m xs (a m xs e)
theorem KpT.set {h : Hh} {n : Nat} {xs : List AV} {o : AO} (e : h[n]? = some (.lst xs)) : KpT h (h.set n o) := fun m ys em => by
  have : n ≠ m := fun z => by subst z; rw [e] at em; cases em
  rw [get_set_ne this]
  exact em
/-- a kept heap, but for one list -/
theorem KpT.of1 {h h' : Hh} {b : Nat} {xs : List AV} (k : Kp [b] h h') (e : h[b]? = some (.lst xs)) : KpT h h' := fun m ys em => by
  refine k.get em fun z => ?_
  simp only [List.mem_cons, List.not_mem_nil, or_false] at z
  subst z
  rw [e] at em
  cases em
theorem noLs_app : ∀ {a b : List D}, D.noLs a = true → D.noLs b = true → D.noLs (a ++ b) = true
  | [], _, _, h => h
  | x :: a, b, h, h2 => by
    have h' : (x.noL && D.noLs a) = true := h
    rw [Bool.and_eq_true] at h'
    show (x.noL && D.noLs (a ++ b)) = true
    rw [h'.1, noLs_app h'.2 h2]
    rfl
/-- a pair of ints -/
def pD (p : Nat × Nat) : D := .tup [.int (p.1 : Nat), .int (p.2 : Nat)]
theorem noL_pD : ∀ l : List (Nat × Nat), D.noLs (l.map pD) = true
  | [] => rfl
  | p :: l => by
    show ((pD p).noL && D.noLs (l.map pD)) = true
    rw [noL_pD l]
    rfl
end Det
namespace Det
open PySem PySem.Spec PyProof.Rows L2
mutual
/-- no list longer than a million -/
def D.lim : D → Bool
  | .lst xs => decide (xs.length ≤ 1000000) && D.lims xs
  | .tup xs => decide (xs.length ≤ 1000000) && D.lims xs
  | _ => true
def D.lims : List D → Bool
  | [] => true
  | x :: xs => D.lim x && D.lims xs
end
theorem lim_lst {xs : List D} (h : D.lim (.lst xs) = true) : xs.length ≤ 1000000 ∧ D.lims xs = true := by
  have h' : (decide (xs.length ≤ 1000000) && D.lims xs) = true := h
  rw [Bool.and_eq_true, decide_eq_true_eq] at h'
  exact h'
theorem lim_tup {xs : List D} (h : D.lim (.tup xs) = true) : xs.length ≤ 1000000 ∧ D.lims xs = true := by
  have h' : (decide (xs.length ≤ 1000000) && D.lims xs) = true := h
  rw [Bool.and_eq_true, decide_eq_true_eq] at h'
  exact h'
theorem lims_cons {x : D} {xs : List D} (h : D.lims (x :: xs) = true) : D.lim x = true ∧ D.lims xs = true := by
  have h' : (D.lim x && D.lims xs) = true := h
  rw [Bool.and_eq_true] at h'
  exact h'
theorem lims_mk : ∀ {xs : List D}, (∀ x ∈ xs, D.lim x = true) → D.lims xs = true
  | [], _ => rfl
  | x :: xs, h => by
    show (D.lim x && D.lims xs) = true
    rw [h x List.mem_cons_self, lims_mk fun y hy => h y (List.mem_cons_of_mem _ hy)]
    rfl
theorem deps_mk {n : Nat} : ∀ {xs : List D}, (∀ x ∈ xs, x.dep ≤ n) → D.deps xs ≤ n
  | [], _ => Nat.zero_le _
  | x :: xs, h => by
    show max x.dep (D.deps xs) ≤ n
    have h1 := h x List.mem_cons_self
    have h2 := deps_mk (xs := xs) fun y hy => h y (List.mem_cons_of_mem _ hy)
    omega
theorem fines_mk : ∀ {xs : List D}, (∀ x ∈ xs, x.fine = true) → D.fines xs = true
  | [], _ => rfl
  | x :: xs, h => by
    show (D.fine x && D.fines xs) = true
    rw [h x List.mem_cons_self, fines_mk fun y hy => h y (List.mem_cons_of_mem _ hy)]
    rfl
theorem blsOf_true (k : Nat) : blsOf (List.replicate k (.bl true)) = some (List.replicate k true) := by
  induction k with
  | zero => rfl
  | succ k ih =>
    rw [List.replicate_succ, List.replicate_succ]
    show (blsOf (List.replicate k (.bl true))).map (fun l => true :: l) = _
    rw [ih]
    rfl
theorem all_true {h : Hh} {n k : Nat} (e : h[n]? = some (.lst (List.replicate k (.bl true)))) : bAll [.ref n] h = some (.bl true, h) := by
  show (match (rdL h (.ref n)).bind blsOf with
    | some ns => some (AV.bl (ns.all id), h)
    | none => none) = _
  simp only [rdL_ref, e, Option.bind_some, blsOf_true]
  simp
/-- zip's pairs of two lists of the same data -/
theorem zip_loop {h0 : Hh} {slw : Sl} {iv jv : Nat} {f : Fn} {cs : List (Bool × AV × List AV)} {ds : List D} (hl : ds.length ≤ 1000000)
    (hcs : ∀ h, Kp [] h0 h → chkOk cs h = true)
    (hi : ∀ v u, (((slw.set iv (some v)).set jv u)[iv]?) = some (some v)) (hj : ∀ v u, (((slw.set iv v).set jv (some u))[jv]?) = some (some u))
    (hf : ∀ d ∈ ds, ∀ h v u, Kp [] h0 h → Rp h d v → Rp h d u → Wp (f [v, u] h) fun r h' => r = .bl true ∧ Kp [] h h') :
    ∀ {xs ys : List AV}, RpL h0 ds xs → RpL h0 ds ys → Wp (loopC cs slw h0.length (mGt [mGn iv, mGn jv]) mYes (mCall f (mCons (mVar iv) (mCons (mVar jv) mNil))) (zipIt xs ys) (h0 ++ [.lst []])) fun v h' => v = .ref h0.length ∧ h'[h0.length]? = some (.lst (List.replicate ds.length (.bl true))) ∧ Kp [] h0 h' := by
  intro xs ys rx ry
  refine loopC_wp (fun its h => ∃ (k : Nat) (rest : List D) (xs ys : List AV), its = zipIt xs ys ∧ RpL h0 rest xs ∧ RpL h0 rest ys ∧ k + rest.length = ds.length ∧ (∀ d ∈ rest, d ∈ ds) ∧ h[h0.length]? = some (.lst (List.replicate k (.bl true))) ∧ Kp [] h0 h) ?_ ?_ ?_ _ _ ⟨0, ds, xs, ys, rfl, rx, ry, by omega, fun d h => h, get_new _ _, Kp.rfl'.app _⟩
  · rintro its h ⟨_, _, _, _, _, _, _, _, _, _, kp⟩
    exact hcs h kp
  · rintro h ⟨k, rest, xs, ys, hit, r1, r2, hk, _, e, kp⟩
    cases rest with
    | nil =>
      simp at hk
      rw [hk] at e
      exact ⟨rfl, e, kp⟩
    | cons d rest =>
      obtain ⟨x, xs, rfl, _, _⟩ := r1.cons_inv
      obtain ⟨y, ys, rfl, _, _⟩ := r2.cons_inv
      cases hit
  · rintro it r h ⟨k, rest, xs, ys, hit, r1, r2, hk, hm, e, kp⟩
    cases rest with
    | nil =>
      have := r1.nil_inv
      subst this
      cases ys <;> cases hit
    | cons d rest =>
      obtain ⟨x, xs, rfl, q1, r1⟩ := r1.cons_inv
      obtain ⟨y, ys, rfl, q2, r2⟩ := r2.cons_inv
      have hit' : it :: r = [x, y] :: zipIt xs ys := hit
      obtain ⟨rfl, rfl⟩ := List.cons.inj hit'
      rw [List.length_cons] at hk
      refine ⟨_, _, rfl, ?_⟩
      rw [wp_yes, if_pos rfl, wp_call, wp_cons, wp_var (hi _ _), wp_cons, wp_var (hj _ _), wp_nil]
      refine (hf d (hm d List.mem_cons_self) h x y kp (q1.kp kp) (q2.kp kp)).mono fun v h2 ⟨ev, kp2⟩ => ?_
      subst ev
      have e2 := kp2.get0 e
      refine ⟨_, e2, by rw [List.length_replicate]; exact Nat.lt_of_le_of_lt (show k ≤ 1000000 by omega) (by decide), k + 1, rest, xs, ys, rfl, r1, r2, by omega, fun d hd => hm d (List.mem_cons_of_mem _ hd), ?_, (kp.trans0 kp2).set (.inr (Nat.le_refl _)) _⟩
      rw [get_set_eq e2, ← List.replicate_succ']
end Det

/-! Det17: index of a sign, turned lists, stores with an operator into an item, sorted ints. -/
namespace Det
open PySem PySem.Spec PyProof.Rows L2
section
variable {X : Cx} {c : Ct} {W : WX} {ι : List Addr}
/-- text.index(sign) -/
def mSIndex : OpM := fun x as h => match x, as with
  | .str s, [.str [ch]] => match s.findIdx? (fun d => d == ch) with
    | some i => some (.int (i : Nat), h)
    | none => none
  | _, _ => none
theorem at_one {s : List Nat} {ch i : Nat} : StrLaws.At (mkS s) (mkS [ch]) (mkS s).length i ↔ s[i]? = some ch := by
  unfold StrLaws.At Builtin.Str.subAt
  rw [mkS_len, mkS_len]
  simp only [mkS, List.length_cons, List.length_nil, Nat.zero_add, beq_iff_eq]
  constructor
  · rintro ⟨h1, h2⟩
    have h3 := congrArg Array.toList h2
    simp only [Array.toList_extract, List.extract_eq_drop_take] at h3
    have h4 := congrArg (fun l : List Nat => l[0]?) h3
    simpa [List.getElem?_take, List.getElem?_drop] using h4
  · intro h
    have hi := (List.getElem?_eq_some_iff.mp h).1
    refine ⟨by omega, ?_⟩
    apply Array.toList_inj.mp
    simp only [Array.toList_extract, List.extract_eq_drop_take]
    have e := (List.getElem?_eq_some_iff.mp h).2
    rw [show i + 1 - i = 1 by omega, List.drop_eq_getElem_cons hi, e]
    rfl
theorem index_occ {s : List Nat} {ch i : Nat} (h : s.findIdx? (fun d => d == ch) = some i) : ∃ rest, Builtin.Str.occurrences (mkS s) (mkS [ch]) 0 (mkS s).length 1 = i :: rest := by
  rw [List.findIdx?_eq_some_iff_getElem] at h
  obtain ⟨hi, e, hn⟩ := h
  have e' : s[i]? = some ch := by
    rw [List.getElem?_eq_getElem hi]
    simpa using e
  rcases StrLaws.occ_head (mkS s) (mkS [ch]) 1 (Nat.le_refl _) with ⟨_, h2⟩ | ⟨j, r, h1, h2, h3⟩
  · exact absurd (at_one.mpr e') (h2 i)
  · have hj := at_one.mp h2
    have : j = i := by
      rcases Nat.lt_trichotomy i j with q | q | q
      · exact absurd (at_one.mpr e') (h3 i q)
      · exact q.symm
      · have := hn j q
        have hjl := (List.getElem?_eq_some_iff.mp hj)
        obtain ⟨hjl, ej⟩ := hjl
        rw [ej] at this
        simp at this
    subst this
    exact ⟨r, h1⟩
theorem dm_sindex : DMt X c "str.index" mSIndex := dmt fun pins s σ H x xs v us Q ι a as ah w ah' I rx r rh ra rs e q => by
  unfold mSIndex at e
  split at e
  · rename_i t ch
    split at e
    · rename_i i hi
      cases e
      cases ra
      obtain ⟨y, rfl, ry⟩ := rvs1 rs
      cases ry
      obtain ⟨rest, ho⟩ := index_occ hi
      exact mt_sindex pins s σ H _ _ v us Q I rx r ⟨mkS t, mkS [ch], i, rest, rfl, rfl, ho, q ι H _ (Ext.refl _ _) rh rfl⟩
    · cases e
  · cases e
/-- xs[::-1] -/
def mRevL (m : Ev) : Ev := fun sl h => (m sl h).bind fun x h1 => match rdL h1 x with
  | some xs => .ok (.ref h1.length) (h1 ++ [.lst xs.reverse])
  | none => .no
theorem de_revL {e : Expr} {m : Ev} {k : Nat} {p1 p2 p3 pos : Pos} (he : DE X c W e m) : DE X c W (.Subscript e (.Slice none none (some (.UnaryOp .USub (.Constant (.int 1) k p1) p2)) p3) pos) (mRevL m) :=
  pe_imp (pe_revL he) fun σ H Q ⟨ι, sl, ah, rh, S, p⟩ => ⟨ι, sl, ah, rh, S, Post.step p fun x H1 ι1 v ah1 e1 r1 rv p1 => by
    split at p1
    · rename_i xs hx
      obtain ⟨a, vs, rfl, s1, rl⟩ := rdL_ok r1 hx rv
      exact ⟨a, vs, rfl, s1, lay_lst r1 (Paired.rev rl) p1⟩
    · exact p1.elim⟩
/-- o[i] op= e -/
def mAugS (fo : Op2) (mo mi me : Ev) : Es := fun sl h => (mo sl h).bindS sl fun o h1 => (mi sl h1).bindS sl fun i h2 => (R.of (opIx o i h2)).bindS sl fun x h3 => (me sl h3).bindS sl fun y h4 => (R.of (fo x y h4)).bindS sl fun z h5 => match opSet o i z h5 with
  | some h6 => .nx sl h6
  | none => .no
end
@[simp] theorem sindex_at {s : List Nat} {ch : Nat} {h : Hh} : mSIndex (.str s) [.str [ch]] h = match s.findIdx? (fun d => d == ch) with
    | some i => some (.int (i : Nat), h)
    | none => none := rfl
end Det

/-! Det18: dict displays, the empty state. -/
namespace Det
open PySem PySem.Spec PyProof.Rows L2
def mDict0 : Ev := fun _ h => .ok (.ref h.length) (h ++ [.dic []])
def mPairs : List (Ev × Ev) → Sl → Hh → R (List (AV × AV))
  | [], _, h => .ok [] h
  | (mk, mv) :: r, sl, h => (mk sl h).bind fun x h1 => (mv sl h1).bind fun y h2 => (mPairs r sl h2).bind fun ps h3 => .ok ((x, y) :: ps) h3
def keyed (p : AV × AV) : Option (AKey × AV) := (keyOf p.1).map fun k => (k, p.2)
def mergeA (l : List (AKey × AV)) : List (AKey × AV) := l.foldl (fun a p => putA a p.1 p.2) []
def mDisp (ps : List (Ev × Ev)) : Ev := fun sl h => (mPairs ps sl (h ++ [.dic []])).bind fun kvs h1 => match mapO keyed kvs with
  | some l => if l.length ≤ 15 ∧ h1[h.length]? = some (.dic []) then .ok (.ref h.length) (h1.set h.length (.dic (mergeA l))) else .no
  | none => .no
section
variable {X : Cx} {c : Ct} {W : WX} {K : PySem.W.Frag}
theorem de_dict0 {pos : Pos} : DE X c W (.Dict [] [] pos) mDict0 := pe_imp pe_dnewK fun σ H Q ⟨ι, sl, ah, rh, S, p⟩ => fun a ha =>
  p (ι ++ [a]) _ (.ref a) (Ext.lay ha) (rh.lay ha ⟨[], .nil, upd_same⟩) ⟨a, by rw [← rh.len]; simp, rfl⟩
def RPr (c : Ct) (ι : List Addr) : List (AV × AV) → List (V × V) → Prop := Paired fun p q => RV c ι p.1 q.1 ∧ RV c ι p.2 q.2
def tDp (K : PySem.W.Frag) (c : Ct) (W : WX) (m : Sl → Hh → R (List (AV × AV))) : L2.St → Hp → (List (V × V) → Hp → Prop) → Prop := fun σ H Q => ∃ ι sl ah, RelH K c ι ah H ∧ RS c ι sl σ ∧ Post K c W σ H ι (RPr c) (m sl ah) Q
theorem pairs_imp {X : Cx} {c : Ct} {W : WX} : ∀ {ms : List (Ev × Ev)} {σ : L2.St} {H : Hp} {Q : List (V × V) → Hp → Prop}, tDp X.K c W (mPairs ms) σ H Q → tPairs (ms.map fun m => (tD X.K c W m.1, tD X.K c W m.2)) σ H Q
  | [], σ, H, Q, ⟨ι, sl, ah, rh, S, p⟩ => p ι H [] (Ext.refl _ _) rh .nil
  | (mk, mv) :: r, σ, H, Q, ⟨ι, sl, ah, rh, S, p⟩ => by
    refine ⟨ι, sl, ah, rh, S, Post.step (show Post X.K c W σ H ι (RPr c) ((mk sl ah).bind _) Q from p) fun x H1 ι1 a ah1 e1 r1 ra p1 => ?_⟩
    refine ⟨ι1, sl, ah1, r1, S.ext e1, Post.step p1 fun y H2 ι2 b ah2 e2 r2 rb p2 => ?_⟩
    refine pairs_imp (ms := r) ⟨ι2, sl, ah2, r2, (S.ext e1).ext e2, Post.step p2 fun ps H3 ι3 qs ah3 e3 r3 rs p3 => ?_⟩
    exact p3 ι3 H3 _ (Ext.refl _ _) r3 (.cons ⟨(ra.ext e2).ext e3, rb.ext e3⟩ rs)
theorem keyed_ok {c : Ct} {ι : List Addr} : ∀ {kvs : List (AV × AV)} {ps : List (V × V)} {l : List (AKey × AV)}, mapO keyed kvs = some l → RPr c ι kvs ps → ∃ vs : List (Key × V), ps = vs.map (fun kv => (kV kv.1, kv.2)) ∧ RKV c ι l vs
  | [], _, _, e, .nil => by cases e; exact ⟨[], rfl, .nil⟩
  | (a, b) :: r, (x, y) :: ps, l, e, .cons ⟨ra, rb⟩ t => by
    unfold mapO at e
    split at e
    · rename_i k ks e1 e2
      cases e
      obtain ⟨vs, rfl, rv⟩ := keyed_ok e2 t
      unfold keyed at e1
      obtain ⟨q, hq, rfl⟩ := Option.map_eq_some_iff.mp e1
      have := keyOf_ok hq ra
      subst this
      exact ⟨(kk q, y) :: vs, rfl, .cons ⟨rfl, rb⟩ rv⟩
    · cases e
theorem merge_ok {c : Ct} {ι : List Addr} {l : List (AKey × AV)} {vs : List (Key × V)} (r : RKV c ι l vs) : RKV c ι (mergeA l) (mergeK [] vs) := by
  unfold mergeA mergeK
  have : ∀ {l : List (AKey × AV)} {vs : List (Key × V)}, RKV c ι l vs → ∀ {a : List (AKey × AV)} {b : List (Key × V)}, RKV c ι a b → RKV c ι (l.foldl (fun a p => putA a p.1 p.2) a) (vs.foldl (fun acc kv => putK acc kv.1 kv.2) b) := by
    intro l vs r
    induction r with
    | nil => intro a b q; exact q
    | @cons p q ps qs h t ih =>
      intro a b r0
      have := putA_ok (k := p.1) r0 h.2
      rw [← h.1] at this
      exact ih this
  exact this r .nil
theorem disp_imp {ms : List (Ev × Ev)} {σ : L2.St} {H : Hp} {Q : VK} (h : tD X.K c W (mDisp ms) σ H Q) : tDisp (ms.map fun m => (tD X.K c W m.1, tD X.K c W m.2)) σ H Q := by
  obtain ⟨ι, sl, ah, rh, S, p⟩ := h
  intro a ha
  have r2 : RelH X.K c (ι ++ [a]) (ah ++ [.dic []]) (upd H a (.dK [])) := rh.lay ha ⟨[], .nil, upd_same⟩
  have p2 := Post.shift (show Post X.K c W σ H ι (RV c) ((mPairs ms sl (ah ++ [.dic []])).bind _) Q from p) (Ext.lay (u := .dK []) ha) r2
  refine pairs_imp ⟨ι ++ [a], sl, _, r2, S.ext (Ext.lay (u := .dK []) ha), Post.step p2 fun ps H2 ι2 kvs ah2 e2 r3 rp p3 => ?_⟩
  split at p3
  · rename_i l hl
    split at p3
    · rename_i hc
      obtain ⟨vs, rfl, rv⟩ := keyed_ok hl rp
      have han : (ι ++ [a])[ah.length]? = some a := by rw [← rh.len]; simp
      have ha2 : ι2[ah.length]? = some a := by
        obtain ⟨r, e⟩ := e2.pre'
        rw [e]; exact getElem?_pre han
      obtain ⟨b, hb, ws, rw', hw⟩ := r3.obj _ _ hc.2
      rw [ha2] at hb
      cases hb
      have hws : ws = [] := by cases rw'; rfl
      subst hws
      refine ⟨hw, vs, rfl, by rw [← Paired.length rv]; exact hc.1, ?_⟩
      have rset : RelH X.K c ι2 (ah2.set ah.length (.dic (mergeA l))) (upd H2 a (.dK (mergeK [] vs))) := r3.set hc.2 rfl rfl ha2 ⟨_, merge_ok rv, upd_same⟩
      exact p3 ι2 _ (.ref a) (Ext.set ha2) rset ⟨a, ha2, rfl⟩
    · exact p3.elim
  · exact p3.elim
/-- the pairs of a display -/
def DPs (X : Cx) (c : Ct) (W : WX) (pos : Pos) (keys : List (Option Expr)) (values : List Expr) (ms : List (Ev × Ev)) : Prop := PPs X pos keys values (ms.map fun m => (tD X.K c W m.1, tD X.K c W m.2))
theorem dps_nil {pos : Pos} : DPs X c W pos [] [] [] := pps_nil
theorem dps_cons {pos : Pos} {k v : Expr} {ks : List (Option Expr)} {vs : List Expr} {mk mv : Ev} {ms : List (Ev × Ev)} (hk : DE X c W k mk) (hv : DE X c W v mv) (hr : DPs X c W pos ks vs ms) : DPs X c W pos (some k :: ks) (v :: vs) ((mk, mv) :: ms) := pps_cons hk hv hr
theorem de_disp {pos : Pos} {keys : List (Option Expr)} {values : List Expr} {ms : List (Ev × Ev)} (h : DPs X c W pos keys values ms) (hall : keys.all (·.isSome) = true := by rfl) (hl : keys.length = values.length := by rfl) (h0 : keys ≠ [] := by exact List.cons_ne_nil _ _) (h15 : keys.length ≤ 15 := by decide) : DE X c W (.Dict keys values pos) (mDisp ms) :=
  pe_imp (pe_disp h hall hl h0 h15) fun _ _ _ q => disp_imp q
end
/-- == with the module's empty state -/
theorem eq_emp {h : Hh} {d : D} {n : Nat} (r : Rp h d (.ref n)) (d1 : d.dep < 40) (f1 : d.fine = true) : eqH h (.ref n) (.con .empty) = some (D.eqv d (.tup [.str [], .int 0])) := by
  have e1 : Det.reify 40 h (.con .empty) = some (.tup [.str [], .int 0]) := rfl
  show (match Det.reify 40 h (.ref n), Det.reify 40 h (.con .empty) with
      | some d, some e => if (d.fine && e.fine) = true then some (D.eqv d e) else none
      | _, _ => none) = _
  rw [r.reify d1, e1]
  have f2 : D.fine (.tup [.str [], .int 0]) = true := rfl
  simp only [f1, f2]
  rfl
/-! ### a, b, c = x, constant, constant -/
section
variable {X : Cx} {c : Ct} {W : WX}
def mPar3 (i j l : Nat) (ma mb mc : Ev) : Es := fun sl h => (ma sl h).bindS sl fun v h1 => (mb sl h1).bindS sl fun w h2 => (mc sl h2).bindS sl fun u h3 => .nx (((sl.set i (some v)).set j (some w)).set l (some u)) h3
theorem ds_par3 {i j l : Nat} {x y z : Str} {a b d : Expr} {ma mb mc : Ev} {px py pz pt : Pos} {kt k2 pt2} {pos : Pos} (hc : X.calm = true) (hN : X.N.Nodup) (hi : X.N[i]? = some x) (hj : X.N[j]? = some y) (hl : X.N[l]? = some z) (hij : i ≠ j) (hil : i ≠ l) (hjl : j ≠ l)
    (hx : X.env.scope.names.lookup x = some .local) (hy : X.env.scope.names.lookup y = some .local) (hz : X.env.scope.names.lookup z = some .local) (ha : DE X c W a ma) (hb : DE X c W b mb) (hd : DE X c W d mc)
    (hw : swappedStores [.Tuple [.Name x px, .Name y py, .Name z pz] kt pt] (.Tuple [a, b, d] k2 pt2) X.env = pure (some [x, y, z]))
    (hs : swapsWithSole [.Tuple [.Name x px, .Name y py, .Name z pz] kt pt] (.Tuple [a, b, d] k2 pt2) pos.line X.env = pure false := by rfl)
    (hs1 : starEach [a, b, d] X.env = (false, eval a X.env) :: starEach [b, d] X.env := by rfl) (hs2 : starEach [b, d] X.env = (false, eval b X.env) :: starEach [d] X.env := by rfl) (hs3 : starEach [d] X.env = (false, eval d X.env) :: starEach [] X.env := by rfl) :
    DS X c W (.Assign [.Tuple [.Name x px, .Name y py, .Name z pz] kt pt] (.Tuple [a, b, d] k2 pt2) pos) (mPar3 i j l ma mb mc) :=
  ps_imp (ps_par3 hc hN hi hj hl hij hil hjl hx hy hz (pa_cons ha (pa_cons hb (pa_cons hd pa_nil hs3) hs2) hs1) hw hs) fun D σ H ⟨ι, sl, ah, rh, S, p⟩ => ⟨ι, sl, ah, rh, S, PostS.step S p fun x H1 ι1 a ah1 e1 r1 ra S1 p1 =>
    ⟨ι1, sl, ah1, r1, S1, PostS.step S1 p1 fun y H2 ι2 b ah2 e2 r2 rb S2 p2 => ⟨ι2, sl, ah2, r2, S2, PostS.step S2 p2 fun z H3 ι3 d ah3 e3 r3 rd S3 p3 => ⟨_, _, _, rfl, p3.nx r3 (((S3.set ((ra.ext e2).ext e3) i).set (rb.ext e3) j).set rd l)⟩⟩⟩⟩
theorem par3c {i j l : Nat} {ma : Ev} {u v : AV} : mPar3 i j l ma (mC u) (mC v) = mSeq (mSet i ma) (mSeq (mSet j (mC u)) (mSet l (mC v))) := by
  funext sl h
  unfold mPar3 mSeq mSet
  cases ma sl h <;> rfl
theorem ds_par3c {i j l : Nat} {x y z : Str} {a b d : Expr} {ma : Ev} {u v : AV} {px py pz pt : Pos} {kt k2 pt2} {pos : Pos} (hc : X.calm = true) (hN : X.N.Nodup) (hi : X.N[i]? = some x) (hj : X.N[j]? = some y) (hl : X.N[l]? = some z) (hij : i ≠ j) (hil : i ≠ l) (hjl : j ≠ l)
    (hx : X.env.scope.names.lookup x = some .local) (hy : X.env.scope.names.lookup y = some .local) (hz : X.env.scope.names.lookup z = some .local) (ha : DE X c W a ma) (hb : DE X c W b (mC u)) (hd : DE X c W d (mC v))
    (hw : swappedStores [.Tuple [.Name x px, .Name y py, .Name z pz] kt pt] (.Tuple [a, b, d] k2 pt2) X.env = pure (some [x, y, z]))
    (hs : swapsWithSole [.Tuple [.Name x px, .Name y py, .Name z pz] kt pt] (.Tuple [a, b, d] k2 pt2) pos.line X.env = pure false := by rfl)
    (hs1 : starEach [a, b, d] X.env = (false, eval a X.env) :: starEach [b, d] X.env := by rfl) (hs2 : starEach [b, d] X.env = (false, eval b X.env) :: starEach [d] X.env := by rfl) (hs3 : starEach [d] X.env = (false, eval d X.env) :: starEach [] X.env := by rfl) :
    DS X c W (.Assign [.Tuple [.Name x px, .Name y py, .Name z pz] kt pt] (.Tuple [a, b, d] k2 pt2) pos) (mSeq (mSet i ma) (mSeq (mSet j (mC u)) (mSet l (mC v)))) := par3c ▸ ds_par3 hc hN hi hj hl hij hil hjl hx hy hz ha hb hd hw hs hs1 hs2 hs3
end
end Det

/-! Det19: replace of written texts (a token is out when a def's body begins). -/
namespace Det
open PySem PySem.Spec PyProof.Rows L2
abbrev DET (X : Cx) (c : Ct) (W : WX) (e : Expr) (m : Ev) : Prop := PET X e (tD X.K c W m)
abbrev DAT (X : Cx) (c : Ct) (W : WX) (es : List Expr) (m : Ea) : Prop := PAT X es (tDa X.K c W m)
abbrev DST (X : Cx) (c : Ct) (W : WX) (st : Stmt) (m : Es) : Prop := PST X st (tDs X.K c W m)
abbrev DSsT (X : Cx) (c : Ct) (W : WX) (st : List Stmt) (m : Es) : Prop := PSsT X st (tDs X.K c W m)
theorem pet_imp {X : Cx} {e : Expr} {t t' : TE} (h : PET X e t) (k : ∀ σ H Q, t' σ H Q → t σ H Q) : PET X e t' := fun pins s σ H Q h0 I q => h pins s σ H Q h0 I (k σ H Q q)
theorem pat_imp {X : Cx} {e : List Expr} {t t' : TA} (h : PAT X e t) (k : ∀ σ H Q, t' σ H Q → t σ H Q) : PAT X e t' := fun po pins s σ H Q h0 I q => h po pins s σ H Q h0 I (k σ H Q q)
theorem pst_imp {X : Cx} {e : Stmt} {t t' : TS} (h : PST X e t) (k : ∀ D σ H, t' D σ H → t D σ H) : PST X e t' := fun pins s σ H D h0 I q => h pins s σ H D h0 I (k D σ H q)
theorem psst_imp {X : Cx} {e : List Stmt} {t t' : TS} (h : PSsT X e t) (k : ∀ D σ H, t' D σ H → t D σ H) : PSsT X e t' := fun pins s σ H D h0 I q => h pins s σ H D h0 I (k D σ H q)
/-- x.replace(y, z), y and z written -/
def opRepl (y z : List Nat) : Op1 := fun v h => match v with
  | .str s => if s.length ≤ 1000000 ∧ z.length ≤ 10 then some (.str (StrLaws.replL y z s), h) else none
  | _ => none
section
variable {X : Cx} {c : Ct} {W : WX} {o e : Expr} {es : List Expr} {mo me ma : Ev} {mr : Ea} {j k : Nat} {c0 c1 apos pos : Pos}
theorem det_of (h : DE X c W e me) : DET X c W e me := CwR.PET.of h
theorem dat_of (h : DA X c W es mr) : DAT X c W es mr := fun pos pins s σ H Q _ I q => h.run pos pins s σ H Q I q
theorem repl_mk {s : List Nat} {ys zs : Str} (hy : ys.cps.toList ≠ []) : Txt.replace (mkS s) ys zs = mkS (StrLaws.replL ys.cps.toList zs.cps.toList s) := by
  have hl : 1 ≤ ys.length := by
    have : ys.cps.toList.length = ys.length := by simp [Str.length]
    have h2 := List.length_pos_iff.mpr hy
    omega
  have := StrLaws.replace_list (x := mkS s) (y := ys) (z := zs) hl
  rw [← mkS_tl (Txt.replace (mkS s) ys zs), this]
  simp [mkS]
theorem det_repl (y z : List Nat) {ys zs : Str} (ho : DE X c W o mo) (hy : ys.cps.toList = y := by decide +kernel) (hz : zs.cps.toList = z := by decide +kernel) (hne : y ≠ [] := by decide) (hyz : (ys == zs) = false := by decide)
    (hst : starEach [.Constant (.str ys) j c0, .Constant (.str zs) k c1] X.env = [(false, eval (.Constant (.str ys) j c0) X.env), (false, eval (.Constant (.str zs) k c1) X.env)] := by rfl)
    (hbase : attributeBase o "replace" X.env (eval o X.env) = eval o X.env := by rfl) (hline : (apos.endLine == pos.line) = true := by rfl) :
    DET X c W (.Call (.Attribute o "replace" apos) [.Constant (.str ys) j c0, .Constant (.str zs) k c1] [] pos) (mUn (opRepl y z) mo) :=
  pet_imp (CwR.pet_replC ho hyz hst hbase hline) fun σ H Q ⟨ι, sl, ah, rh, S, p⟩ => ⟨ι, sl, ah, rh, S, Post.step p fun x H1 ι1 v ah1 e1 r1 rv p1 => by
    subst hy hz
    cases v with
    | str s =>
      cases rv
      by_cases hl : s.length ≤ 1000000 ∧ zs.cps.toList.length ≤ 10
      · have e : opRepl ys.cps.toList zs.cps.toList (.str s) ah1 = some (.str (StrLaws.replL ys.cps.toList zs.cps.toList s), ah1) := if_pos hl
        rw [e] at p1
        have hzl : zs.length = zs.cps.toList.length := by simp [Str.length]
        refine ⟨mkS s, rfl, ?_, ?_⟩
        · rw [mkS_len, hzl]
          have h2 : (s.length + 1) * zs.cps.toList.length ≤ (1000000 + 1) * 10 := Nat.mul_le_mul (by omega) hl.2
          omega
        · rw [repl_mk hne]
          exact p1 ι1 H1 _ (Ext.refl _ _) r1 rfl
      · have e : opRepl ys.cps.toList zs.cps.toList (.str s) ah1 = none := if_neg hl
        rw [e] at p1
        exact p1.elim
    | _ => exact p1.elim⟩
theorem dat_cons (ha : DET X c W e ma) (hr : DAT X c W es mr) (hs : starEach (e :: es) X.env = (false, eval e X.env) :: starEach es X.env := by rfl) : DAT X c W (e :: es) (mCons ma mr) :=
  pat_imp (pat_cons ha hr hs) fun σ H Q ⟨ι, sl, ah, rh, S, p⟩ => ⟨ι, sl, ah, rh, S, Post.step p fun x H1 ι1 a ah1 e1 r1 ra p1 =>
    ⟨ι1, sl, ah1, r1, S.ext e1, Post.step p1 fun xs H2 ι2 as ah2 e2 r2 rs p2 => p2 ι2 H2 _ (Ext.refl _ _) r2 (.cons (ra.ext e2) rs)⟩⟩
theorem pet_tup {x1} {t : TA} (h : PAT X es t) : PET X (.Tuple es x1 pos) (tTup t) := by
  intro pins s σ H Q h0 I hq
  refine wpAny_Tuple_spliced (thn (h pos pins s σ H _ h0 I hq) fun us s1 ⟨xs, H1, I1, r, z, q⟩ => ⟨by rw [← r.length]; exact z, ?_⟩)
  have hf : H1 s1.heap.objs.size = none := I1.hok.fresh (Nat.le_refl _)
  refine ⟨.ref s1.heap.objs.size, upd H1 s1.heap.objs.size (.tup xs), I1.laid (t' := s1.toks) (fun b u e => Heap.get?_push_of_some _ e) (Nat.le_refl _) ?_, rfl, q _ hf⟩
  exact ⟨z, us, r, ⟨_, Heap.get?_push_size _ rfl, rfl, _, rfl⟩⟩
theorem det_tup {x1} (h : DAT X c W es mr) : DET X c W (.Tuple es x1 pos) (mTup mr) :=
  pet_imp (pet_tup h) fun σ H Q ⟨ι, sl, ah, rh, S, p⟩ => ⟨ι, sl, ah, rh, S, Post.step p fun xs H1 ι1 as ah1 e1 r1 ra p1 => by
    split at p1
    · rename_i hl
      refine ⟨by rw [← Paired.length ra]; exact le_of_line hl, lay_tup r1 ra p1⟩
    · exact p1.elim⟩
theorem dst_ret (he : DET X c W e me) : DST X c W (.Return (some e) pos) (mRet me) :=
  pst_imp (CwR.pst_ret he) fun D σ H ⟨ι, sl, ah, rh, S, p⟩ => ⟨ι, sl, ah, rh, S, PostS.step S p fun x H1 ι1 a ah1 e1 r1 ra S1 p1 => p1 ι1 H1 x (Ext.refl _ _) r1 ra⟩
theorem dsst_one {st : Stmt} {m : Es} (h1 : DST X c W st m) : DSsT X c W [st] m := fun pins s σ H D h0 I q => psst_imp (CwR.psst_one h1) (fun D σ H q => by
    first
    | exact q
    | (unfold tSeq; exact q)) pins s σ H D h0 I q
end
section
variable {P : Program} {w : World} {K : PySem.W.Frag} {mg : Str → Option Value} {base : Heap} {c : Ct}
/-- the rule for a def whose body gives out a token -/
theorem fnDT {x qual : Str} {st : Stmt} {f : Addr} {fd : FuncData} {N ps : List Str} {k : Nat} {m : Es} (F : Fun K x qual st f fd) (S : FnScope N ps (defScope st)) (hnc : ∀ y ∈ (defScope st).names, y.2 ≠ .cell) (hps : 1 ≤ ps.length)
    (hb : ∀ (cdv : Value) (A : Around) (outer : List Env) (s : Shared) (H : Hp) (E : XK), Room k (A.deeper (envOfC qual (defScope st) s.heap.objs.size f cdv)) →
      DSsT (cxOf (L2.CX P w) P w K mg base N qual (defScope st) f cdv A outer s H E) c (fun cls d _ H => E cls d H) (defBody st) m) : FnOk P w K mg base (L2.CX P w) (k + 1) f fd ps (spM K c ps.length (mFn N.length m)) := by
  obtain ⟨oc, od, kV, doc, pm, an, cdv, ct, osl, rfl, lk, hcd⟩ := F.ex
  refine fn_ofT lk hcd S hnc hps spM_len fun A outer s H vs Q E hr h => ⟨_, hb cdv A outer s H E hr, ?_⟩
  obtain ⟨ι, as, ah, rh, rv, hl, p⟩ := h
  refine ⟨ι, as.map some ++ List.replicate (N.length - as.length) none, ah, rh, ?_, ?_⟩
  · unfold L2.start
    rw [← Paired.length rv]
    exact rs_start rv _
  · unfold mFn at p
    revert p
    cases m (as.map some ++ List.replicate (N.length - as.length) none) ah with
    | nx s h => exact fun q ι' H' σ' e r _ => q ι' H' .non e r rfl
    | rt v h => exact fun q ι' H' x e r rx => q ι' H' x e r rx
    | ex x s h => exact fun q ι' H' σ' cls d e r _ rx => q ι' H' cls d e r rx
    | bk s h => exact fun q => q.elim
    | ct s h => exact fun q => q.elim
    | no => exact fun q => q.elim
end
/-! ### range with a step that goes up -/
def upN (i j k : Int) : Nat := (if i < j then (j - i - 1) / k + 1 else 0).toNat
def mRange3p (ma mb mc : Ev) : Ei := fun sl h => (ma sl h).bind fun v h1 => (mb sl h1).bind fun u h2 => (mc sl h2).bind fun t h3 => match v, u, t with
  | .int i, .int j, .int k => if (small60 i && small60 j && decide (0 < k ∧ k ≤ 1000000)) = true then .ok ⟨(List.range (upN i j k)).map fun (m : Nat) => [.int (i + (m : Int) * k)], []⟩ h3 else .no
  | _, _, _ => .no
theorem RgC_pos {i j k : Int} (ha : -(2 ^ 60) ≤ i) (ha' : i < 2 ^ 60) (hb : -(2 ^ 60) ≤ j) (hb' : j < 2 ^ 60) (hk : 0 < k) (hk2 : k ≤ 1000000) : RgC i j k (upN i j k) := by
  have h1 : i < j → 0 ≤ (j - i - 1) / k ∧ (j - i - 1) / k ≤ j - i - 1 := fun h => ⟨Int.ediv_nonneg (by omega) (by omega), Int.ediv_le_self _ (by omega)⟩
  have e : Builtin.Range.rangeSize i j k = if i < j then (j - i - 1) / k + 1 else 0 := by
    unfold Builtin.Range.rangeSize
    rw [if_pos (by omega)]
  refine ⟨by omega, by omega, ?_, ?_⟩
  · unfold Builtin.Range.small
    rw [e]
    simp only [Builtin.Range.rangeFitsLong, Bool.and_eq_true, Bool.or_eq_true, decide_eq_true_eq, beq_iff_eq, if_pos (show k > 0 by omega)]
    split
    · rename_i h
      have := h1 h
      omega
    · omega
  · rw [e]
    unfold upN
    split
    · rename_i h
      have := h1 h
      omega
    · rfl
section
variable {X : Cx} {c : Ct} {W : WX} {K : PySem.W.Frag} {ι : List Addr}
theorem jr_rangeU {lo k : Int} {n : Nat} : JRel K c ι ⟨(List.range n).map fun (m : Nat) => [.int (lo + (m : Int) * k)], []⟩ (Itc lo k n) := fun ι' H' ah' hp rh ck => by
  refine ⟨by show n ≤ _; simp, fun i it hi => ?_⟩
  simp only [List.getElem?_map, Option.map_eq_some_iff] at hi
  obtain ⟨x, hx, rfl⟩ := hi
  have hl : i < n := by have := (List.getElem?_eq_some_iff.mp hx).1; simpa using this
  rw [List.getElem?_range hl] at hx
  cases hx
  exact ⟨hl, fun z H2 hz => by obtain ⟨rfl, rfl⟩ := hz; exact ⟨rfl, .inl rfl⟩⟩
theorem di_range3p {tg e d f : Expr} {m n o : Ev} {p pos : Pos} (hg : Gl X "range") (hm : X.mg "range" = none) (h : DE X c W e m) (h' : DE X c W d n) (h'' : DE X c W f o)
    (hr : ∀ {ta : TA}, PA X [e, d, f] ta → PI X tg (.Call (.Name "range" p) [e, d, f] [] pos) (iRng3 ta)) (hs : starEach [e, d, f] X.env = (false, eval e X.env) :: starEach [d, f] X.env := by rfl) (hs2 : starEach [d, f] X.env = (false, eval d X.env) :: starEach [f] X.env := by rfl) (hs3 : starEach [f] X.env = (false, eval f X.env) :: starEach [] X.env := by rfl) :
    DI X c W tg (.Call (.Name "range" p) [e, d, f] [] pos) (mRange3p m n o) :=
  pi_imp (hr (pa_cons h (pa_cons h' (pa_cons h'' pa_nil hs3) hs2) hs)) fun σ H Q ⟨ι, sl, ah, rh, S, p⟩ => ⟨ι, sl, ah, rh, S, Post.step p fun x H1 ι1 v ah1 e1 r1 rv p1 => ⟨ι1, sl, ah1, r1, S.ext e1, Post.step p1 fun y H2 ι2 u ah2 e2 r2 ru p2 => ⟨ι2, sl, ah2, r2, (S.ext e1).ext e2, Post.step p2 fun z H3 ι3 t ah3 e3 r3 rt p3 => by
    split at p3
    · rename_i i j k
      split at p3
      · rename_i hj
        rw [Bool.and_eq_true, Bool.and_eq_true, decide_eq_true_eq] at hj
        obtain ⟨⟨hj1, hj2⟩, hk1, hk2⟩ := hj
        obtain ⟨h1, h2⟩ := small60_iff hj1
        obtain ⟨h3, h4⟩ := small60_iff hj2
        cases rv; cases ru; cases rt
        exact ⟨i, j, k, _, rfl, RgC_pos (by omega) (by omega) (by omega) (by omega) hk1 hk2, p3 ι3 H3 _ (Ext.refl _ _) r3 jr_rangeU⟩
      · exact p3.elim
    · exact p3.elim⟩⟩⟩
end
end Det

/-! Det20: sorted ints; three stores of which the last is fresh. -/
namespace Det
open PySem PySem.Spec PyProof.Rows L2
def insZ (x : Int) : List Int → List Int
  | [] => [x]
  | y :: r => if x ≤ y then x :: y :: r else y :: insZ x r
def sortZ : List Int → List Int
  | [] => []
  | x :: r => insZ x (sortZ r)
theorem insZ_perm (x : Int) : ∀ l : List Int, (insZ x l).Perm (x :: l)
  | [] => .refl _
  | y :: r => by
    unfold insZ
    split
    · exact .refl _
    · exact ((insZ_perm x r).cons y).trans (.swap x y r)
theorem sortZ_perm : ∀ l : List Int, (sortZ l).Perm l
  | [] => .refl _
  | x :: r => (insZ_perm x (sortZ r)).trans ((sortZ_perm r).cons x)
theorem insZ_srt (x : Int) : ∀ l : List Int, l.Pairwise (· ≤ ·) → (insZ x l).Pairwise (· ≤ ·)
  | [], _ => by simp [insZ]
  | y :: r, h => by
    unfold insZ
    have h2 := List.pairwise_cons.mp h
    split
    · rename_i hxy
      refine List.pairwise_cons.mpr ⟨fun z hz => ?_, h⟩
      rcases List.mem_cons.mp hz with rfl | hz
      · exact hxy
      · exact Int.le_trans hxy (h2.1 z hz)
    · rename_i hxy
      refine List.pairwise_cons.mpr ⟨fun z hz => ?_, insZ_srt x r h2.2⟩
      rcases List.mem_cons.mp ((insZ_perm x r).mem_iff.mp hz) with rfl | hz
      · omega
      · exact h2.1 z hz
theorem sortZ_srt : ∀ l : List Int, (sortZ l).Pairwise (· ≤ ·)
  | [] => List.Pairwise.nil
  | x :: r => insZ_srt x _ (sortZ_srt r)
theorem sortZ_eq {l m : List Int} (h : m.Perm l) (hs : m.Pairwise (· ≤ ·)) : m = sortZ l :=
  List.Perm.eq_of_pairwise (fun a b _ _ h1 h2 => Int.le_antisymm h1 h2) hs (sortZ_srt l) (h.trans (sortZ_perm l).symm)
/-- sorted(xs), ints -/
def bSorted : OpN := fun as h => match as with
  | [x] => match (rdL h x).bind intsOf with
    | some ns => some (.ref h.length, h ++ [.lst ((sortZ ns).map .int)])
    | none => none
  | _ => none
theorem rvs_ints {c : Ct} {ι : List Addr} : ∀ ns : List Int, RVs c ι (ns.map .int) (ns.map V.int)
  | [] => .nil
  | n :: r => .cons rfl (rvs_ints r)
section
variable {X : Cx} {c : Ct} {W : WX}
theorem dl_sorted : DCl X c (.builtin "sorted") bSorted := dcl fun pins s σ H xs us Q ι as ah w ah' I r rh ra e q => by
  unfold bSorted at e
  split at e
  · obtain ⟨x, rfl, rx⟩ := rvs1 ra
    split at e
    · rename_i ns hn
      cases e
      obtain ⟨a, rfl, s1⟩ := rd_ints rh hn rx
      refine cr_sortedI pins s σ H _ us Q I r ⟨a, ns, rfl, s1, fun ns' p hp hs hf => ?_⟩
      rw [sortZ_eq hp hs]
      exact lay_lst rh (rvs_ints _) (fun ι' H' z => q ι' H' z) p hf
    · cases e
  · cases e
theorem par3s {i j l : Nat} {ma mb mc : Ev} (h : ∀ sl u v h, mc ((List.set sl i u).set j v) h = mc sl h) (hx : ∀ sl h x h', mc sl h ≠ .ex x h') : mPar3 i j l ma mb mc = mSeq (mPar i j ma mb) (mSet l mc) := by
  funext sl h0
  unfold mPar3 mSeq mPar mSet
  cases ma sl h0 with
  | ok v h1 =>
    show (mb sl h1).bindS sl _ = (match (mb sl h1).bindS sl _ with | .nx sl' h' => _ | .rt v h => _ | .bk sl h => _ | .ct sl h => _ | .ex x sl h => _ | .no => _)
    cases mb sl h1 with
    | ok u h2 =>
      show (mc sl h2).bindS sl _ = (mc _ h2).bindS _ _
      rw [h]
      cases e : mc sl h2 with
      | ok z h3 => rfl
      | ex x h3 => exact absurd e (hx _ _ _ _)
      | no => rfl
    | ex x h2 => rfl
    | no => rfl
  | ex x h1 => rfl
  | no => rfl
theorem ds_par3s {i j l : Nat} {x y z : Str} {a b d : Expr} {ma mb mc : Ev} {px py pz pt : Pos} {kt k2 pt2} {pos : Pos} (h : ∀ sl u v h, mc ((List.set sl i u).set j v) h = mc sl h) (hx' : ∀ sl h x h', mc sl h ≠ .ex x h') (hc : X.calm = true) (hN : X.N.Nodup) (hi : X.N[i]? = some x) (hj : X.N[j]? = some y) (hl : X.N[l]? = some z) (hij : i ≠ j) (hil : i ≠ l) (hjl : j ≠ l)
    (hx : X.env.scope.names.lookup x = some .local) (hy : X.env.scope.names.lookup y = some .local) (hz : X.env.scope.names.lookup z = some .local) (ha : DE X c W a ma) (hb : DE X c W b mb) (hd : DE X c W d mc)
    (hw : swappedStores [.Tuple [.Name x px, .Name y py, .Name z pz] kt pt] (.Tuple [a, b, d] k2 pt2) X.env = pure (some [x, y, z]))
    (hs : swapsWithSole [.Tuple [.Name x px, .Name y py, .Name z pz] kt pt] (.Tuple [a, b, d] k2 pt2) pos.line X.env = pure false := by rfl)
    (hs1 : starEach [a, b, d] X.env = (false, eval a X.env) :: starEach [b, d] X.env := by rfl) (hs2 : starEach [b, d] X.env = (false, eval b X.env) :: starEach [d] X.env := by rfl) (hs3 : starEach [d] X.env = (false, eval d X.env) :: starEach [] X.env := by rfl) :
    DS X c W (.Assign [.Tuple [.Name x px, .Name y py, .Name z pz] kt pt] (.Tuple [a, b, d] k2 pt2) pos) (mSeq (mPar i j ma mb) (mSet l mc)) := par3s h hx' ▸ ds_par3 hc hN hi hj hl hij hil hjl hx hy hz ha hb hd hw hs hs1 hs2 hs3
end
end Det

/-! Det21: d.get(k, x); a text turned. -/
namespace Det
open PySem PySem.Spec PyProof.Rows L2
def mGet : OpM := fun x as h => match as with
  | [y, d] => match dicOf h x with
    | some kvs => match keyOf y with
      | some k => some ((valA kvs k).getD d, h)
      | none => none
    | none => none
  | _ => none
section
variable {X : Cx} {c : Ct} {W : WX}
theorem dm_get (hu : X.A.units + 64 < cLine) : DMt X c "dict.get" mGet := dmt fun pins s σ H x xs v us Q ι a as ah w ah' I rx r rh ra rs e q => by
  unfold mGet at e
  split at e
  · rename_i y d
    split at e
    · rename_i kvs hd
      split at e
      · rename_i k hk
        cases e
        obtain ⟨n, a', vs, rfl, rfl, ha, hn, rk, hH⟩ := dicOf_ok rh hd ra
        obtain ⟨y', d', rfl, ry, rd⟩ := rvs2 rs
        obtain ⟨u1, u2, rfl, ru1, ru2⟩ := vals2 r
        have hy := keyOf_ok hk ry
        subst hy
        cases rx
        have g : DGet H a' (kV (kk k)) (valV vs (kk k)) := DGet.k hH
        refine d_get2 (Nat.lt_of_le_of_lt (Nat.add_le_add_left (by decide) _) hu) I g ru1 ru2 fun w' s' I' rw' => ⟨_, H, I', rw', q ι H _ (Ext.refl _ _) rh ?_⟩
        obtain ⟨k1, k2⟩ := valA_ok k rk
        cases e : valA kvs k with
        | none => rw [k2 e]; exact rd
        | some z =>
          obtain ⟨z', hz, rz⟩ := k1 z e
          rw [hz]
          exact rz
      · cases e
    · cases e
  · cases e
/-- s[::-1] -/
def opRevS : Op1 := fun v h => match v with
  | .str s => if s.length ≤ LINE then some (.str s.reverse, h) else none
  | _ => none
theorem rev_mk (s : List Nat) (u : Tok) : Txt.sliceBy (mkS s) none none (-1, u) = mkS s.reverse := by
  rw [← mkS_tl (Txt.sliceBy (mkS s) none none (-1, u)), step_rev_list]
  congr 1
  have hl := mkS_len s
  apply List.ext_getElem?
  intro i
  by_cases hi : i < s.length
  · rw [List.getElem?_map, List.getElem?_range (by omega), List.getElem?_reverse hi]
    show some ((mkS s).cps.getD ((mkS s).length - 1 - i) 0) = _
    rw [hl]
    have : s.length - 1 - i < s.length := by omega
    rw [List.getElem?_eq_getElem this]
    simp [mkS, Array.getD, this]
  · rw [List.getElem?_eq_none (by simp; omega), List.getElem?_eq_none (by simp; omega)]
def tRevS (te : TE) : TE := fun σ H Q => te σ H fun x H1 => ∃ s : List Nat, x = .str (mkS s) ∧ s.length ≤ sizeLine ∧ Q (.str (mkS s.reverse)) H1
theorem pe_revS {e : Expr} {te : TE} {k : Nat} {p1 p2 p3 pos : Pos} (he : PE X e te) : PE X (.Subscript e (.Slice none none (some (.UnaryOp .USub (.Constant (.int 1) k p1) p2)) p3) pos) (tRevS te) := by
  refine ⟨fun pins s σ H Q I h => ?_⟩
  refine Subscript_ (thn (he.run pins s σ H _ I h) fun v s1 ⟨x, H1, I1, r1, q1⟩ => ?_)
  obtain ⟨z, ex, hz, q⟩ := q1
  subst ex
  obtain ⟨t, rfl⟩ := r1
  have hst : PO X (some (.UnaryOp .USub (.Constant (.int 1) k p1) p2)) (tPart (tUn (rU fun i => .int (-i)) (tC (.int 1)))) := po_some (pe_un un_neg pe_int)
  refine wpAny_Slice (thn (po_none.run pins s1 σ H1 (fun o H2 => o = none ∧ H2 = H1) I1 ⟨rfl, rfl⟩) fun vl s2 ⟨l, H2, I2, pl, el, e2⟩ => ?_)
  subst el e2
  refine thn (po_none.run pins s2 σ H2 (fun o H3 => o = none ∧ H3 = H2) I2 ⟨rfl, rfl⟩) fun vu s3 ⟨u, H3, I3, pu, eu, e3⟩ => ?_
  subst eu e3
  refine thn (hst.run pins s3 σ H3 (fun o H4 => o = some (-1) ∧ H4 = H3) I3 ⟨1, rfl, -1, rfl, rfl, rfl⟩) fun vs s4 ⟨o, H4, I4, ps, eo, e4⟩ => ?_
  subst eo e4
  cases pl
  cases pu
  obtain ⟨tk, rfl⟩ : ∃ tk, vs = .int (-1) tk := by cases ps; exact ⟨_, rfl⟩
  have I5 : Inv X pins σ H4 { s4 with heap := s4.heap.push { cls := .type "slice", data := .fields #[.none, .none, .int (-1) tk] } } := I4.kept (t' := s4.toks) fun b ob q => Heap.get?_push_of_some _ q
  show wpAny (model X.prog X.w) X.A (subscriptTail e (.Slice none none (some (.UnaryOp .USub (.Constant (.int 1) k p1) p2)) p3) (.str (mkS z) t) (.ref s4.heap.objs.size)) (EP X pins σ Q) X.xe { s4 with heap := s4.heap.push { cls := .type "slice", data := .fields #[.none, .none, .int (-1) tk] } }
  have e5 : Txt.sliceBy (mkS z) none none (-1, tk) = mkS z.reverse := rev_mk z tk
  have hsz : (Txt.sliceBy (mkS z) none none (-1, tk)).length ≤ sizeLine := by rw [e5, mkS_len, List.length_reverse]; exact hz
  refine tail_any (typeIs_str _ _ _) PySem.F.slot_str_getitem.lookup ?_ (by with_unfolding_all rfl)
  refine wpAny_getItem_str_slice (l := none) (u := none) (st := some (-1, tk)) ⟨_, Heap.get?_push_size _ rfl, rfl, rfl⟩ rfl ?_
  refine post_val_or_str ⟨hsz, fun t' c => ?_⟩
  exact ⟨.str (mkS z.reverse), H4, I5.tok c, ⟨t', by rw [← e5]; rfl⟩, q⟩
theorem de_revS {e : Expr} {m : Ev} {k : Nat} {p1 p2 p3 pos : Pos} (he : DE X c W e m) : DE X c W (.Subscript e (.Slice none none (some (.UnaryOp .USub (.Constant (.int 1) k p1) p2)) p3) pos) (mUn opRevS m) :=
  pe_imp (pe_revS he) fun σ H Q ⟨ι, sl, ah, rh, S, p⟩ => ⟨ι, sl, ah, rh, S, Post.step p fun x H1 ι1 v ah1 e1 r1 rv p1 => by
    cases v with
    | str s =>
      cases rv
      by_cases hl : s.length ≤ LINE
      · have e : opRevS (.str s) ah1 = some (.str s.reverse, ah1) := if_pos hl
        rw [e] at p1
        exact ⟨s, rfl, le_of_line hl, p1 ι1 H1 _ (Ext.refl _ _) r1 rfl⟩
      · have e : opRevS (.str s) ah1 = none := if_neg hl
        rw [e] at p1
        exact p1.elim
    | _ => exact p1.elim⟩
end
end Det

/-! Det22: s.split(sign). -/
namespace Det
open PySem PySem.Spec PyProof.Rows L2
/-- s cut at each c -/
def splC (c : Nat) : List Nat → List Nat → List (List Nat)
  | acc, [] => [acc]
  | acc, d :: r => if d = c then acc :: splC c [] r else splC c (acc ++ [d]) r
theorem spl_C (c : Nat) : ∀ (s acc : List Nat), TL.spl [c] 0 acc s = splC c acc s
  | [], acc => rfl
  | d :: r, acc => by
    unfold TL.spl splC
    have e : TL.pre [c] (d :: r) = decide (d = c) := by
      unfold TL.pre
      show ((d :: r).take 1 == [c]) = _
      by_cases h : d = c <;> simp [h]
    rw [e]
    by_cases h : d = c
    · rw [if_pos (decide_eq_true h), if_pos h]
      show acc :: TL.spl [c] 0 [] r = _
      rw [spl_C c r []]
    · rw [if_neg (by simpa using h), if_neg h, spl_C c r]
def mSplit : OpM := fun x as h => match x, as with
  | .str s, [.str [ch]] => if s.length ≤ 10000000 ∧ ch < 256 then some (.ref h.length, h ++ [.lst ((splC ch [] s).map .str)]) else none
  | _, _ => none
section
variable {X : Cx} {c : Ct} {W : WX}
theorem rvs_strs {ι : List Addr} : ∀ ss : List (List Nat), RVs c ι (ss.map .str) ((ss.map mkS).map V.str)
  | [] => .nil
  | n :: r => .cons rfl (rvs_strs r)
theorem dm_split : DMt X c "str.split" mSplit := dmt fun pins s σ H x xs v us Q ι a as ah w ah' I rx r rh ra rs e q => by
  unfold mSplit at e
  split at e
  · rename_i t ch
    split at e
    · rename_i hl
      cases e
      cases ra
      obtain ⟨y, rfl, ry⟩ := rvs1 rs
      cases ry
      have hsp : Txt.split (mkS t) (mkS [ch]) = (splC ch [] t).map mkS := by
        have := SX.split_S (a := t) (b := [ch]) (by simp) (by simp [hl.2])
        rw [spl_C] at this
        exact this
      refine mt_split pins s σ H _ _ v us Q I rx r ⟨mkS t, mkS [ch], rfl, rfl, rfl, ?_, fun p hf => ?_⟩
      · rw [mkS_len, PySem.sizeLine_eq]
        omega
      · rw [hsp]
        exact lay_lst rh (rvs_strs _) (fun ι' H' z => q ι' H' z) p hf
    · cases e
  · cases e
end
end Det

/-! Det23: loops whose body wants a token; three stores of parts. -/
namespace Det
open PySem PySem.Spec PyProof.Rows L2
theorem thnT {α : Type} {M : Model} {A : Around} {t : Sem α} {Q R : α → Shared → Prop} {E : Value → Shared → Prop} {s : Shared} (h0 : 1 ≤ s.toks) (h : wpAny M A t Q E s) (k : ∀ v s', 1 ≤ s'.toks → Q v s' → R v s') : wpAny M A t R E s :=
  wpAny_mono (PySem.wpAny_toks_of h0 h) (fun v s' q => k v s' q.1 q.2) fun _ _ z => z.2
section
variable {X : Cx} {c : Ct} {W : WX}
/-- for, a token out when its body begins -/
theorem pst_forT {tg iter : Expr} {body : List Stmt} {wi : TI} {g : TG} {tb : TS} {pos : Pos} (hp : PassesOwn (model X.prog X.w) X.A X.env X.xe) (hc : X.calm = true) (hi : PI X tg iter wi) (hg : PG X tg g) (hb : PSsT X body tb)
    (hs : ∀ x, foldedSetIterable iter X.env x = pure x := by intro _; rfl) : PST X (.For tg iter body [] pos) (tFor wi g tb) := by
  intro pins s σ H D h0 I h
  refine wpAny_For (thnT h0 (hi.run pins s σ H _ I h) fun v s1 t1 h1 => thnT t1 h1 fun itv s2 t2 h2 => ?_) hs
  obtain ⟨it, fp, tn, J, H2, e, I2, T, st2, f2, W, ⟨m0, w0⟩, turn⟩ := h2
  subst e
  have free : ∀ {H' : Hp}, (∀ b ∈ fp, H' b = none) → ∀ b ∈ fp, FpOk X pins H' b := fun hn b hb => ⟨hn b hb, (f2 b hb).2⟩
  refine codeAny_forLoop_any (fun n s' => 1 ≤ s'.toks ∧ ∃ i σ' H', Inv X pins σ' H' s' ∧ tn i s'.heap ∧ (∀ b ∈ fp, H' b = none) ∧ W i n σ' H') ?_ m0 ⟨t2, 0, σ, H2, I2, st2, fun b hb => (f2 b hb).1, w0⟩
  rintro n s3 ⟨t3, i, σ3, H3, I3, st3, fr3, w3⟩
  rcases turn i n σ3 H3 w3 with ⟨stop, qn⟩ | ⟨go, N, hN, step⟩
  · refine wpAny_passesOwn hp (thn (T.done X rfl rfl rfl hc i pins s3 σ3 H3 X.xe I3 (free fr3) st3 stop) fun r s4 ⟨hr, I4⟩ => ?_)
    subst hr
    exact wpAny_execs_nil ⟨σ3, H3, I4, qn⟩
  · refine wpAny_passesOwn hp (thnT t3 (T.item X rfl rfl rfl hc i pins s3 σ3 H3 X.xe I3 (free fr3) st3 go) fun r s4 t4 ⟨u, hr, h4⟩ => ?_)
    subst hr
    refine wpAny_passesOwn hp (thnT t4 h4 fun _ s5 t5 ⟨x, H5, I5, r5, y5, st5, fr5⟩ => ?_)
    have I5' := I5.pinned (free fr5) (T.obj _ _ st5)
    refine wpAny_passesOwn hp (thnT t5 (hg.run _ s5 σ3 H5 x u _ I5' r5 (step x H5 y5)) fun _ s6 t6 ⟨σ6, H6, I6, q6⟩ => ?_)
    refine wpAny_passesOwn hp (thnT t6 (hb _ s6 σ6 H6 _ t6 I6 q6) fun f s7 t7 q7 => ?_)
    have again : ∀ {σ7 : L2.St} {H7 : Hp}, Inv X (pins ++ pinsAt fp s5.heap) σ7 H7 s7 → N σ7 H7 → ∃ m, m < n ∧ (1 ≤ s7.toks ∧ ∃ i σ' H', Inv X pins σ' H' s7 ∧ tn i s7.heap ∧ (∀ b ∈ fp, H' b = none) ∧ W i m σ' H') := fun {σ7 H7} I7 n7 => by
      obtain ⟨m', hm, w7⟩ := hN σ7 H7 n7
      refine ⟨m', hm, t7, i + 1, σ7, H7, I7.unpinned, T.keep _ _ _ st5 fun b hb o e => (I7.pin (b, o) (List.mem_append_right _ (List.mem_append_right _ (mem_pinsAt hb e)))).1, fun b hb => ?_, w7⟩
      obtain ⟨o, e, d⟩ := T.obj _ _ st5 b hb
      exact (I7.pin (b, o) (List.mem_append_right _ (List.mem_append_right _ (mem_pinsAt hb e)))).2.1
    cases f with
    | next => obtain ⟨σ7, H7, I7, n7⟩ := q7; exact again I7 n7
    | cont => obtain ⟨σ7, H7, I7, n7⟩ := q7; exact again I7 n7
    | brk => obtain ⟨σ7, H7, I7, q7⟩ := q7; exact ⟨σ7, H7, I7.unpinned, q7⟩
    | ret v => obtain ⟨x7, σ7, H7, I7, r7, q7⟩ := q7; exact ⟨x7, σ7, H7, I7.unpinned, r7, q7⟩
theorem dst_for {tg iter : Expr} {body : List Stmt} {mi : Ei} {g : Eg} {mb : Es} {vs : List Nat} {pos : Pos} (hp : PassesOwn (model X.prog X.w) X.A X.env X.xe) (hc : X.calm = true) (hi : DI X c W tg iter mi) (hg : DG X c vs tg g) (hb : DSsT X c W body mb)
    (hs : ∀ x, foldedSetIterable iter X.env x = pure x := by intro _; rfl)   : DST X c W (.For tg iter body [] pos) (mFor mi g mb) :=
  pst_imp (pst_forT hp hc hi hg hb hs) fun D σ H ⟨ι, sl, ah, rh, S, p⟩ => ⟨ι, sl, ah, rh, S, PostS.step S p fun J H1 ι1 s ah1 e1 r1 jr S1 p1 => by
    refine ⟨fun i m σ H => m = s.items.length - i ∧ i ≤ s.items.length ∧ ∃ ι sl ah, (∃ r, ι = ι1 ++ r) ∧ RelH X.K c ι ah H ∧ RS c ι sl σ ∧ PostS X.K c W H ι (loopF s.chks g mb (s.items.drop i) sl ah) D,
      ⟨_, rfl, Nat.zero_le _, ι1, sl, ah1, ⟨[], by simp⟩, r1, S1, by simpa using p1⟩, ?_⟩
    rintro i m σ H ⟨rfl, hi, ι, sl, ah, hpre, rh, S, p⟩
    by_cases hlt : i < s.items.length
    · rw [List.drop_eq_getElem_cons hlt] at p
      unfold loopF at p
      split at p
      · rename_i hck
        obtain ⟨_, j2⟩ := jr ι H ah hpre rh hck
        obtain ⟨jgo, jy⟩ := j2 i _ (List.getElem?_eq_getElem hlt)
        split at p
        · rename_i sl1 h1 eg
          refine .inr ⟨jgo, fun σ' H' => ∃ ι sl ah, (∃ r, ι = ι1 ++ r) ∧ RelH X.K c ι ah H' ∧ RS c ι sl σ' ∧ PostS X.K c W H' ι (loopF s.chks g mb (s.items.drop (i + 1)) sl ah) D, fun σ' H' q => ⟨_, by omega, rfl, hlt, q⟩, fun x H' hy => ?_⟩
          obtain ⟨yv, hH⟩ := jy x H' hy
          have rh' : RelH X.K c ι ah H' := by
            rcases hH with rfl | ⟨T, u, hT, rfl⟩
            · exact rh
            · exact rh.junk hT
          have ex' : Ext H ι H' ι := by
            rcases hH with rfl | ⟨T, u, hT, rfl⟩
            · exact Ext.refl _ _
            · exact Ext.junk hT
          refine ⟨ι, sl, ah, _, sl1, h1, rh', S, yv, eg, fun ι2 H2 σ2 x2 r2 S2 _ => ⟨ι2, sl1, h1, r2, S2, ?_⟩⟩
          have p' := PostS.shift p (ex'.trans rh' x2) r2
          have pre2 : ∃ r, ι2 = ι1 ++ r := by
            obtain ⟨ra, e1⟩ := hpre
            obtain ⟨rb, e2⟩ := x2.pre'
            exact ⟨ra ++ rb, by rw [e2, e1, List.append_assoc]⟩
          have nxt : ∀ {ι3 : List Addr} {sl3 : Sl} {h3 : Hh} {H3 : Hp} {σ3 : L2.St}, PostS X.K c W H2 ι2 (loopF s.chks g mb (s.items.drop (i + 1)) sl3 h3) D → Ext H2 ι2 H3 ι3 → RelH X.K c ι3 h3 H3 → RS c ι3 sl3 σ3 →
              ∃ ι sl ah, (∃ r, ι = ι1 ++ r) ∧ RelH X.K c ι ah H3 ∧ RS c ι sl σ3 ∧ PostS X.K c W H3 ι (loopF s.chks g mb (s.items.drop (i + 1)) sl ah) D := fun {ι3 sl3 h3 H3 σ3} q x3 r3 S3 => by
            refine ⟨ι3, sl3, h3, ?_, r3, S3, PostS.shift q x3 r3⟩
            obtain ⟨ra, e1⟩ := pre2
            obtain ⟨rb, e2⟩ := x3.pre'
            exact ⟨ra ++ rb, by rw [e2, e1, List.append_assoc]⟩
          revert p'
          cases mb sl1 h1 with
          | nx s3 h3 => exact fun q ι3 H3 σ3 x3 r3 S3 => nxt q x3 r3 S3
          | ct s3 h3 => exact fun q ι3 H3 σ3 x3 r3 S3 => nxt q x3 r3 S3
          | bk s3 h3 => exact fun q => q
          | rt v h3 => exact fun q => q
          | ex x s3 h3 => exact fun q => q
          | no => exact fun q => q
        · exact p.elim
      · exact p.elim
    · have e : i = s.items.length := by omega
      subst e
      rw [List.drop_length] at p
      unfold loopF at p
      split at p
      · rename_i hck
        obtain ⟨j1, _⟩ := jr ι H ah hpre rh hck
        exact .inl ⟨j1, p.nx rh S⟩
      · exact p.elim⟩
theorem det_replT (y z : List Nat) {ys zs : Str} {o : Expr} {mo : Ev} {j k : Nat} {c0 c1 apos pos : Pos} (ho : DET X c W o mo) (hy : ys.cps.toList = y := by decide +kernel) (hz : zs.cps.toList = z := by decide +kernel) (hne : y ≠ [] := by decide) (hyz : (ys == zs) = false := by decide)
    (hst : starEach [.Constant (.str ys) j c0, .Constant (.str zs) k c1] X.env = [(false, eval (.Constant (.str ys) j c0) X.env), (false, eval (.Constant (.str zs) k c1) X.env)] := by rfl)
    (hbase : attributeBase o "replace" X.env (eval o X.env) = eval o X.env := by rfl) (hline : (apos.endLine == pos.line) = true := by rfl) :
    DET X c W (.Call (.Attribute o "replace" apos) [.Constant (.str ys) j c0, .Constant (.str zs) k c1] [] pos) (mUn (opRepl y z) mo) :=
  pet_imp (CwR.pet_replT ho hyz hst hbase hline) fun σ H Q ⟨ι, sl, ah, rh, S, p⟩ => ⟨ι, sl, ah, rh, S, Post.step p fun x H1 ι1 v ah1 e1 r1 rv p1 => by
    subst hy hz
    cases v with
    | str s =>
      cases rv
      by_cases hl : s.length ≤ 1000000 ∧ zs.cps.toList.length ≤ 10
      · have e : opRepl ys.cps.toList zs.cps.toList (.str s) ah1 = some (.str (StrLaws.replL ys.cps.toList zs.cps.toList s), ah1) := if_pos hl
        rw [e] at p1
        have hzl : zs.length = zs.cps.toList.length := by simp [Str.length]
        refine ⟨mkS s, rfl, ?_, ?_⟩
        · rw [mkS_len, hzl]
          have h2 : (s.length + 1) * zs.cps.toList.length ≤ (1000000 + 1) * 10 := Nat.mul_le_mul (by omega) hl.2
          omega
        · rw [repl_mk hne]
          exact p1 ι1 H1 _ (Ext.refl _ _) r1 rfl
      · have e : opRepl ys.cps.toList zs.cps.toList (.str s) ah1 = none := if_neg hl
        rw [e] at p1
        exact p1.elim
    | _ => exact p1.elim⟩
theorem dst_of {st : Stmt} {m : Es} (h : DS X c W st m) : DST X c W st m := PST.of h
theorem dsst_of {st : List Stmt} {m : Es} (h : DSs X c W st m) : DSsT X c W st m := PSsT.of h
theorem dsst_cons {st : Stmt} {rest : List Stmt} {m n : Es} (h1 : DST X c W st m) (h2 : DSsT X c W rest n) : DSsT X c W (st :: rest) (mSeq m n) :=
  psst_imp (psst_cons h1 h2) fun D σ H ⟨ι, sl, ah, rh, S, p⟩ => ⟨ι, sl, ah, rh, S, seq_post p⟩
theorem pst_set {i : Nat} {x : Str} {e : Expr} {te : TE} {pos' pos : Pos} (hN : X.N.Nodup) (hi : X.N[i]? = some x) (hx : Loc X.env.scope x) (he : PET X e te) (hs : swapsWith e (some (.Name x pos')) pos.line X.env = pure false := by rfl) (hf : X.fn x = true ∨ X.env.scope.names.lookup x = some .local := by first | exact .inl rfl | exact .inr rfl | assumption) :
    PST X (.Assign [.Name x pos'] e pos) (tAsg te (gName i)) := by
  intro pins s σ H D h0 I h
  refine wpAny_Assign_Name (thn (he pins s σ H _ h0 I h) fun v s1 ⟨y, H1, I1, r1, q1⟩ => ?_) hs
  exact store_ok I1 hN hi hx r1 (fun s2 I2 => ⟨_, H1, I2, q1⟩) hf
theorem dst_set {i : Nat} {x : Str} {e : Expr} {me : Ev} {pos' pos : Pos} (hN : X.N.Nodup) (hi : X.N[i]? = some x) (hx : Loc X.env.scope x) (he : DET X c W e me) (hs : swapsWith e (some (.Name x pos')) pos.line X.env = pure false := by rfl) (hf : X.fn x = true ∨ X.env.scope.names.lookup x = some .local := by first | exact .inl rfl | exact .inr rfl | assumption) :
    DST X c W (.Assign [.Name x pos'] e pos) (mSet i me) :=
  pst_imp (pst_set hN hi hx he hs hf) fun D σ H ⟨ι, sl, ah, rh, S, p⟩ => ⟨ι, sl, ah, rh, S, PostS.step S p fun x H1 ι1 a ah1 e1 r1 ra S1 p1 => p1.nx r1 (S1.set ra i)⟩
end
end Det
namespace Det
open PySem PySem.Spec PyProof.Rows L2
/-- a reading that neither looks at a slot nor raises -/
structure Calm (i : Nat) (m : Ev) : Prop where
  nd : ∀ (sl : Sl) (u : Option AV) (h : Hh), m (List.set sl i u) h = m sl h
  nx : ∀ (sl : Sl) (h : Hh) (x : AX) (h' : Hh), m sl h ≠ .ex x h'
structure CalmO (i : Nat) (m : Eo) : Prop where
  nd : ∀ (sl : Sl) (u : Option AV) (h : Hh), m (List.set sl i u) h = m sl h
  nx : ∀ (sl : Sl) (h : Hh) (x : AX) (h' : Hh), m sl h ≠ .ex x h'
theorem calm_var {i k : Nat} (hk : i ≠ k) : Calm i (mVar k) := ⟨fun sl u h => by unfold mVar; rw [List.getElem?_set_ne hk], fun sl h x h' e => by
  unfold mVar at e
  split at e <;> cases e⟩
theorem calmo_no {i : Nat} : CalmO i mNo := ⟨fun _ _ _ => rfl, fun _ _ _ _ e => nomatch e⟩
theorem calmo_some {i : Nat} {m : Ev} (hm : Calm i m) : CalmO i (mSome m) := ⟨fun sl u h => by unfold mSome; rw [hm.nd], fun sl h x h' e => by
  unfold mSome at e
  cases q : m sl h with
  | ok v h1 =>
    rw [q] at e
    cases v <;> cases e
  | ex y h1 => exact hm.nx _ _ _ _ q
  | no => rw [q] at e; cases e⟩
theorem calm_slice {i : Nat} {m : Ev} {a b : Eo} (hm : Calm i m) (ha : CalmO i a) (hb : CalmO i b) : Calm i (mSlice m a b) := ⟨fun sl u h => by unfold mSlice; simp only [hm.nd, ha.nd, hb.nd], fun sl h x h' e => by
  unfold mSlice at e
  cases q : m sl h with
  | ok v h1 =>
    rw [q] at e
    have e : ((a sl h1).bind fun l h2 => (b sl h2).bind fun u h3 => R.of (opSlice v l u h3)) = .ex x h' := e
    cases q2 : a sl h1 with
    | ok l h2 =>
      rw [q2] at e
      have e : ((b sl h2).bind fun u h3 => R.of (opSlice v l u h3)) = .ex x h' := e
      cases q3 : b sl h2 with
      | ok u h3 =>
        rw [q3] at e
        have e : R.of (opSlice v l u h3) = .ex x h' := e
        cases q4 : opSlice v l u h3 with
        | none => rw [q4] at e; cases e
        | some z => rw [q4] at e; cases e
      | ex y h3 => exact hb.nx _ _ _ _ q3
      | no => rw [q3] at e; cases e
    | ex y h2 => exact ha.nx _ _ _ _ q2
    | no => rw [q2] at e; cases e
  | ex y h1 => exact hm.nx _ _ _ _ q
  | no => rw [q] at e; cases e⟩
theorem calm2 {i j : Nat} {m : Ev} (hi : Calm i m) (hj : Calm j m) (sl : Sl) (u v : Option AV) (h : Hh) : m ((List.set sl i u).set j v) h = m sl h := by rw [hj.nd, hi.nd]
end Det

/-! Det24: defs that are entered under no guard; repr(v). -/
namespace Det
open PySem PySem.Spec PyProof.Rows L2

/-! ### a def's promise where no guard is about -/
structure FnG (P : Program) (w : World) (K : PySem.W.Frag) (mg : Str → Option Value) (base : Heap) (CX : CXT) (k : Nat) (f : Addr) (fd : FuncData) (ps : List Str) (sp : Sp) : Prop where
  len : ∀ vs H Q E, sp vs H Q E → vs.length = ps.length
  run : ∀ (A : Around) (outer : List Env) (s : Shared) (H : Hp) (args : Args) (us : List Value) (vs : List V) (Q : VK) (E : XK), A.guards = some [] → Room k A → Env0 P w K mg base A outer s H → BindsTo s fd args (ps.zip us) → Vals vs us → sp vs H Q E →
    codeAny (model P w) A (.call (.ref f) args) (CR CX outer P w H s Q E) s
theorem gd_deeper {A : Around} {env : Env} (h : A.guards = some []) : (A.deeper env).guards = some [] := h
section
variable {P : Program} {w : World} {K : PySem.W.Frag} {mg : Str → Option Value} {base : Heap} {c : Ct} {CX : CXT}
theorem fnG_of {x qual : Str} {st : Stmt} {f : Addr} {fd : FuncData} {N ps : List Str} {k : Nat} {sp : Sp} (F : Fun K x qual st f fd) (S : FnScope N ps (defScope st)) (len : ∀ vs H Q E, sp vs H Q E → vs.length = ps.length)
    (hbody : ∀ (cdv : Value) (A : Around) (outer : List Env) (s : Shared) (H : Hp) (vs : List V) (Q : VK) (E : XK), (A.deeper (envOfC qual (defScope st) s.heap.objs.size f cdv)).guards = some [] → Room k (A.deeper (envOfC qual (defScope st) s.heap.objs.size f cdv)) → sp vs H Q E →
      ∃ t, PSs (cxOf CX P w K mg base N qual (defScope st) f cdv A outer s H E) (defBody st) t ∧ t { nx := fun _ H' => Q .non H', rt := Q } (start N vs) H) : FnG P w K mg base CX (k + 1) f fd ps sp := by
  obtain ⟨oc, od, kV, doc, pm, an, cdv, ct, osl, rfl, lk, hcd⟩ := F.ex
  refine ⟨len, fun A outer s H args us vs Q E gd hr e0 hb r hsp => ?_⟩
  obtain ⟨t, ht, hq⟩ := hbody cdv A outer s H vs Q E (gd_deeper gd) (hr.deeper _) hsp
  have KX : K.In s.heap := e0.mod.kin.keeps fun b o e => (e0.bs b o e).1
  have lim : s.heap.NoLimit := e0.mod.nolimit.keeps fun b o e => (e0.bs b o e).1
  refine codeAny_call_function hr.depth (KX _ _ lk) rfl S.co S.gen rfl (PySem.W.codeRec_of KX hcd) (hb _ _ _ _ (wpAny_newFunctionEnv_cells S.kind (fun ⟨n, v⟩ hy => ?_) fun env he s1 x => ?_))
  · exact (S.par n (List.of_mem_zip hy).1).imp id fun q => ⟨q, PySem.W.cellsFrom_some _ _ _ (.inl q)⟩
  · subst he
    refine ⟨lim.keeps x.toInCall.keep, codeAny_func (wpAny_mono (ht.run [] s1 (start N vs) H _ (inv_start S hr.hd e0 (len _ _ _ _ hsp) r x) hq) (fun fl s' hs => ?_) fun e s' hs => hs)⟩
    cases fl with
    | ret u =>
      obtain ⟨v, σ', H', J, rv, q⟩ := hs
      exact ⟨v, H', J.os, J.bare, J.base, J.hok, rv, q⟩
    | next =>
      obtain ⟨σ', H', J, q⟩ := hs
      exact ⟨V.non, H', J.os, J.bare, J.base, J.hok, rfl, q⟩
    | brk =>
      obtain ⟨_, _, _, q⟩ := hs
      exact q.elim
    | cont =>
      obtain ⟨_, _, _, q⟩ := hs
      exact q.elim
/-- the rule for a def -/
theorem fnDG {x qual : Str} {st : Stmt} {f : Addr} {fd : FuncData} {N ps : List Str} {k : Nat} {m : Es} (F : Fun K x qual st f fd) (S : FnScope N ps (defScope st))
    (hb : ∀ (cdv : Value) (A : Around) (outer : List Env) (s : Shared) (H : Hp) (E : XK), (A.deeper (envOfC qual (defScope st) s.heap.objs.size f cdv)).guards = some [] → Room k (A.deeper (envOfC qual (defScope st) s.heap.objs.size f cdv)) →
      DSs (cxOf (L2.CX P w) P w K mg base N qual (defScope st) f cdv A outer s H E) c (fun cls d _ H => E cls d H) (defBody st) m) : FnG P w K mg base (L2.CX P w) (k + 1) f fd ps (spM K c ps.length (mFn N.length m)) := by
  refine fnG_of F S spM_len fun cdv A outer s H vs Q E gd hr h => ⟨_, hb cdv A outer s H E gd hr, ?_⟩
  obtain ⟨ι, as, ah, rh, rv, hl, p⟩ := h
  refine ⟨ι, as.map some ++ List.replicate (N.length - as.length) none, ah, rh, ?_, ?_⟩
  · unfold L2.start
    rw [← Paired.length rv]
    exact rs_start rv _
  · unfold mFn at p
    revert p
    cases m (as.map some ++ List.replicate (N.length - as.length) none) ah with
    | nx s h => exact fun q ι' H' σ' e r _ => q ι' H' .non e r rfl
    | rt v h => exact fun q ι' H' x e r rx => q ι' H' x e r rx
    | ex x s h => exact fun q ι' H' σ' cls d e r _ rx => q ι' H' cls d e r rx
    | bk s h => exact fun q => q.elim
    | ct s h => exact fun q => q.elim
    | no => exact fun q => q.elim
end
section
variable {X : Cx} {CX : CXT} {c : Ct} {W : WX} {k np : Nat} {f : Addr} {fd : FuncData} {ps : List Str} {m : Fn} {sp : Sp} {E : L2.St → XK} {x : Str} {p pos : Pos} {e : Expr} {es : List Expr} {ma : Ea} {t : TA}
theorem pe_callG (F : FnG X.prog X.w X.K X.mg X.base CX k f fd ps sp) (gd : X.A.guards = some []) (hr : Room k X.A) (hg : Gl X x) (hm : X.mg x = some (.ref f)) (hk : PySem.W.keepIn X.K (.ref f) = true) (hb : Binds X.K fd ps []) (hx : ∀ σ, PassesAt CX X σ (E σ))
    (ha : PA X (e :: es) t) (hdb : (x == ("__debug__" : Str)) = false := by decide) (he : starEach (e :: es) X.env = (false, eval e X.env) :: starEach es X.env := by rfl) (hpl : (backTo pos (starEach es X.env)).any (·.1) = false := by rfl) :
    PE X (.Call (.Name x p) (e :: es) [] pos) (tCallS sp E t) := by
  refine ⟨fun pins s σ H Q I h => wpAny_Call_Name_kw (ld_glob I hg hm (PySem.W.callWith_K (h₀ := X.base) I.ok.mod.kin hk (thn (ha.run pos pins s σ H _ I h) fun us s1 ⟨vs, H1, I1, r, q⟩ => ⟨I1.kIn, ?_⟩) he hpl) hdb)⟩
  have hl : us.length = ps.length := by rw [← r.length]; exact F.len _ _ _ _ q
  have b := hb s1 us I1.kIn (by rw [List.append_nil]; exact hl)
  rw [List.append_nil] at b
  refine wpAny_call (codeAny_mono (F.run X.A X.stack s1 H1 ⟨us, []⟩ us vs Q (E σ) gd hr I1.env0 b r q) fun r s' hq => ?_)
  match r, hq with
  | .error e, hq => exact hx σ pins H1 s1 e s' I1 hq
  | .ok (.ret u), hq => exact I1.after hq
  | .ok .next, hq => exact hq.elim
  | .ok .brk, hq => exact hq.elim
  | .ok .cont, hq => exact hq.elim
theorem de_callG (F : FnG X.prog X.w X.K X.mg X.base (L2.CX X.prog X.w) k f fd ps (spM X.K c np m)) (gd : X.A.guards = some []) (hr : Room k X.A) (hg : Gl X x) (hm : X.mg x = some (.ref f)) (hk : PySem.W.keepIn X.K (.ref f) = true) (hb : Binds X.K fd ps []) (tk : Takes X W)
    (ha : DA X c W (e :: es) ma) (hl : ALen np ma) (hdb : (x == ("__debug__" : Str)) = false := by decide) (he : starEach (e :: es) X.env = (false, eval e X.env) :: starEach es X.env := by rfl) (hpl : (backTo pos (starEach es X.env)).any (·.1) = false := by rfl) :
    DE X c W (.Call (.Name x p) (e :: es) [] pos) (mCall m ma) :=
  pe_imp (pe_callG F gd hr hg hm hk hb (fun σ => passAt tk σ) ha hdb he hpl) fun σ H Q h => call_imp hl h
end

/-! ### the law -/
section
variable {P : Program} {w : World} {K : PySem.W.Frag} {mg mb : Str → Option Value} {CX : CXT} {k : Nat} {fa a : Addr} {fd : FuncData} {x : Str} {sp : Sp} {s₁ : Shared} {vs : List Value} {ns : List Int}
theorem law_callG (KX : K.In s₁.heap) (hns : s₁.heap.Ns mainGlobals mg) (hb : s₁.heap.Ns builtinsNs mb) (hbb : ∀ x : Str, x ≠ "__name__" → mb x = bootBuiltins x) (hlim : s₁.heap.NoLimit) (hg : s₁.gens = #[])
    (ha : s₁.heap.get? a = some { cls := .type "list", data := .seq vs.toArray }) (hi : IntsAre vs ns) (hl : ns.length ≤ sizeLine) (hr : Room k callerA)
    (F : ∀ base : Heap, K.In base → base.Ns mainGlobals mg → FnG P w K mg base CX k fa fd [x] sp) (hbind : ∀ (s : Shared) (u : Value), BindsTo s fd ⟨[u], []⟩ [(x, u)])
    (hsp : ∀ H : Hp, Only H → SqL K H a (ns.map V.int) → sp [.ref a] H (fun v _ => v = .bl true) fun _ _ _ => False)
    (hCX : ∀ H e s', CX [] H s₁ (fun _ _ _ => False) e s' → False) :
    codeAny (model P w) callerA (.call (.ref fa) ⟨[.ref a], []⟩) (fun r s' => r = .ok (.ret (.bool true)) ∧ OldK s₁.heap s'.heap ∧ s'.os = s₁.os ∧ AllBare s'.gens) s₁ := by
  have rv := vals_ints hi
  have core : ∀ H : Hp, Only H → SqL K H a (ns.map V.int) → HOk P w H s₁.heap → (∀ b, b ≠ a → H b = none) → (H a ≠ none → K.lookup a = none) →
      codeAny (model P w) callerA (.call (.ref fa) ⟨[.ref a], []⟩) (fun r s' => r = .ok (.ret (.bool true)) ∧ OldK s₁.heap s'.heap ∧ s'.os = s₁.os ∧ AllBare s'.gens) s₁ := by
    intro H hO hS hok hA hK
    -- what is not the script's own object is not tracked
    have dict0 : ∀ {b : Addr} {m : Str → Option Value}, s₁.heap.Ns b m → (hidT s₁.heap H).Ns b m := fun {b m} ⟨o, es, ep, e, d, r⟩ => by
      have hba : b ≠ a := fun z => by subst z; rw [ha] at e; cases e; exact Data.noConfusion d
      exact ⟨o, es, ep, hidT_get e (hA b hba), d, r⟩
    have K0 : K.In (hidT s₁.heap H) := fun b o e => hidT_get (KX b o e) (Classical.byContradiction fun z => by
      have hba : b = a := Classical.byContradiction fun y => z (hA b y)
      subst hba
      rw [hK z] at e
      cases e)
    have hM : Mod K mg (hidT s₁.heap H) := ⟨K0, dict0 hns, ⟨mb, dict0 hb, hbb⟩, let ⟨mc, h1, h2⟩ := hlim; ⟨mc, dict0 h1, h2⟩⟩
    have e0 : Env0 P w K mg (hidT s₁.heap H) callerA [] s₁ H := ⟨rfl, hM, fun b o e => of_hidT e, Nat.le_of_eq (hidT_size _ _), trivial, fun b hb => absurd (show b ∈ ([] : List Addr) from hb) (by simp), hok, .of_eq hg⟩
    refine codeAny_mono ((F _ K0 (dict0 hns)).run callerA [] s₁ H ⟨[.ref a], []⟩ [.ref a] [.ref a] _ _ rfl hr e0 (hbind s₁ (.ref a)) (.cons rfl .nil) (hsp H hO hS)) fun r s' h => ?_
    match r, h with
    | .error e, h => exact (hCX H e s' h).elim
    | .ok .next, h => exact h.elim
    | .ok .brk, h => exact h.elim
    | .ok .cont, h => exact h.elim
    | .ok (.ret u), h =>
      obtain ⟨v, H', os, bare, un, hok', r', q⟩ := h
      obtain rfl : v = .bl true := q
      obtain rfl : u = Value.bool true := r'
      refine ⟨rfl, OldK.of_keep fun b o e => ?_, os, bare⟩
      rcases hO b with q | ⟨ob, xs, q⟩
      · exact un.keep b o e q (fun z => absurd (show b ∈ ([] : List Addr) from z) (by simp)) (by simp)
      · obtain ⟨e1, _⟩ := hok b _ q
        obtain ⟨e2, _⟩ := hok' b _ (un.frzs b ob _ q)
        rw [e] at e1
        cases e1
        exact e2
  have lv : vs.toArray.size ≤ sizeLine := by rw [List.size_toArray, hi.length]; exact hl
  cases hk : K.lookup a with
  | some o =>
    have e := (KX a o hk).symm.trans ha
    cases e
    exact core (fun _ => none) (fun _ => .inl rfl) (.inr ⟨_, vs.toArray, _, hk, rfl, rfl, rfl, lv, by simpa using rv⟩) (fun b u z => by have z' : (none : Option HO) = some u := z; cases z') (fun _ _ => rfl) fun z => absurd rfl z
  | none =>
    refine core (fun b => if b = a then some (.frz { cls := .type "list", data := .seq vs.toArray } (.lst (ns.map V.int))) else none) (fun b => ?_) (.inl (.inr ⟨_, if_pos rfl⟩)) (fun b u z => ?_) (fun b z => if_neg z) fun _ => hk
    · by_cases hb : b = a
      · exact .inr ⟨_, _, if_pos hb⟩
      · exact .inl (if_neg hb)
    · by_cases hb : b = a
      · have z' := (if_pos hb).symm.trans z
        cases z'
        subst hb
        exact ⟨ha, by rw [List.length_map]; exact hl, vs, _, rv, ha⟩
      · have z' := (if_neg hb).symm.trans z
        cases z'
end
theorem law_fnG {P : Program} {w : World} {K : PySem.W.Frag} {mg : Str → Option Value} {base : Heap} {k : Nat} {f : Addr} {fd : FuncData} {x : Str} {m : Fn} (mk : Addr → List Int → Ct) (hsa : ∀ a ns, (mk a ns).sa = a ∧ (mk a ns).sns = ns) (hc : ∀ a ns, ns.length ≤ 63 → CtOk K (mk a ns))
    (hF : ∀ a ns, FnG P w K mg base (L2.CX P w) k f fd [x] (spM K (mk a ns) 1 m)) (hm : ∀ ns : List Int, ns.length ≤ 63 → ∃ h, m [.scr ns] [] = .ok (.bl true) h) : FnG P w K mg base (L2.CX P w) k f fd [x] (spLaw K) := by
  refine ⟨fun vs H Q E ⟨a, ns, e, _⟩ => by rw [e]; rfl, fun A outer s H args us vs Q E gd hr e0 hb r hsp => ?_⟩
  obtain ⟨a, ns, rfl, hl, hO, hS, q⟩ := hsp
  obtain ⟨h1, h2⟩ := hsa a ns
  refine (hF a ns).run A outer s H args us [.ref a] Q E gd hr e0 hb r ⟨[], [.scr ns], [], ⟨hc a ns hl, scr_of hO (by rw [h1, h2]; exact hS), rfl, fun n o e => by simp at e, fun n m a o e => by simp at e⟩, .cons ⟨by rw [h1], h2.symm⟩ .nil, rfl, ?_⟩
  obtain ⟨h', e⟩ := hm ns hl
  rw [e]
  intro ι' H' b e1 r1 rb
  cases rb
  exact q H'
theorem law_endG {l : PySem.W.OpenLaw} {q : Program} {loose : List Str} {XP : (Str → Option Value) → Heap → Prop} {YP : World → Heap → Prop} {d : DefRec} {K : Params → PySem.W.Frag} {k : Nat} {x : Str} (hn : l.most = some 63) (hdf : d.params.defaults = []) (hr : Room k callerA)
    (hY : ∀ (w : World) (h : Heap), YP w h → (K w.params).In h)
    (F : ∀ (w : World) (mg : Str → Option Value) (fa : Addr) (h : Heap), (K w.params).In h → h.Ns mainGlobals mg → mg d.name = some (.ref fa) →
      ∃ fd : FuncData, (∀ (s : Shared) (u : Value), BindsTo s fd ⟨[u], []⟩ [(x, u)]) ∧ ∀ base : Heap, (K w.params).In base → base.Ns mainGlobals mg → FnG l.prog w (K w.params) mg base (L2.CX l.prog w) k fa fd [x] (spLaw (K w.params))) :
    PySem.W.WalkO q loose XP YP l.row.toRowW d [] (fun f vs => PySem.call f vs) := by
  refine Att.attach_call hn hdf fun w s₀ s₁ mg mb fa o pm cd doc a vs ns G Y ho hd hcd hmg hobj hints hlen hg => ?_
  have KX := hY w _ Y
  obtain ⟨fd, hb, hF⟩ := F w mg fa _ KX G.T.g hmg
  exact law_callG KX G.T.g G.T.b G.T.builtins G.T.nolimit hg hobj hints (Nat.le_trans hlen (by decide)) hr hF hb (fun H hO hS => ⟨a, ns, rfl, hlen, hO, hS, fun _ => rfl⟩) fun H e s' h => by
    obtain ⟨_, _, _, _, _, _, _, _, _, _, _, _, z⟩ := h
    exact z.elim
end Det

/-! Det25: repr(v) of data. -/
namespace Det
open PySem PySem.Spec PyProof.Rows L2

mutual
def hasL : PyData → Bool
  | .list _ => true
  | .tuple xs => hasLs xs
  | _ => false
def hasLs : List PyData → Bool
  | [] => false
  | x :: xs => hasL x || hasLs xs
end
def shP : Nat → Hh → AV → Option PyData
  | 0, _, _ => none
  | f + 1, h, v => match v with
    | .non => some .none
    | .bl b => some (.bool b)
    | .int i => some (.int i)
    | .str s => some (.str (mkS s))
    | .ref n => match h[n]? with
      | some (.lst xs) => (mapO (shP f h) xs).map .list
      | some (.tup xs) => (mapO (shP f h) xs).map .tuple
      | some (.dic []) => some (.dict [])
      | _ => none
    | .con k => match k.tup? with
      | some xs => (mapO (shP f h) xs).map .tuple
      | none => none
    | .scr _ => none
theorem shP_depth : ∀ (f : Nat) (h : Hh) (v : AV) (d : PyData), shP f h v = some d → d.depth ≤ f := by
  intro f
  induction f with
  | zero => intro h v d e; simp [shP] at e
  | succ f ih =>
    intro h v d e
    have all : ∀ (xs : List AV) (ds : List PyData), mapO (shP f h) xs = some ds → PyData.depthAll ds ≤ f := by
      intro xs
      induction xs with
      | nil => intro ds e; rw [mapO_nil e]; simp [PyData.depthAll]
      | cons x r ihr =>
        intro ds e
        obtain ⟨y, ys, e1, e2, rfl⟩ := mapO_cons e
        simp only [PyData.depthAll]
        exact Nat.max_le.mpr ⟨ih h x y e1, ihr ys e2⟩
    unfold shP at e
    split at e
    · cases e; simp [PyData.depth]
    · cases e; simp [PyData.depth]
    · cases e; simp [PyData.depth]
    · cases e; simp [PyData.depth]
    · split at e
      · obtain ⟨ds, e1, rfl⟩ := Option.map_eq_some_iff.mp e
        simp only [PyData.depth]; exact Nat.succ_le_succ (all _ _ e1)
      · obtain ⟨ds, e1, rfl⟩ := Option.map_eq_some_iff.mp e
        simp only [PyData.depth]; exact Nat.succ_le_succ (all _ _ e1)
      · cases e; simp [PyData.depth, PyData.depthKv]
      · cases e
    · split at e
      · obtain ⟨ds, e1, rfl⟩ := Option.map_eq_some_iff.mp e
        simp only [PyData.depth]; exact Nat.succ_le_succ (all _ _ e1)
      · cases e
    · cases e
section
variable {P : Program} {w : World} {K : PySem.W.Frag} {c : Ct} {ι : List Addr} {ah : Hh} {H : Hp} {h : Heap}
/-- the addresses of a datum without lists are no module table -/
def Ssm (p : PyData) (as : List Addr) : Prop := hasL p = false → sysModules ∉ as
theorem shP_reads (rh : RelH K c ι ah H) (hok : HOk P w H h) (KX : K.In h) : ∀ (f : Nat) (v : AV) (p : PyData), shP f ah v = some p → ∀ (ι0 : List Addr) (x : V) (u : Value), (ι0 = ι ∨ ι0 = []) → RV c ι0 v x → RelV x u → ∃ as, Reads h u p as ∧ Ssm p as := by
  intro f
  induction f with
  | zero => intro v p e; simp [shP] at e
  | succ f ih =>
    intro v p e ι0 x u hι r ru
    have all : ∀ (xs : List AV) (ds : List PyData), mapO (shP f ah) xs = some ds → ∀ (ι0 : List Addr) (vs : List V) (us : List Value), (ι0 = ι ∨ ι0 = []) → RVs c ι0 xs vs → Vals vs us → ∃ as, ReadsAll h us ds as ∧ (hasLs ds = false → sysModules ∉ as) := by
      intro xs
      induction xs with
      | nil =>
        intro ds e ι0 vs us hι r ru
        rw [mapO_nil e]
        cases r
        cases ru
        exact ⟨[], .nil, fun _ z => by simp at z⟩
      | cons x r ihr =>
        intro ds e ι0 vs us hι r ru
        obtain ⟨y, ys, e1, e2, rfl⟩ := mapO_cons e
        cases r with
        | cons ra rb =>
          cases ru with
          | cons r1 r2 =>
            obtain ⟨as, q1, q2⟩ := ih x y e1 ι0 _ _ hι ra r1
            obtain ⟨bs, q3, q4⟩ := ihr ys e2 ι0 _ _ hι rb r2
            refine ⟨as ++ bs, .cons q1 q3, fun z => ?_⟩
            unfold hasLs at z
            rw [Bool.or_eq_false_iff] at z
            rw [List.mem_append]
            exact fun y => y.elim (q2 z.1) (q4 z.2)
    have atR : ∀ {n : Nat} {o : AO}, ah[n]? = some o → RV c ι0 (.ref n) x → ∃ a, x = .ref a ∧ RO c ι H a o := fun {n o} e2 r2 => by
      rcases hι with rfl | rfl
      · obtain ⟨a, q1, _, q2⟩ := rh.at e2 r2
        exact ⟨a, q1, q2⟩
      · obtain ⟨a, q1, _⟩ := r2
        simp at q1
    unfold shP at e
    split at e
    · cases e; cases r; cases ru; exact ⟨[], .none, fun _ z => by simp at z⟩
    · cases e; cases r; cases ru; exact ⟨[], .bool _, fun _ z => by simp at z⟩
    · cases e; cases r; obtain ⟨t, rfl⟩ := ru; exact ⟨[], .int _ _, fun _ z => by simp at z⟩
    · cases e; cases r; obtain ⟨t, rfl⟩ := ru; exact ⟨[], .str _ _, fun _ z => by simp at z⟩
    · split at e
      · rename_i n _ xs en
        obtain ⟨ds, e1, rfl⟩ := Option.map_eq_some_iff.mp e
        obtain ⟨a, rfl, vs, rv, hH⟩ := atR en r
        cases ru
        obtain ⟨_, its, m, rv2, hg⟩ := hok a _ hH
        obtain ⟨as, q1, _⟩ := all xs ds e1 ι vs its (.inl rfl) rv rv2
        exact ⟨a :: as, .list hg rfl rfl q1, fun z => by simp [hasL] at z⟩
      · rename_i n _ xs en
        obtain ⟨ds, e1, rfl⟩ := Option.map_eq_some_iff.mp e
        obtain ⟨a, rfl, vs, rv, hH⟩ := atR en r
        cases ru
        obtain ⟨_, its, rv2, o, hg, hc, m, hd⟩ := Rd.ok hH hok
        obtain ⟨as, q1, q2⟩ := all xs ds e1 ι vs its (.inl rfl) rv rv2
        exact ⟨as, .tuple hg hc hd q1, fun z => q2 (by simpa [hasL] using z)⟩
      · rename_i n _ en
        cases e
        obtain ⟨a, rfl, vs, rv, hH⟩ := atR en r
        cases rv
        cases ru
        obtain ⟨_, hs, vs', kv, o, es, ep, hg, hx, hd, _, he, _⟩ := dk_of hok hH
        have hes : es.toList = [] := by
          cases kv
          generalize es.toList = l at he
          cases he
          rfl
        refine ⟨a :: [] ++ [], .dict hg hx.1 hd ?_ ?_, fun _ z => ?_⟩
        · rw [hes]; exact .nil
        · rw [hes]; exact .nil
        · have z' : sysModules = a := by simpa using z
          subst z'
          simp at hs
      · cases e
    · rename_i k
      split at e
      · rename_i xs ek
        obtain ⟨ds, e1, rfl⟩ := Option.map_eq_some_iff.mp e
        obtain ⟨rfl, hk⟩ := r
        cases ru
        obtain ⟨vs, rv, o, its, m, hl, hc, hd, _, rv2⟩ := rh.cok.tup k xs hk ek
        obtain ⟨as, q1, q2⟩ := all xs ds e1 [] vs its.toList (.inr rfl) rv rv2
        exact ⟨as, .tuple (KX _ _ hl) hc hd q1, fun z => q2 (by simpa [hasL] using z)⟩
      · cases e
    · cases e
end
def shOk (p : PyData) : Bool := p.showable && (!p.hasDict || !hasL p) && decide (p.shown.length ≤ LINE)
def shS (p : PyData) : List Nat := p.shown.cps.toList
def bRepr : OpN := fun as h => match as with
  | [v] => match shP 40 h v with
    | some p => if shOk p = true then some (.str (shS p), h) else none
    | none => none
  | _ => none
section
variable {X : Cx} {c : Ct} {W : WX}
theorem dl_repr (gd : X.A.guards = some []) (hu : X.A.units + 64 < cLine) : DCl X c (.builtin "repr") bRepr := dcl fun pins s σ H xs us Q ι as ah w ah' I r rh ra e q => by
  unfold bRepr at e
  split at e
  · rename_i v
    split at e
    · rename_i p hp
      split at e
      · rename_i hk
        cases e
        unfold shOk at hk
        rw [Bool.and_eq_true, Bool.and_eq_true, decide_eq_true_eq] at hk
        obtain ⟨⟨k1, k2⟩, k3⟩ := hk
        obtain ⟨x, rfl, rx⟩ := rvs1 ra
        obtain ⟨u, rfl, ru⟩ := vals1 r
        have hz := le_of_line k3
        obtain ⟨as, hr, hs⟩ := shP_reads rh I.hok I.kIn 40 v p hp ι x u (.inl rfl) rx ru
        have hd := shP_depth 40 ah v p hp
        have hsm : p.hasDict = true → sysModules ∉ as := fun z => hs (by rw [z] at k2; simpa using k2)
        have fin : ∀ (h' : Heap) (tk : Nat) (t : Tok), (∀ b o, s.heap.get? b = some o → h'.get? b = some o) → EP X pins σ Q (.str p.shown t) { s with heap := h', toks := tk } := fun h' tk t k =>
          ⟨.str (mkS (shS p)), H, I.kept k, ⟨t, by unfold shS; rw [mkS_tl]⟩, q ι H _ (Ext.refl _ _) rh rfl⟩
        have fin0 : ∀ (t : Tok) (tk : Nat), EP X pins σ Q (.str p.shown t) { s with toks := tk } := fun t tk => fin s.heap tk t fun _ _ e => e
        cases hr with
        | none => exact PySem.P.repr_of_none (fin0 _ _)
        | bool b => exact PySem.P.repr_of_bool (fin0 _ _)
        | int i t => exact PySem.P.repr_of_int (by simpa [PyData.showable] using k1) (fin0 _ _)
        | str y t => exact PySem.P.repr_of_str (fin0 _ _) hz
        | list h1 h2 h3 h4 => exact repr_of_reads' (.list h1 h2 h3 h4) k1 hsm gd (by omega) (fun _ _ e => e) (fun h' u tk k => fin h' tk u k) hz
        | tuple h1 h2 h3 h4 => exact repr_of_reads' (.tuple h1 h2 h3 h4) k1 hsm gd (by omega) (fun _ _ e => e) (fun h' u tk k => fin h' tk u k) hz
        | dict h1 h2 h3 h4 h5 => exact repr_of_reads' (.dict h1 h2 h3 h4 h5) k1 hsm gd (by omega) (fun _ _ e => e) (fun h' u tk k => fin h' tk u k) hz
      · cases e
    · cases e
  · cases e
end

/-! ### the signs of a shown text -/
def cpOk (x : Str) : Prop := ∀ ch ∈ x.cps.toList, ch < 1114112
theorem cpOk_app {x y : Str} (h1 : cpOk x) (h2 : cpOk y) : cpOk (x ++ y) := fun ch hc => by
  have e : (x ++ y).cps.toList = x.cps.toList ++ y.cps.toList := by
    show (Str.append x y).cps.toList = _
    simp [Str.append]
  rw [e, List.mem_append] at hc
  exact hc.elim (h1 ch) (h2 ch)
theorem cpOk_join {sep : Str} (hs : cpOk sep) : ∀ l : List Str, (∀ x ∈ l, cpOk x) → cpOk (Str.join sep l)
  | [], _ => fun ch hc => by simp [Str.join, Str.empty] at hc
  | [x], h => h x (by simp)
  | x :: y :: r, h => cpOk_app (cpOk_app (h x (by simp)) hs) (cpOk_join hs (y :: r) fun z hz => h z (List.mem_cons_of_mem _ hz))
theorem cpOk_from : ∀ (l : List Str) (k : Nat) (acc : Str), cpOk acc → (∀ x ∈ l, cpOk x) → cpOk (textFrom k acc l)
  | [], _, acc, h, _ => h
  | t :: ts, k, acc, h, hl => by
    refine cpOk_from ts (k + 1) _ (cpOk_app (cpOk_app h ?_) (hl t (by simp))) fun x hx => hl x (List.mem_cons_of_mem _ hx)
    split
    · exact (by decide +kernel : ∀ ch ∈ ((", " : String) : Str).cps.toList, ch < 1114112)
    · exact (by decide +kernel : ∀ ch ∈ (("" : String) : Str).cps.toList, ch < 1114112)
theorem chr_lt (ch : Char) : ch.toNat < 1114112 := by
  have h := ch.valid
  unfold UInt32.isValidChar Nat.isValidChar at h
  show ch.val.toNat < _
  omega
theorem reprChar_ok {q ch : Nat} (hq : q < 1114112) (h : ch < 1114112) : ∀ d ∈ Builtin.Str.reprChar q ch, d < 1114112 := by
  have hx : ∀ (n : Nat) (a b : Nat), a < 1114112 → b < 1114112 → ∀ d ∈ [a, b] ++ (List.replicate n 48 ++ (Nat.toDigits 16 ch).map Char.toNat), d < 1114112 := fun n a b ha hb d hd => by
    rw [List.mem_append, List.mem_append] at hd
    rcases hd with hd | hd | hd
    · simp only [List.mem_cons, List.not_mem_nil, or_false] at hd
      rcases hd with rfl | rfl
      · exact ha
      · exact hb
    · rw [(List.mem_replicate.mp hd).2]; decide
    · obtain ⟨z, _, rfl⟩ := List.mem_map.mp hd
      exact chr_lt z
  have h2 : ∀ a b : Nat, a < 1114112 → b < 1114112 → ∀ d ∈ [a, b], d < 1114112 := fun a b ha hb d hd => by
    simp only [List.mem_cons, List.not_mem_nil, or_false] at hd
    rcases hd with rfl | rfl
    · exact ha
    · exact hb
  intro d
  unfold Builtin.Str.reprChar
  dsimp only
  split
  · exact h2 _ _ (by decide) h d
  split
  · exact h2 _ _ (by decide) (by decide) d
  split
  · exact h2 _ _ (by decide) (by decide) d
  split
  · exact h2 _ _ (by decide) (by decide) d
  split
  · intro hd
    have : d = ch := by simpa using hd
    rw [this]; exact h
  split
  · exact hx _ _ _ (by decide) (by decide) d
  split
  · exact hx _ _ _ (by decide) (by decide) d
  · exact hx _ _ _ (by decide) (by decide) d
theorem foldl_ok {q : Nat} (hq : q < 1114112) : ∀ (l : List Nat) (acc : Array Nat), (∀ d ∈ acc.toList, d < 1114112) → (∀ d ∈ l, d < 1114112) → ∀ d ∈ (l.foldl (fun out c => out ++ (Builtin.Str.reprChar q c).toArray) acc).toList, d < 1114112
  | [], acc, h, _ => h
  | ch :: r, acc, h, hl => by
    rw [List.foldl_cons]
    refine foldl_ok hq r _ (fun d hd => ?_) fun d hd => hl d (List.mem_cons_of_mem _ hd)
    rw [Array.toList_append, List.mem_append] at hd
    exact hd.elim (h d) (fun z => reprChar_ok hq (hl ch (by simp)) d (by simpa using z))
theorem reprText_ok {x : Str} (h : cpOk x) : cpOk (reprText x) := fun ch hc => by
  have hq : reprQuote x < 1114112 := by unfold reprQuote; split <;> decide
  unfold reprText at hc
  rw [Array.toList_push, List.mem_append] at hc
  rcases hc with hc | hc
  · rw [← Array.foldl_toList] at hc
    exact foldl_ok hq x.cps.toList #[reprQuote x] (fun d hd => by
      have : d = reprQuote x := by simpa using hd
      rw [this]; exact hq) h ch hc
  · have : ch = reprQuote x := by simpa using hc
    rw [this]; exact hq
mutual
def pOk : PyData → Bool
  | .str x => x.cps.toList.all (· < 1114112)
  | .list xs => pOks xs
  | .tuple xs => pOks xs
  | .dict kvs => kvs.isEmpty
  | _ => true
def pOks : List PyData → Bool
  | [] => true
  | x :: xs => pOk x && pOks xs
end
mutual
theorem shown_ok : ∀ d : PyData, pOk d = true → cpOk d.shown
  | .none, _ => (by decide +kernel : ∀ ch ∈ (PyData.shown .none).cps.toList, ch < 1114112)
  | .bool true, _ => (by decide +kernel : ∀ ch ∈ (PyData.shown (.bool true)).cps.toList, ch < 1114112)
  | .bool false, _ => (by decide +kernel : ∀ ch ∈ (PyData.shown (.bool false)).cps.toList, ch < 1114112)
  | .int i, _ => fun ch hc => Classical.byContradiction fun z => int_text_free' ch ⟨by omega, by omega⟩ i (by simpa only [PyData.shown] using hc)
  | .str x, h => by
    simp only [PyData.shown]
    refine reprText_ok fun ch hc => ?_
    simp only [pOk, List.all_eq_true, decide_eq_true_eq] at h
    exact h ch hc
  | .list xs, h => by
    simp only [PyData.shown]
    exact cpOk_app (cpOk_from _ _ _ (by decide +kernel : ∀ ch ∈ (("[" : String) : Str).cps.toList, ch < 1114112) (shownAll_ok xs (by simpa [pOk] using h))) (by decide +kernel : ∀ ch ∈ (("]" : String) : Str).cps.toList, ch < 1114112)
  | .tuple xs, h => by
    simp only [PyData.shown, tupleText]
    refine cpOk_app (cpOk_app (by decide +kernel : ∀ ch ∈ (("(" : String) : Str).cps.toList, ch < 1114112) (cpOk_join (by decide +kernel : ∀ ch ∈ ((", " : String) : Str).cps.toList, ch < 1114112) _ (shownAll_ok xs (by simpa [pOk] using h)))) ?_
    split
    · exact (by decide +kernel : ∀ ch ∈ ((",)" : String) : Str).cps.toList, ch < 1114112)
    · exact (by decide +kernel : ∀ ch ∈ ((")" : String) : Str).cps.toList, ch < 1114112)
  | .dict [], _ => (by decide +kernel : ∀ ch ∈ (PyData.shown (.dict [])).cps.toList, ch < 1114112)
  | .dict (_ :: _), h => by simp [pOk] at h
theorem shownAll_ok : ∀ ds : List PyData, pOks ds = true → ∀ x ∈ PyData.shownAll ds, cpOk x
  | [], _ => fun x hx => by simp [PyData.shownAll] at hx
  | d :: ds, h => fun x hx => by
    simp only [pOks, Bool.and_eq_true] at h
    simp only [PyData.shownAll, List.mem_cons] at hx
    rcases hx with rfl | hx
    · exact shown_ok d h.1
    · exact shownAll_ok ds h.2 x hx
end
end Det

/-! Det26: tuple(text). -/
namespace Det
open PySem PySem.Spec PyProof.Rows L2
def bTupleA : OpN := fun as h => match as with
  | [.str s] => if s.length ≤ LINE then some (.ref h.length, h ++ [.tup (s.map fun ch => .str [ch])]) else none
  | as => bTuple as h
section
variable {X : Cx} {c : Ct} {W : WX}
theorem dl_tupleA (hh : X.A.handled = none) : DCl X c (.type "tuple") bTupleA := dcl fun pins s σ H xs us Q ι as ah w ah' I r rh ra e q => by
  unfold bTupleA at e
  split at e
  · rename_i t
    split at e
    · rename_i hl
      cases e
      obtain ⟨x, rfl, rx⟩ := rvs1 ra
      cases rx
      obtain ⟨u, rfl, tk, rfl⟩ := vals1 r
      refine call_tuple_str hh (mkS t) tk (fun h' tk' acc' hk hacc => ?_) (by rw [size_mkS, line_eq]; exact hl)
      have hv := vals_signs hacc
      have et : (mkS t).cps.toList = t := mkS_cps t
      rw [et] at hv
      have hsz : ((t.map fun ch => V.str (mkS [ch]))).length ≤ sizeLine := by rw [List.length_map, line_eq]; exact hl
      have I1 : Inv X pins σ H { s with heap := h', toks := tk' } := I.kept hk
      refine ⟨.ref h'.objs.size, _, I1.laid (t' := tk') (a := h'.objs.size) (h' := h'.push { cls := .type "tuple", data := .seq acc' }) (fun b o e => Heap.get?_push_of_some _ e) (Nat.le_refl _) (show ObjOk X.prog X.w _ _ _ (.tup (t.map fun ch => V.str (mkS [ch]))) from ⟨hsz, acc'.toList, hv, IsTup.new _ _⟩), rfl, ?_⟩
      exact lay_tup rh (rvs_signs t) q _ (I1.hok.fresh (Nat.le_refl _))
    · cases e
  · exact dl_tuple pins s σ H xs us Q I r ⟨ι, as, ah, w, ah', rh, ra, e, q⟩
end
theorem tupleA_s {s : List Nat} {h : Hh} : bTupleA [.str s] h = if s.length ≤ LINE then some (.ref h.length, h ++ [.tup (s.map fun ch => .str [ch])]) else none := rfl
end Det


namespace Lk03
open PySem PySem.Spec PyProof.Rows L2 Det
def topS (i : Nat) : Stmt := PySem.Challenge.pw_autoclosing_k03_pairs_of_texts.main.body.getD i (.Pass ⟨0, 0, 0, 0⟩)
structure Ad where
  (is_text check_text partner_indexes pairs_in pairs_of _law_source _law_draw _law_part _law_text _law_pairs _law_equal _law_holds law c_CLOSING_OF : Addr)
structure Fd where
  (is_text check_text partner_indexes pairs_in pairs_of _law_source _law_draw _law_part _law_text _law_pairs _law_equal _law_holds law : FuncData)
abbrev t_is_text : Stmt := topS 7
abbrev t_check_text : Stmt := topS 8
abbrev t_partner_indexes : Stmt := topS 9
abbrev t_pairs_in : Stmt := topS 10
abbrev t_pairs_of : Stmt := topS 11
abbrev t__law_source : Stmt := topS 13
abbrev t__law_draw : Stmt := topS 14
abbrev t__law_part : Stmt := topS 15
abbrev t__law_text : Stmt := topS 16
abbrev t__law_pairs : Stmt := topS 18
abbrev t__law_equal : Stmt := topS 19
abbrev t__law_holds : Stmt := topS 20
abbrev t_law : Stmt := topS 21
def hasC : CK → Bool := fun k => decide (k ∈ [CK.closingOf])
structure Tp (w : World) (K : PySem.W.Frag) (mg : Str → Option Value) (c : Ct) (A : Ad) (D : Fd) : Prop where
  F_is_text : Fun K "is_text" "is_text" t_is_text A.is_text D.is_text
  G_is_text : mg "is_text" = some (.ref A.is_text)
  B_is_text : Binds K D.is_text ["value"] []
  F_check_text : Fun K "check_text" "check_text" t_check_text A.check_text D.check_text
  G_check_text : mg "check_text" = some (.ref A.check_text)
  B_check_text : Binds K D.check_text ["text"] []
  F_partner_indexes : Fun K "partner_indexes" "partner_indexes" t_partner_indexes A.partner_indexes D.partner_indexes
  G_partner_indexes : mg "partner_indexes" = some (.ref A.partner_indexes)
  B_partner_indexes : Binds K D.partner_indexes ["text"] []
  F_pairs_in : Fun K "pairs_in" "pairs_in" t_pairs_in A.pairs_in D.pairs_in
  G_pairs_in : mg "pairs_in" = some (.ref A.pairs_in)
  B_pairs_in : Binds K D.pairs_in ["text"] []
  F_pairs_of : Fun K "pairs_of" "pairs_of" t_pairs_of A.pairs_of D.pairs_of
  G_pairs_of : mg "pairs_of" = some (.ref A.pairs_of)
  B_pairs_of : Binds K D.pairs_of ["text"] []
  F__law_source : Fun K "_law_source" "_law_source" t__law_source A._law_source D._law_source
  G__law_source : mg "_law_source" = some (.ref A._law_source)
  B__law_source : Binds K D._law_source ["cell", "k"] []
  F__law_draw : Fun K "_law_draw" "_law_draw" t__law_draw A._law_draw D._law_draw
  G__law_draw : mg "_law_draw" = some (.ref A._law_draw)
  B__law_draw : Binds K D._law_draw ["source", "count"] []
  F__law_part : Fun K "_law_part" "_law_part" t__law_part A._law_part D._law_part
  G__law_part : mg "_law_part" = some (.ref A._law_part)
  B__law_part : Binds K D._law_part ["source", "letters", "kinds"] []
  F__law_text : Fun K "_law_text" "_law_text" t__law_text A._law_text D._law_text
  G__law_text : mg "_law_text" = some (.ref A._law_text)
  B__law_text : Binds K D._law_text ["source", "most"] []
  F__law_pairs : Fun K "_law_pairs" "_law_pairs" t__law_pairs A._law_pairs D._law_pairs
  G__law_pairs : mg "_law_pairs" = some (.ref A._law_pairs)
  B__law_pairs : Binds K D._law_pairs ["text"] []
  F__law_equal : Fun K "_law_equal" "_law_equal" t__law_equal A._law_equal D._law_equal
  G__law_equal : mg "_law_equal" = some (.ref A._law_equal)
  B__law_equal : Binds K D._law_equal ["result", "expected"] []
  F__law_holds : Fun K "_law_holds" "_law_holds" t__law_holds A._law_holds D._law_holds
  G__law_holds : mg "_law_holds" = some (.ref A._law_holds)
  B__law_holds : Binds K D._law_holds ["source", "most"] []
  F_law : Fun K "law" "law" t_law A.law D.law
  z_all : mg "all" = none
  z_bool : mg "bool" = none
  z_enumerate : mg "enumerate" = none
  z_int : mg "int" = none
  z_isinstance : mg "isinstance" = none
  z_len : mg "len" = none
  z_list : mg "list" = none
  z_max : mg "max" = none
  z_min : mg "min" = none
  z_range : mg "range" = none
  z_str : mg "str" = none
  z_tuple : mg "tuple" = none
  z_zip : mg "zip" = none
  s_CLOSING_OF : mg "CLOSING_OF" = some (.ref (c.con .closingOf))
  s_LETTERS : ∃ t, mg "LETTERS" = some (.str (mkS [97, 98, 99, 100, 101, 102, 103, 104, 105, 106, 107, 108, 109, 110, 111, 112, 113, 114, 115, 116, 117, 118, 119, 120, 121, 122]) t)
  s_CLOSING : ∃ t, mg "CLOSING" = some (.str (mkS [41, 93, 125]) t)
  hw : w.params = c.P
  hc : c.has = hasC
section
variable {P : Program} {w : World} {K : PySem.W.Frag} {mg : Str → Option Value} {base : Heap} {c : Ct} {A : Ad} {D : Fd}
abbrev s_is_text : Stmt := topS 7
abbrev N_is_text : List Str := ["value", "expected", "character"]
theorem sc_is_text : FnScope N_is_text ["value"] (defScope s_is_text) := ⟨rfl, rfl, rfl, by decide +kernel, rfl, by decide +kernel, by decide +kernel⟩
def b_is_text_1 : Es := mIf (mB (mBin opIn (mVar 2) (mC (.con .closingOf)))) (mExpr (mMeth "list" mAppend (mVar 1) (mCons (mBin opIx (mC (.con .closingOf)) (mVar 2)) (mNil)))) (mIf (mB (mBin opNotIn (mVar 2) (mC (.str [97, 98, 99, 100, 101, 102, 103, 104, 105, 106, 107, 108, 109, 110, 111, 112, 113, 114, 115, 116, 117, 118, 119, 120, 121, 122])))) (mIf (mOr (mB (mBin opEq (mVar 1) (mLst (mNil)))) (mB (mBin opNe (mMeth "list" mPop (mVar 1) mNil) (mVar 2)))) (mRet (mC (.bl false))) (mSkip)) (mSkip))
def b_is_text : Es := mSeq (mIf (mNot (mB (mIsi [.str] (mVar 0)))) (mRet (mC (.bl false))) (mSkip))
    (mSeq (mSet 1 (mLst (mNil)))
    (mSeq (mFor (mIter (mVar 0)) (mGn 2) (b_is_text_1))
    (mRet (mBin opEq (mVar 1) (mLst (mNil))))))
def m_is_text : Fn := mFn 3 b_is_text
theorem ok_is_text (T : Tp w K mg c A D) {j : Nat} : FnOk P w K mg base (L2.CX P w) (j + 1) A.is_text D.is_text ["value"] (spM K c 1 m_is_text) :=
  fnD (k := j + 0) T.F_is_text sc_is_text fun cdv A1 outer s H E hr =>
    (dss_cons (ds_if (dt_not (dt_val (de_isi (t := .str) (by decide) rfl (by rfl) T.z_isinstance (de_var 0 (pv 0)) (by rfl) T.z_str rfl))) (dss_one (ds_ret (de_bl))) (dss_nil))
    (dss_cons (ds_set (i := 1) sc_is_text.nd rfl (by first | exact .inl rfl | exact .inr rfl) (de_lst (da_nil)))
    (dss_cons (ds_for (vs := [2]) (passes_of rfl) rfl (di_iter (de_var 0 (pv 0))) (dg_name (i := 2) (by decide) sc_is_text.nd rfl (by first | exact .inl rfl | exact .inr rfl)) (dss_one (ds_if (dt_cmp (do_in (hu65 hr) T.hw) (de_var 2 (pv 2)) (de_gcon .closingOf (by rfl) T.s_CLOSING_OF (by rw [T.hc]; rfl)) (by with_unfolding_all rfl)) (dss_one (ds_expr (de_meth PySem.F.plainAttrs_list PySem.F.slot_list_append PySem.F.type_list_append dm_append (de_var 1 (pv 1)) (da_cons (de_ix (hu64 hr) T.hw (de_gcon .closingOf (by rfl) T.s_CLOSING_OF (by rw [T.hc]; rfl)) (de_var 2 (pv 2)) (fun _ _ => rfl)) (da_nil))))) (dss_one (ds_if (dt_cmp (do_notIn (hu65 hr) T.hw) (de_var 2 (pv 2)) (de_gstr (by rfl) T.s_LETTERS) (by with_unfolding_all rfl)) (dss_one (ds_if (dt_w (dw_or (dt_cmp (do_eq (hu64 hr)) (de_var 1 (pv 1)) (de_lst (da_nil)) (nomark _)) (dw_or1 (dt_cmp (do_ne (hu64 hr)) (de_meth0 PySem.F.plainAttrs_list PySem.F.slot_list_pop PySem.F.type_list_pop dm_pop (de_var 1 (pv 1))) (de_var 2 (pv 2)) (nomark _))))) (dss_one (ds_ret (de_bl))) (dss_nil))) (dss_nil))))))
    (dss_one (ds_ret (de_cmp (do_eq (hu64 hr)) (de_var 1 (pv 1)) (de_lst (da_nil)) (nomark _)))))))
abbrev s_check_text : Stmt := topS 8
abbrev N_check_text : List Str := ["text"]
theorem sc_check_text : FnScope N_check_text ["text"] (defScope s_check_text) := ⟨rfl, rfl, rfl, by decide +kernel, rfl, by decide +kernel, by decide +kernel⟩
def b_check_text : Es := mIf (mNot (mB (mCall m_is_text (mCons (mVar 0) (mNil))))) (mStop) (mSkip)
def m_check_text : Fn := mFn 1 b_check_text
theorem ok_check_text (T : Tp w K mg c A D) {j : Nat} : FnOk P w K mg base (L2.CX P w) (j + 2) A.check_text D.check_text ["text"] (spM K c 1 m_check_text) :=
  fnD (k := j + 1) T.F_check_text sc_check_text fun cdv A1 outer s H E hr =>
    (dss_one (ds_if (dt_not (dt_val (de_call (ok_is_text T) hr (by rfl) T.G_is_text T.F_is_text.kp T.B_is_text (takes_of rfl rfl rfl rfl) (da_cons (de_var 0 (pv 0)) (da_nil)) (alen_cons alen_nil)))) (dss_one (ds_stop)) (dss_nil)))
abbrev s_partner_indexes : Stmt := topS 9
abbrev N_partner_indexes : List Str := ["text", "found", "open_indexes", "index", "character"]
theorem sc_partner_indexes : FnScope N_partner_indexes ["text"] (defScope s_partner_indexes) := ⟨rfl, rfl, rfl, by decide +kernel, rfl, by decide +kernel, by decide +kernel⟩
def b_partner_indexes_1 : Es := mIf (mB (mBin opIn (mVar 4) (mC (.con .closingOf)))) (mExpr (mMeth "list" mAppend (mVar 2) (mCons (mVar 3) (mNil)))) (mIf (mB (mBin opIn (mVar 4) (mC (.str [41, 93, 125])))) (mSeq (mAsg (mGsub (mVar 1) (mVar 3)) (mMeth "list" mPop (mVar 2) mNil))
    (mAsg (mGsub (mVar 1) (mBin opIx (mVar 1) (mVar 3))) (mVar 3))) (mSkip))
def b_partner_indexes : Es := mSeq (mSet 1 (mBin opMul (mLst (mCons (mC .non) (mNil))) (mB1 bLen (mCons (mVar 0) (mNil)))))
    (mSeq (mSet 2 (mLst (mNil)))
    (mSeq (mFor (mEnum (mVar 0)) (mGt [mGn 3, mGn 4]) (b_partner_indexes_1))
    (mRet (mVar 1))))
def m_partner_indexes : Fn := mFn 5 b_partner_indexes
theorem ok_partner_indexes (T : Tp w K mg c A D) {j : Nat} : FnOk P w K mg base (L2.CX P w) (j + 1) A.partner_indexes D.partner_indexes ["text"] (spM K c 1 m_partner_indexes) :=
  fnD (k := j + 0) T.F_partner_indexes sc_partner_indexes fun cdv A1 outer s H E hr =>
    (dss_cons (ds_set (i := 1) sc_partner_indexes.nd rfl (by first | exact .inl rfl | exact .inr rfl) (de_bin do_mul (de_lst (da_cons (de_non) (da_nil))) (de_callB dl_len (by rfl) T.z_len rfl (da_cons (de_var 0 (pv 0)) (da_nil)))))
    (dss_cons (ds_set (i := 2) sc_partner_indexes.nd rfl (by first | exact .inl rfl | exact .inr rfl) (de_lst (da_nil)))
    (dss_cons (ds_for (vs := [3, 4]) (passes_of rfl) rfl (di_enum (by rfl) T.z_enumerate (de_var 0 (pv 0))) (dg_tup rfl (dgs_cons (dg_name (i := 3) (by decide) sc_partner_indexes.nd rfl (by first | exact .inl rfl | exact .inr rfl)) (dgs_cons (dg_name (i := 4) (by decide) sc_partner_indexes.nd rfl (by first | exact .inl rfl | exact .inr rfl)) (dgs_nil)))) (dss_one (ds_if (dt_cmp (do_in (hu65 hr) T.hw) (de_var 4 (pv 4)) (de_gcon .closingOf (by rfl) T.s_CLOSING_OF (by rw [T.hc]; rfl)) (by with_unfolding_all rfl)) (dss_one (ds_expr (de_meth PySem.F.plainAttrs_list PySem.F.slot_list_append PySem.F.type_list_append dm_append (de_var 2 (pv 2)) (da_cons (de_var 3 (pv 3)) (da_nil))))) (dss_one (ds_if (dt_cmp (do_in (hu65 hr) T.hw) (de_var 4 (pv 4)) (de_gstr (by rfl) T.s_CLOSING) (by with_unfolding_all rfl)) (dss_cons (ds_asg (vs := []) (de_meth0 PySem.F.plainAttrs_list PySem.F.slot_list_pop PySem.F.type_list_pop dm_pop (de_var 2 (pv 2))) (dg_sub (W := W0) (hu64 hr) (de_var 1 (pv 1)) (de_var 3 (pv 3)) (fun _ => rfl)))
    (dss_one (ds_asg (vs := []) (de_var 3 (pv 3)) (dg_sub (W := W0) (hu64 hr) (de_var 1 (pv 1)) (de_ix (hu64 hr) T.hw (de_var 1 (pv 1)) (de_var 3 (pv 3)) (fun _ _ => rfl)) (fun _ => rfl))))) (dss_nil))))))
    (dss_one (ds_ret (de_var 1 (pv 1)))))))
abbrev s_pairs_in : Stmt := topS 10
abbrev N_pairs_in : List Str := ["text", "index", "other"]
theorem sc_pairs_in : FnScope N_pairs_in ["text"] (defScope s_pairs_in) := ⟨rfl, rfl, rfl, by decide +kernel, rfl, by decide +kernel, by decide +kernel⟩
def b_pairs_in : Es := mRet (mLc (mEnum (mCall m_partner_indexes (mCons (mVar 0) (mNil)))) [1, 2] (mGt [mGn 1, mGn 2]) (mAnd (mB (mBin opIsNot (mVar 2) (mC .non))) (mB (mBin opLt (mVar 1) (mVar 2)))) (mTup (mCons (mVar 1) (mCons (mVar 2) (mNil)))))
def m_pairs_in : Fn := mFn 3 b_pairs_in
theorem ok_pairs_in (T : Tp w K mg c A D) {j : Nat} : FnOk P w K mg base (L2.CX P w) (j + 2) A.pairs_in D.pairs_in ["text"] (spM K c 1 m_pairs_in) :=
  fnD (k := j + 1) T.F_pairs_in sc_pairs_in fun cdv A1 outer s H E hr =>
    (dss_one (ds_ret (de_lc (own := [("index", 1), ("other", 2)]) (vs := [1, 2]) rfl sc_pairs_in.nd (di_enum (by rfl) T.z_enumerate (de_call (ok_partner_indexes T) hr (by rfl) T.G_partner_indexes T.F_partner_indexes.kp T.B_partner_indexes (takes_of rfl rfl rfl rfl) (da_cons (de_var 0 (pv 0)) (da_nil)) (alen_cons alen_nil))) (by show BlkOk N_pairs_in (defScope s_pairs_in) _ [("index", 1), ("other", 2)]; exact ⟨rfl, by decide +kernel, by decide +kernel, by decide +kernel, by decide +kernel⟩) rfl (fun s H C cl fp => dg_tup rfl (dgs_cons (dg_name (i := 1) (by decide) sc_pairs_in.nd rfl (by first | exact .inl rfl | exact .inr rfl)) (dgs_cons (dg_name (i := 2) (by decide) sc_pairs_in.nd rfl (by first | exact .inl rfl | exact .inr rfl)) (dgs_nil)))) (fun s H C cl fp => dts_one (dt_w (dw_and (dt_cmp do_isNot (de_var 2 (pv 2)) (de_non) (nomark _)) (dw_and1 (dt_cmp do_lt (de_var 1 (pv 1)) (de_var 2 (pv 2)) (nomark _)))))) (fun s H C cl fp => de_tup (da_cons (de_var 1 (pv 1)) (da_cons (de_var 2 (pv 2)) (da_nil)))))))
abbrev s_pairs_of : Stmt := topS 11
abbrev N_pairs_of : List Str := ["text"]
theorem sc_pairs_of : FnScope N_pairs_of ["text"] (defScope s_pairs_of) := ⟨rfl, rfl, rfl, by decide +kernel, rfl, by decide +kernel, by decide +kernel⟩
def b_pairs_of : Es := mSeq (mExpr (mCall m_check_text (mCons (mVar 0) (mNil))))
    (mRet (mCall m_pairs_in (mCons (mVar 0) (mNil))))
def m_pairs_of : Fn := mFn 1 b_pairs_of
theorem ok_pairs_of (T : Tp w K mg c A D) {j : Nat} : FnOk P w K mg base (L2.CX P w) (j + 3) A.pairs_of D.pairs_of ["text"] (spM K c 1 m_pairs_of) :=
  fnD (k := j + 2) T.F_pairs_of sc_pairs_of fun cdv A1 outer s H E hr =>
    (dss_cons (ds_expr (de_call (ok_check_text T) hr (by rfl) T.G_check_text T.F_check_text.kp T.B_check_text (takes_of rfl rfl rfl rfl) (da_cons (de_var 0 (pv 0)) (da_nil)) (alen_cons alen_nil)))
    (dss_one (ds_ret (de_call (ok_pairs_in T) hr (by rfl) T.G_pairs_in T.F_pairs_in.kp T.B_pairs_in (takes_of rfl rfl rfl rfl) (da_cons (de_var 0 (pv 0)) (da_nil)) (alen_cons alen_nil)))))
abbrev s__law_source : Stmt := topS 13
abbrev N__law_source : List Str := ["cell", "k"]
theorem sc__law_source : FnScope N__law_source ["cell", "k"] (defScope s__law_source) := ⟨rfl, rfl, rfl, by decide +kernel, rfl, by decide +kernel, by decide +kernel⟩
def b__law_source : Es := mRet (mLst (mCons (mB1 bMax (mCons (mC (.int 0)) (mCons (mBin opSub (mVar 0) (mBin opPow (mC (.int 10)) (mC (.int 18)))) (mNil)))) (mCons (mBin opAdd (mBin opMul (mBin opMod (mVar 0) (mBin opAdd (mBin opPow (mC (.int 10)) (mC (.int 36))) (mC (.int 67)))) (mC (.int 59))) (mVar 1)) (mCons (mC (.int 0)) (mNil)))))
def m__law_source : Fn := mFn 2 b__law_source
theorem ok__law_source (T : Tp w K mg c A D) {j : Nat} : FnOk P w K mg base (L2.CX P w) (j + 1) A._law_source D._law_source ["cell", "k"] (spM K c 2 m__law_source) :=
  fnD (k := j + 0) T.F__law_source sc__law_source fun cdv A1 outer s H E hr =>
    (dss_one (ds_ret (de_lst (da_cons (de_callB (dl_max rfl) (by rfl) T.z_max rfl (da_cons (de_int) (da_cons (de_bin do_sub (de_var 0 (pv 0)) (de_bin do_pow (de_int) (de_int))) (da_nil)))) (da_cons (de_bin do_add (de_bin do_mul (de_bin do_mod (de_var 0 (pv 0)) (de_bin do_add (de_bin do_pow (de_int) (de_int)) (de_int))) (de_int)) (de_var 1 (pv 1))) (da_cons (de_int) (da_nil)))))))
abbrev s__law_draw : Stmt := topS 14
abbrev N__law_draw : List Str := ["source", "count", "digit", "mixed"]
theorem sc__law_draw : FnScope N__law_draw ["source", "count"] (defScope s__law_draw) := ⟨rfl, rfl, rfl, by decide +kernel, rfl, by decide +kernel, by decide +kernel⟩
def b__law_draw : Es := mSeq (mIf (mB (mBin opGt (mBin opIx (mVar 0) (mC (.int 0))) (mC (.int 0)))) (mSeq (mSet 2 (mBin opMod (mBin opIx (mVar 0) (mC (.int 0))) (mVar 1)))
    (mSeq (mAsg (mGsub (mVar 0) (mC (.int 0))) (mBin opDiv (mBin opIx (mVar 0) (mC (.int 0))) (mVar 1)))
    (mRet (mVar 2)))) (mSkip))
    (mSeq (mAsg (mGsub (mVar 0) (mC (.int 2))) (mBin opAdd (mBin opIx (mVar 0) (mC (.int 2))) (mC (.int 1))))
    (mSeq (mSet 3 (mBin opMod (mBin opPow (mBin opAdd (mBin opIx (mVar 0) (mC (.int 1))) (mBin opMul (mC (.int 800105)) (mBin opIx (mVar 0) (mC (.int 2))))) (mC (.int 3))) (mBin opAdd (mBin opPow (mC (.int 10)) (mC (.int 38))) (mC (.int 133)))))
    (mSeq (mSet 3 (mBin opMod (mBin opPow (mBin opAdd (mVar 3) (mBin opMul (mC (.int 37)) (mBin opIx (mVar 0) (mC (.int 2))))) (mC (.int 3))) (mBin opAdd (mBin opPow (mC (.int 10)) (mC (.int 35))) (mC (.int 69)))))
    (mRet (mBin opMod (mBin opDiv (mVar 3) (mC (.int 65539))) (mVar 1))))))
def m__law_draw : Fn := mFn 4 b__law_draw
theorem ok__law_draw (T : Tp w K mg c A D) {j : Nat} : FnOk P w K mg base (L2.CX P w) (j + 1) A._law_draw D._law_draw ["source", "count"] (spM K c 2 m__law_draw) :=
  fnD (k := j + 0) T.F__law_draw sc__law_draw fun cdv A1 outer s H E hr =>
    (dss_cons (ds_if (dt_cmp do_gt (de_ix (hu64 hr) T.hw (de_var 0 (pv 0)) (de_int) (fun _ _ => rfl)) (de_int) (nomark _)) (dss_cons (ds_set (i := 2) sc__law_draw.nd rfl (by first | exact .inl rfl | exact .inr rfl) (de_bin do_mod (de_ix (hu64 hr) T.hw (de_var 0 (pv 0)) (de_int) (fun _ _ => rfl)) (de_var 1 (pv 1))))
    (dss_cons (ds_asg (vs := []) (de_bin do_div (de_ix (hu64 hr) T.hw (de_var 0 (pv 0)) (de_int) (fun _ _ => rfl)) (de_var 1 (pv 1))) (dg_sub (W := W0) (hu64 hr) (de_var 0 (pv 0)) (de_int) (fun _ => rfl)))
    (dss_one (ds_ret (de_var 2 (pv 2)))))) (dss_nil))
    (dss_cons (ds_asg (vs := []) (de_bin do_add (de_ix (hu64 hr) T.hw (de_var 0 (pv 0)) (de_int) (fun _ _ => rfl)) (de_int)) (dg_sub (W := W0) (hu64 hr) (de_var 0 (pv 0)) (de_int) (fun _ => rfl)))
    (dss_cons (ds_set (i := 3) sc__law_draw.nd rfl (by first | exact .inl rfl | exact .inr rfl) (de_bin do_mod (de_bin do_pow (de_bin do_add (de_ix (hu64 hr) T.hw (de_var 0 (pv 0)) (de_int) (fun _ _ => rfl)) (de_bin do_mul (de_int) (de_ix (hu64 hr) T.hw (de_var 0 (pv 0)) (de_int) (fun _ _ => rfl)))) (de_int)) (de_bin do_add (de_bin do_pow (de_int) (de_int)) (de_int))))
    (dss_cons (ds_set (i := 3) sc__law_draw.nd rfl (by first | exact .inl rfl | exact .inr rfl) (de_bin do_mod (de_bin do_pow (de_bin do_add (de_var 3 (pv 3)) (de_bin do_mul (de_int) (de_ix (hu64 hr) T.hw (de_var 0 (pv 0)) (de_int) (fun _ _ => rfl)))) (de_int)) (de_bin do_add (de_bin do_pow (de_int) (de_int)) (de_int))))
    (dss_one (ds_ret (de_bin do_mod (de_bin do_div (de_var 3 (pv 3)) (de_int)) (de_var 1 (pv 1)))))))))
abbrev s__law_part : Stmt := topS 15
abbrev N__law_part : List Str := ["source", "letters", "kinds"]
theorem sc__law_part : FnScope N__law_part ["source", "letters", "kinds"] (defScope s__law_part) := ⟨rfl, rfl, rfl, by decide +kernel, rfl, by decide +kernel, by decide +kernel⟩
def b__law_part : Es := mSeq (mIf (mB (mBin opEq (mCall m__law_draw (mCons (mVar 0) (mCons (mC (.int 2)) (mNil)))) (mC (.int 0)))) (mRet (mBin opIx (mVar 1) (mCall m__law_draw (mCons (mVar 0) (mCons (mB1 bLen (mCons (mVar 1) (mNil))) (mNil)))))) (mSkip))
    (mRet (mBin opIx (mVar 2) (mCall m__law_draw (mCons (mVar 0) (mCons (mB1 bLen (mCons (mVar 2) (mNil))) (mNil))))))
def m__law_part : Fn := mFn 3 b__law_part
theorem ok__law_part (T : Tp w K mg c A D) {j : Nat} : FnOk P w K mg base (L2.CX P w) (j + 2) A._law_part D._law_part ["source", "letters", "kinds"] (spM K c 3 m__law_part) :=
  fnD (k := j + 1) T.F__law_part sc__law_part fun cdv A1 outer s H E hr =>
    (dss_cons (ds_if (dt_cmp (do_eq (hu64 hr)) (de_call (ok__law_draw T) hr (by rfl) T.G__law_draw T.F__law_draw.kp T.B__law_draw (takes_of rfl rfl rfl rfl) (da_cons (de_var 0 (pv 0)) (da_cons (de_int) (da_nil))) (alen_cons (alen_cons alen_nil))) (de_int) (nomark _)) (dss_one (ds_ret (de_ix (hu64 hr) T.hw (de_var 1 (pv 1)) (de_call (ok__law_draw T) hr (by rfl) T.G__law_draw T.F__law_draw.kp T.B__law_draw (takes_of rfl rfl rfl rfl) (da_cons (de_var 0 (pv 0)) (da_cons (de_callB dl_len (by rfl) T.z_len rfl (da_cons (de_var 1 (pv 1)) (da_nil))) (da_nil))) (alen_cons (alen_cons alen_nil))) (fun _ _ => rfl)))) (dss_nil))
    (dss_one (ds_ret (de_ix (hu64 hr) T.hw (de_var 2 (pv 2)) (de_call (ok__law_draw T) hr (by rfl) T.G__law_draw T.F__law_draw.kp T.B__law_draw (takes_of rfl rfl rfl rfl) (da_cons (de_var 0 (pv 0)) (da_cons (de_callB dl_len (by rfl) T.z_len rfl (da_cons (de_var 2 (pv 2)) (da_nil))) (da_nil))) (alen_cons (alen_cons alen_nil))) (fun _ _ => rfl)))))
abbrev s__law_text : Stmt := topS 16
abbrev N__law_text : List Str := ["source", "most", "style", "letters", "kinds", "text", "at", "step"]
theorem sc__law_text : FnScope N__law_text ["source", "most"] (defScope s__law_text) := ⟨rfl, rfl, rfl, by decide +kernel, rfl, by decide +kernel, by decide +kernel⟩
def b__law_text_1 : Es := mSeq (mIf (mB (mBin opEq (mVar 2) (mC (.int 0)))) (mSet 6 (mCall m__law_draw (mCons (mVar 0) (mCons (mBin opAdd (mB1 bLen (mCons (mVar 5) (mNil))) (mC (.int 1))) (mNil))))) (mIf (mB (mBin opEq (mVar 2) (mC (.int 2)))) (mSet 6 (mB1 bLen (mCons (mVar 5) (mNil)))) (mSkip)))
    (mSeq (mSet 5 (mBin opAdd (mBin opAdd (mSlice (mVar 5) (mNo) (mSome (mVar 6))) (mCall m__law_part (mCons (mVar 0) (mCons (mVar 3) (mCons (mVar 4) (mNil)))))) (mSlice (mVar 5) (mSome (mVar 6)) (mNo))))
    (mSet 6 (mBin opAdd (mVar 6) (mC (.int 1)))))
def b__law_text : Es := mSeq (mSet 2 (mCall m__law_draw (mCons (mVar 0) (mCons (mC (.int 3)) (mNil)))))
    (mSeq (mSet 3 (mBin opIx (mLst (mCons (mC (.str [97])) (mCons (mC (.str [97, 98])) (mCons (mC (.str [97, 97, 98, 120, 121, 122])) (mCons (mC (.str [97, 98, 99, 100, 101, 102, 103, 104, 105, 106, 107, 108, 109, 110, 111, 112, 113, 114, 115, 116, 117, 118, 119, 120, 121, 122])) (mNil)))))) (mCall m__law_draw (mCons (mVar 0) (mCons (mC (.int 4)) (mNil))))))
    (mSeq (mSet 4 (mBin opIx (mLst (mCons (mLst (mCons (mC (.str [40, 41])) (mNil))) (mCons (mLst (mCons (mC (.str [40, 41])) (mCons (mC (.str [91, 93])) (mNil)))) (mCons (mLst (mCons (mC (.str [123, 125])) (mCons (mC (.str [91, 93])) (mCons (mC (.str [40, 41])) (mNil))))) (mNil))))) (mCall m__law_draw (mCons (mVar 0) (mCons (mC (.int 3)) (mNil))))))
    (mSeq (mAsg (mGt [mGn 5, mGn 6]) (mTup (mCons (mC (.str [])) (mCons (mC (.int 0)) (mNil)))))
    (mSeq (mFor (mRange1 (mBin opIx (mLst (mCons (mCall m__law_draw (mCons (mVar 0) (mCons (mBin opAdd (mBin opDiv (mVar 1) (mC (.int 2))) (mC (.int 1))) (mNil)))) (mCons (mBin opDiv (mVar 1) (mC (.int 2))) (mNil)))) (mBin opDiv (mCall m__law_draw (mCons (mVar 0) (mCons (mC (.int 3)) (mNil)))) (mC (.int 2))))) (mGn 7) (b__law_text_1))
    (mRet (mVar 5))))))
def m__law_text : Fn := mFn 8 b__law_text
theorem ok__law_text (T : Tp w K mg c A D) {j : Nat} : FnOk P w K mg base (L2.CX P w) (j + 3) A._law_text D._law_text ["source", "most"] (spM K c 2 m__law_text) :=
  fnD (k := j + 2) T.F__law_text sc__law_text fun cdv A1 outer s H E hr =>
    (dss_cons (ds_set (i := 2) sc__law_text.nd rfl (by first | exact .inl rfl | exact .inr rfl) (de_call (ok__law_draw T) hr (by rfl) T.G__law_draw T.F__law_draw.kp T.B__law_draw (takes_of rfl rfl rfl rfl) (da_cons (de_var 0 (pv 0)) (da_cons (de_int) (da_nil))) (alen_cons (alen_cons alen_nil))))
    (dss_cons (ds_set (i := 3) sc__law_text.nd rfl (by first | exact .inl rfl | exact .inr rfl) (de_ix (hu64 hr) T.hw (de_lst (da_cons (de_str [97]) (da_cons (de_str [97, 98]) (da_cons (de_str [97, 97, 98, 120, 121, 122]) (da_cons (de_str [97, 98, 99, 100, 101, 102, 103, 104, 105, 106, 107, 108, 109, 110, 111, 112, 113, 114, 115, 116, 117, 118, 119, 120, 121, 122]) (da_nil)))))) (de_call (ok__law_draw T) hr (by rfl) T.G__law_draw T.F__law_draw.kp T.B__law_draw (takes_of rfl rfl rfl rfl) (da_cons (de_var 0 (pv 0)) (da_cons (de_int) (da_nil))) (alen_cons (alen_cons alen_nil))) (fun _ _ => rfl)))
    (dss_cons (ds_set (i := 4) sc__law_text.nd rfl (by first | exact .inl rfl | exact .inr rfl) (de_ix (hu64 hr) T.hw (de_lst (da_cons (de_lst (da_cons (de_str [40, 41]) (da_nil))) (da_cons (de_lst (da_cons (de_str [40, 41]) (da_cons (de_str [91, 93]) (da_nil)))) (da_cons (de_lst (da_cons (de_str [123, 125]) (da_cons (de_str [91, 93]) (da_cons (de_str [40, 41]) (da_nil))))) (da_nil))))) (de_call (ok__law_draw T) hr (by rfl) T.G__law_draw T.F__law_draw.kp T.B__law_draw (takes_of rfl rfl rfl rfl) (da_cons (de_var 0 (pv 0)) (da_cons (de_int) (da_nil))) (alen_cons (alen_cons alen_nil))) (fun _ _ => rfl)))
    (dss_cons (ds_asg (vs := [5, 6]) (de_tup (da_cons (de_str []) (da_cons (de_int) (da_nil)))) (dg_tup rfl (dgs_cons (dg_name (i := 5) (by decide) sc__law_text.nd rfl (by first | exact .inl rfl | exact .inr rfl)) (dgs_cons (dg_name (i := 6) (by decide) sc__law_text.nd rfl (by first | exact .inl rfl | exact .inr rfl)) (dgs_nil)))))
    (dss_cons (ds_for (vs := [7]) (passes_of rfl) rfl (di_range1 (by rfl) T.z_range (de_ix (hu64 hr) T.hw (de_lst (da_cons (de_call (ok__law_draw T) hr (by rfl) T.G__law_draw T.F__law_draw.kp T.B__law_draw (takes_of rfl rfl rfl rfl) (da_cons (de_var 0 (pv 0)) (da_cons (de_bin do_add (de_bin do_div (de_var 1 (pv 1)) (de_int)) (de_int)) (da_nil))) (alen_cons (alen_cons alen_nil))) (da_cons (de_bin do_div (de_var 1 (pv 1)) (de_int)) (da_nil)))) (de_bin do_div (de_call (ok__law_draw T) hr (by rfl) T.G__law_draw T.F__law_draw.kp T.B__law_draw (takes_of rfl rfl rfl rfl) (da_cons (de_var 0 (pv 0)) (da_cons (de_int) (da_nil))) (alen_cons (alen_cons alen_nil))) (de_int)) (fun _ _ => rfl))) (dg_name (i := 7) (by decide) sc__law_text.nd rfl (by first | exact .inl rfl | exact .inr rfl)) (dss_cons (ds_if (dt_cmp (do_eq (hu64 hr)) (de_var 2 (pv 2)) (de_int) (nomark _)) (dss_one (ds_set (i := 6) sc__law_text.nd rfl (by first | exact .inl rfl | exact .inr rfl) (de_call (ok__law_draw T) hr (by rfl) T.G__law_draw T.F__law_draw.kp T.B__law_draw (takes_of rfl rfl rfl rfl) (da_cons (de_var 0 (pv 0)) (da_cons (de_bin do_add (de_callB dl_len (by rfl) T.z_len rfl (da_cons (de_var 5 (pv 5)) (da_nil))) (de_int)) (da_nil))) (alen_cons (alen_cons alen_nil))))) (dss_one (ds_if (dt_cmp (do_eq (hu64 hr)) (de_var 2 (pv 2)) (de_int) (nomark _)) (dss_one (ds_set (i := 6) sc__law_text.nd rfl (by first | exact .inl rfl | exact .inr rfl) (de_callB dl_len (by rfl) T.z_len rfl (da_cons (de_var 5 (pv 5)) (da_nil))))) (dss_nil))))
    (dss_cons (ds_set (i := 5) sc__law_text.nd rfl (by first | exact .inl rfl | exact .inr rfl) (de_bin do_add (de_bin do_add (de_slice (de_var 5 (pv 5)) (do_none) (do_some (de_var 6 (pv 6)))) (de_call (ok__law_part T) hr (by rfl) T.G__law_part T.F__law_part.kp T.B__law_part (takes_of rfl rfl rfl rfl) (da_cons (de_var 0 (pv 0)) (da_cons (de_var 3 (pv 3)) (da_cons (de_var 4 (pv 4)) (da_nil)))) (alen_cons (alen_cons (alen_cons alen_nil))))) (de_slice (de_var 5 (pv 5)) (do_some (de_var 6 (pv 6))) (do_none))))
    (dss_one (ds_set (i := 6) sc__law_text.nd rfl (by first | exact .inl rfl | exact .inr rfl) (de_bin do_add (de_var 6 (pv 6)) (de_int)))))))
    (dss_one (ds_ret (de_var 5 (pv 5)))))))))
abbrev s__law_pairs : Stmt := topS 18
abbrev N__law_pairs : List Str := ["text", "found", "first", "sign", "depth", "last", "one"]
theorem sc__law_pairs : FnScope N__law_pairs ["text"] (defScope s__law_pairs) := ⟨rfl, rfl, rfl, by decide +kernel, rfl, by decide +kernel, by decide +kernel⟩
def b__law_pairs_1 : Es := mIf (mB (mBin opIn (mVar 3) (mB1 bListA (mCons (mC (.str [40, 91, 123])) (mNil))))) (mSeq (mPar 4 5 (mC (.int 1)) (mVar 2))
    (mSeq (mWhile (mB (mBin opGt (mVar 4) (mC (.int 0)))) (mSeq (mSet 5 (mBin opAdd (mVar 5) (mC (.int 1))))
    (mSeq (mSet 6 (mBin opIx (mVar 0) (mVar 5)))
    (mSet 4 (mBin opSub (mBin opAdd (mVar 4) (mB1 bInt (mCons (mBin opIn (mVar 6) (mB1 bListA (mCons (mC (.str [40, 91, 123])) (mNil)))) (mNil)))) (mB1 bInt (mCons (mBin opIn (mVar 6) (mB1 bListA (mCons (mC (.str [41, 93, 125])) (mNil)))) (mNil))))))) 100000)
    (mExpr (mMeth "list" mAppend (mVar 1) (mCons (mTup (mCons (mVar 2) (mCons (mVar 5) (mNil)))) (mNil)))))) (mSkip)
def b__law_pairs : Es := mSeq (mSet 1 (mLst (mNil)))
    (mSeq (mFor (mEnum (mVar 0)) (mGt [mGn 2, mGn 3]) (b__law_pairs_1))
    (mRet (mVar 1)))
def m__law_pairs : Fn := mFn 7 b__law_pairs
theorem ok__law_pairs (T : Tp w K mg c A D) {j : Nat} : FnOk P w K mg base (L2.CX P w) (j + 1) A._law_pairs D._law_pairs ["text"] (spM K c 1 m__law_pairs) :=
  fnD (k := j + 0) T.F__law_pairs sc__law_pairs fun cdv A1 outer s H E hr =>
    (dss_cons (ds_set (i := 1) sc__law_pairs.nd rfl (by first | exact .inl rfl | exact .inr rfl) (de_lst (da_nil)))
    (dss_cons (ds_for (vs := [2, 3]) (passes_of rfl) rfl (di_enum (by rfl) T.z_enumerate (de_var 0 (pv 0))) (dg_tup rfl (dgs_cons (dg_name (i := 2) (by decide) sc__law_pairs.nd rfl (by first | exact .inl rfl | exact .inr rfl)) (dgs_cons (dg_name (i := 3) (by decide) sc__law_pairs.nd rfl (by first | exact .inl rfl | exact .inr rfl)) (dgs_nil)))) (dss_one (ds_if (dt_cmp (do_in (hu65 hr) T.hw) (de_var 3 (pv 3)) (de_callTy (dl_listA hr.hd) (by rfl) T.z_list rfl (da_cons (de_str [40, 91, 123]) (da_nil))) (by with_unfolding_all rfl)) (dss_cons (ds_par (i := 4) (j := 5) rfl sc__law_pairs.nd rfl rfl (by decide) rfl rfl (de_int) (de_var 2 (pv 2)) (by rfl))
    (dss_cons (ds_while 100000 (passes_of rfl) (dt_cmp do_gt (de_var 4 (pv 4)) (de_int) (nomark _)) (dss_cons (ds_set (i := 5) sc__law_pairs.nd rfl (by first | exact .inl rfl | exact .inr rfl) (de_bin do_add (de_var 5 (pv 5)) (de_int)))
    (dss_cons (ds_set (i := 6) sc__law_pairs.nd rfl (by first | exact .inl rfl | exact .inr rfl) (de_ix (hu64 hr) T.hw (de_var 0 (pv 0)) (de_var 5 (pv 5)) (fun _ _ => rfl)))
    (dss_one (ds_set (i := 4) sc__law_pairs.nd rfl (by first | exact .inl rfl | exact .inr rfl) (de_bin do_sub (de_bin do_add (de_var 4 (pv 4)) (de_callTy dl_int (by rfl) T.z_int rfl (da_cons (de_cmp (do_in (hu65 hr) T.hw) (de_var 6 (pv 6)) (de_callTy (dl_listA hr.hd) (by rfl) T.z_list rfl (da_cons (de_str [40, 91, 123]) (da_nil))) (by with_unfolding_all rfl)) (da_nil)))) (de_callTy dl_int (by rfl) T.z_int rfl (da_cons (de_cmp (do_in (hu65 hr) T.hw) (de_var 6 (pv 6)) (de_callTy (dl_listA hr.hd) (by rfl) T.z_list rfl (da_cons (de_str [41, 93, 125]) (da_nil))) (by with_unfolding_all rfl)) (da_nil)))))))))
    (dss_one (ds_expr (de_meth PySem.F.plainAttrs_list PySem.F.slot_list_append PySem.F.type_list_append dm_append (de_var 1 (pv 1)) (da_cons (de_tup (da_cons (de_var 2 (pv 2)) (da_cons (de_var 5 (pv 5)) (da_nil)))) (da_nil))))))) (dss_nil))))
    (dss_one (ds_ret (de_var 1 (pv 1))))))
abbrev s__law_equal : Stmt := topS 19
abbrev N__law_equal : List Str := ["result", "expected", "one", "other"]
theorem sc__law_equal : FnScope N__law_equal ["result", "expected"] (defScope s__law_equal) := ⟨rfl, rfl, rfl, by decide +kernel, rfl, by decide +kernel, by decide +kernel⟩
def b__law_equal (rec : Fn) : Es := mSeq (mIf (mB (mIsi [.list, .tuple] (mVar 1))) (mSeq (mIf (mOr (mNot (mB (mIsi [.list, .tuple] (mVar 0)))) (mB (mBin opNe (mB1 bLen (mCons (mVar 0) (mNil))) (mB1 bLen (mCons (mVar 1) (mNil)))))) (mRet (mC (.bl false))) (mSkip))
    (mSeq (mIf (mB (mBin opNe (mIsi [.list] (mVar 0)) (mIsi [.list] (mVar 1)))) (mRet (mC (.bl false))) (mSkip))
    (mRet (mB1 bAll (mCons (mLc (mZip (mVar 0) (mVar 1)) [2, 3] (mGt [mGn 2, mGn 3]) (mYes) (mCall (rec) (mCons (mVar 2) (mCons (mVar 3) (mNil))))) (mNil)))))) (mSkip))
    (mSeq (mIf (mOr (mB (mIsi [.bool, .str] (mVar 1))) (mB (mBin opIs (mVar 1) (mC .non)))) (mRet (mAndV (mBin opEq (mIsi [.bool] (mVar 0)) (mIsi [.bool] (mVar 1))) (mBin opEq (mVar 0) (mVar 1)))) (mSkip))
    (mRet (mAndV (mIsi [.int] (mVar 0)) (mAndV (mNotV (mIsi [.bool] (mVar 0))) (mBin opEq (mVar 0) (mVar 1))))))
def m__law_equal : Nat → Fn
  | 0 => fun _ _ => .no
  | n + 1 => mFn 4 (b__law_equal (m__law_equal n))
theorem ok__law_equal (T : Tp w K mg c A D) {j : Nat} : ∀ n : Nat, FnOk P w K mg base (L2.CX P w) (j + 1 + n) A._law_equal D._law_equal ["result", "expected"] (spM K c 2 (m__law_equal n))
  | 0 => fn_no
  | n + 1 => by
    have ih := ok__law_equal T (j := j) n
    exact fnD (k := j + 1 + n) T.F__law_equal sc__law_equal fun cdv A1 outer s H E hr =>
    (dss_cons (ds_if (dt_val (de_isiT (t1 := .list) (t2 := .tuple) (by decide) (by decide) rfl rfl (by rfl) T.z_isinstance (de_var 1 (pv 1)) (by rfl) T.z_list rfl (by rfl) T.z_tuple rfl)) (dss_cons (ds_if (dt_w (dw_or (dt_not (dt_val (de_isiT (t1 := .list) (t2 := .tuple) (by decide) (by decide) rfl rfl (by rfl) T.z_isinstance (de_var 0 (pv 0)) (by rfl) T.z_list rfl (by rfl) T.z_tuple rfl))) (dw_or1 (dt_cmp (do_ne (hu64 hr)) (de_callB dl_len (by rfl) T.z_len rfl (da_cons (de_var 0 (pv 0)) (da_nil))) (de_callB dl_len (by rfl) T.z_len rfl (da_cons (de_var 1 (pv 1)) (da_nil))) (nomark _))))) (dss_one (ds_ret (de_bl))) (dss_nil))
    (dss_cons (ds_if (dt_cmp (do_ne (hu64 hr)) (de_isi (t := .list) (by decide) rfl (by rfl) T.z_isinstance (de_var 0 (pv 0)) (by rfl) T.z_list rfl) (de_isi (t := .list) (by decide) rfl (by rfl) T.z_isinstance (de_var 1 (pv 1)) (by rfl) T.z_list rfl) (nomark _)) (dss_one (ds_ret (de_bl))) (dss_nil))
    (dss_one (ds_ret (de_callB (dl_all rfl) (by rfl) T.z_all rfl (da_cons (de_lc (own := [("one", 2), ("other", 3)]) (vs := [2, 3]) rfl sc__law_equal.nd (di_zip (fun ha => RZ.pi_zipA (by rfl) T.z_zip ha) (de_var 0 (pv 0)) (de_var 1 (pv 1))) (by show BlkOk N__law_equal (defScope s__law_equal) _ [("one", 2), ("other", 3)]; exact ⟨rfl, by decide +kernel, by decide +kernel, by decide +kernel, by decide +kernel⟩) rfl (fun s H C cl fp => dg_tup rfl (dgs_cons (dg_name (i := 2) (by decide) sc__law_equal.nd rfl (by first | exact .inl rfl | exact .inr rfl)) (dgs_cons (dg_name (i := 3) (by decide) sc__law_equal.nd rfl (by first | exact .inl rfl | exact .inr rfl)) (dgs_nil)))) (fun s H C cl fp => dts_nil) (fun s H C cl fp => de_call ih hr (by rfl) T.G__law_equal T.F__law_equal.kp T.B__law_equal takes0 (da_cons (de_var 2 (pv 2)) (da_cons (de_var 3 (pv 3)) (da_nil))) (alen_cons (alen_cons alen_nil)))) (da_nil))))))) (dss_nil))
    (dss_cons (ds_if (dt_w (dw_or (dt_val (de_isiT (t1 := .bool) (t2 := .str) (by decide) (by decide) rfl rfl (by rfl) T.z_isinstance (de_var 1 (pv 1)) (by rfl) T.z_bool rfl (by rfl) T.z_str rfl)) (dw_or1 (dt_cmp do_is (de_var 1 (pv 1)) (de_non) (nomark _))))) (dss_one (ds_ret (de_and (de_cmp (do_eq (hu64 hr)) (de_isi (t := .bool) (by decide) rfl (by rfl) T.z_isinstance (de_var 0 (pv 0)) (by rfl) T.z_bool rfl) (de_isi (t := .bool) (by decide) rfl (by rfl) T.z_isinstance (de_var 1 (pv 1)) (by rfl) T.z_bool rfl) (nomark _)) (de_one (de_cmp (do_eq (hu64 hr)) (de_var 0 (pv 0)) (de_var 1 (pv 1)) (nomark _)))))) (dss_nil))
    (dss_one (ds_ret (de_and (de_isi (t := .int) (by decide) rfl (by rfl) T.z_isinstance (de_var 0 (pv 0)) (by rfl) T.z_int rfl) (de_and (de_not (de_isi (t := .bool) (by decide) rfl (by rfl) T.z_isinstance (de_var 0 (pv 0)) (by rfl) T.z_bool rfl)) (de_one (de_cmp (do_eq (hu64 hr)) (de_var 0 (pv 0)) (de_var 1 (pv 1)) (nomark _)))))))))
abbrev s__law_holds : Stmt := topS 20
abbrev N__law_holds : List Str := ["source", "most", "deep", "text", "expected", "attempt", "result"]
theorem sc__law_holds : FnScope N__law_holds ["source", "most"] (defScope s__law_holds) := ⟨rfl, rfl, rfl, by decide +kernel, rfl, by decide +kernel, by decide +kernel⟩
def b__law_holds_1 : Es := mSeq (mSet 6 (mCall m_pairs_of (mCons (mVar 3) (mNil))))
    (mSeq (mIf (mNot (mB (mCall (m__law_equal 8) (mCons (mVar 6) (mCons (mVar 4) (mNil)))))) (mRet (mC (.bl false))) (mSkip))
    (mSeq (mExpr (mMeth "list" mAppend (mVar 6) (mCons (mTup (mCons (mC (.int 0)) (mCons (mC (.int 1)) (mNil)))) (mNil))))
    (mExpr (mMeth "list" mReverse (mVar 6) mNil))))
def b__law_holds_2 : Es := mSeq (mSet 4 (mCall m__law_pairs (mCons (mVar 3) (mNil))))
    (mFor (mRange1 (mC (.int 2))) (mGn 5) (b__law_holds_1))
def b__law_holds : Es := mSeq (mSet 2 (mBin opAdd (mBin opMul (mC (.str [123, 91, 40])) (mBin opDiv (mVar 1) (mC (.int 6)))) (mBin opMul (mC (.str [41, 93, 125])) (mBin opDiv (mVar 1) (mC (.int 6))))))
    (mSeq (mFor (mIter (mLst (mCons (mCall m__law_text (mCons (mVar 0) (mCons (mVar 1) (mNil)))) (mCons (mVar 2) (mNil))))) (mGn 3) (b__law_holds_2))
    (mRet (mAndV (mBin opEq (mCall m_pairs_of (mCons (mC (.str [])) (mNil))) (mLst (mNil))) (mBin opEq (mCall m_pairs_of (mCons (mC (.str [97, 98])) (mNil))) (mLst (mNil))))))
def m__law_holds : Fn := mFn 7 b__law_holds
theorem ok__law_holds (T : Tp w K mg c A D) {j : Nat} : FnOk P w K mg base (L2.CX P w) (j + 10) A._law_holds D._law_holds ["source", "most"] (spM K c 2 m__law_holds) :=
  fnD (k := j + 9) T.F__law_holds sc__law_holds fun cdv A1 outer s H E hr =>
    (dss_cons (ds_set (i := 2) sc__law_holds.nd rfl (by first | exact .inl rfl | exact .inr rfl) (de_bin do_add (de_bin do_mul (de_str [123, 91, 40]) (de_bin do_div (de_var 1 (pv 1)) (de_int))) (de_bin do_mul (de_str [41, 93, 125]) (de_bin do_div (de_var 1 (pv 1)) (de_int)))))
    (dss_cons (ds_for (vs := [3]) (passes_of rfl) rfl (di_iter (de_lst (da_cons (de_call (ok__law_text T) hr (by rfl) T.G__law_text T.F__law_text.kp T.B__law_text (takes_of rfl rfl rfl rfl) (da_cons (de_var 0 (pv 0)) (da_cons (de_var 1 (pv 1)) (da_nil))) (alen_cons (alen_cons alen_nil))) (da_cons (de_var 2 (pv 2)) (da_nil))))) (dg_name (i := 3) (by decide) sc__law_holds.nd rfl (by first | exact .inl rfl | exact .inr rfl)) (dss_cons (ds_set (i := 4) sc__law_holds.nd rfl (by first | exact .inl rfl | exact .inr rfl) (de_call (ok__law_pairs T) hr (by rfl) T.G__law_pairs T.F__law_pairs.kp T.B__law_pairs (takes_of rfl rfl rfl rfl) (da_cons (de_var 3 (pv 3)) (da_nil)) (alen_cons alen_nil)))
    (dss_one (ds_for (vs := [5]) (passes_of rfl) rfl (di_range1 (by rfl) T.z_range (de_int)) (dg_name (i := 5) (by decide) sc__law_holds.nd rfl (by first | exact .inl rfl | exact .inr rfl)) (dss_cons (ds_set (i := 6) sc__law_holds.nd rfl (by first | exact .inl rfl | exact .inr rfl) (de_call (ok_pairs_of T) hr (by rfl) T.G_pairs_of T.F_pairs_of.kp T.B_pairs_of (takes_of rfl rfl rfl rfl) (da_cons (de_var 3 (pv 3)) (da_nil)) (alen_cons alen_nil)))
    (dss_cons (ds_if (dt_not (dt_val (de_call (ok__law_equal T 8) hr (by rfl) T.G__law_equal T.F__law_equal.kp T.B__law_equal (takes_of rfl rfl rfl rfl) (da_cons (de_var 6 (pv 6)) (da_cons (de_var 4 (pv 4)) (da_nil))) (alen_cons (alen_cons alen_nil))))) (dss_one (ds_ret (de_bl))) (dss_nil))
    (dss_cons (ds_expr (de_meth PySem.F.plainAttrs_list PySem.F.slot_list_append PySem.F.type_list_append dm_append (de_var 6 (pv 6)) (da_cons (de_tup (da_cons (de_int) (da_cons (de_int) (da_nil)))) (da_nil))))
    (dss_one (ds_expr (de_meth0 PySem.F.plainAttrs_list PySem.F.slot_list_reverse PySem.F.type_list_reverse dm_reverse (de_var 6 (pv 6))))))))))))
    (dss_one (ds_ret (de_and (de_cmp (do_eq (hu64 hr)) (de_call (ok_pairs_of T) hr (by rfl) T.G_pairs_of T.F_pairs_of.kp T.B_pairs_of (takes_of rfl rfl rfl rfl) (da_cons (de_str []) (da_nil)) (alen_cons alen_nil)) (de_lst (da_nil)) (nomark _)) (de_one (de_cmp (do_eq (hu64 hr)) (de_call (ok_pairs_of T) hr (by rfl) T.G_pairs_of T.F_pairs_of.kp T.B_pairs_of (takes_of rfl rfl rfl rfl) (da_cons (de_str [97, 98]) (da_nil)) (alen_cons alen_nil)) (de_lst (da_nil)) (nomark _))))))))
abbrev s_law : Stmt := topS 21
abbrev N_law : List Str := ["script", "k", "cell"]
theorem sc_law : FnScope N_law ["script"] (defScope s_law) := ⟨rfl, rfl, rfl, by decide +kernel, rfl, by decide +kernel, by decide +kernel⟩
def b_law_1 : Es := mIf (mNot (mB (mCall m__law_holds (mCons (mCall m__law_source (mCons (mVar 2) (mCons (mVar 1) (mNil)))) (mCons (mIfE (mB (mBin opEq (mVar 0) (mLst (mNil)))) (mC (.int 8)) (mC (.int 150))) (mNil)))))) (mRet (mC (.bl false))) (mSkip)
def b_law : Es := mSeq (mFor (mEnum (mSlice (mBin opAdd (mVar 0) (mLst (mCons (mC (.int 0)) (mNil)))) (mNo) (mSome (mB1 bMax (mCons (mC (.int 1)) (mCons (mB1 bMin (mCons (mB1 bLen (mCons (mVar 0) (mNil))) (mCons (mC (.int 12)) (mNil)))) (mNil))))))) (mGt [mGn 1, mGn 2]) (b_law_1))
    (mRet (mC (.bl true)))
def m_law : Fn := mFn 3 b_law
theorem ok_law (T : Tp w K mg c A D) {j : Nat} : FnOk P w K mg base (L2.CX P w) (j + 11) A.law D.law ["script"] (spM K c 1 m_law) :=
  fnD (k := j + 10) T.F_law sc_law fun cdv A1 outer s H E hr =>
    (dss_cons (ds_for (vs := [1, 2]) (passes_of rfl) rfl (di_enum (by rfl) T.z_enumerate (de_slice (de_bin do_add (de_var 0 (pv 0)) (de_lst (da_cons (de_int) (da_nil)))) (do_none) (do_some (de_callB (dl_max rfl) (by rfl) T.z_max rfl (da_cons (de_int) (da_cons (de_callB (dl_min rfl) (by rfl) T.z_min rfl (da_cons (de_callB dl_len (by rfl) T.z_len rfl (da_cons (de_var 0 (pv 0)) (da_nil))) (da_cons (de_int) (da_nil)))) (da_nil))))))) (dg_tup rfl (dgs_cons (dg_name (i := 1) (by decide) sc_law.nd rfl (by first | exact .inl rfl | exact .inr rfl)) (dgs_cons (dg_name (i := 2) (by decide) sc_law.nd rfl (by first | exact .inl rfl | exact .inr rfl)) (dgs_nil)))) (dss_one (ds_if (dt_not (dt_val (de_call (ok__law_holds T) hr (by rfl) T.G__law_holds T.F__law_holds.kp T.B__law_holds (takes_of rfl rfl rfl rfl) (da_cons (de_call (ok__law_source T) hr (by rfl) T.G__law_source T.F__law_source.kp T.B__law_source (takes_of rfl rfl rfl rfl) (da_cons (de_var 2 (pv 2)) (da_cons (de_var 1 (pv 1)) (da_nil))) (alen_cons (alen_cons alen_nil))) (da_cons (de_if (dt_cmp (do_eq (hu64 hr)) (de_var 0 (pv 0)) (de_lst (da_nil)) (nomark _)) (de_int) (de_int)) (da_nil))) (alen_cons (alen_cons alen_nil))))) (dss_one (ds_ret (de_bl))) (dss_nil))))
    (dss_one (ds_ret (de_bl))))
end
theorem all_mk {l : PySem.W.OpenLaw} {w : World} {K : PySem.W.Frag} {h : Heap} {mg : Str → Option Value} {fa : Addr} (hlaw : ∀ ns : List Int, ns.length ≤ 63 → ∃ h, m_law [.scr ns] [] = .ok (.bl true) h) (X : K.In h) (G : h.Ns mainGlobals mg) (hfa : mg "law" = some (.ref fa))
    {f0 : Addr} {oc0 kV0 dc0 pm0 cd0 ct0 : Value} {od0 an0 : Option Addr} {sl0 : Array (Option Value)}
    {f1 : Addr} {oc1 kV1 dc1 pm1 cd1 ct1 : Value} {od1 an1 : Option Addr} {sl1 : Array (Option Value)}
    {f2 : Addr} {oc2 kV2 dc2 pm2 cd2 ct2 : Value} {od2 an2 : Option Addr} {sl2 : Array (Option Value)}
    {f3 : Addr} {oc3 kV3 dc3 pm3 cd3 ct3 : Value} {od3 an3 : Option Addr} {sl3 : Array (Option Value)}
    {f4 : Addr} {oc4 kV4 dc4 pm4 cd4 ct4 : Value} {od4 an4 : Option Addr} {sl4 : Array (Option Value)}
    {f5 : Addr} {oc5 kV5 dc5 pm5 cd5 ct5 : Value} {od5 an5 : Option Addr} {sl5 : Array (Option Value)}
    {f6 : Addr} {oc6 kV6 dc6 pm6 cd6 ct6 : Value} {od6 an6 : Option Addr} {sl6 : Array (Option Value)}
    {f7 : Addr} {oc7 kV7 dc7 pm7 cd7 ct7 : Value} {od7 an7 : Option Addr} {sl7 : Array (Option Value)}
    {f8 : Addr} {oc8 kV8 dc8 pm8 cd8 ct8 : Value} {od8 an8 : Option Addr} {sl8 : Array (Option Value)}
    {f9 : Addr} {oc9 kV9 dc9 pm9 cd9 ct9 : Value} {od9 an9 : Option Addr} {sl9 : Array (Option Value)}
    {f10 : Addr} {oc10 kV10 dc10 pm10 cd10 ct10 : Value} {od10 an10 : Option Addr} {sl10 : Array (Option Value)}
    {f11 : Addr} {oc11 kV11 dc11 pm11 cd11 ct11 : Value} {od11 an11 : Option Addr} {sl11 : Array (Option Value)}
    {f12 : Addr} {oc12 kV12 dc12 pm12 cd12 ct12 : Value} {od12 an12 : Option Addr} {sl12 : Array (Option Value)}
    {d_CLOSING_OF : Addr} {es_CLOSING_OF : Array DictEntry} {n_CLOSING_OF : Nat}
    {x_LETTERS : Str} {t_LETTERS : Tok}
    {x_CLOSING : Str} {t_CLOSING : Tok}
    (a0 : PySem.W.nsIn K mainGlobals "is_text" = some (some (.ref f0))) (l0 : K.lookup f0 = some ⟨oc0, od0, .func (PySem.W.fnOf "is_text" "is_text" (defArgs t_is_text) (defBody t_is_text) (defScope t_is_text) .none kV0 dc0 pm0 an0 cd0 ct0), sl0⟩) (q0 : PySem.W.codeIn K cd0 "is_text" = true) (k0 : PySem.W.keepIn K (.ref f0) = true)
    (a1 : PySem.W.nsIn K mainGlobals "check_text" = some (some (.ref f1))) (l1 : K.lookup f1 = some ⟨oc1, od1, .func (PySem.W.fnOf "check_text" "check_text" (defArgs t_check_text) (defBody t_check_text) (defScope t_check_text) .none kV1 dc1 pm1 an1 cd1 ct1), sl1⟩) (q1 : PySem.W.codeIn K cd1 "check_text" = true) (k1 : PySem.W.keepIn K (.ref f1) = true)
    (a2 : PySem.W.nsIn K mainGlobals "partner_indexes" = some (some (.ref f2))) (l2 : K.lookup f2 = some ⟨oc2, od2, .func (PySem.W.fnOf "partner_indexes" "partner_indexes" (defArgs t_partner_indexes) (defBody t_partner_indexes) (defScope t_partner_indexes) .none kV2 dc2 pm2 an2 cd2 ct2), sl2⟩) (q2 : PySem.W.codeIn K cd2 "partner_indexes" = true) (k2 : PySem.W.keepIn K (.ref f2) = true)
    (a3 : PySem.W.nsIn K mainGlobals "pairs_in" = some (some (.ref f3))) (l3 : K.lookup f3 = some ⟨oc3, od3, .func (PySem.W.fnOf "pairs_in" "pairs_in" (defArgs t_pairs_in) (defBody t_pairs_in) (defScope t_pairs_in) .none kV3 dc3 pm3 an3 cd3 ct3), sl3⟩) (q3 : PySem.W.codeIn K cd3 "pairs_in" = true) (k3 : PySem.W.keepIn K (.ref f3) = true)
    (a4 : PySem.W.nsIn K mainGlobals "pairs_of" = some (some (.ref f4))) (l4 : K.lookup f4 = some ⟨oc4, od4, .func (PySem.W.fnOf "pairs_of" "pairs_of" (defArgs t_pairs_of) (defBody t_pairs_of) (defScope t_pairs_of) .none kV4 dc4 pm4 an4 cd4 ct4), sl4⟩) (q4 : PySem.W.codeIn K cd4 "pairs_of" = true) (k4 : PySem.W.keepIn K (.ref f4) = true)
    (a5 : PySem.W.nsIn K mainGlobals "_law_source" = some (some (.ref f5))) (l5 : K.lookup f5 = some ⟨oc5, od5, .func (PySem.W.fnOf "_law_source" "_law_source" (defArgs t__law_source) (defBody t__law_source) (defScope t__law_source) .none kV5 dc5 pm5 an5 cd5 ct5), sl5⟩) (q5 : PySem.W.codeIn K cd5 "_law_source" = true) (k5 : PySem.W.keepIn K (.ref f5) = true)
    (a6 : PySem.W.nsIn K mainGlobals "_law_draw" = some (some (.ref f6))) (l6 : K.lookup f6 = some ⟨oc6, od6, .func (PySem.W.fnOf "_law_draw" "_law_draw" (defArgs t__law_draw) (defBody t__law_draw) (defScope t__law_draw) .none kV6 dc6 pm6 an6 cd6 ct6), sl6⟩) (q6 : PySem.W.codeIn K cd6 "_law_draw" = true) (k6 : PySem.W.keepIn K (.ref f6) = true)
    (a7 : PySem.W.nsIn K mainGlobals "_law_part" = some (some (.ref f7))) (l7 : K.lookup f7 = some ⟨oc7, od7, .func (PySem.W.fnOf "_law_part" "_law_part" (defArgs t__law_part) (defBody t__law_part) (defScope t__law_part) .none kV7 dc7 pm7 an7 cd7 ct7), sl7⟩) (q7 : PySem.W.codeIn K cd7 "_law_part" = true) (k7 : PySem.W.keepIn K (.ref f7) = true)
    (a8 : PySem.W.nsIn K mainGlobals "_law_text" = some (some (.ref f8))) (l8 : K.lookup f8 = some ⟨oc8, od8, .func (PySem.W.fnOf "_law_text" "_law_text" (defArgs t__law_text) (defBody t__law_text) (defScope t__law_text) .none kV8 dc8 pm8 an8 cd8 ct8), sl8⟩) (q8 : PySem.W.codeIn K cd8 "_law_text" = true) (k8 : PySem.W.keepIn K (.ref f8) = true)
    (a9 : PySem.W.nsIn K mainGlobals "_law_pairs" = some (some (.ref f9))) (l9 : K.lookup f9 = some ⟨oc9, od9, .func (PySem.W.fnOf "_law_pairs" "_law_pairs" (defArgs t__law_pairs) (defBody t__law_pairs) (defScope t__law_pairs) .none kV9 dc9 pm9 an9 cd9 ct9), sl9⟩) (q9 : PySem.W.codeIn K cd9 "_law_pairs" = true) (k9 : PySem.W.keepIn K (.ref f9) = true)
    (a10 : PySem.W.nsIn K mainGlobals "_law_equal" = some (some (.ref f10))) (l10 : K.lookup f10 = some ⟨oc10, od10, .func (PySem.W.fnOf "_law_equal" "_law_equal" (defArgs t__law_equal) (defBody t__law_equal) (defScope t__law_equal) .none kV10 dc10 pm10 an10 cd10 ct10), sl10⟩) (q10 : PySem.W.codeIn K cd10 "_law_equal" = true) (k10 : PySem.W.keepIn K (.ref f10) = true)
    (a11 : PySem.W.nsIn K mainGlobals "_law_holds" = some (some (.ref f11))) (l11 : K.lookup f11 = some ⟨oc11, od11, .func (PySem.W.fnOf "_law_holds" "_law_holds" (defArgs t__law_holds) (defBody t__law_holds) (defScope t__law_holds) .none kV11 dc11 pm11 an11 cd11 ct11), sl11⟩) (q11 : PySem.W.codeIn K cd11 "_law_holds" = true) (k11 : PySem.W.keepIn K (.ref f11) = true)
    (a12 : PySem.W.nsIn K mainGlobals "law" = some (some (.ref f12))) (l12 : K.lookup f12 = some ⟨oc12, od12, .func (PySem.W.fnOf "law" "law" (defArgs t_law) (defBody t_law) (defScope t_law) .none kV12 dc12 pm12 an12 cd12 ct12), sl12⟩) (q12 : PySem.W.codeIn K cd12 "law" = true) (k12 : PySem.W.keepIn K (.ref f12) = true)
    (z_all : PySem.W.nsIn K mainGlobals "all" = some none)
    (z_bool : PySem.W.nsIn K mainGlobals "bool" = some none)
    (z_enumerate : PySem.W.nsIn K mainGlobals "enumerate" = some none)
    (z_int : PySem.W.nsIn K mainGlobals "int" = some none)
    (z_isinstance : PySem.W.nsIn K mainGlobals "isinstance" = some none)
    (z_len : PySem.W.nsIn K mainGlobals "len" = some none)
    (z_list : PySem.W.nsIn K mainGlobals "list" = some none)
    (z_max : PySem.W.nsIn K mainGlobals "max" = some none)
    (z_min : PySem.W.nsIn K mainGlobals "min" = some none)
    (z_range : PySem.W.nsIn K mainGlobals "range" = some none)
    (z_str : PySem.W.nsIn K mainGlobals "str" = some none)
    (z_tuple : PySem.W.nsIn K mainGlobals "tuple" = some none)
    (z_zip : PySem.W.nsIn K mainGlobals "zip" = some none)
    (s_CLOSING_OF : PySem.W.nsIn K mainGlobals "CLOSING_OF" = some (some (.ref d_CLOSING_OF))) (l_CLOSING_OF : K.lookup d_CLOSING_OF = some ⟨.type "dict", none, .dict es_CLOSING_OF n_CLOSING_OF, #[]⟩) (y_CLOSING_OF : PySem.W.KeysLit w.params es_CLOSING_OF.toList) (w_CLOSING_OF : (d_CLOSING_OF == sysModules) = false) (v_CLOSING_OF : ∀ c : Ct, Paired (REnt c) [([40], .str [41]), ([91], .str [93]), ([123], .str [125])] es_CLOSING_OF.toList)
    (s_LETTERS : PySem.W.nsIn K mainGlobals "LETTERS" = some (some (.str x_LETTERS t_LETTERS))) (e_LETTERS : x_LETTERS = mkS [97, 98, 99, 100, 101, 102, 103, 104, 105, 106, 107, 108, 109, 110, 111, 112, 113, 114, 115, 116, 117, 118, 119, 120, 121, 122])
    (s_CLOSING : PySem.W.nsIn K mainGlobals "CLOSING" = some (some (.str x_CLOSING t_CLOSING))) (e_CLOSING : x_CLOSING = mkS [41, 93, 125])
    : ∃ fd : FuncData, (∀ (s : Shared) (u : Value), BindsTo s fd ⟨[u], []⟩ [("script", u)]) ∧ ∀ base : Heap, K.In base → base.Ns mainGlobals mg → FnOk l.prog w K mg base (L2.CX l.prog w) 11 fa fd ["script"] (spLaw K) := by
  have e := hfa.symm.trans (PySem.W.mg_of X G a12)
  cases e
  have F0 := fun_mk (st := t_is_text) l0 q0 k0
  have F1 := fun_mk (st := t_check_text) l1 q1 k1
  have F2 := fun_mk (st := t_partner_indexes) l2 q2 k2
  have F3 := fun_mk (st := t_pairs_in) l3 q3 k3
  have F4 := fun_mk (st := t_pairs_of) l4 q4 k4
  have F5 := fun_mk (st := t__law_source) l5 q5 k5
  have F6 := fun_mk (st := t__law_draw) l6 q6 k6
  have F7 := fun_mk (st := t__law_part) l7 q7 k7
  have F8 := fun_mk (st := t__law_text) l8 q8 k8
  have F9 := fun_mk (st := t__law_pairs) l9 q9 k9
  have F10 := fun_mk (st := t__law_equal) l10 q10 k10
  have F11 := fun_mk (st := t__law_holds) l11 q11 k11
  have F12 := fun_mk (st := t_law) l12 q12 k12
  refine ⟨(PySem.W.fnOf "law" "law" (defArgs t_law) (defBody t_law) (defScope t_law) .none kV12 dc12 pm12 an12 cd12 ct12), fun s v => .of_eq rfl, fun base _ _ => law_fn (fun a ns => ⟨w.params, hasC, a, ns, fun k => match k with | .closingOf => d_CLOSING_OF | _ => 0, fun _ => 0⟩) (fun _ _ => ⟨rfl, rfl⟩) (fun a ns hl => ?_) (fun a ns => ok_law (j := 0) (A := ⟨f0, f1, f2, f3, f4, f5, f6, f7, f8, f9, f10, f11, fa, d_CLOSING_OF⟩) (D := ⟨(PySem.W.fnOf "is_text" "is_text" (defArgs t_is_text) (defBody t_is_text) (defScope t_is_text) .none kV0 dc0 pm0 an0 cd0 ct0), (PySem.W.fnOf "check_text" "check_text" (defArgs t_check_text) (defBody t_check_text) (defScope t_check_text) .none kV1 dc1 pm1 an1 cd1 ct1), (PySem.W.fnOf "partner_indexes" "partner_indexes" (defArgs t_partner_indexes) (defBody t_partner_indexes) (defScope t_partner_indexes) .none kV2 dc2 pm2 an2 cd2 ct2), (PySem.W.fnOf "pairs_in" "pairs_in" (defArgs t_pairs_in) (defBody t_pairs_in) (defScope t_pairs_in) .none kV3 dc3 pm3 an3 cd3 ct3), (PySem.W.fnOf "pairs_of" "pairs_of" (defArgs t_pairs_of) (defBody t_pairs_of) (defScope t_pairs_of) .none kV4 dc4 pm4 an4 cd4 ct4), (PySem.W.fnOf "_law_source" "_law_source" (defArgs t__law_source) (defBody t__law_source) (defScope t__law_source) .none kV5 dc5 pm5 an5 cd5 ct5), (PySem.W.fnOf "_law_draw" "_law_draw" (defArgs t__law_draw) (defBody t__law_draw) (defScope t__law_draw) .none kV6 dc6 pm6 an6 cd6 ct6), (PySem.W.fnOf "_law_part" "_law_part" (defArgs t__law_part) (defBody t__law_part) (defScope t__law_part) .none kV7 dc7 pm7 an7 cd7 ct7), (PySem.W.fnOf "_law_text" "_law_text" (defArgs t__law_text) (defBody t__law_text) (defScope t__law_text) .none kV8 dc8 pm8 an8 cd8 ct8), (PySem.W.fnOf "_law_pairs" "_law_pairs" (defArgs t__law_pairs) (defBody t__law_pairs) (defScope t__law_pairs) .none kV9 dc9 pm9 an9 cd9 ct9), (PySem.W.fnOf "_law_equal" "_law_equal" (defArgs t__law_equal) (defBody t__law_equal) (defScope t__law_equal) .none kV10 dc10 pm10 an10 cd10 ct10), (PySem.W.fnOf "_law_holds" "_law_holds" (defArgs t__law_holds) (defBody t__law_holds) (defScope t__law_holds) .none kV11 dc11 pm11 an11 cd11 ct11), (PySem.W.fnOf "law" "law" (defArgs t_law) (defBody t_law) (defScope t_law) .none kV12 dc12 pm12 an12 cd12 ct12)⟩) ?_) hlaw⟩
  · refine ⟨fun k xs hh ht => ?_, fun k kvs hh ht => ?_, hl⟩
    · cases k with
      | empty => exact absurd hh (by show ¬ hasC CK.empty = true; decide)
      | closingOf => cases ht
      | letterOf => cases ht
      | nameOf => cases ht
    · cases k with
      | empty => cases ht
      | closingOf => cases ht; exact ⟨_, _, l_CLOSING_OF, y_CLOSING_OF, w_CLOSING_OF, v_CLOSING_OF _⟩
      | letterOf => exact absurd hh (by show ¬ hasC CK.letterOf = true; decide)
      | nameOf => exact absurd hh (by show ¬ hasC CK.nameOf = true; decide)
  · constructor
    case F_is_text => exact F0
    case G_is_text => exact PySem.W.mg_of X G a0
    case B_is_text => exact F0.binds fun _ _ _ _ _ _ us hl => match us, hl with | [_], _ => rfl
    case F_check_text => exact F1
    case G_check_text => exact PySem.W.mg_of X G a1
    case B_check_text => exact F1.binds fun _ _ _ _ _ _ us hl => match us, hl with | [_], _ => rfl
    case F_partner_indexes => exact F2
    case G_partner_indexes => exact PySem.W.mg_of X G a2
    case B_partner_indexes => exact F2.binds fun _ _ _ _ _ _ us hl => match us, hl with | [_], _ => rfl
    case F_pairs_in => exact F3
    case G_pairs_in => exact PySem.W.mg_of X G a3
    case B_pairs_in => exact F3.binds fun _ _ _ _ _ _ us hl => match us, hl with | [_], _ => rfl
    case F_pairs_of => exact F4
    case G_pairs_of => exact PySem.W.mg_of X G a4
    case B_pairs_of => exact F4.binds fun _ _ _ _ _ _ us hl => match us, hl with | [_], _ => rfl
    case F__law_source => exact F5
    case G__law_source => exact PySem.W.mg_of X G a5
    case B__law_source => exact F5.binds fun _ _ _ _ _ _ us hl => match us, hl with | [_, _], _ => rfl
    case F__law_draw => exact F6
    case G__law_draw => exact PySem.W.mg_of X G a6
    case B__law_draw => exact F6.binds fun _ _ _ _ _ _ us hl => match us, hl with | [_, _], _ => rfl
    case F__law_part => exact F7
    case G__law_part => exact PySem.W.mg_of X G a7
    case B__law_part => exact F7.binds fun _ _ _ _ _ _ us hl => match us, hl with | [_, _, _], _ => rfl
    case F__law_text => exact F8
    case G__law_text => exact PySem.W.mg_of X G a8
    case B__law_text => exact F8.binds fun _ _ _ _ _ _ us hl => match us, hl with | [_, _], _ => rfl
    case F__law_pairs => exact F9
    case G__law_pairs => exact PySem.W.mg_of X G a9
    case B__law_pairs => exact F9.binds fun _ _ _ _ _ _ us hl => match us, hl with | [_], _ => rfl
    case F__law_equal => exact F10
    case G__law_equal => exact PySem.W.mg_of X G a10
    case B__law_equal => exact F10.binds fun _ _ _ _ _ _ us hl => match us, hl with | [_, _], _ => rfl
    case F__law_holds => exact F11
    case G__law_holds => exact PySem.W.mg_of X G a11
    case B__law_holds => exact F11.binds fun _ _ _ _ _ _ us hl => match us, hl with | [_, _], _ => rfl
    case F_law => exact F12
    case z_all => exact PySem.W.mg_none_of X G z_all
    case z_bool => exact PySem.W.mg_none_of X G z_bool
    case z_enumerate => exact PySem.W.mg_none_of X G z_enumerate
    case z_int => exact PySem.W.mg_none_of X G z_int
    case z_isinstance => exact PySem.W.mg_none_of X G z_isinstance
    case z_len => exact PySem.W.mg_none_of X G z_len
    case z_list => exact PySem.W.mg_none_of X G z_list
    case z_max => exact PySem.W.mg_none_of X G z_max
    case z_min => exact PySem.W.mg_none_of X G z_min
    case z_range => exact PySem.W.mg_none_of X G z_range
    case z_str => exact PySem.W.mg_none_of X G z_str
    case z_tuple => exact PySem.W.mg_none_of X G z_tuple
    case z_zip => exact PySem.W.mg_none_of X G z_zip
    case s_CLOSING_OF => exact PySem.W.mg_of X G s_CLOSING_OF
    case s_LETTERS => exact ⟨_, e_LETTERS ▸ PySem.W.mg_of X G s_LETTERS⟩
    case s_CLOSING => exact ⟨_, e_CLOSING ▸ PySem.W.mg_of X G s_CLOSING⟩
    case hw => rfl
    case hc => rfl
end Lk03

namespace Lk03
open PySem PySem.Spec PyProof.Rows L2 Det
def Bag (h : Hh) (b : Nat) (n : Int) : Prop := ∃ x y z, h[b]? = some (.lst [.int x, .int y, .int z]) ∧ 0 ≤ y ∧ y < 10 ^ 38 ∧ 0 ≤ z ∧ z ≤ n
theorem small_fits {i : Int} (h0 : 0 ≤ i) (h1 : i < 2 ^ 200) : fits i = true := by
  unfold fits
  have e : (2 : Nat) ^ 200 ≤ 2 ^ BIG := Nat.pow_le_pow_right (by omega) (by decide)
  apply decide_eq_true
  have : i.natAbs < 2 ^ 200 := by omega
  omega
def isLet (c : Nat) : Bool := decide (97 ≤ c) && decide (c ≤ 122)
/-- the closing signs that are waited for, the nearest first -/
def run : List Nat → List Nat → Option (List Nat)
  | st, [] => some st
  | st, c :: r => if c = 40 then run (41 :: st) r else if c = 91 then run (93 :: st) r else if c = 123 then run (125 :: st) r else if isLet c = true then run st r else match st with
    | t :: st' => if t = c then run st' r else none
    | [] => none
theorem run_cons (st : List Nat) (c : Nat) (r : List Nat) : run st (c :: r) = if c = 40 then run (41 :: st) r else if c = 91 then run (93 :: st) r else if c = 123 then run (125 :: st) r else if isLet c = true then run st r else match st with
    | t :: st' => if t = c then run st' r else none
    | [] => none := rfl
theorem run_app : ∀ (a st b : List Nat), run st (a ++ b) = (run st a).bind fun s => run s b
  | [], st, b => rfl
  | c :: r, st, b => by
    rw [List.cons_append, run_cons, run_cons]
    split
    · exact run_app r _ b
    · split
      · exact run_app r _ b
      · split
        · exact run_app r _ b
        · split
          · exact run_app r _ b
          · cases st with
            | nil => rfl
            | cons t st' =>
              simp only
              split
              · exact run_app r _ b
              · rfl
def isClo (c : Nat) : Prop := c = 41 ∨ c = 93 ∨ c = 125
theorem run_clo : ∀ (st : List Nat), (∀ c ∈ st, isClo c) → run st st = some []
  | [], _ => rfl
  | t :: st, h => by
    have ht := h t List.mem_cons_self
    have ih := run_clo st fun c hc => h c (List.mem_cons_of_mem _ hc)
    rw [run_cons]
    rcases ht with rfl | rfl | rfl <;> simpa [isLet] using ih
abbrev Bal (w : List Nat) : Prop := run [] w = some []
theorem line_big {n : Nat} (h : n ≤ 10000000) : n ≤ LINE := Nat.le_trans h (by decide)
theorem conA_clo (c : Nat) : conA [([40], AV.str [41]), ([91], AV.str [93]), ([123], AV.str [125])] [c] = if c = 40 then some (.str [41]) else if c = 91 then some (.str [93]) else if c = 123 then some (.str [125]) else none := by
  unfold conA
  by_cases h1 : c = 40
  · subst h1; rfl
  · by_cases h2 : c = 91
    · subst h2; rfl
    · by_cases h3 : c = 123
      · subst h3; rfl
      · rw [if_neg h1, if_neg h2, if_neg h3]
        have : ∀ k : Nat, c ≠ k → decide (([k] : List Nat) = [c]) = false := fun k hk => by simp; exact fun e => hk e.symm
        simp only [List.find?_cons, List.find?_nil, this 40 h1, this 91 h2, this 123 h3]
        rfl
theorem letB (c : Nat) : decide (c ∈ [97, 98, 99, 100, 101, 102, 103, 104, 105, 106, 107, 108, 109, 110, 111, 112, 113, 114, 115, 116, 117, 118, 119, 120, 121, 122]) = isLet c := by
  unfold isLet
  rw [← Bool.decide_and]
  apply decide_eq_decide.mpr
  simp only [List.mem_cons, List.not_mem_nil, or_false]
  omega
def sgs (st : List Nat) : List AV := (st.reverse.map fun c => ([c] : List Nat)).map AV.str
theorem sgs_cons (t : Nat) (st : List Nat) : sgs (t :: st) = sgs st ++ [.str [t]] := by simp [sgs]
theorem sgs_len (st : List Nat) : (sgs st).length = st.length := by simp [sgs]
theorem sgs_fine {st : List Nat} (h : ∀ c ∈ st, isClo c) : ∀ s ∈ (st.reverse.map fun c => ([c] : List Nat)), ∀ c ∈ s, c < 1114112 := by
  intro s hs c hc
  simp only [List.mem_map, List.mem_reverse] at hs
  obtain ⟨d, hd, rfl⟩ := hs
  simp only [List.mem_cons, List.not_mem_nil, or_false] at hc
  subst hc
  rcases h c hd with rfl | rfl | rfl <;> decide
theorem sgs_nil (st : List Nat) : decide ((st.reverse.map fun c => ([c] : List Nat)) = []) = decide (st = []) := by
  cases st with
  | nil => rfl
  | cons a r => simp
def sIt (w : List Nat) : List (List AV) := w.map fun ch => [.str [ch]]
theorem w_is_text {h0 : Hh} {w : List Nat} (hw : w.length ≤ 1000000) : Wp (m_is_text [.str w] h0) fun v h' => v = .bl (decide (run [] w = some [])) ∧ Kp [] h0 h' := by
  apply fn_wp
  unfold b_is_text
  simp (decide := true) only [wp_seq', wp_if, wp_B, wp_bin, wp_un, wp_b1, wp_set, wp_ret, wp_expr, wp_skip, wp_break, wp_cont, wp_par, wp_asg, wp_for, wp_nil, wp_cons, wp_tup, wp_lst, wp_andV, wp_orV, wp_notV, wp_and, wp_or, wp_not, wp_ifE, wp_yes, var0, varS, evC, wp_ok, wps_nx, wps_rt, wps_bk, wps_ct, wp_call, wp_callK, wp_meth, wp_iter, wp_enum, wp_slice, wp_no, wp_some, wp_isi, wp_lc, wp_range1, wp_chain, of_some, wpO_some, add_ii, add_ss, iadd_ii, iadd_ss, sub_ii, mul_ii, div_ii, mod_ii, pow_ii, neg_i, eq_ii, eq_ss, eq_bb, ne_ii, ne_ss, ne_bb, lt_ii, le_ii, gt_ii, ge_ii, sindex_at, is_non, isNot_non, listA_s, listA_ref, ix_s, ix_con, ix_ref, ixO_lst, ixO_tup, ixO_rol, at0, at1, at2, len_s, len_scr, rdL_ref, rdT_ref, rdL_scr, ty_ref, ty_str, tyOf_s, tyOf_i, tyOf_b, tyOf_n, tyOf_ref, in_ss, notIn_ss, in_con, notIn_con, cut_s, cut_scr, cut_ref, src_s, src_ref, enum_s, enum_ref, chk_nil, gn, gt2, gt1, gs_nil, gs_cons, gsub, max_ii, min_ii, int_b, int_i, List.map_cons, List.map_nil, List.length_cons, List.length_nil, List.replicate, List.cons_append, List.nil_append, List.set_cons_succ, List.set_cons_zero, Option.map_some, Option.map_none, Option.isSome_some, AV.bl.injEq, AV.int.injEq, AV.str.injEq, Option.some.injEq, exists_eq_left', exists_eq_left, if_true, true_and, and_true, and_self, Bool.and_self, get_new, wipeA, List.any_cons, List.any_nil, Bool.or_false, Bool.or_true, Bool.true_or, Bool.false_or, Bool.not_true, Bool.not_false, if_false, Bool.false_eq_true, not_false_eq_true, show (Ty.sub .str .str) = true from rfl]
  refine loop_wp (fun its sl h => ∃ rest st t2, its = sIt rest ∧ sl = [some (.str w), some (.ref h0.length), t2] ∧ h[h0.length]? = some (.lst (sgs st)) ∧ Kp [] h0 h ∧ run [] w = run st rest ∧ st.length + rest.length ≤ 1000000 ∧ ∀ c ∈ st, isClo c) ?_ ?_ ?_ _ _ _ ?_
  · intro its sl h _; rfl
  · rintro sl h ⟨rest, st, t2, hr, rfl, e, kp, hrun, hl, hc⟩
    have : rest = [] := by cases rest with
      | nil => rfl
      | cons a r => cases hr
    subst this
    simp (decide := true) only [wp_seq', wp_if, wp_B, wp_bin, wp_un, wp_b1, wp_set, wp_ret, wp_expr, wp_skip, wp_break, wp_cont, wp_par, wp_asg, wp_for, wp_nil, wp_cons, wp_tup, wp_lst, wp_andV, wp_orV, wp_notV, wp_and, wp_or, wp_not, wp_ifE, wp_yes, var0, varS, evC, wp_ok, wps_nx, wps_rt, wps_bk, wps_ct, wp_call, wp_callK, wp_meth, wp_iter, wp_enum, wp_slice, wp_no, wp_some, wp_isi, wp_lc, wp_range1, wp_chain, of_some, wpO_some, add_ii, add_ss, iadd_ii, iadd_ss, sub_ii, mul_ii, div_ii, mod_ii, pow_ii, neg_i, eq_ii, eq_ss, eq_bb, ne_ii, ne_ss, ne_bb, lt_ii, le_ii, gt_ii, ge_ii, sindex_at, is_non, isNot_non, listA_s, listA_ref, ix_s, ix_con, ix_ref, ixO_lst, ixO_tup, ixO_rol, at0, at1, at2, len_s, len_scr, rdL_ref, rdT_ref, rdL_scr, ty_ref, ty_str, tyOf_s, tyOf_i, tyOf_b, tyOf_n, tyOf_ref, in_ss, notIn_ss, in_con, notIn_con, cut_s, cut_scr, cut_ref, src_s, src_ref, enum_s, enum_ref, chk_nil, gn, gt2, gt1, gs_nil, gs_cons, gsub, max_ii, min_ii, int_b, int_i, List.map_cons, List.map_nil, List.length_cons, List.length_nil, List.replicate, List.cons_append, List.nil_append, List.set_cons_succ, List.set_cons_zero, Option.map_some, Option.map_none, Option.isSome_some, AV.bl.injEq, AV.int.injEq, AV.str.injEq, Option.some.injEq, exists_eq_left', exists_eq_left, if_true, true_and, and_true, and_self, Bool.and_self, get_new, wipeA, List.any_cons, List.any_nil, Bool.or_false, Bool.or_true, Bool.true_or, Bool.false_or, Bool.not_true, Bool.not_false, if_false, Bool.false_eq_true, not_false_eq_true]
    rw [eq_empty (ss := st.reverse.map fun c => [c]) (getElem?_pre e) (get_new _ _) (sgs_fine hc), sgs_nil]
    refine ⟨?_, kp.app _⟩
    rw [hrun]
    simp [run]
  · rintro it r sl h ⟨rest, st, t2, hr, rfl, e, kp, hrun, hl, hc⟩
    cases rest with
    | nil => cases hr
    | cons c rest =>
      obtain ⟨rfl, rfl⟩ : it = [.str [c]] ∧ r = sIt rest := by
        have := List.cons.inj hr
        exact this
      refine ⟨_, _, rfl, ?_⟩
      simp only [List.length_cons] at hl
      have cd : CK.closingOf.dic? = some [([40], AV.str [41]), ([91], AV.str [93]), ([123], AV.str [125])] := rfl
      have hl2 : (sgs st).length < LINE := by rw [sgs_len]; exact Nat.lt_of_le_of_lt (show st.length ≤ 1000000 by omega) (by decide)
      rw [run_cons] at hrun
      have step : ∀ {k : Nat}, isClo k → run [] w = run (k :: st) rest → ∃ rest_1 st_1 t2, sIt rest = sIt rest_1 ∧ [some (AV.str w), some (AV.ref h0.length), some (AV.str [c])] = [some (AV.str w), some (AV.ref h0.length), t2] ∧ (h.set h0.length (.lst (sgs st ++ [.str [k]])))[h0.length]? = some (.lst (sgs st_1)) ∧ Kp [] h0 (h.set h0.length (.lst (sgs st ++ [.str [k]]))) ∧ run [] w = run st_1 rest_1 ∧ st_1.length + rest_1.length ≤ 1000000 ∧ ∀ c ∈ st_1, isClo c := fun {k} hk hr => by
        refine ⟨rest, k :: st, _, rfl, rfl, by rw [sgs_cons]; exact get_set_eq e, kp.set (.inr (Nat.le_refl _)) _, hr, by simp only [List.length_cons]; omega, fun x hx => ?_⟩
        rcases List.mem_cons.mp hx with rfl | hx
        · exact hk
        · exact hc x hx
      unfold b_is_text_1
      simp (decide := true) only [wp_seq', wp_if, wp_B, wp_bin, wp_un, wp_b1, wp_set, wp_ret, wp_expr, wp_skip, wp_break, wp_cont, wp_par, wp_asg, wp_for, wp_nil, wp_cons, wp_tup, wp_lst, wp_andV, wp_orV, wp_notV, wp_and, wp_or, wp_not, wp_ifE, wp_yes, var0, varS, evC, wp_ok, wps_nx, wps_rt, wps_bk, wps_ct, wp_call, wp_callK, wp_meth, wp_iter, wp_enum, wp_slice, wp_no, wp_some, wp_isi, wp_lc, wp_range1, wp_chain, of_some, wpO_some, add_ii, add_ss, iadd_ii, iadd_ss, sub_ii, mul_ii, div_ii, mod_ii, pow_ii, neg_i, eq_ii, eq_ss, eq_bb, ne_ii, ne_ss, ne_bb, lt_ii, le_ii, gt_ii, ge_ii, sindex_at, is_non, isNot_non, listA_s, listA_ref, ix_s, ix_con, ix_ref, ixO_lst, ixO_tup, ixO_rol, at0, at1, at2, len_s, len_scr, rdL_ref, rdT_ref, rdL_scr, ty_ref, ty_str, tyOf_s, tyOf_i, tyOf_b, tyOf_n, tyOf_ref, in_ss, notIn_ss, in_con, notIn_con, cut_s, cut_scr, cut_ref, src_s, src_ref, enum_s, enum_ref, chk_nil, gn, gt2, gt1, gs_nil, gs_cons, gsub, max_ii, min_ii, int_b, int_i, List.map_cons, List.map_nil, List.length_cons, List.length_nil, List.replicate, List.cons_append, List.nil_append, List.set_cons_succ, List.set_cons_zero, Option.map_some, Option.map_none, Option.isSome_some, AV.bl.injEq, AV.int.injEq, AV.str.injEq, Option.some.injEq, exists_eq_left', exists_eq_left, if_true, true_and, and_true, and_self, Bool.and_self, get_new, wipeA, List.any_cons, List.any_nil, Bool.or_false, Bool.or_true, Bool.true_or, Bool.false_or, Bool.not_true, Bool.not_false, if_false, Bool.false_eq_true, not_false_eq_true, cd, conA_clo, letB]
      by_cases h1 : c = 40
      · subst h1
        simp (decide := true) only [wp_seq', wp_if, wp_B, wp_bin, wp_un, wp_b1, wp_set, wp_ret, wp_expr, wp_skip, wp_break, wp_cont, wp_par, wp_asg, wp_for, wp_nil, wp_cons, wp_tup, wp_lst, wp_andV, wp_orV, wp_notV, wp_and, wp_or, wp_not, wp_ifE, wp_yes, var0, varS, evC, wp_ok, wps_nx, wps_rt, wps_bk, wps_ct, wp_call, wp_callK, wp_meth, wp_iter, wp_enum, wp_slice, wp_no, wp_some, wp_isi, wp_lc, wp_range1, wp_chain, of_some, wpO_some, add_ii, add_ss, iadd_ii, iadd_ss, sub_ii, mul_ii, div_ii, mod_ii, pow_ii, neg_i, eq_ii, eq_ss, eq_bb, ne_ii, ne_ss, ne_bb, lt_ii, le_ii, gt_ii, ge_ii, sindex_at, is_non, isNot_non, listA_s, listA_ref, ix_s, ix_con, ix_ref, ixO_lst, ixO_tup, ixO_rol, at0, at1, at2, len_s, len_scr, rdL_ref, rdT_ref, rdL_scr, ty_ref, ty_str, tyOf_s, tyOf_i, tyOf_b, tyOf_n, tyOf_ref, in_ss, notIn_ss, in_con, notIn_con, cut_s, cut_scr, cut_ref, src_s, src_ref, enum_s, enum_ref, chk_nil, gn, gt2, gt1, gs_nil, gs_cons, gsub, max_ii, min_ii, int_b, int_i, List.map_cons, List.map_nil, List.length_cons, List.length_nil, List.replicate, List.cons_append, List.nil_append, List.set_cons_succ, List.set_cons_zero, Option.map_some, Option.map_none, Option.isSome_some, AV.bl.injEq, AV.int.injEq, AV.str.injEq, Option.some.injEq, exists_eq_left', exists_eq_left, if_true, true_and, and_true, and_self, Bool.and_self, get_new, wipeA, List.any_cons, List.any_nil, Bool.or_false, Bool.or_true, Bool.true_or, Bool.false_or, Bool.not_true, Bool.not_false, if_false, Bool.false_eq_true, not_false_eq_true, e, append_at e, if_pos hl2]
        exact step (.inl rfl) (by simpa using hrun)
      · by_cases h2 : c = 91
        · subst h2
          simp (decide := true) only [wp_seq', wp_if, wp_B, wp_bin, wp_un, wp_b1, wp_set, wp_ret, wp_expr, wp_skip, wp_break, wp_cont, wp_par, wp_asg, wp_for, wp_nil, wp_cons, wp_tup, wp_lst, wp_andV, wp_orV, wp_notV, wp_and, wp_or, wp_not, wp_ifE, wp_yes, var0, varS, evC, wp_ok, wps_nx, wps_rt, wps_bk, wps_ct, wp_call, wp_callK, wp_meth, wp_iter, wp_enum, wp_slice, wp_no, wp_some, wp_isi, wp_lc, wp_range1, wp_chain, of_some, wpO_some, add_ii, add_ss, iadd_ii, iadd_ss, sub_ii, mul_ii, div_ii, mod_ii, pow_ii, neg_i, eq_ii, eq_ss, eq_bb, ne_ii, ne_ss, ne_bb, lt_ii, le_ii, gt_ii, ge_ii, sindex_at, is_non, isNot_non, listA_s, listA_ref, ix_s, ix_con, ix_ref, ixO_lst, ixO_tup, ixO_rol, at0, at1, at2, len_s, len_scr, rdL_ref, rdT_ref, rdL_scr, ty_ref, ty_str, tyOf_s, tyOf_i, tyOf_b, tyOf_n, tyOf_ref, in_ss, notIn_ss, in_con, notIn_con, cut_s, cut_scr, cut_ref, src_s, src_ref, enum_s, enum_ref, chk_nil, gn, gt2, gt1, gs_nil, gs_cons, gsub, max_ii, min_ii, int_b, int_i, List.map_cons, List.map_nil, List.length_cons, List.length_nil, List.replicate, List.cons_append, List.nil_append, List.set_cons_succ, List.set_cons_zero, Option.map_some, Option.map_none, Option.isSome_some, AV.bl.injEq, AV.int.injEq, AV.str.injEq, Option.some.injEq, exists_eq_left', exists_eq_left, if_true, true_and, and_true, and_self, Bool.and_self, get_new, wipeA, List.any_cons, List.any_nil, Bool.or_false, Bool.or_true, Bool.true_or, Bool.false_or, Bool.not_true, Bool.not_false, if_false, Bool.false_eq_true, not_false_eq_true, e, append_at e, if_pos hl2]
          exact step (.inr (.inl rfl)) (by simpa using hrun)
        · by_cases h3 : c = 123
          · subst h3
            simp (decide := true) only [wp_seq', wp_if, wp_B, wp_bin, wp_un, wp_b1, wp_set, wp_ret, wp_expr, wp_skip, wp_break, wp_cont, wp_par, wp_asg, wp_for, wp_nil, wp_cons, wp_tup, wp_lst, wp_andV, wp_orV, wp_notV, wp_and, wp_or, wp_not, wp_ifE, wp_yes, var0, varS, evC, wp_ok, wps_nx, wps_rt, wps_bk, wps_ct, wp_call, wp_callK, wp_meth, wp_iter, wp_enum, wp_slice, wp_no, wp_some, wp_isi, wp_lc, wp_range1, wp_chain, of_some, wpO_some, add_ii, add_ss, iadd_ii, iadd_ss, sub_ii, mul_ii, div_ii, mod_ii, pow_ii, neg_i, eq_ii, eq_ss, eq_bb, ne_ii, ne_ss, ne_bb, lt_ii, le_ii, gt_ii, ge_ii, sindex_at, is_non, isNot_non, listA_s, listA_ref, ix_s, ix_con, ix_ref, ixO_lst, ixO_tup, ixO_rol, at0, at1, at2, len_s, len_scr, rdL_ref, rdT_ref, rdL_scr, ty_ref, ty_str, tyOf_s, tyOf_i, tyOf_b, tyOf_n, tyOf_ref, in_ss, notIn_ss, in_con, notIn_con, cut_s, cut_scr, cut_ref, src_s, src_ref, enum_s, enum_ref, chk_nil, gn, gt2, gt1, gs_nil, gs_cons, gsub, max_ii, min_ii, int_b, int_i, List.map_cons, List.map_nil, List.length_cons, List.length_nil, List.replicate, List.cons_append, List.nil_append, List.set_cons_succ, List.set_cons_zero, Option.map_some, Option.map_none, Option.isSome_some, AV.bl.injEq, AV.int.injEq, AV.str.injEq, Option.some.injEq, exists_eq_left', exists_eq_left, if_true, true_and, and_true, and_self, Bool.and_self, get_new, wipeA, List.any_cons, List.any_nil, Bool.or_false, Bool.or_true, Bool.true_or, Bool.false_or, Bool.not_true, Bool.not_false, if_false, Bool.false_eq_true, not_false_eq_true, e, append_at e, if_pos hl2]
            exact step (.inr (.inr rfl)) (by simpa using hrun)
          · rw [if_neg h1, if_neg h2, if_neg h3] at hrun ⊢
            simp (decide := true) only [wp_seq', wp_if, wp_B, wp_bin, wp_un, wp_b1, wp_set, wp_ret, wp_expr, wp_skip, wp_break, wp_cont, wp_par, wp_asg, wp_for, wp_nil, wp_cons, wp_tup, wp_lst, wp_andV, wp_orV, wp_notV, wp_and, wp_or, wp_not, wp_ifE, wp_yes, var0, varS, evC, wp_ok, wps_nx, wps_rt, wps_bk, wps_ct, wp_call, wp_callK, wp_meth, wp_iter, wp_enum, wp_slice, wp_no, wp_some, wp_isi, wp_lc, wp_range1, wp_chain, of_some, wpO_some, add_ii, add_ss, iadd_ii, iadd_ss, sub_ii, mul_ii, div_ii, mod_ii, pow_ii, neg_i, eq_ii, eq_ss, eq_bb, ne_ii, ne_ss, ne_bb, lt_ii, le_ii, gt_ii, ge_ii, sindex_at, is_non, isNot_non, listA_s, listA_ref, ix_s, ix_con, ix_ref, ixO_lst, ixO_tup, ixO_rol, at0, at1, at2, len_s, len_scr, rdL_ref, rdT_ref, rdL_scr, ty_ref, ty_str, tyOf_s, tyOf_i, tyOf_b, tyOf_n, tyOf_ref, in_ss, notIn_ss, in_con, notIn_con, cut_s, cut_scr, cut_ref, src_s, src_ref, enum_s, enum_ref, chk_nil, gn, gt2, gt1, gs_nil, gs_cons, gsub, max_ii, min_ii, int_b, int_i, List.map_cons, List.map_nil, List.length_cons, List.length_nil, List.replicate, List.cons_append, List.nil_append, List.set_cons_succ, List.set_cons_zero, Option.map_some, Option.map_none, Option.isSome_some, AV.bl.injEq, AV.int.injEq, AV.str.injEq, Option.some.injEq, exists_eq_left', exists_eq_left, if_true, true_and, and_true, and_self, Bool.and_self, get_new, wipeA, List.any_cons, List.any_nil, Bool.or_false, Bool.or_true, Bool.true_or, Bool.false_or, Bool.not_true, Bool.not_false, if_false, Bool.false_eq_true, not_false_eq_true, Option.isSome_none]
            by_cases h4 : isLet c = true
            · rw [if_pos h4] at hrun
              simp (decide := true) only [wp_seq', wp_if, wp_B, wp_bin, wp_un, wp_b1, wp_set, wp_ret, wp_expr, wp_skip, wp_break, wp_cont, wp_par, wp_asg, wp_for, wp_nil, wp_cons, wp_tup, wp_lst, wp_andV, wp_orV, wp_notV, wp_and, wp_or, wp_not, wp_ifE, wp_yes, var0, varS, evC, wp_ok, wps_nx, wps_rt, wps_bk, wps_ct, wp_call, wp_callK, wp_meth, wp_iter, wp_enum, wp_slice, wp_no, wp_some, wp_isi, wp_lc, wp_range1, wp_chain, of_some, wpO_some, add_ii, add_ss, iadd_ii, iadd_ss, sub_ii, mul_ii, div_ii, mod_ii, pow_ii, neg_i, eq_ii, eq_ss, eq_bb, ne_ii, ne_ss, ne_bb, lt_ii, le_ii, gt_ii, ge_ii, sindex_at, is_non, isNot_non, listA_s, listA_ref, ix_s, ix_con, ix_ref, ixO_lst, ixO_tup, ixO_rol, at0, at1, at2, len_s, len_scr, rdL_ref, rdT_ref, rdL_scr, ty_ref, ty_str, tyOf_s, tyOf_i, tyOf_b, tyOf_n, tyOf_ref, in_ss, notIn_ss, in_con, notIn_con, cut_s, cut_scr, cut_ref, src_s, src_ref, enum_s, enum_ref, chk_nil, gn, gt2, gt1, gs_nil, gs_cons, gsub, max_ii, min_ii, int_b, int_i, List.map_cons, List.map_nil, List.length_cons, List.length_nil, List.replicate, List.cons_append, List.nil_append, List.set_cons_succ, List.set_cons_zero, Option.map_some, Option.map_none, Option.isSome_some, AV.bl.injEq, AV.int.injEq, AV.str.injEq, Option.some.injEq, exists_eq_left', exists_eq_left, if_true, true_and, and_true, and_self, Bool.and_self, get_new, wipeA, List.any_cons, List.any_nil, Bool.or_false, Bool.or_true, Bool.true_or, Bool.false_or, Bool.not_true, Bool.not_false, if_false, Bool.false_eq_true, not_false_eq_true, h4]
              exact ⟨rest, st, _, rfl, rfl, e, kp, hrun, by omega, hc⟩
            · rw [if_neg h4] at hrun
              have h4' : isLet c = false := by simpa using h4
              simp (decide := true) only [wp_seq', wp_if, wp_B, wp_bin, wp_un, wp_b1, wp_set, wp_ret, wp_expr, wp_skip, wp_break, wp_cont, wp_par, wp_asg, wp_for, wp_nil, wp_cons, wp_tup, wp_lst, wp_andV, wp_orV, wp_notV, wp_and, wp_or, wp_not, wp_ifE, wp_yes, var0, varS, evC, wp_ok, wps_nx, wps_rt, wps_bk, wps_ct, wp_call, wp_callK, wp_meth, wp_iter, wp_enum, wp_slice, wp_no, wp_some, wp_isi, wp_lc, wp_range1, wp_chain, of_some, wpO_some, add_ii, add_ss, iadd_ii, iadd_ss, sub_ii, mul_ii, div_ii, mod_ii, pow_ii, neg_i, eq_ii, eq_ss, eq_bb, ne_ii, ne_ss, ne_bb, lt_ii, le_ii, gt_ii, ge_ii, sindex_at, is_non, isNot_non, listA_s, listA_ref, ix_s, ix_con, ix_ref, ixO_lst, ixO_tup, ixO_rol, at0, at1, at2, len_s, len_scr, rdL_ref, rdT_ref, rdL_scr, ty_ref, ty_str, tyOf_s, tyOf_i, tyOf_b, tyOf_n, tyOf_ref, in_ss, notIn_ss, in_con, notIn_con, cut_s, cut_scr, cut_ref, src_s, src_ref, enum_s, enum_ref, chk_nil, gn, gt2, gt1, gs_nil, gs_cons, gsub, max_ii, min_ii, int_b, int_i, List.map_cons, List.map_nil, List.length_cons, List.length_nil, List.replicate, List.cons_append, List.nil_append, List.set_cons_succ, List.set_cons_zero, Option.map_some, Option.map_none, Option.isSome_some, AV.bl.injEq, AV.int.injEq, AV.str.injEq, Option.some.injEq, exists_eq_left', exists_eq_left, if_true, true_and, and_true, and_self, Bool.and_self, get_new, wipeA, List.any_cons, List.any_nil, Bool.or_false, Bool.or_true, Bool.true_or, Bool.false_or, Bool.not_true, Bool.not_false, if_false, Bool.false_eq_true, not_false_eq_true, h4']
              rw [eq_empty (ss := st.reverse.map fun c => [c]) (getElem?_pre e) (get_new _ _) (sgs_fine hc), sgs_nil]
              cases st with
              | nil =>
                simp (decide := true) only [wp_seq', wp_if, wp_B, wp_bin, wp_un, wp_b1, wp_set, wp_ret, wp_expr, wp_skip, wp_break, wp_cont, wp_par, wp_asg, wp_for, wp_nil, wp_cons, wp_tup, wp_lst, wp_andV, wp_orV, wp_notV, wp_and, wp_or, wp_not, wp_ifE, wp_yes, var0, varS, evC, wp_ok, wps_nx, wps_rt, wps_bk, wps_ct, wp_call, wp_callK, wp_meth, wp_iter, wp_enum, wp_slice, wp_no, wp_some, wp_isi, wp_lc, wp_range1, wp_chain, of_some, wpO_some, add_ii, add_ss, iadd_ii, iadd_ss, sub_ii, mul_ii, div_ii, mod_ii, pow_ii, neg_i, eq_ii, eq_ss, eq_bb, ne_ii, ne_ss, ne_bb, lt_ii, le_ii, gt_ii, ge_ii, sindex_at, is_non, isNot_non, listA_s, listA_ref, ix_s, ix_con, ix_ref, ixO_lst, ixO_tup, ixO_rol, at0, at1, at2, len_s, len_scr, rdL_ref, rdT_ref, rdL_scr, ty_ref, ty_str, tyOf_s, tyOf_i, tyOf_b, tyOf_n, tyOf_ref, in_ss, notIn_ss, in_con, notIn_con, cut_s, cut_scr, cut_ref, src_s, src_ref, enum_s, enum_ref, chk_nil, gn, gt2, gt1, gs_nil, gs_cons, gsub, max_ii, min_ii, int_b, int_i, List.map_cons, List.map_nil, List.length_cons, List.length_nil, List.replicate, List.cons_append, List.nil_append, List.set_cons_succ, List.set_cons_zero, Option.map_some, Option.map_none, Option.isSome_some, AV.bl.injEq, AV.int.injEq, AV.str.injEq, Option.some.injEq, exists_eq_left', exists_eq_left, if_true, true_and, and_true, and_self, Bool.and_self, get_new, wipeA, List.any_cons, List.any_nil, Bool.or_false, Bool.or_true, Bool.true_or, Bool.false_or, Bool.not_true, Bool.not_false, if_false, Bool.false_eq_true, not_false_eq_true]
                refine ⟨?_, kp.app _⟩
                rw [hrun]
                rfl
              | cons t st' =>
                rw [sgs_cons] at e
                have e2 : (h ++ [AO.lst []])[h0.length]? = some (.lst (sgs st' ++ [.str [t]])) := getElem?_pre e
                simp (decide := true) only [wp_seq', wp_if, wp_B, wp_bin, wp_un, wp_b1, wp_set, wp_ret, wp_expr, wp_skip, wp_break, wp_cont, wp_par, wp_asg, wp_for, wp_nil, wp_cons, wp_tup, wp_lst, wp_andV, wp_orV, wp_notV, wp_and, wp_or, wp_not, wp_ifE, wp_yes, var0, varS, evC, wp_ok, wps_nx, wps_rt, wps_bk, wps_ct, wp_call, wp_callK, wp_meth, wp_iter, wp_enum, wp_slice, wp_no, wp_some, wp_isi, wp_lc, wp_range1, wp_chain, of_some, wpO_some, add_ii, add_ss, iadd_ii, iadd_ss, sub_ii, mul_ii, div_ii, mod_ii, pow_ii, neg_i, eq_ii, eq_ss, eq_bb, ne_ii, ne_ss, ne_bb, lt_ii, le_ii, gt_ii, ge_ii, sindex_at, is_non, isNot_non, listA_s, listA_ref, ix_s, ix_con, ix_ref, ixO_lst, ixO_tup, ixO_rol, at0, at1, at2, len_s, len_scr, rdL_ref, rdT_ref, rdL_scr, ty_ref, ty_str, tyOf_s, tyOf_i, tyOf_b, tyOf_n, tyOf_ref, in_ss, notIn_ss, in_con, notIn_con, cut_s, cut_scr, cut_ref, src_s, src_ref, enum_s, enum_ref, chk_nil, gn, gt2, gt1, gs_nil, gs_cons, gsub, max_ii, min_ii, int_b, int_i, List.map_cons, List.map_nil, List.length_cons, List.length_nil, List.replicate, List.cons_append, List.nil_append, List.set_cons_succ, List.set_cons_zero, Option.map_some, Option.map_none, Option.isSome_some, AV.bl.injEq, AV.int.injEq, AV.str.injEq, Option.some.injEq, exists_eq_left', exists_eq_left, if_true, true_and, and_true, and_self, Bool.and_self, get_new, wipeA, List.any_cons, List.any_nil, Bool.or_false, Bool.or_true, Bool.true_or, Bool.false_or, Bool.not_true, Bool.not_false, if_false, Bool.false_eq_true, not_false_eq_true, e2, pop_at e2, show decide (t :: st' = []) = false from rfl]
                simp only at hrun
                by_cases h5 : t = c
                · subst h5
                  rw [if_pos rfl] at hrun
                  simp (decide := true) only [wp_seq', wp_if, wp_B, wp_bin, wp_un, wp_b1, wp_set, wp_ret, wp_expr, wp_skip, wp_break, wp_cont, wp_par, wp_asg, wp_for, wp_nil, wp_cons, wp_tup, wp_lst, wp_andV, wp_orV, wp_notV, wp_and, wp_or, wp_not, wp_ifE, wp_yes, var0, varS, evC, wp_ok, wps_nx, wps_rt, wps_bk, wps_ct, wp_call, wp_callK, wp_meth, wp_iter, wp_enum, wp_slice, wp_no, wp_some, wp_isi, wp_lc, wp_range1, wp_chain, of_some, wpO_some, add_ii, add_ss, iadd_ii, iadd_ss, sub_ii, mul_ii, div_ii, mod_ii, pow_ii, neg_i, eq_ii, eq_ss, eq_bb, ne_ii, ne_ss, ne_bb, lt_ii, le_ii, gt_ii, ge_ii, sindex_at, is_non, isNot_non, listA_s, listA_ref, ix_s, ix_con, ix_ref, ixO_lst, ixO_tup, ixO_rol, at0, at1, at2, len_s, len_scr, rdL_ref, rdT_ref, rdL_scr, ty_ref, ty_str, tyOf_s, tyOf_i, tyOf_b, tyOf_n, tyOf_ref, in_ss, notIn_ss, in_con, notIn_con, cut_s, cut_scr, cut_ref, src_s, src_ref, enum_s, enum_ref, chk_nil, gn, gt2, gt1, gs_nil, gs_cons, gsub, max_ii, min_ii, int_b, int_i, List.map_cons, List.map_nil, List.length_cons, List.length_nil, List.replicate, List.cons_append, List.nil_append, List.set_cons_succ, List.set_cons_zero, Option.map_some, Option.map_none, Option.isSome_some, AV.bl.injEq, AV.int.injEq, AV.str.injEq, Option.some.injEq, exists_eq_left', exists_eq_left, if_true, true_and, and_true, and_self, Bool.and_self, get_new, wipeA, List.any_cons, List.any_nil, Bool.or_false, Bool.or_true, Bool.true_or, Bool.false_or, Bool.not_true, Bool.not_false, if_false, Bool.false_eq_true, not_false_eq_true, beq_self_eq_true]
                  exact ⟨rest, st', _, rfl, rfl, get_set_eq e2, (kp.app _).set (.inr (Nat.le_refl _)) _, hrun, by simp only [List.length_cons] at hl; omega, fun x hx => hc x (List.mem_cons_of_mem _ hx)⟩
                · rw [if_neg h5] at hrun
                  simp (decide := true) only [wp_seq', wp_if, wp_B, wp_bin, wp_un, wp_b1, wp_set, wp_ret, wp_expr, wp_skip, wp_break, wp_cont, wp_par, wp_asg, wp_for, wp_nil, wp_cons, wp_tup, wp_lst, wp_andV, wp_orV, wp_notV, wp_and, wp_or, wp_not, wp_ifE, wp_yes, var0, varS, evC, wp_ok, wps_nx, wps_rt, wps_bk, wps_ct, wp_call, wp_callK, wp_meth, wp_iter, wp_enum, wp_slice, wp_no, wp_some, wp_isi, wp_lc, wp_range1, wp_chain, of_some, wpO_some, add_ii, add_ss, iadd_ii, iadd_ss, sub_ii, mul_ii, div_ii, mod_ii, pow_ii, neg_i, eq_ii, eq_ss, eq_bb, ne_ii, ne_ss, ne_bb, lt_ii, le_ii, gt_ii, ge_ii, sindex_at, is_non, isNot_non, listA_s, listA_ref, ix_s, ix_con, ix_ref, ixO_lst, ixO_tup, ixO_rol, at0, at1, at2, len_s, len_scr, rdL_ref, rdT_ref, rdL_scr, ty_ref, ty_str, tyOf_s, tyOf_i, tyOf_b, tyOf_n, tyOf_ref, in_ss, notIn_ss, in_con, notIn_con, cut_s, cut_scr, cut_ref, src_s, src_ref, enum_s, enum_ref, chk_nil, gn, gt2, gt1, gs_nil, gs_cons, gsub, max_ii, min_ii, int_b, int_i, List.map_cons, List.map_nil, List.length_cons, List.length_nil, List.replicate, List.cons_append, List.nil_append, List.set_cons_succ, List.set_cons_zero, Option.map_some, Option.map_none, Option.isSome_some, AV.bl.injEq, AV.int.injEq, AV.str.injEq, Option.some.injEq, exists_eq_left', exists_eq_left, if_true, true_and, and_true, and_self, Bool.and_self, get_new, wipeA, List.any_cons, List.any_nil, Bool.or_false, Bool.or_true, Bool.true_or, Bool.false_or, Bool.not_true, Bool.not_false, if_false, Bool.false_eq_true, not_false_eq_true, show (([t] : List Nat) == [c]) = false by simpa using h5]
                  refine ⟨?_, (kp.app _).set (.inr (Nat.le_refl _)) _⟩
                  rw [hrun]
                  rfl
  · exact ⟨w, [], none, rfl, rfl, get_new _ _, Kp.rfl'.app _, rfl, by simpa using hw, by simp⟩

def cloB (c : Nat) : Bool := decide (c ∈ [41, 93, 125])
theorem cloB_def (c : Nat) : decide (c ∈ [41, 93, 125]) = cloB c := rfl
def iVs (l : List Int) : List AV := l.map AV.int
theorem iVs_len (l : List Int) : (iVs l).length = l.length := by simp [iVs]
def opnB (c : Nat) : Bool := decide (c ∈ [40, 91, 123])
theorem opnB_iff (c : Nat) : opnB c = true ↔ c = 40 ∨ c = 91 ∨ c = 123 := by unfold opnB; simp
theorem cloB_iff (c : Nat) : cloB c = true ↔ c = 41 ∨ c = 93 ∨ c = 125 := by unfold cloB; simp
theorem isLet_iff (c : Nat) : isLet c = true ↔ 97 ≤ c ∧ c ≤ 122 := by unfold isLet; simp
/-- one sign of a text that holds -/
theorem run_step {cs : List Nat} {c : Nat} {r out : List Nat} (h : run cs (c :: r) = some out) (hc : ∀ c ∈ cs, isClo c) :
    (opnB c = true ∧ cloB c = false ∧ isLet c = false ∧ ∃ k, isClo k ∧ run (k :: cs) r = some out) ∨ (opnB c = false ∧ cloB c = false ∧ isLet c = true ∧ run cs r = some out) ∨ (opnB c = false ∧ cloB c = true ∧ isLet c = false ∧ ∃ cs', cs = c :: cs' ∧ run cs' r = some out) := by
  rw [run_cons] at h
  by_cases h1 : c = 40
  · subst h1; exact .inl ⟨rfl, rfl, rfl, 41, .inl rfl, by simpa using h⟩
  · by_cases h2 : c = 91
    · subst h2; exact .inl ⟨rfl, rfl, rfl, 93, .inr (.inl rfl), by simpa using h⟩
    · by_cases h3 : c = 123
      · subst h3; exact .inl ⟨rfl, rfl, rfl, 125, .inr (.inr rfl), by simpa using h⟩
      · rw [if_neg h1, if_neg h2, if_neg h3] at h
        have ho : opnB c = false := by
          cases q : opnB c with
          | false => rfl
          | true => rw [opnB_iff] at q; omega
        by_cases h4 : isLet c = true
        · rw [if_pos h4] at h
          have hcl : cloB c = false := by
            cases q : cloB c with
            | false => rfl
            | true => rw [cloB_iff] at q; rw [isLet_iff] at h4; omega
          exact .inr (.inl ⟨ho, hcl, h4, h⟩)
        · rw [if_neg h4] at h
          cases cs with
          | nil => cases h
          | cons t cs' =>
            simp only at h
            split at h
            · rename_i e
              subst e
              have ht := hc t List.mem_cons_self
              have hcl : cloB t = true := by rw [cloB_iff]; exact ht
              exact .inr (.inr ⟨ho, hcl, by simpa using h4, cs', rfl, h⟩)
            · cases h
theorem Bag.kp {h h' : Hh} {b : Nat} {n : Int} (hb : Bag h b n) (k : Kp [] h h') : Bag h' b n := by
  obtain ⟨x, y, z, e, r⟩ := hb
  exact ⟨x, y, z, k.get0 e, r⟩
theorem Bag.le {h : Hh} {b : Nat} {n m : Int} (hb : Bag h b n) (k : n ≤ m) : Bag h b m := by
  obtain ⟨x, y, z, e, r1, r2, r3, r4⟩ := hb
  exact ⟨x, y, z, e, r1, r2, r3, by omega⟩
theorem Bag.lt {h : Hh} {b : Nat} {n : Int} (hb : Bag h b n) : b < h.length := by
  obtain ⟨x, y, z, e, r⟩ := hb
  exact lt_of_get e
theorem bag_off {h0 h h' : Hh} {b : Nat} (k : Kp [] h0 h) (hb : h0.length ≤ b) (k' : Kp [b] h h') : Kp [] h0 h' := k.trans k' fun m hm => by
  simp only [List.mem_cons, List.not_mem_nil, or_false] at hm
  subst hm
  exact .inr hb
theorem w_check_text {h0 : Hh} {w : List Nat} (hw : w.length ≤ 1000000) (hb : Bal w) : Wp (m_check_text [.str w] h0) fun v h' => v = .non ∧ Kp [] h0 h' := by
  apply fn_wp
  unfold b_check_text
  simp (decide := true) only [wp_seq', wp_if, wp_B, wp_bin, wp_un, wp_b1, wp_set, wp_ret, wp_expr, wp_skip, wp_break, wp_cont, wp_par, wp_asg, wp_for, wp_nil, wp_cons, wp_tup, wp_lst, wp_andV, wp_orV, wp_notV, wp_and, wp_or, wp_not, wp_ifE, wp_yes, var0, varS, evC, wp_ok, wps_nx, wps_rt, wps_bk, wps_ct, wp_call, wp_callK, wp_meth, wp_iter, wp_enum, wp_slice, wp_no, wp_some, wp_isi, wp_lc, wp_range1, wp_chain, of_some, wpO_some, add_ii, add_ss, iadd_ii, iadd_ss, sub_ii, mul_ii, div_ii, mod_ii, pow_ii, neg_i, eq_ii, eq_ss, eq_bb, ne_ii, ne_ss, ne_bb, lt_ii, le_ii, gt_ii, ge_ii, sindex_at, is_non, isNot_non, listA_s, listA_ref, ix_s, ix_con, ix_ref, ixO_lst, ixO_tup, ixO_rol, at0, at1, at2, len_s, len_scr, rdL_ref, rdT_ref, rdL_scr, ty_ref, ty_str, tyOf_s, tyOf_i, tyOf_b, tyOf_n, tyOf_ref, in_ss, notIn_ss, in_con, notIn_con, cut_s, cut_scr, cut_ref, src_s, src_ref, enum_s, enum_ref, chk_nil, gn, gt2, gt1, gs_nil, gs_cons, gsub, max_ii, min_ii, int_b, int_i, List.map_cons, List.map_nil, List.length_cons, List.length_nil, List.replicate, List.cons_append, List.nil_append, List.set_cons_succ, List.set_cons_zero, Option.map_some, Option.map_none, Option.isSome_some, AV.bl.injEq, AV.int.injEq, AV.str.injEq, Option.some.injEq, exists_eq_left', exists_eq_left, if_true, true_and, and_true, and_self, Bool.and_self, get_new, wipeA, List.any_cons, List.any_nil, Bool.or_false, Bool.or_true, Bool.true_or, Bool.false_or, Bool.not_true, Bool.not_false, if_false, Bool.false_eq_true, not_false_eq_true]
  refine (w_is_text hw).mono fun v h3 ⟨ev, kp⟩ => ?_
  subst ev
  simp (decide := true) only [wp_seq', wp_if, wp_B, wp_bin, wp_un, wp_b1, wp_set, wp_ret, wp_expr, wp_skip, wp_break, wp_cont, wp_par, wp_asg, wp_for, wp_nil, wp_cons, wp_tup, wp_lst, wp_andV, wp_orV, wp_notV, wp_and, wp_or, wp_not, wp_ifE, wp_yes, var0, varS, evC, wp_ok, wps_nx, wps_rt, wps_bk, wps_ct, wp_call, wp_callK, wp_meth, wp_iter, wp_enum, wp_slice, wp_no, wp_some, wp_isi, wp_lc, wp_range1, wp_chain, of_some, wpO_some, add_ii, add_ss, iadd_ii, iadd_ss, sub_ii, mul_ii, div_ii, mod_ii, pow_ii, neg_i, eq_ii, eq_ss, eq_bb, ne_ii, ne_ss, ne_bb, lt_ii, le_ii, gt_ii, ge_ii, sindex_at, is_non, isNot_non, listA_s, listA_ref, ix_s, ix_con, ix_ref, ixO_lst, ixO_tup, ixO_rol, at0, at1, at2, len_s, len_scr, rdL_ref, rdT_ref, rdL_scr, ty_ref, ty_str, tyOf_s, tyOf_i, tyOf_b, tyOf_n, tyOf_ref, in_ss, notIn_ss, in_con, notIn_con, cut_s, cut_scr, cut_ref, src_s, src_ref, enum_s, enum_ref, chk_nil, gn, gt2, gt1, gs_nil, gs_cons, gsub, max_ii, min_ii, int_b, int_i, List.map_cons, List.map_nil, List.length_cons, List.length_nil, List.replicate, List.cons_append, List.nil_append, List.set_cons_succ, List.set_cons_zero, Option.map_some, Option.map_none, Option.isSome_some, AV.bl.injEq, AV.int.injEq, AV.str.injEq, Option.some.injEq, exists_eq_left', exists_eq_left, if_true, true_and, and_true, and_self, Bool.and_self, get_new, wipeA, List.any_cons, List.any_nil, Bool.or_false, Bool.or_true, Bool.true_or, Bool.false_or, Bool.not_true, Bool.not_false, if_false, Bool.false_eq_true, not_false_eq_true, show decide (run [] w = some []) = true from decide_eq_true hb]
  exact kp
theorem fines_int : ∀ l : List Int, D.fines (l.map D.int) = true
  | [] => rfl
  | x :: r => by
    show (D.fine (.int x) && D.fines (r.map D.int)) = true
    rw [fines_int r, Bool.and_true]
    rfl
theorem eqvs_int : ∀ l m : List Int, D.eqvs (l.map D.int) (m.map D.int) = decide (l = m)
  | [], [] => rfl
  | [], _ :: _ => rfl
  | _ :: _, [] => rfl
  | x :: l, y :: m => by
    show (D.eqv (.int x) (.int y) && D.eqvs (l.map D.int) (m.map D.int)) = _
    rw [eqvs_int l m]
    show ((x == y) && decide (l = m)) = decide (x :: l = y :: m)
    by_cases h : x = y
    · subst h; simp
    · simp [h]
def rIt (k n : Nat) : List (List AV) := (List.range n).map fun i => [AV.int ((k + i : Nat) : Int)]
theorem rIt_succ (k n : Nat) : rIt k (n + 1) = [.int (k : Int)] :: rIt (k + 1) n := by
  unfold rIt
  rw [List.range_succ_eq_map, List.map_cons, List.map_map]
  congr 1
  apply List.map_congr_left
  intro i _
  show [AV.int ((k + (i + 1) : Nat) : Int)] = [AV.int ((k + 1 + i : Nat) : Int)]
  rw [show k + (i + 1) = k + 1 + i by omega]
theorem rIt_zero (n : Nat) : rangeIt 0 n = rIt 0 n := by
  unfold rangeIt rIt
  apply List.map_congr_left
  intro i _
  simp
theorem rIt_nil {k n : Nat} (h : [] = rIt k n) : n = 0 := by
  have := congrArg List.length h
  simpa [rIt] using this.symm
theorem rep_len (a : List Nat) (n : Nat) : (List.replicate n a).flatten.length = n * a.length := by simp
theorem mul_si {h : Hh} {s : List Nat} {n : Int} : opMul (.str s) (.int n) h = if n ≤ 1048576 ∧ -1048576 ≤ n ∧ s.length * n.toNat ≤ LINE then some (.str (List.replicate n.toNat s).flatten, h) else none := rfl

/-- how many signs stand ahead of the one that closes the d-th open pair -/
def closeOff : Nat → List Nat → Nat
  | _, [] => 0
  | d, c :: r => if opnB c = true then 1 + closeOff (d + 1) r else if cloB c = true then (if d ≤ 1 then 0 else 1 + closeOff (d - 1) r) else 1 + closeOff d r
theorem closeOff_cons (d : Nat) (c : Nat) (r : List Nat) : closeOff d (c :: r) = if opnB c = true then 1 + closeOff (d + 1) r else if cloB c = true then (if d ≤ 1 then 0 else 1 + closeOff (d - 1) r) else 1 + closeOff d r := rfl
def prs : Nat → List Nat → List (Nat × Nat)
  | _, [] => []
  | k, c :: r => if opnB c = true then (k, k + 1 + closeOff 1 r) :: prs (k + 1) r else prs (k + 1) r
theorem prs_cons (k c : Nat) (r : List Nat) : prs k (c :: r) = if opnB c = true then (k, k + 1 + closeOff 1 r) :: prs (k + 1) r else prs (k + 1) r := rfl
/-- the closing place of the sign at i, as the text ahead tells -/
def canon (w : List Nat) (i : Nat) : Nat := i + 1 + closeOff 1 (w.drop (i + 1))
def ent (o : Option Nat) : AV := match o with
  | some i => .int (i : Nat)
  | none => .non
/-- the table while the first k signs are read, ps the open places, the last first -/
structure PI (w : List Nat) (k : Nat) (ps : List Nat) (tb : List (Option Nat)) : Prop where
  len : tb.length = w.length
  stk : ∀ (d p : Nat), ps[d]? = some p → canon w p = k + closeOff (d + 1) (w.drop k) ∧ p < k ∧ tb[p]? = some none ∧ ∃ c, w[p]? = some c ∧ opnB c = true
  opn : ∀ (i : Nat) (c : Nat), i < k → w[i]? = some c → opnB c = true → i ∉ ps → tb[i]? = some (some (canon w i))
  oth : ∀ (i : Nat) (c : Nat), w[i]? = some c → opnB c = false → ∀ j, tb[i]? = some (some j) → j < i
  nd : ps.Nodup
  rest : ∀ i, k ≤ i → i < w.length → tb[i]? = some none
theorem drop_cons {w : List Nat} {k c : Nat} (h : w[k]? = some c) : w.drop k = c :: w.drop (k + 1) := by
  obtain ⟨hk, e⟩ := List.getElem?_eq_some_iff.mp h
  rw [List.drop_eq_getElem_cons hk, e]
theorem PI.letter {w : List Nat} {k c : Nat} {ps : List Nat} {tb : List (Option Nat)} (I : PI w k ps tb) (hc : w[k]? = some c) (h1 : opnB c = false) (h2 : cloB c = false) : PI w (k + 1) ps tb where
  len := I.len
  stk := fun d p e => by
    obtain ⟨a, b, t⟩ := I.stk d p e
    rw [drop_cons hc, closeOff_cons, h1, h2] at a
    simp at a
    exact ⟨by omega, by omega, t⟩
  opn := fun i d hi e ho hp => by
    by_cases hik : i = k
    · subst hik; rw [hc] at e; cases e; rw [h1] at ho; cases ho
    · exact I.opn i d (by omega) e ho hp
  oth := I.oth
  nd := I.nd
  rest := fun i h => I.rest i (by omega)
theorem PI.push {w : List Nat} {k c : Nat} {ps : List Nat} {tb : List (Option Nat)} (I : PI w k ps tb) (hc : w[k]? = some c) (h1 : opnB c = true) : PI w (k + 1) (k :: ps) tb where
  len := I.len
  stk := fun d p e => by
    cases d with
    | zero =>
      cases e
      exact ⟨rfl, by omega, I.rest k (Nat.le_refl _) (List.getElem?_eq_some_iff.mp hc).1, c, hc, h1⟩
    | succ d =>
      obtain ⟨a, b, t⟩ := I.stk d p (by simpa using e)
      rw [drop_cons hc, closeOff_cons, if_pos h1] at a
      exact ⟨by omega, by omega, t⟩
  opn := fun i d hi e ho hp => by
    simp only [List.mem_cons, not_or] at hp
    exact I.opn i d (by omega) e ho hp.2
  oth := I.oth
  nd := by
    rw [List.nodup_cons]
    refine ⟨fun h => ?_, I.nd⟩
    obtain ⟨d, e⟩ := List.mem_iff_getElem?.mp h
    have := (I.stk d k e).2.1
    omega
  rest := fun i h => I.rest i (by omega)
theorem PI.pop {w : List Nat} {k c p : Nat} {ps : List Nat} {tb : List (Option Nat)} (I : PI w k (p :: ps) tb) (hc : w[k]? = some c) (h1 : opnB c = false) (h2 : cloB c = true) : PI w (k + 1) ps ((tb.set k (some p)).set p (some k)) := by
  have hk := (List.getElem?_eq_some_iff.mp hc).1
  obtain ⟨a0, b0, t0, c0, wc0, oc0⟩ := I.stk 0 p rfl
  have ecan : canon w p = k := by
    rw [drop_cons hc, closeOff_cons, h1, h2] at a0
    simpa using a0
  have hkt : k < tb.length := by rw [I.len]; exact hk
  have hpt : p < tb.length := by omega
  have hnd := List.nodup_cons.mp I.nd
  have look : ∀ i : Nat, ((tb.set k (some p)).set p (some k))[i]? = if i = p then some (some k) else if i = k then some (some p) else tb[i]? := fun i => by
    by_cases e1 : i = p
    · subst e1
      rw [if_pos rfl, List.getElem?_set_self (by rw [List.length_set]; exact hpt)]
    · rw [if_neg e1, List.getElem?_set_ne (Ne.symm e1)]
      by_cases e2 : i = k
      · subst e2
        rw [if_pos rfl, List.getElem?_set_self hkt]
      · rw [if_neg e2, List.getElem?_set_ne (Ne.symm e2)]
  refine ⟨by rw [List.length_set, List.length_set]; exact I.len, fun d q e => ?_, fun i d hi e ho hp => ?_, fun i d e ho j hj => ?_, hnd.2, fun i h hi => ?_⟩
  · obtain ⟨a, b, t, c1, wc1, oc1⟩ := I.stk (d + 1) q (by simpa using e)
    rw [drop_cons hc, closeOff_cons, h1, h2] at a
    simp at a
    have hq : q ≠ p := fun z => by subst z; exact hnd.1 (List.mem_of_getElem? e)
    refine ⟨by omega, by omega, ?_, c1, wc1, oc1⟩
    rw [look, if_neg hq, if_neg (by omega)]
    exact t
  · rw [look]
    by_cases e1 : i = p
    · subst e1; rw [if_pos rfl, ecan]
    · rw [if_neg e1]
      by_cases e2 : i = k
      · subst e2; rw [hc] at e; cases e; rw [h1] at ho; cases ho
      · rw [if_neg e2]
        exact I.opn i d (by omega) e ho (by simp only [List.mem_cons, not_or]; exact ⟨e1, hp⟩)
  · rw [look] at hj
    by_cases e1 : i = p
    · subst e1; rw [wc0] at e; cases e; rw [oc0] at ho; cases ho
    · rw [if_neg e1] at hj
      by_cases e2 : i = k
      · subst e2; rw [if_pos rfl] at hj; cases hj; omega
      · rw [if_neg e2] at hj
        exact I.oth i d e ho j hj
  · rw [look, if_neg (by omega), if_neg (by omega)]
    exact I.rest i (by omega) hi
theorem PI.start (w : List Nat) : PI w 0 [] (List.replicate w.length none) where
  len := by simp
  stk := fun d p e => by simp at e
  opn := fun i c hi => by omega
  oth := fun i c e ho j hj => by
    rw [List.getElem?_replicate] at hj
    split at hj <;> cases hj
  nd := List.nodup_nil
  rest := fun i _ hi => by rw [List.getElem?_replicate, if_pos hi]
theorem ent_none (n : Nat) : List.replicate n AV.non = (List.replicate n (none : Option Nat)).map ent := by simp [ent]
theorem mul_non {h : Hh} {n k : Nat} (e : h[n]? = some (.lst [.non])) (hk : k ≤ 1000000) : opMul (.ref n) (.int (k : Nat)) h = some (.ref h.length, h ++ [.lst ((List.replicate k (none : Option Nat)).map ent)]) := by
  have : opMul (.ref n) (.int (k : Nat)) h = match h[n]? with
    | some (.lst xs) => if (k : Int) ≤ 1048576 ∧ -1048576 ≤ (k : Int) ∧ xs.length * (k : Int).toNat ≤ LINE then some (.ref h.length, h ++ [.lst (List.replicate (k : Int).toNat xs).flatten]) else none
    | _ => none := rfl
  rw [this, e]
  simp only
  rw [if_pos ⟨by omega, by omega, line_big (by simp; omega)⟩]
  congr 4
  rw [← ent_none]
  have : ∀ m : Nat, (List.replicate m [AV.non]).flatten = List.replicate m AV.non := fun m => by
    induction m with
    | zero => rfl
    | succ m ih => rw [List.replicate_succ, List.flatten_cons, ih, List.replicate_succ]; rfl
  rw [this]
  simp
def nVs (l : List Nat) : List AV := l.map fun (i : Nat) => AV.int (i : Nat)
theorem nVs_snoc (p : Nat) (ps : List Nat) : nVs (p :: ps).reverse = nVs ps.reverse ++ [.int (p : Nat)] := by simp [nVs]
theorem nVs_len (l : List Nat) : (nVs l).length = l.length := by simp [nVs]
/-- partner_indexes of a text that holds -/
theorem w_partners {h0 : Hh} {w : List Nat} (hw : w.length ≤ 1000000) (hb : Bal w) : Wp (m_partner_indexes [.str w] h0) fun v h' => ∃ n tb, v = .ref n ∧ h'[n]? = some (.lst (tb.map ent)) ∧ PI w w.length [] tb ∧ h0.length ≤ n ∧ Kp [] h0 h' := by
  apply fn_wp
  unfold b_partner_indexes
  simp (decide := true) only [wp_seq', wp_if, wp_B, wp_bin, wp_un, wp_b1, wp_set, wp_ret, wp_expr, wp_skip, wp_break, wp_cont, wp_par, wp_asg, wp_for, wp_nil, wp_cons, wp_tup, wp_lst, wp_andV, wp_orV, wp_notV, wp_and, wp_or, wp_not, wp_ifE, wp_yes, var0, varS, evC, wp_ok, wps_nx, wps_rt, wps_bk, wps_ct, wp_call, wp_callK, wp_meth, wp_iter, wp_enum, wp_slice, wp_no, wp_some, wp_isi, wp_lc, wp_range1, wp_chain, of_some, wpO_some, add_ii, add_ss, iadd_ii, iadd_ss, sub_ii, mul_ii, div_ii, mod_ii, pow_ii, neg_i, eq_ii, eq_ss, eq_bb, ne_ii, ne_ss, ne_bb, lt_ii, le_ii, gt_ii, ge_ii, sindex_at, is_non, isNot_non, listA_s, listA_ref, ix_s, ix_con, ix_ref, ixO_lst, ixO_tup, ixO_rol, at0, at1, at2, len_s, len_scr, rdL_ref, rdT_ref, rdL_scr, ty_ref, ty_str, tyOf_s, tyOf_i, tyOf_b, tyOf_n, tyOf_ref, in_ss, notIn_ss, in_con, notIn_con, cut_s, cut_scr, cut_ref, src_s, src_ref, enum_s, enum_ref, chk_nil, gn, gt2, gt1, gs_nil, gs_cons, gsub, max_ii, min_ii, int_b, int_i, List.map_cons, List.map_nil, List.length_cons, List.length_nil, List.replicate, List.cons_append, List.nil_append, List.set_cons_succ, List.set_cons_zero, Option.map_some, Option.map_none, Option.isSome_some, AV.bl.injEq, AV.int.injEq, AV.str.injEq, Option.some.injEq, exists_eq_left', exists_eq_left, if_true, true_and, and_true, and_self, Bool.and_self, get_new, wipeA, List.any_cons, List.any_nil, Bool.or_false, Bool.or_true, Bool.true_or, Bool.false_or, Bool.not_true, Bool.not_false, if_false, Bool.false_eq_true, not_false_eq_true, if_pos (line_big (show w.length ≤ 10000000 by omega))]
  rw [mul_non (get_new _ _) hw]
  simp (decide := true) only [wp_seq', wp_if, wp_B, wp_bin, wp_un, wp_b1, wp_set, wp_ret, wp_expr, wp_skip, wp_break, wp_cont, wp_par, wp_asg, wp_for, wp_nil, wp_cons, wp_tup, wp_lst, wp_andV, wp_orV, wp_notV, wp_and, wp_or, wp_not, wp_ifE, wp_yes, var0, varS, evC, wp_ok, wps_nx, wps_rt, wps_bk, wps_ct, wp_call, wp_callK, wp_meth, wp_iter, wp_enum, wp_slice, wp_no, wp_some, wp_isi, wp_lc, wp_range1, wp_chain, of_some, wpO_some, add_ii, add_ss, iadd_ii, iadd_ss, sub_ii, mul_ii, div_ii, mod_ii, pow_ii, neg_i, eq_ii, eq_ss, eq_bb, ne_ii, ne_ss, ne_bb, lt_ii, le_ii, gt_ii, ge_ii, sindex_at, is_non, isNot_non, listA_s, listA_ref, ix_s, ix_con, ix_ref, ixO_lst, ixO_tup, ixO_rol, at0, at1, at2, len_s, len_scr, rdL_ref, rdT_ref, rdL_scr, ty_ref, ty_str, tyOf_s, tyOf_i, tyOf_b, tyOf_n, tyOf_ref, in_ss, notIn_ss, in_con, notIn_con, cut_s, cut_scr, cut_ref, src_s, src_ref, enum_s, enum_ref, chk_nil, gn, gt2, gt1, gs_nil, gs_cons, gsub, max_ii, min_ii, int_b, int_i, List.map_cons, List.map_nil, List.length_cons, List.length_nil, List.replicate, List.cons_append, List.nil_append, List.set_cons_succ, List.set_cons_zero, Option.map_some, Option.map_none, Option.isSome_some, AV.bl.injEq, AV.int.injEq, AV.str.injEq, Option.some.injEq, exists_eq_left', exists_eq_left, if_true, true_and, and_true, and_self, Bool.and_self, get_new, wipeA, List.any_cons, List.any_nil, Bool.or_false, Bool.or_true, Bool.true_or, Bool.false_or, Bool.not_true, Bool.not_false, if_false, Bool.false_eq_true, not_false_eq_true]
  generalize hN : (h0 ++ [AO.lst [AV.non]]).length = N
  have hN0 : h0.length < N := by rw [← hN]; simp
  have hM : (h0 ++ [AO.lst [AV.non]] ++ [AO.lst ((List.replicate w.length (none : Option Nat)).map ent)]).length = N + 1 := by rw [List.length_append, hN]; rfl
  rw [hM]
  refine loop_wp (fun its sl h => ∃ (rest : List Nat) (k : Nat) (ps cs : List Nat) (tb : List (Option Nat)) (t3 t4 : Option AV), its = pairsFrom k (rest.map fun ch => .str [ch]) ∧ sl = [some (.str w), some (.ref N), some (.ref (N + 1)), t3, t4] ∧ w.drop k = rest ∧ k + rest.length = w.length ∧ h[N]? = some (.lst (tb.map ent)) ∧ h[N + 1]? = some (.lst (nVs ps.reverse)) ∧ Kp [] h0 h ∧ PI w k ps tb ∧ run cs rest = some [] ∧ cs.length = ps.length ∧ (∀ c ∈ cs, isClo c) ∧ ps.length ≤ k) ?_ ?_ ?_ _ _ _ ?_
  · intro its sl h _; rfl
  · rintro sl h ⟨rest, k, ps, cs, tb, t3, t4, hr, rfl, hd, hk, e1, e2, kp, I, hrun, hcs, hcc, _⟩
    have : rest = [] := by cases rest with
      | nil => rfl
      | cons a r => cases hr
    subst this
    have : cs = [] := by simpa [run] using hrun
    subst this
    have : ps = [] := List.eq_nil_of_length_eq_zero hcs.symm
    subst this
    simp only [List.length_nil, Nat.add_zero] at hk
    subst hk
    simp (decide := true) only [wp_seq', wp_if, wp_B, wp_bin, wp_un, wp_b1, wp_set, wp_ret, wp_expr, wp_skip, wp_break, wp_cont, wp_par, wp_asg, wp_for, wp_nil, wp_cons, wp_tup, wp_lst, wp_andV, wp_orV, wp_notV, wp_and, wp_or, wp_not, wp_ifE, wp_yes, var0, varS, evC, wp_ok, wps_nx, wps_rt, wps_bk, wps_ct, wp_call, wp_callK, wp_meth, wp_iter, wp_enum, wp_slice, wp_no, wp_some, wp_isi, wp_lc, wp_range1, wp_chain, of_some, wpO_some, add_ii, add_ss, iadd_ii, iadd_ss, sub_ii, mul_ii, div_ii, mod_ii, pow_ii, neg_i, eq_ii, eq_ss, eq_bb, ne_ii, ne_ss, ne_bb, lt_ii, le_ii, gt_ii, ge_ii, sindex_at, is_non, isNot_non, listA_s, listA_ref, ix_s, ix_con, ix_ref, ixO_lst, ixO_tup, ixO_rol, at0, at1, at2, len_s, len_scr, rdL_ref, rdT_ref, rdL_scr, ty_ref, ty_str, tyOf_s, tyOf_i, tyOf_b, tyOf_n, tyOf_ref, in_ss, notIn_ss, in_con, notIn_con, cut_s, cut_scr, cut_ref, src_s, src_ref, enum_s, enum_ref, chk_nil, gn, gt2, gt1, gs_nil, gs_cons, gsub, max_ii, min_ii, int_b, int_i, List.map_cons, List.map_nil, List.length_cons, List.length_nil, List.replicate, List.cons_append, List.nil_append, List.set_cons_succ, List.set_cons_zero, Option.map_some, Option.map_none, Option.isSome_some, AV.bl.injEq, AV.int.injEq, AV.str.injEq, Option.some.injEq, exists_eq_left', exists_eq_left, if_true, true_and, and_true, and_self, Bool.and_self, get_new, wipeA, List.any_cons, List.any_nil, Bool.or_false, Bool.or_true, Bool.true_or, Bool.false_or, Bool.not_true, Bool.not_false, if_false, Bool.false_eq_true, not_false_eq_true]
    exact ⟨N, tb, rfl, e1, I, by omega, kp⟩
  · rintro it r sl h ⟨rest, k, ps, cs, tb, t3, t4, hr, rfl, hd, hk, e1, e2, kp, I, hrun, hcs, hcc, hpk⟩
    cases rest with
    | nil => cases hr
    | cons c rest =>
      obtain ⟨rfl, rfl⟩ : it = [.int (k : Int), .str [c]] ∧ r = pairsFrom (k + 1) (rest.map fun ch => .str [ch]) := by
        have := List.cons.inj hr
        exact this
      rw [List.length_cons] at hk
      have hwk : w[k]? = some c := by
        have := congrArg (fun z => z[0]?) hd
        simpa [List.getElem?_drop] using this
      have hd2 : w.drop (k + 1) = rest := by
        rw [← List.drop_drop, hd]
        rfl
      refine ⟨_, _, rfl, ?_⟩
      unfold b_partner_indexes_1
      have cd : CK.closingOf.dic? = some [([40], AV.str [41]), ([91], AV.str [93]), ([123], AV.str [125])] := rfl
      have hcon : (conA [([40], AV.str [41]), ([91], AV.str [93]), ([123], AV.str [125])] [c]).isSome = opnB c := by
        rw [conA_clo]
        cases q : opnB c with
        | true =>
          rw [opnB_iff] at q
          rcases q with rfl | rfl | rfl <;> rfl
        | false =>
          have : ¬ (c = 40 ∨ c = 91 ∨ c = 123) := fun z => by rw [(opnB_iff c).mpr z] at q; cases q
          rw [if_neg (fun z => this (.inl z)), if_neg (fun z => this (.inr (.inl z))), if_neg (fun z => this (.inr (.inr z)))]
          rfl
      simp (decide := true) only [wp_seq', wp_if, wp_B, wp_bin, wp_un, wp_b1, wp_set, wp_ret, wp_expr, wp_skip, wp_break, wp_cont, wp_par, wp_asg, wp_for, wp_nil, wp_cons, wp_tup, wp_lst, wp_andV, wp_orV, wp_notV, wp_and, wp_or, wp_not, wp_ifE, wp_yes, var0, varS, evC, wp_ok, wps_nx, wps_rt, wps_bk, wps_ct, wp_call, wp_callK, wp_meth, wp_iter, wp_enum, wp_slice, wp_no, wp_some, wp_isi, wp_lc, wp_range1, wp_chain, of_some, wpO_some, add_ii, add_ss, iadd_ii, iadd_ss, sub_ii, mul_ii, div_ii, mod_ii, pow_ii, neg_i, eq_ii, eq_ss, eq_bb, ne_ii, ne_ss, ne_bb, lt_ii, le_ii, gt_ii, ge_ii, sindex_at, is_non, isNot_non, listA_s, listA_ref, ix_s, ix_con, ix_ref, ixO_lst, ixO_tup, ixO_rol, at0, at1, at2, len_s, len_scr, rdL_ref, rdT_ref, rdL_scr, ty_ref, ty_str, tyOf_s, tyOf_i, tyOf_b, tyOf_n, tyOf_ref, in_ss, notIn_ss, in_con, notIn_con, cut_s, cut_scr, cut_ref, src_s, src_ref, enum_s, enum_ref, chk_nil, gn, gt2, gt1, gs_nil, gs_cons, gsub, max_ii, min_ii, int_b, int_i, List.map_cons, List.map_nil, List.length_cons, List.length_nil, List.replicate, List.cons_append, List.nil_append, List.set_cons_succ, List.set_cons_zero, Option.map_some, Option.map_none, Option.isSome_some, AV.bl.injEq, AV.int.injEq, AV.str.injEq, Option.some.injEq, exists_eq_left', exists_eq_left, if_true, true_and, and_true, and_self, Bool.and_self, get_new, wipeA, List.any_cons, List.any_nil, Bool.or_false, Bool.or_true, Bool.true_or, Bool.false_or, Bool.not_true, Bool.not_false, if_false, Bool.false_eq_true, not_false_eq_true, cd, hcon, cloB_def]
      have hpl : (nVs ps.reverse).length < LINE := by rw [nVs_len, List.length_reverse]; exact Nat.lt_of_le_of_lt (show ps.length ≤ 1000000 by omega) (by decide)
      rcases run_step hrun hcc with ⟨h1, h2, h3, t, ht, hr2⟩ | ⟨h1, h2, h3, hr2⟩ | ⟨h1, h2, h3, cs', rfl, hr2⟩
      · simp (decide := true) only [wp_seq', wp_if, wp_B, wp_bin, wp_un, wp_b1, wp_set, wp_ret, wp_expr, wp_skip, wp_break, wp_cont, wp_par, wp_asg, wp_for, wp_nil, wp_cons, wp_tup, wp_lst, wp_andV, wp_orV, wp_notV, wp_and, wp_or, wp_not, wp_ifE, wp_yes, var0, varS, evC, wp_ok, wps_nx, wps_rt, wps_bk, wps_ct, wp_call, wp_callK, wp_meth, wp_iter, wp_enum, wp_slice, wp_no, wp_some, wp_isi, wp_lc, wp_range1, wp_chain, of_some, wpO_some, add_ii, add_ss, iadd_ii, iadd_ss, sub_ii, mul_ii, div_ii, mod_ii, pow_ii, neg_i, eq_ii, eq_ss, eq_bb, ne_ii, ne_ss, ne_bb, lt_ii, le_ii, gt_ii, ge_ii, sindex_at, is_non, isNot_non, listA_s, listA_ref, ix_s, ix_con, ix_ref, ixO_lst, ixO_tup, ixO_rol, at0, at1, at2, len_s, len_scr, rdL_ref, rdT_ref, rdL_scr, ty_ref, ty_str, tyOf_s, tyOf_i, tyOf_b, tyOf_n, tyOf_ref, in_ss, notIn_ss, in_con, notIn_con, cut_s, cut_scr, cut_ref, src_s, src_ref, enum_s, enum_ref, chk_nil, gn, gt2, gt1, gs_nil, gs_cons, gsub, max_ii, min_ii, int_b, int_i, List.map_cons, List.map_nil, List.length_cons, List.length_nil, List.replicate, List.cons_append, List.nil_append, List.set_cons_succ, List.set_cons_zero, Option.map_some, Option.map_none, Option.isSome_some, AV.bl.injEq, AV.int.injEq, AV.str.injEq, Option.some.injEq, exists_eq_left', exists_eq_left, if_true, true_and, and_true, and_self, Bool.and_self, get_new, wipeA, List.any_cons, List.any_nil, Bool.or_false, Bool.or_true, Bool.true_or, Bool.false_or, Bool.not_true, Bool.not_false, if_false, Bool.false_eq_true, not_false_eq_true, h1, e2, append_at e2, if_pos hpl]
        refine ⟨rest, k + 1, k :: ps, t :: cs, tb, _, _, rfl, rfl, hd2, by omega, by rw [get_set_ne (by omega)]; exact e1, by rw [get_set_eq e2, nVs_snoc], kp.set (.inr (by omega)) _, I.push hwk h1, hr2, by simp [hcs], fun x hx => ?_, by simp only [List.length_cons]; omega⟩
        rcases List.mem_cons.mp hx with rfl | hx
        · exact ht
        · exact hcc x hx
      · simp (decide := true) only [wp_seq', wp_if, wp_B, wp_bin, wp_un, wp_b1, wp_set, wp_ret, wp_expr, wp_skip, wp_break, wp_cont, wp_par, wp_asg, wp_for, wp_nil, wp_cons, wp_tup, wp_lst, wp_andV, wp_orV, wp_notV, wp_and, wp_or, wp_not, wp_ifE, wp_yes, var0, varS, evC, wp_ok, wps_nx, wps_rt, wps_bk, wps_ct, wp_call, wp_callK, wp_meth, wp_iter, wp_enum, wp_slice, wp_no, wp_some, wp_isi, wp_lc, wp_range1, wp_chain, of_some, wpO_some, add_ii, add_ss, iadd_ii, iadd_ss, sub_ii, mul_ii, div_ii, mod_ii, pow_ii, neg_i, eq_ii, eq_ss, eq_bb, ne_ii, ne_ss, ne_bb, lt_ii, le_ii, gt_ii, ge_ii, sindex_at, is_non, isNot_non, listA_s, listA_ref, ix_s, ix_con, ix_ref, ixO_lst, ixO_tup, ixO_rol, at0, at1, at2, len_s, len_scr, rdL_ref, rdT_ref, rdL_scr, ty_ref, ty_str, tyOf_s, tyOf_i, tyOf_b, tyOf_n, tyOf_ref, in_ss, notIn_ss, in_con, notIn_con, cut_s, cut_scr, cut_ref, src_s, src_ref, enum_s, enum_ref, chk_nil, gn, gt2, gt1, gs_nil, gs_cons, gsub, max_ii, min_ii, int_b, int_i, List.map_cons, List.map_nil, List.length_cons, List.length_nil, List.replicate, List.cons_append, List.nil_append, List.set_cons_succ, List.set_cons_zero, Option.map_some, Option.map_none, Option.isSome_some, AV.bl.injEq, AV.int.injEq, AV.str.injEq, Option.some.injEq, exists_eq_left', exists_eq_left, if_true, true_and, and_true, and_self, Bool.and_self, get_new, wipeA, List.any_cons, List.any_nil, Bool.or_false, Bool.or_true, Bool.true_or, Bool.false_or, Bool.not_true, Bool.not_false, if_false, Bool.false_eq_true, not_false_eq_true, h1, h2]
        exact ⟨rest, k + 1, ps, cs, tb, _, _, rfl, rfl, hd2, by omega, e1, e2, kp, I.letter hwk h1 h2, hr2, hcs, hcc, by omega⟩
      · cases ps with
        | nil => cases hcs
        | cons p ps =>
          rw [nVs_snoc] at e2
          have hkt : k < (tb.map ent).length := by rw [List.length_map, I.len]; omega
          have hpk2 : p < k := (I.stk 0 p rfl).2.1
          have g1 : (h.set (N + 1) (.lst (nVs ps.reverse)))[N]? = some (.lst (tb.map ent)) := by rw [get_set_ne (by omega)]; exact e1
          have u1 : opSet (.ref N) (.int (k : Int)) (.int (p : Nat)) (h.set (N + 1) (.lst (nVs ps.reverse))) = some ((h.set (N + 1) (.lst (nVs ps.reverse))).set N (.lst ((tb.set k (some p)).map ent))) := by
            rw [set_lst g1 hkt, List.map_set]
            rfl
          have g2 := get_set_eq (o' := .lst ((tb.set k (some p)).map ent)) g1
          have a2 : atA ((tb.set k (some p)).map ent) (k : Int) = some (.int (p : Nat)) := atA_nat (by rw [List.getElem?_map, List.getElem?_set_self (by simpa using hkt)]; rfl)
          have u2 : opSet (.ref N) (.int (p : Nat)) (.int (k : Int)) ((h.set (N + 1) (.lst (nVs ps.reverse))).set N (.lst ((tb.set k (some p)).map ent))) = some (((h.set (N + 1) (.lst (nVs ps.reverse))).set N (.lst ((tb.set k (some p)).map ent))).set N (.lst (((tb.set k (some p)).set p (some k)).map ent))) := by
            rw [set_lst g2 (by simp at hkt ⊢; omega)]
            simp only [List.map_set]
            rfl
          have v2 : mBin opIx (mVar 1) (mVar 3) [some (AV.str w), some (AV.ref N), some (AV.ref (N + 1)), some (AV.int (k : Nat)), some (AV.str [c])] ((h.set (N + 1) (.lst (nVs ps.reverse))).set N (.lst ((tb.set k (some p)).map ent))) = .ok (.int (p : Nat)) ((h.set (N + 1) (.lst (nVs ps.reverse))).set N (.lst ((tb.set k (some p)).map ent))) := by
            unfold mBin
            simp only [var0, varS, R.bind, ix_ref, g2, ixO_lst, a2, Option.map_some, of_some]
          simp (decide := true) only [wp_seq', wp_if, wp_B, wp_bin, wp_un, wp_b1, wp_set, wp_ret, wp_expr, wp_skip, wp_break, wp_cont, wp_par, wp_asg, wp_for, wp_nil, wp_cons, wp_tup, wp_lst, wp_andV, wp_orV, wp_notV, wp_and, wp_or, wp_not, wp_ifE, wp_yes, var0, varS, evC, wp_ok, wps_nx, wps_rt, wps_bk, wps_ct, wp_call, wp_callK, wp_meth, wp_iter, wp_enum, wp_slice, wp_no, wp_some, wp_isi, wp_lc, wp_range1, wp_chain, of_some, wpO_some, add_ii, add_ss, iadd_ii, iadd_ss, sub_ii, mul_ii, div_ii, mod_ii, pow_ii, neg_i, eq_ii, eq_ss, eq_bb, ne_ii, ne_ss, ne_bb, lt_ii, le_ii, gt_ii, ge_ii, sindex_at, is_non, isNot_non, listA_s, listA_ref, ix_s, ix_con, ix_ref, ixO_lst, ixO_tup, ixO_rol, at0, at1, at2, len_s, len_scr, rdL_ref, rdT_ref, rdL_scr, ty_ref, ty_str, tyOf_s, tyOf_i, tyOf_b, tyOf_n, tyOf_ref, in_ss, notIn_ss, in_con, notIn_con, cut_s, cut_scr, cut_ref, src_s, src_ref, enum_s, enum_ref, chk_nil, gn, gt2, gt1, gs_nil, gs_cons, gsub, max_ii, min_ii, int_b, int_i, List.map_cons, List.map_nil, List.length_cons, List.length_nil, List.replicate, List.cons_append, List.nil_append, List.set_cons_succ, List.set_cons_zero, Option.map_some, Option.map_none, Option.isSome_some, AV.bl.injEq, AV.int.injEq, AV.str.injEq, Option.some.injEq, exists_eq_left', exists_eq_left, if_true, true_and, and_true, and_self, Bool.and_self, get_new, wipeA, List.any_cons, List.any_nil, Bool.or_false, Bool.or_true, Bool.true_or, Bool.false_or, Bool.not_true, Bool.not_false, if_false, Bool.false_eq_true, not_false_eq_true, h1, h2, e2, pop_at e2, u1, v2, u2]
          rw [List.length_cons] at hpk
          refine ⟨rest, k + 1, ps, cs', (tb.set k (some p)).set p (some k), _, _, rfl, rfl, hd2, by omega, get_set_eq g2, ?_, ((kp.set (.inr (by omega)) _).set (.inr (by omega)) _).set (.inr (by omega)) _, I.pop hwk h1 h2, hr2, by simpa using hcs, fun x hx => hcc x (List.mem_cons_of_mem _ hx), by omega⟩
          rw [get_set_ne (by omega), get_set_ne (by omega)]
          exact get_set_eq e2
  · refine ⟨w, 0, [], [], _, none, none, rfl, rfl, rfl, by simp, ?_, ?_, ((Kp.rfl'.app _).app _).app _, PI.start w, hb, rfl, by simp, by simp⟩
    · rw [← hN]
      exact getElem?_pre (get_new _ _)
    · rw [← hM]
      exact get_new _ _
theorem canon_gt (w : List Nat) (i : Nat) : i < canon w i := by unfold canon; omega
/-- pairs_in of a text that holds -/
theorem w_pairs_in {h0 : Hh} {w : List Nat} (hw : w.length ≤ 1000000) (hb : Bal w) : Wp (m_pairs_in [.str w] h0) fun v h' => Rp h' (.lst ((prs 0 w).map pD)) v ∧ (∃ n, v = .ref n ∧ h0.length ≤ n) ∧ Kp [] h0 h' := by
  apply fn_wp
  unfold b_pairs_in
  simp (decide := true) only [wp_seq', wp_if, wp_B, wp_bin, wp_un, wp_b1, wp_set, wp_ret, wp_expr, wp_skip, wp_break, wp_cont, wp_par, wp_asg, wp_for, wp_nil, wp_cons, wp_tup, wp_lst, wp_andV, wp_orV, wp_notV, wp_and, wp_or, wp_not, wp_ifE, wp_yes, var0, varS, evC, wp_ok, wps_nx, wps_rt, wps_bk, wps_ct, wp_call, wp_callK, wp_meth, wp_iter, wp_enum, wp_slice, wp_no, wp_some, wp_isi, wp_lc, wp_range1, wp_chain, of_some, wpO_some, add_ii, add_ss, iadd_ii, iadd_ss, sub_ii, mul_ii, div_ii, mod_ii, pow_ii, neg_i, eq_ii, eq_ss, eq_bb, ne_ii, ne_ss, ne_bb, lt_ii, le_ii, gt_ii, ge_ii, sindex_at, is_non, isNot_non, listA_s, listA_ref, ix_s, ix_con, ix_ref, ixO_lst, ixO_tup, ixO_rol, at0, at1, at2, len_s, len_scr, rdL_ref, rdT_ref, rdL_scr, ty_ref, ty_str, tyOf_s, tyOf_i, tyOf_b, tyOf_n, tyOf_ref, in_ss, notIn_ss, in_con, notIn_con, cut_s, cut_scr, cut_ref, src_s, src_ref, enum_s, enum_ref, chk_nil, gn, gt2, gt1, gs_nil, gs_cons, gsub, max_ii, min_ii, int_b, int_i, List.map_cons, List.map_nil, List.length_cons, List.length_nil, List.replicate, List.cons_append, List.nil_append, List.set_cons_succ, List.set_cons_zero, Option.map_some, Option.map_none, Option.isSome_some, AV.bl.injEq, AV.int.injEq, AV.str.injEq, Option.some.injEq, exists_eq_left', exists_eq_left, if_true, true_and, and_true, and_self, Bool.and_self, get_new, wipeA, List.any_cons, List.any_nil, Bool.or_false, Bool.or_true, Bool.true_or, Bool.false_or, Bool.not_true, Bool.not_false, if_false, Bool.false_eq_true, not_false_eq_true]
  refine (w_partners hw hb).mono fun v h1 ⟨n, tb, ev, e1, I, hn, kp1⟩ => ?_
  subst ev
  simp (decide := true) only [wp_seq', wp_if, wp_B, wp_bin, wp_un, wp_b1, wp_set, wp_ret, wp_expr, wp_skip, wp_break, wp_cont, wp_par, wp_asg, wp_for, wp_nil, wp_cons, wp_tup, wp_lst, wp_andV, wp_orV, wp_notV, wp_and, wp_or, wp_not, wp_ifE, wp_yes, var0, varS, evC, wp_ok, wps_nx, wps_rt, wps_bk, wps_ct, wp_call, wp_callK, wp_meth, wp_iter, wp_enum, wp_slice, wp_no, wp_some, wp_isi, wp_lc, wp_range1, wp_chain, of_some, wpO_some, add_ii, add_ss, iadd_ii, iadd_ss, sub_ii, mul_ii, div_ii, mod_ii, pow_ii, neg_i, eq_ii, eq_ss, eq_bb, ne_ii, ne_ss, ne_bb, lt_ii, le_ii, gt_ii, ge_ii, sindex_at, is_non, isNot_non, listA_s, listA_ref, ix_s, ix_con, ix_ref, ixO_lst, ixO_tup, ixO_rol, at0, at1, at2, len_s, len_scr, rdL_ref, rdT_ref, rdL_scr, ty_ref, ty_str, tyOf_s, tyOf_i, tyOf_b, tyOf_n, tyOf_ref, in_ss, notIn_ss, in_con, notIn_con, cut_s, cut_scr, cut_ref, src_s, src_ref, enum_s, enum_ref, chk_nil, gn, gt2, gt1, gs_nil, gs_cons, gsub, max_ii, min_ii, int_b, int_i, List.map_cons, List.map_nil, List.length_cons, List.length_nil, List.replicate, List.cons_append, List.nil_append, List.set_cons_succ, List.set_cons_zero, Option.map_some, Option.map_none, Option.isSome_some, AV.bl.injEq, AV.int.injEq, AV.str.injEq, Option.some.injEq, exists_eq_left', exists_eq_left, if_true, true_and, and_true, and_self, Bool.and_self, get_new, wipeA, List.any_cons, List.any_nil, Bool.or_false, Bool.or_true, Bool.true_or, Bool.false_or, Bool.not_true, Bool.not_false, if_false, Bool.false_eq_true, not_false_eq_true, e1]
  have hlen : tb.length = w.length := I.len
  refine loopC_wp (fun its h => ∃ (rest : List (Option Nat)) (k : Nat) (xs : List AV) (l : List (Nat × Nat)), its = pairsFrom k (rest.map ent) ∧ tb.drop k = rest ∧ k + rest.length = w.length ∧ h[h1.length]? = some (.lst xs) ∧ Kp [] h1 h ∧ RpL h (l.map pD) xs ∧ l ++ prs k (w.drop k) = prs 0 w ∧ xs.length ≤ k) ?_ ?_ ?_ _ _ ⟨tb, 0, [], [], rfl, rfl, by rw [hlen]; simp, get_new _ _, Kp.rfl'.app _, RpL.nil, rfl, Nat.le_refl _⟩
  · rintro its h ⟨_, _, _, _, _, _, _, _, kp, _⟩
    exact chk_lst (kp.get0 e1)
  · rintro h ⟨rest, k, xs, l, hit, hd, hk, e, kp, r, hl, _⟩
    have : rest = [] := by cases rest with
      | nil => rfl
      | cons a r => cases hit
    subst this
    simp only [List.length_nil, Nat.add_zero] at hk
    rw [hk, List.drop_length] at hl
    have : l = prs 0 w := by simpa [prs] using hl
    rw [this] at r
    exact ⟨Rp.lst e r, ⟨_, rfl, kp1.1⟩, kp1.trans0 kp⟩
  · rintro it r h ⟨rest, k, xs, l, hit, hd, hk, e, kp, rp, hl, hxk⟩
    cases rest with
    | nil => cases hit
    | cons o rest =>
      obtain ⟨rfl, rfl⟩ : it = [.int (k : Int), ent o] ∧ r = pairsFrom (k + 1) (rest.map ent) := by
        have := List.cons.inj hit
        exact this
      rw [List.length_cons] at hk
      have htk : tb[k]? = some o := by
        have := congrArg (fun z => z[0]?) hd
        simpa [List.getElem?_drop] using this
      have hd2 : tb.drop (k + 1) = rest := by
        rw [← List.drop_drop, hd]
        rfl
      have hwk : ∃ c, w[k]? = some c := ⟨w[k]'(by omega), List.getElem?_eq_getElem (by omega)⟩
      obtain ⟨c, hwk⟩ := hwk
      rw [drop_cons hwk, prs_cons] at hl
      have skip : opnB c = false → ∃ (rest_1 : List (Option Nat)) (k_1 : Nat) (xs : List AV) (l : List (Nat × Nat)), pairsFrom (k + 1) (rest.map ent) = pairsFrom k_1 (rest_1.map ent) ∧ tb.drop k_1 = rest_1 ∧ k_1 + rest_1.length = w.length ∧ h[h1.length]? = some (.lst xs) ∧ Kp [] h1 h ∧ RpL h (l.map pD) xs ∧ l ++ prs k_1 (w.drop k_1) = prs 0 w ∧ xs.length ≤ k_1 := fun ho => by
        rw [if_neg (by rw [ho]; exact Bool.false_ne_true)] at hl
        exact ⟨rest, k + 1, xs, l, rfl, hd2, by omega, e, kp, rp, hl, by omega⟩
      refine ⟨_, _, rfl, ?_⟩
      cases ho : opnB c with
      | true =>
        have ec := I.opn k c (by omega) hwk ho (by simp)
        rw [htk] at ec
        cases ec
        have hlt : decide ((k : Int) < (canon w k : Nat)) = true := decide_eq_true (by have := canon_gt w k; omega)
        have en : ent (some (canon w k)) = .int (canon w k : Nat) := rfl
        rw [if_pos ho] at hl
        simp (decide := true) only [wp_seq', wp_if, wp_B, wp_bin, wp_un, wp_b1, wp_set, wp_ret, wp_expr, wp_skip, wp_break, wp_cont, wp_par, wp_asg, wp_for, wp_nil, wp_cons, wp_tup, wp_lst, wp_andV, wp_orV, wp_notV, wp_and, wp_or, wp_not, wp_ifE, wp_yes, var0, varS, evC, wp_ok, wps_nx, wps_rt, wps_bk, wps_ct, wp_call, wp_callK, wp_meth, wp_iter, wp_enum, wp_slice, wp_no, wp_some, wp_isi, wp_lc, wp_range1, wp_chain, of_some, wpO_some, add_ii, add_ss, iadd_ii, iadd_ss, sub_ii, mul_ii, div_ii, mod_ii, pow_ii, neg_i, eq_ii, eq_ss, eq_bb, ne_ii, ne_ss, ne_bb, lt_ii, le_ii, gt_ii, ge_ii, sindex_at, is_non, isNot_non, listA_s, listA_ref, ix_s, ix_con, ix_ref, ixO_lst, ixO_tup, ixO_rol, at0, at1, at2, len_s, len_scr, rdL_ref, rdT_ref, rdL_scr, ty_ref, ty_str, tyOf_s, tyOf_i, tyOf_b, tyOf_n, tyOf_ref, in_ss, notIn_ss, in_con, notIn_con, cut_s, cut_scr, cut_ref, src_s, src_ref, enum_s, enum_ref, chk_nil, gn, gt2, gt1, gs_nil, gs_cons, gsub, max_ii, min_ii, int_b, int_i, List.map_cons, List.map_nil, List.length_cons, List.length_nil, List.replicate, List.cons_append, List.nil_append, List.set_cons_succ, List.set_cons_zero, Option.map_some, Option.map_none, Option.isSome_some, AV.bl.injEq, AV.int.injEq, AV.str.injEq, Option.some.injEq, exists_eq_left', exists_eq_left, if_true, true_and, and_true, and_self, Bool.and_self, get_new, wipeA, List.any_cons, List.any_nil, Bool.or_false, Bool.or_true, Bool.true_or, Bool.false_or, Bool.not_true, Bool.not_false, if_false, Bool.false_eq_true, not_false_eq_true, en, show decide (AV.int (canon w k : Nat) = AV.non) = false from rfl, hlt]
        have e2 : (h ++ [AO.tup [.int (k : Nat), .int (canon w k : Nat)]])[h1.length]? = some (.lst xs) := getElem?_pre e
        refine ⟨xs, e2, Nat.lt_of_le_of_lt (show xs.length ≤ 1000000 by omega) (by decide), rest, k + 1, xs ++ [.ref h.length], l ++ [(k, canon w k)], rfl, hd2, by omega, get_set_eq e2, (kp.app _).set (.inr (Nat.le_refl _)) _, ?_, ?_, by simp only [List.length_append, List.length_cons, List.length_nil]; omega⟩
        · rw [List.map_append]
          refine RpL.kpT (KpT.set e2) ?_ ((RpL.kp (Kp.rfl'.app _) rp).app (RpL.cons (Rp.tup (get_new _ _) (RpL.cons Rp.int (RpL.cons Rp.int RpL.nil))) RpL.nil))
          exact noLs_app (noL_pD _) rfl
        · rw [List.append_assoc]
          exact hl
      | false =>
        cases o with
        | none =>
          simp (decide := true) only [wp_seq', wp_if, wp_B, wp_bin, wp_un, wp_b1, wp_set, wp_ret, wp_expr, wp_skip, wp_break, wp_cont, wp_par, wp_asg, wp_for, wp_nil, wp_cons, wp_tup, wp_lst, wp_andV, wp_orV, wp_notV, wp_and, wp_or, wp_not, wp_ifE, wp_yes, var0, varS, evC, wp_ok, wps_nx, wps_rt, wps_bk, wps_ct, wp_call, wp_callK, wp_meth, wp_iter, wp_enum, wp_slice, wp_no, wp_some, wp_isi, wp_lc, wp_range1, wp_chain, of_some, wpO_some, add_ii, add_ss, iadd_ii, iadd_ss, sub_ii, mul_ii, div_ii, mod_ii, pow_ii, neg_i, eq_ii, eq_ss, eq_bb, ne_ii, ne_ss, ne_bb, lt_ii, le_ii, gt_ii, ge_ii, sindex_at, is_non, isNot_non, listA_s, listA_ref, ix_s, ix_con, ix_ref, ixO_lst, ixO_tup, ixO_rol, at0, at1, at2, len_s, len_scr, rdL_ref, rdT_ref, rdL_scr, ty_ref, ty_str, tyOf_s, tyOf_i, tyOf_b, tyOf_n, tyOf_ref, in_ss, notIn_ss, in_con, notIn_con, cut_s, cut_scr, cut_ref, src_s, src_ref, enum_s, enum_ref, chk_nil, gn, gt2, gt1, gs_nil, gs_cons, gsub, max_ii, min_ii, int_b, int_i, List.map_cons, List.map_nil, List.length_cons, List.length_nil, List.replicate, List.cons_append, List.nil_append, List.set_cons_succ, List.set_cons_zero, Option.map_some, Option.map_none, Option.isSome_some, AV.bl.injEq, AV.int.injEq, AV.str.injEq, Option.some.injEq, exists_eq_left', exists_eq_left, if_true, true_and, and_true, and_self, Bool.and_self, get_new, wipeA, List.any_cons, List.any_nil, Bool.or_false, Bool.or_true, Bool.true_or, Bool.false_or, Bool.not_true, Bool.not_false, if_false, Bool.false_eq_true, not_false_eq_true, show ent none = AV.non from rfl, show decide (AV.non = AV.non) = true from rfl]
          exact skip ho
        | some j =>
          have hj := I.oth k c hwk ho j htk
          have hlt : decide ((k : Int) < (j : Nat)) = false := decide_eq_false (by omega)
          simp (decide := true) only [wp_seq', wp_if, wp_B, wp_bin, wp_un, wp_b1, wp_set, wp_ret, wp_expr, wp_skip, wp_break, wp_cont, wp_par, wp_asg, wp_for, wp_nil, wp_cons, wp_tup, wp_lst, wp_andV, wp_orV, wp_notV, wp_and, wp_or, wp_not, wp_ifE, wp_yes, var0, varS, evC, wp_ok, wps_nx, wps_rt, wps_bk, wps_ct, wp_call, wp_callK, wp_meth, wp_iter, wp_enum, wp_slice, wp_no, wp_some, wp_isi, wp_lc, wp_range1, wp_chain, of_some, wpO_some, add_ii, add_ss, iadd_ii, iadd_ss, sub_ii, mul_ii, div_ii, mod_ii, pow_ii, neg_i, eq_ii, eq_ss, eq_bb, ne_ii, ne_ss, ne_bb, lt_ii, le_ii, gt_ii, ge_ii, sindex_at, is_non, isNot_non, listA_s, listA_ref, ix_s, ix_con, ix_ref, ixO_lst, ixO_tup, ixO_rol, at0, at1, at2, len_s, len_scr, rdL_ref, rdT_ref, rdL_scr, ty_ref, ty_str, tyOf_s, tyOf_i, tyOf_b, tyOf_n, tyOf_ref, in_ss, notIn_ss, in_con, notIn_con, cut_s, cut_scr, cut_ref, src_s, src_ref, enum_s, enum_ref, chk_nil, gn, gt2, gt1, gs_nil, gs_cons, gsub, max_ii, min_ii, int_b, int_i, List.map_cons, List.map_nil, List.length_cons, List.length_nil, List.replicate, List.cons_append, List.nil_append, List.set_cons_succ, List.set_cons_zero, Option.map_some, Option.map_none, Option.isSome_some, AV.bl.injEq, AV.int.injEq, AV.str.injEq, Option.some.injEq, exists_eq_left', exists_eq_left, if_true, true_and, and_true, and_self, Bool.and_self, get_new, wipeA, List.any_cons, List.any_nil, Bool.or_false, Bool.or_true, Bool.true_or, Bool.false_or, Bool.not_true, Bool.not_false, if_false, Bool.false_eq_true, not_false_eq_true, show ent (some j) = AV.int (j : Nat) from rfl, show decide (AV.int (j : Nat) = AV.non) = false from rfl, hlt]
          exact skip ho
theorem w_pairs_of {h0 : Hh} {w : List Nat} (hw : w.length ≤ 1000000) (hb : Bal w) : Wp (m_pairs_of [.str w] h0) fun v h' => Rp h' (.lst ((prs 0 w).map pD)) v ∧ (∃ n, v = .ref n ∧ h0.length ≤ n) ∧ Kp [] h0 h' := by
  apply fn_wp
  unfold b_pairs_of
  simp (decide := true) only [wp_seq', wp_if, wp_B, wp_bin, wp_un, wp_b1, wp_set, wp_ret, wp_expr, wp_skip, wp_break, wp_cont, wp_par, wp_asg, wp_for, wp_nil, wp_cons, wp_tup, wp_lst, wp_andV, wp_orV, wp_notV, wp_and, wp_or, wp_not, wp_ifE, wp_yes, var0, varS, evC, wp_ok, wps_nx, wps_rt, wps_bk, wps_ct, wp_call, wp_callK, wp_meth, wp_iter, wp_enum, wp_slice, wp_no, wp_some, wp_isi, wp_lc, wp_range1, wp_chain, of_some, wpO_some, add_ii, add_ss, iadd_ii, iadd_ss, sub_ii, mul_ii, div_ii, mod_ii, pow_ii, neg_i, eq_ii, eq_ss, eq_bb, ne_ii, ne_ss, ne_bb, lt_ii, le_ii, gt_ii, ge_ii, sindex_at, is_non, isNot_non, listA_s, listA_ref, ix_s, ix_con, ix_ref, ixO_lst, ixO_tup, ixO_rol, at0, at1, at2, len_s, len_scr, rdL_ref, rdT_ref, rdL_scr, ty_ref, ty_str, tyOf_s, tyOf_i, tyOf_b, tyOf_n, tyOf_ref, in_ss, notIn_ss, in_con, notIn_con, cut_s, cut_scr, cut_ref, src_s, src_ref, enum_s, enum_ref, chk_nil, gn, gt2, gt1, gs_nil, gs_cons, gsub, max_ii, min_ii, int_b, int_i, List.map_cons, List.map_nil, List.length_cons, List.length_nil, List.replicate, List.cons_append, List.nil_append, List.set_cons_succ, List.set_cons_zero, Option.map_some, Option.map_none, Option.isSome_some, AV.bl.injEq, AV.int.injEq, AV.str.injEq, Option.some.injEq, exists_eq_left', exists_eq_left, if_true, true_and, and_true, and_self, Bool.and_self, get_new, wipeA, List.any_cons, List.any_nil, Bool.or_false, Bool.or_true, Bool.true_or, Bool.false_or, Bool.not_true, Bool.not_false, if_false, Bool.false_eq_true, not_false_eq_true]
  refine (w_check_text hw hb).mono fun v h3 ⟨_, kp⟩ => ?_
  refine (w_pairs_in hw hb).mono fun v h4 ⟨r, ⟨n, ev, hn⟩, kp2⟩ => ?_
  exact ⟨r, ⟨n, ev, by have := kp.1; omega⟩, kp.trans0 kp2⟩
theorem wA_draw {h : Hh} {b : Nat} {n l : Int} (hb : Bag h b n) (hn : n < 2 ^ 80) (h0 : 0 < l) (hl : l < 2 ^ 60) :
    Wp (m__law_draw [.ref b, .int l] h) fun v h' => ∃ d o, v = .int d ∧ 0 ≤ d ∧ d < l ∧ h' = h.set b (.lst o) ∧ Bag h' b (n + 1) := by
  obtain ⟨x, y, z, e, y0, y1, z0, z1⟩ := hb
  have fl : fits l = true := small_fits (by omega) (by omega)
  have hlt := lt_of_get e
  apply fn_wp
  unfold b__law_draw
  simp (decide := true) only [wp_seq', wp_if, wp_B, wp_bin, wp_un, wp_b1, wp_set, wp_ret, wp_expr, wp_skip, wp_break, wp_cont, wp_par, wp_asg, wp_for, wp_nil, wp_cons, wp_tup, wp_lst, wp_andV, wp_orV, wp_notV, wp_and, wp_or, wp_not, wp_ifE, wp_yes, var0, varS, evC, wp_ok, wps_nx, wps_rt, wps_bk, wps_ct, wp_call, wp_callK, wp_meth, wp_iter, wp_enum, wp_slice, wp_no, wp_some, wp_isi, wp_lc, wp_range1, wp_chain, of_some, wpO_some, add_ii, add_ss, iadd_ii, iadd_ss, sub_ii, mul_ii, div_ii, mod_ii, pow_ii, neg_i, eq_ii, eq_ss, eq_bb, ne_ii, ne_ss, ne_bb, lt_ii, le_ii, gt_ii, ge_ii, sindex_at, is_non, isNot_non, listA_s, listA_ref, ix_s, ix_con, ix_ref, ixO_lst, ixO_tup, ixO_rol, at0, at1, at2, len_s, len_scr, rdL_ref, rdT_ref, rdL_scr, ty_ref, ty_str, tyOf_s, tyOf_i, tyOf_b, tyOf_n, tyOf_ref, in_ss, notIn_ss, in_con, notIn_con, cut_s, cut_scr, cut_ref, src_s, src_ref, enum_s, enum_ref, chk_nil, gn, gt2, gt1, gs_nil, gs_cons, gsub, max_ii, min_ii, int_b, int_i, List.map_cons, List.map_nil, List.length_cons, List.length_nil, List.replicate, List.cons_append, List.nil_append, List.set_cons_succ, List.set_cons_zero, Option.map_some, Option.map_none, Option.isSome_some, AV.bl.injEq, AV.int.injEq, AV.str.injEq, Option.some.injEq, exists_eq_left', exists_eq_left, if_true, true_and, and_true, and_self, Bool.and_self, get_new, wipeA, List.any_cons, List.any_nil, Bool.or_false, Bool.or_true, Bool.true_or, Bool.false_or, Bool.not_true, Bool.not_false, if_false, Bool.false_eq_true, not_false_eq_true, e]
  have u0 : ∀ v : AV, opSet (.ref b) (.int 0) v h = some (h.set b (.lst [v, .int y, .int z])) := fun v => set_lst (m := 0) e (by simp)
  have u2 : ∀ v : AV, opSet (.ref b) (.int 2) v h = some (h.set b (.lst [.int x, .int y, v])) := fun v => set_lst (m := 2) e (by simp)
  by_cases hx : 0 < x
  · rw [if_pos (decide_eq_true hx)]
    simp (decide := true) only [wp_seq', wp_if, wp_B, wp_bin, wp_un, wp_b1, wp_set, wp_ret, wp_expr, wp_skip, wp_break, wp_cont, wp_par, wp_asg, wp_for, wp_nil, wp_cons, wp_tup, wp_lst, wp_andV, wp_orV, wp_notV, wp_and, wp_or, wp_not, wp_ifE, wp_yes, var0, varS, evC, wp_ok, wps_nx, wps_rt, wps_bk, wps_ct, wp_call, wp_callK, wp_meth, wp_iter, wp_enum, wp_slice, wp_no, wp_some, wp_isi, wp_lc, wp_range1, wp_chain, of_some, wpO_some, add_ii, add_ss, iadd_ii, iadd_ss, sub_ii, mul_ii, div_ii, mod_ii, pow_ii, neg_i, eq_ii, eq_ss, eq_bb, ne_ii, ne_ss, ne_bb, lt_ii, le_ii, gt_ii, ge_ii, sindex_at, is_non, isNot_non, listA_s, listA_ref, ix_s, ix_con, ix_ref, ixO_lst, ixO_tup, ixO_rol, at0, at1, at2, len_s, len_scr, rdL_ref, rdT_ref, rdL_scr, ty_ref, ty_str, tyOf_s, tyOf_i, tyOf_b, tyOf_n, tyOf_ref, in_ss, notIn_ss, in_con, notIn_con, cut_s, cut_scr, cut_ref, src_s, src_ref, enum_s, enum_ref, chk_nil, gn, gt2, gt1, gs_nil, gs_cons, gsub, max_ii, min_ii, int_b, int_i, List.map_cons, List.map_nil, List.length_cons, List.length_nil, List.replicate, List.cons_append, List.nil_append, List.set_cons_succ, List.set_cons_zero, Option.map_some, Option.map_none, Option.isSome_some, AV.bl.injEq, AV.int.injEq, AV.str.injEq, Option.some.injEq, exists_eq_left', exists_eq_left, if_true, true_and, and_true, and_self, Bool.and_self, get_new, wipeA, List.any_cons, List.any_nil, Bool.or_false, Bool.or_true, Bool.true_or, Bool.false_or, Bool.not_true, Bool.not_false, if_false, Bool.false_eq_true, not_false_eq_true, if_pos h0, if_pos (And.intro h0 fl), e, u0]
    exact ⟨_, _, rfl, Int.emod_nonneg _ (by omega), Int.emod_lt_of_pos _ h0, rfl, _, _, _, List.getElem?_set_self hlt, y0, y1, z0, by omega⟩
  · rw [if_neg (by simpa using hx)]
    have k1 : fits (z + 1) = true := small_fits (by omega) (by omega)
    have k2 : fits (y + 800105 * (z + 1)) = true := small_fits (by omega) (by omega)
    have e2 := List.getElem?_set_self (a := AO.lst [.int x, .int y, .int (z + 1)]) hlt
    have c1 : fits 800105 = true := by decide +kernel
    have c2 : fits 37 = true := by decide +kernel
    have c3 : fits 65539 = true := by decide +kernel
    have c4 : fits 10 = true := by decide +kernel
    have p1 : (10 : Int) ^ (38 : Int).toNat + 133 = 100000000000000000000000000000000000133 := by decide +kernel
    have p2 : (10 : Int) ^ (35 : Int).toNat + 69 = 100000000000000000000000000000000069 := by decide +kernel
    have r1 : 0 ≤ (y + 800105 * (z + 1)) ^ (3 : Int).toNat % 100000000000000000000000000000000000133 := Int.emod_nonneg _ (by omega)
    have r2 : (y + 800105 * (z + 1)) ^ (3 : Int).toNat % 100000000000000000000000000000000000133 < 100000000000000000000000000000000000133 := Int.emod_lt_of_pos _ (by omega)
    have k3 : fits ((y + 800105 * (z + 1)) ^ (3 : Int).toNat % 100000000000000000000000000000000000133 + 37 * (z + 1)) = true := small_fits (by omega) (by omega)
    simp (decide := true) only [wp_seq', wp_if, wp_B, wp_bin, wp_un, wp_b1, wp_set, wp_ret, wp_expr, wp_skip, wp_break, wp_cont, wp_par, wp_asg, wp_for, wp_nil, wp_cons, wp_tup, wp_lst, wp_andV, wp_orV, wp_notV, wp_and, wp_or, wp_not, wp_ifE, wp_yes, var0, varS, evC, wp_ok, wps_nx, wps_rt, wps_bk, wps_ct, wp_call, wp_callK, wp_meth, wp_iter, wp_enum, wp_slice, wp_no, wp_some, wp_isi, wp_lc, wp_range1, wp_chain, of_some, wpO_some, add_ii, add_ss, iadd_ii, iadd_ss, sub_ii, mul_ii, div_ii, mod_ii, pow_ii, neg_i, eq_ii, eq_ss, eq_bb, ne_ii, ne_ss, ne_bb, lt_ii, le_ii, gt_ii, ge_ii, sindex_at, is_non, isNot_non, listA_s, listA_ref, ix_s, ix_con, ix_ref, ixO_lst, ixO_tup, ixO_rol, at0, at1, at2, len_s, len_scr, rdL_ref, rdT_ref, rdL_scr, ty_ref, ty_str, tyOf_s, tyOf_i, tyOf_b, tyOf_n, tyOf_ref, in_ss, notIn_ss, in_con, notIn_con, cut_s, cut_scr, cut_ref, src_s, src_ref, enum_s, enum_ref, chk_nil, gn, gt2, gt1, gs_nil, gs_cons, gsub, max_ii, min_ii, int_b, int_i, List.map_cons, List.map_nil, List.length_cons, List.length_nil, List.replicate, List.cons_append, List.nil_append, List.set_cons_succ, List.set_cons_zero, Option.map_some, Option.map_none, Option.isSome_some, AV.bl.injEq, AV.int.injEq, AV.str.injEq, Option.some.injEq, exists_eq_left', exists_eq_left, if_true, true_and, and_true, and_self, Bool.and_self, get_new, wipeA, List.any_cons, List.any_nil, Bool.or_false, Bool.or_true, Bool.true_or, Bool.false_or, Bool.not_true, Bool.not_false, if_false, Bool.false_eq_true, not_false_eq_true, e, e2, u2, k1, k2, k3, c1, c2, c3, c4, p1, p2, if_pos h0, show (0 : Int) ≤ 3 from by decide, show (3 : Int) ≤ 1000 from by decide, show (0 : Int) < 100000000000000000000000000000000000133 from by decide, show (0 : Int) < 100000000000000000000000000000000069 from by decide]
    exact ⟨_, _, rfl, Int.emod_nonneg _ (by omega), Int.emod_lt_of_pos _ h0, rfl, _, _, _, e2, y0, y1, by omega, by omega⟩
theorem wA_source {h0 : Hh} {cell : Int} {k : Nat} (hk : k ≤ 1000) : Wp (m__law_source [.int cell, .int (k : Nat)] h0) fun v h' => v = .ref h0.length ∧ Kp [] h0 h' ∧ h'.length = h0.length + 1 ∧ Bag h' h0.length 0 := by
  apply fn_wp
  unfold b__law_source
  have c4 : fits 10 = true := by decide +kernel
  have c5 : fits 59 = true := by decide +kernel
  have m0 := Int.emod_nonneg cell (show (1000000000000000000000000000000000067 : Int) ≠ 0 by decide)
  have m1 := Int.emod_lt_of_pos cell (show (0 : Int) < 1000000000000000000000000000000000067 from by decide)
  have c6 : fits (cell % 1000000000000000000000000000000000067) = true := small_fits m0 (by omega)
  simp (decide := true) only [wp_seq', wp_if, wp_B, wp_bin, wp_un, wp_b1, wp_set, wp_ret, wp_expr, wp_skip, wp_break, wp_cont, wp_par, wp_asg, wp_for, wp_nil, wp_cons, wp_tup, wp_lst, wp_andV, wp_orV, wp_notV, wp_and, wp_or, wp_not, wp_ifE, wp_yes, var0, varS, evC, wp_ok, wps_nx, wps_rt, wps_bk, wps_ct, wp_call, wp_callK, wp_meth, wp_iter, wp_enum, wp_slice, wp_no, wp_some, wp_isi, wp_lc, wp_range1, wp_chain, of_some, wpO_some, add_ii, add_ss, iadd_ii, iadd_ss, sub_ii, mul_ii, div_ii, mod_ii, pow_ii, neg_i, eq_ii, eq_ss, eq_bb, ne_ii, ne_ss, ne_bb, lt_ii, le_ii, gt_ii, ge_ii, sindex_at, is_non, isNot_non, listA_s, listA_ref, ix_s, ix_con, ix_ref, ixO_lst, ixO_tup, ixO_rol, at0, at1, at2, len_s, len_scr, rdL_ref, rdT_ref, rdL_scr, ty_ref, ty_str, tyOf_s, tyOf_i, tyOf_b, tyOf_n, tyOf_ref, in_ss, notIn_ss, in_con, notIn_con, cut_s, cut_scr, cut_ref, src_s, src_ref, enum_s, enum_ref, chk_nil, gn, gt2, gt1, gs_nil, gs_cons, gsub, max_ii, min_ii, int_b, int_i, List.map_cons, List.map_nil, List.length_cons, List.length_nil, List.replicate, List.cons_append, List.nil_append, List.set_cons_succ, List.set_cons_zero, Option.map_some, Option.map_none, Option.isSome_some, AV.bl.injEq, AV.int.injEq, AV.str.injEq, Option.some.injEq, exists_eq_left', exists_eq_left, if_true, true_and, and_true, and_self, Bool.and_self, get_new, wipeA, List.any_cons, List.any_nil, Bool.or_false, Bool.or_true, Bool.true_or, Bool.false_or, Bool.not_true, Bool.not_false, if_false, Bool.false_eq_true, not_false_eq_true, c4, c5, c6, show (10 : Int) ^ (36 : Int).toNat + 67 = 1000000000000000000000000000000000067 from by decide +kernel, show (0 : Int) < 1000000000000000000000000000000000067 from by decide]
  refine ⟨Kp.rfl'.app _, by simp, _, _, _, get_new _ _, ?_, ?_, by omega, by omega⟩ <;> omega
def Neut (m : List Nat) : Prop := ∀ cs, run cs m = some cs
theorem bal_ins {a m b : List Nat} (h : Bal (a ++ b)) (hm : Neut m) : Bal (a ++ m ++ b) := by
  have h' : run [] (a ++ b) = some [] := h
  show run [] (a ++ m ++ b) = some []
  rw [List.append_assoc, run_app]
  rw [run_app] at h'
  cases q : run [] a with
  | none => rw [q] at h'; cases h'
  | some s =>
    rw [q] at h'
    show run s (m ++ b) = some []
    rw [run_app, hm]
    exact h'
/-- the kinds' list -/
def Kinds (h : Hh) (kn : Nat) : Prop := ∃ ks : List (List Nat), h[kn]? = some (.lst (ks.map AV.str)) ∧ 0 < ks.length ∧ ks.length ≤ 100 ∧ ∀ m ∈ ks, Neut m ∧ m.length = 2
theorem Bag.keep {h h' : Hh} {b kn : Nat} {n : Int} (hb : Bag h b n) (kp : Kp [b] h h') (hk : Kinds h kn) : Kinds h' kn := by
  obtain ⟨ks, e, r⟩ := hk
  obtain ⟨x, y, z, eb, _⟩ := hb
  refine ⟨ks, kp.get e fun hm => ?_, r⟩
  simp only [List.mem_cons, List.not_mem_nil, or_false] at hm
  subst hm
  rw [eb] at e
  cases ks with
  | nil => cases e
  | cons a r => cases e
theorem lenLst {h : Hh} {n : Nat} {xs : List AV} (e : h[n]? = some (.lst xs)) : bLen [.ref n] h = some (.int xs.length, h) := by unfold bLen; simp [e]
theorem wA_part {h0 : Hh} {b kn : Nat} {n : Int} {ls : List Nat} (hb : Bag h0 b n) (hn : n < 2 ^ 70) (hl : ∀ c ∈ ls, isLet c = true) (h1 : 0 < ls.length) (h2 : ls.length ≤ 1000) (hk : Kinds h0 kn) :
    Wp (m__law_part [.ref b, .str ls, .ref kn] h0) fun v h' => ∃ m, v = .str m ∧ Neut m ∧ 0 < m.length ∧ m.length ≤ 2 ∧ Kp [b] h0 h' ∧ Bag h' b (n + 2) := by
  apply fn_wp
  unfold b__law_part
  simp (decide := true) only [wp_seq', wp_if, wp_B, wp_bin, wp_un, wp_b1, wp_set, wp_ret, wp_expr, wp_skip, wp_break, wp_cont, wp_par, wp_asg, wp_for, wp_nil, wp_cons, wp_tup, wp_lst, wp_andV, wp_orV, wp_notV, wp_and, wp_or, wp_not, wp_ifE, wp_yes, var0, varS, evC, wp_ok, wps_nx, wps_rt, wps_bk, wps_ct, wp_call, wp_callK, wp_meth, wp_iter, wp_enum, wp_slice, wp_no, wp_some, wp_isi, wp_lc, wp_range1, wp_chain, of_some, wpO_some, add_ii, add_ss, iadd_ii, iadd_ss, sub_ii, mul_ii, div_ii, mod_ii, pow_ii, neg_i, eq_ii, eq_ss, eq_bb, ne_ii, ne_ss, ne_bb, lt_ii, le_ii, gt_ii, ge_ii, sindex_at, is_non, isNot_non, listA_s, listA_ref, ix_s, ix_con, ix_ref, ixO_lst, ixO_tup, ixO_rol, at0, at1, at2, len_s, len_scr, rdL_ref, rdT_ref, rdL_scr, ty_ref, ty_str, tyOf_s, tyOf_i, tyOf_b, tyOf_n, tyOf_ref, in_ss, notIn_ss, in_con, notIn_con, cut_s, cut_scr, cut_ref, src_s, src_ref, enum_s, enum_ref, chk_nil, gn, gt2, gt1, gs_nil, gs_cons, gsub, max_ii, min_ii, int_b, int_i, List.map_cons, List.map_nil, List.length_cons, List.length_nil, List.replicate, List.cons_append, List.nil_append, List.set_cons_succ, List.set_cons_zero, Option.map_some, Option.map_none, Option.isSome_some, AV.bl.injEq, AV.int.injEq, AV.str.injEq, Option.some.injEq, exists_eq_left', exists_eq_left, if_true, true_and, and_true, and_self, Bool.and_self, get_new, wipeA, List.any_cons, List.any_nil, Bool.or_false, Bool.or_true, Bool.true_or, Bool.false_or, Bool.not_true, Bool.not_false, if_false, Bool.false_eq_true, not_false_eq_true]
  refine (wA_draw hb (by omega) (by omega) (by omega)).mono fun v h3 ⟨d, o, ev, d0, d1, eh, hb3⟩ => ?_
  subst ev
  have kp3 : Kp [b] h0 h3 := by rw [eh]; exact Kp.rfl'.set (.inl (by simp)) _
  simp (decide := true) only [wp_seq', wp_if, wp_B, wp_bin, wp_un, wp_b1, wp_set, wp_ret, wp_expr, wp_skip, wp_break, wp_cont, wp_par, wp_asg, wp_for, wp_nil, wp_cons, wp_tup, wp_lst, wp_andV, wp_orV, wp_notV, wp_and, wp_or, wp_not, wp_ifE, wp_yes, var0, varS, evC, wp_ok, wps_nx, wps_rt, wps_bk, wps_ct, wp_call, wp_callK, wp_meth, wp_iter, wp_enum, wp_slice, wp_no, wp_some, wp_isi, wp_lc, wp_range1, wp_chain, of_some, wpO_some, add_ii, add_ss, iadd_ii, iadd_ss, sub_ii, mul_ii, div_ii, mod_ii, pow_ii, neg_i, eq_ii, eq_ss, eq_bb, ne_ii, ne_ss, ne_bb, lt_ii, le_ii, gt_ii, ge_ii, sindex_at, is_non, isNot_non, listA_s, listA_ref, ix_s, ix_con, ix_ref, ixO_lst, ixO_tup, ixO_rol, at0, at1, at2, len_s, len_scr, rdL_ref, rdT_ref, rdL_scr, ty_ref, ty_str, tyOf_s, tyOf_i, tyOf_b, tyOf_n, tyOf_ref, in_ss, notIn_ss, in_con, notIn_con, cut_s, cut_scr, cut_ref, src_s, src_ref, enum_s, enum_ref, chk_nil, gn, gt2, gt1, gs_nil, gs_cons, gsub, max_ii, min_ii, int_b, int_i, List.map_cons, List.map_nil, List.length_cons, List.length_nil, List.replicate, List.cons_append, List.nil_append, List.set_cons_succ, List.set_cons_zero, Option.map_some, Option.map_none, Option.isSome_some, AV.bl.injEq, AV.int.injEq, AV.str.injEq, Option.some.injEq, exists_eq_left', exists_eq_left, if_true, true_and, and_true, and_self, Bool.and_self, get_new, wipeA, List.any_cons, List.any_nil, Bool.or_false, Bool.or_true, Bool.true_or, Bool.false_or, Bool.not_true, Bool.not_false, if_false, Bool.false_eq_true, not_false_eq_true, if_pos (line_big (show ls.length ≤ 10000000 by omega))]
  by_cases hd : d = 0
  · rw [if_pos (by simpa using hd)]
    refine (wA_draw (l := (ls.length : Nat)) hb3 (by omega) (by omega) (by omega)).mono fun v h4 ⟨d2, o2, ev, d20, d21, eh2, hb4⟩ => ?_
    subst ev
    obtain ⟨ch, hch, hcm⟩ := atA_lt (xs := ls) (i := d2) d20 d21
    simp (decide := true) only [wp_seq', wp_if, wp_B, wp_bin, wp_un, wp_b1, wp_set, wp_ret, wp_expr, wp_skip, wp_break, wp_cont, wp_par, wp_asg, wp_for, wp_nil, wp_cons, wp_tup, wp_lst, wp_andV, wp_orV, wp_notV, wp_and, wp_or, wp_not, wp_ifE, wp_yes, var0, varS, evC, wp_ok, wps_nx, wps_rt, wps_bk, wps_ct, wp_call, wp_callK, wp_meth, wp_iter, wp_enum, wp_slice, wp_no, wp_some, wp_isi, wp_lc, wp_range1, wp_chain, of_some, wpO_some, add_ii, add_ss, iadd_ii, iadd_ss, sub_ii, mul_ii, div_ii, mod_ii, pow_ii, neg_i, eq_ii, eq_ss, eq_bb, ne_ii, ne_ss, ne_bb, lt_ii, le_ii, gt_ii, ge_ii, sindex_at, is_non, isNot_non, listA_s, listA_ref, ix_s, ix_con, ix_ref, ixO_lst, ixO_tup, ixO_rol, at0, at1, at2, len_s, len_scr, rdL_ref, rdT_ref, rdL_scr, ty_ref, ty_str, tyOf_s, tyOf_i, tyOf_b, tyOf_n, tyOf_ref, in_ss, notIn_ss, in_con, notIn_con, cut_s, cut_scr, cut_ref, src_s, src_ref, enum_s, enum_ref, chk_nil, gn, gt2, gt1, gs_nil, gs_cons, gsub, max_ii, min_ii, int_b, int_i, List.map_cons, List.map_nil, List.length_cons, List.length_nil, List.replicate, List.cons_append, List.nil_append, List.set_cons_succ, List.set_cons_zero, Option.map_some, Option.map_none, Option.isSome_some, AV.bl.injEq, AV.int.injEq, AV.str.injEq, Option.some.injEq, exists_eq_left', exists_eq_left, if_true, true_and, and_true, and_self, Bool.and_self, get_new, wipeA, List.any_cons, List.any_nil, Bool.or_false, Bool.or_true, Bool.true_or, Bool.false_or, Bool.not_true, Bool.not_false, if_false, Bool.false_eq_true, not_false_eq_true, hch, if_pos (line_big (show ls.length ≤ 10000000 by omega))]
    refine ⟨fun cs => ?_, ?_, hb4.le (by omega)⟩
    · have := hl ch hcm
      rw [run_cons]
      have h2 := (isLet_iff ch).mp this
      rw [if_neg (by omega), if_neg (by omega), if_neg (by omega), if_pos this]
      rfl
    · rw [eh2]; exact kp3.set (.inl (by simp)) _
  · rw [if_neg (by simpa using hd)]
    obtain ⟨ks, e, k0, k1, hks⟩ := hb.keep kp3 hk
    rw [lenLst e]
    simp (decide := true) only [wp_seq', wp_if, wp_B, wp_bin, wp_un, wp_b1, wp_set, wp_ret, wp_expr, wp_skip, wp_break, wp_cont, wp_par, wp_asg, wp_for, wp_nil, wp_cons, wp_tup, wp_lst, wp_andV, wp_orV, wp_notV, wp_and, wp_or, wp_not, wp_ifE, wp_yes, var0, varS, evC, wp_ok, wps_nx, wps_rt, wps_bk, wps_ct, wp_call, wp_callK, wp_meth, wp_iter, wp_enum, wp_slice, wp_no, wp_some, wp_isi, wp_lc, wp_range1, wp_chain, of_some, wpO_some, add_ii, add_ss, iadd_ii, iadd_ss, sub_ii, mul_ii, div_ii, mod_ii, pow_ii, neg_i, eq_ii, eq_ss, eq_bb, ne_ii, ne_ss, ne_bb, lt_ii, le_ii, gt_ii, ge_ii, sindex_at, is_non, isNot_non, listA_s, listA_ref, ix_s, ix_con, ix_ref, ixO_lst, ixO_tup, ixO_rol, at0, at1, at2, len_s, len_scr, rdL_ref, rdT_ref, rdL_scr, ty_ref, ty_str, tyOf_s, tyOf_i, tyOf_b, tyOf_n, tyOf_ref, in_ss, notIn_ss, in_con, notIn_con, cut_s, cut_scr, cut_ref, src_s, src_ref, enum_s, enum_ref, chk_nil, gn, gt2, gt1, gs_nil, gs_cons, gsub, max_ii, min_ii, int_b, int_i, List.map_cons, List.map_nil, List.length_cons, List.length_nil, List.replicate, List.cons_append, List.nil_append, List.set_cons_succ, List.set_cons_zero, Option.map_some, Option.map_none, Option.isSome_some, AV.bl.injEq, AV.int.injEq, AV.str.injEq, Option.some.injEq, exists_eq_left', exists_eq_left, if_true, true_and, and_true, and_self, Bool.and_self, get_new, wipeA, List.any_cons, List.any_nil, Bool.or_false, Bool.or_true, Bool.true_or, Bool.false_or, Bool.not_true, Bool.not_false, if_false, Bool.false_eq_true, not_false_eq_true]
    refine (wA_draw (l := ((ks.map AV.str).length : Nat)) hb3 (by omega) (by rw [List.length_map]; omega) (by rw [List.length_map]; omega)).mono fun v h4 ⟨d2, o2, ev, d20, d21, eh2, hb4⟩ => ?_
    subst ev
    have kp4 : Kp [b] h3 h4 := by rw [eh2]; exact Kp.rfl'.set (.inl (by simp)) _
    obtain ⟨ks', e', _⟩ := hb3.keep kp4 ⟨ks, e, k0, k1, hks⟩
    have e4 : h4[kn]? = some (.lst (ks.map AV.str)) := by
      refine kp4.get e fun hm => ?_
      simp only [List.mem_cons, List.not_mem_nil, or_false] at hm
      subst hm
      obtain ⟨x, y, z, eb, _⟩ := hb3
      rw [eb] at e
      cases ks with
      | nil => cases e
      | cons a r => cases e
    obtain ⟨x, hx, hxm⟩ := atA_lt (xs := ks.map AV.str) (i := d2) d20 d21
    obtain ⟨m, hm, rfl⟩ := List.mem_map.mp hxm
    simp (decide := true) only [wp_seq', wp_if, wp_B, wp_bin, wp_un, wp_b1, wp_set, wp_ret, wp_expr, wp_skip, wp_break, wp_cont, wp_par, wp_asg, wp_for, wp_nil, wp_cons, wp_tup, wp_lst, wp_andV, wp_orV, wp_notV, wp_and, wp_or, wp_not, wp_ifE, wp_yes, var0, varS, evC, wp_ok, wps_nx, wps_rt, wps_bk, wps_ct, wp_call, wp_callK, wp_meth, wp_iter, wp_enum, wp_slice, wp_no, wp_some, wp_isi, wp_lc, wp_range1, wp_chain, of_some, wpO_some, add_ii, add_ss, iadd_ii, iadd_ss, sub_ii, mul_ii, div_ii, mod_ii, pow_ii, neg_i, eq_ii, eq_ss, eq_bb, ne_ii, ne_ss, ne_bb, lt_ii, le_ii, gt_ii, ge_ii, sindex_at, is_non, isNot_non, listA_s, listA_ref, ix_s, ix_con, ix_ref, ixO_lst, ixO_tup, ixO_rol, at0, at1, at2, len_s, len_scr, rdL_ref, rdT_ref, rdL_scr, ty_ref, ty_str, tyOf_s, tyOf_i, tyOf_b, tyOf_n, tyOf_ref, in_ss, notIn_ss, in_con, notIn_con, cut_s, cut_scr, cut_ref, src_s, src_ref, enum_s, enum_ref, chk_nil, gn, gt2, gt1, gs_nil, gs_cons, gsub, max_ii, min_ii, int_b, int_i, List.map_cons, List.map_nil, List.length_cons, List.length_nil, List.replicate, List.cons_append, List.nil_append, List.set_cons_succ, List.set_cons_zero, Option.map_some, Option.map_none, Option.isSome_some, AV.bl.injEq, AV.int.injEq, AV.str.injEq, Option.some.injEq, exists_eq_left', exists_eq_left, if_true, true_and, and_true, and_self, Bool.and_self, get_new, wipeA, List.any_cons, List.any_nil, Bool.or_false, Bool.or_true, Bool.true_or, Bool.false_or, Bool.not_true, Bool.not_false, if_false, Bool.false_eq_true, not_false_eq_true, e4, hx]
    obtain ⟨q1, q2⟩ := hks m hm
    exact ⟨q1, by omega, by omega, kp3.transM kp4, hb4.le (by omega)⟩
theorem kinds_mk {h : Hh} {kn : Nat} {ks : List (List Nat)} (e : h[kn]? = some (.lst (ks.map AV.str))) (h0 : 0 < ks.length) (h1 : ks.length ≤ 100) (hm : ∀ m ∈ ks, m = [40, 41] ∨ m = [91, 93] ∨ m = [123, 125]) : Kinds h kn :=
  ⟨ks, e, h0, h1, fun m h => by
    rcases hm m h with rfl | rfl | rfl <;> exact ⟨fun cs => by simp [run, isLet], rfl⟩⟩
theorem Bag.keepNe {h h' : Hh} {b kn : Nat} {n : Int} {xs : List AV} (hb : Bag h b n) (kp : Kp [b] h h') (e : h[kn]? = some (.lst xs)) (hx : kn ≠ b) : h'[kn]? = some (.lst xs) :=
  kp.get e fun hm => by
    simp only [List.mem_cons, List.not_mem_nil, or_false] at hm
    exact hx hm
theorem wA_text {h0 : Hh} {b : Nat} {n : Int} {most : Nat} (hb : Bag h0 b n) (hn : n < 2 ^ 50) (hm : most ≤ 300) (hm2 : 2 ≤ most) :
    Wp (m__law_text [.ref b, .int (most : Nat)] h0) fun v h' => ∃ w, v = .str w ∧ Bal w ∧ w.length ≤ most ∧ Kp [b] h0 h' ∧ Bag h' b (n + 1000) := by
  apply fn_wp
  unfold b__law_text
  simp (decide := true) only [wp_seq', wp_if, wp_B, wp_bin, wp_un, wp_b1, wp_set, wp_ret, wp_expr, wp_skip, wp_break, wp_cont, wp_par, wp_asg, wp_for, wp_nil, wp_cons, wp_tup, wp_lst, wp_andV, wp_orV, wp_notV, wp_and, wp_or, wp_not, wp_ifE, wp_yes, var0, varS, evC, wp_ok, wps_nx, wps_rt, wps_bk, wps_ct, wp_call, wp_callK, wp_meth, wp_iter, wp_enum, wp_slice, wp_no, wp_some, wp_isi, wp_lc, wp_range1, wp_chain, of_some, wpO_some, add_ii, add_ss, iadd_ii, iadd_ss, sub_ii, mul_ii, div_ii, mod_ii, pow_ii, neg_i, eq_ii, eq_ss, eq_bb, ne_ii, ne_ss, ne_bb, lt_ii, le_ii, gt_ii, ge_ii, sindex_at, is_non, isNot_non, listA_s, listA_ref, ix_s, ix_con, ix_ref, ixO_lst, ixO_tup, ixO_rol, at0, at1, at2, len_s, len_scr, rdL_ref, rdT_ref, rdL_scr, ty_ref, ty_str, tyOf_s, tyOf_i, tyOf_b, tyOf_n, tyOf_ref, in_ss, notIn_ss, in_con, notIn_con, cut_s, cut_scr, cut_ref, src_s, src_ref, enum_s, enum_ref, chk_nil, gn, gt2, gt1, gs_nil, gs_cons, gsub, max_ii, min_ii, int_b, int_i, List.map_cons, List.map_nil, List.length_cons, List.length_nil, List.replicate, List.cons_append, List.nil_append, List.set_cons_succ, List.set_cons_zero, Option.map_some, Option.map_none, Option.isSome_some, AV.bl.injEq, AV.int.injEq, AV.str.injEq, Option.some.injEq, exists_eq_left', exists_eq_left, if_true, true_and, and_true, and_self, Bool.and_self, get_new, wipeA, List.any_cons, List.any_nil, Bool.or_false, Bool.or_true, Bool.true_or, Bool.false_or, Bool.not_true, Bool.not_false, if_false, Bool.false_eq_true, not_false_eq_true]
  have hbl := hb.lt
  refine (wA_draw hb (by omega) (by omega) (by omega)).mono fun v h1 ⟨style, o1, ev, s0, s1, eh1, hb1⟩ => ?_
  subst ev
  have kp1 : Kp [b] h0 h1 := by rw [eh1]; exact Kp.rfl'.set (.inl (by simp)) _
  refine (wA_draw (hb1.kp (Kp.rfl'.app _)) (by omega) (by omega) (by omega)).mono fun v h2 ⟨d2, o2, ev, d20, d21, eh2, hb2⟩ => ?_
  subst ev
  have kp2 : Kp [b] h0 h2 := by rw [eh2]; exact (kp1.app _).set (.inl (by simp)) _
  obtain ⟨ls, hls, hl1, hl2, hl3⟩ : ∃ ls, atA [AV.str [97], .str [97, 98], .str [97, 97, 98, 120, 121, 122], .str [97, 98, 99, 100, 101, 102, 103, 104, 105, 106, 107, 108, 109, 110, 111, 112, 113, 114, 115, 116, 117, 118, 119, 120, 121, 122]] d2 = some (.str ls) ∧ (∀ c ∈ ls, isLet c = true) ∧ 0 < ls.length ∧ ls.length ≤ 1000 := by
    have : d2 = 0 ∨ d2 = 1 ∨ d2 = 2 ∨ d2 = 3 := by omega
    rcases this with rfl | rfl | rfl | rfl
    · exact ⟨_, rfl, by decide, by decide, by decide⟩
    · exact ⟨_, rfl, by decide, by decide, by decide⟩
    · exact ⟨_, rfl, by decide, by decide, by decide⟩
    · exact ⟨_, rfl, by decide, by decide, by decide⟩
  have l1b : b < h1.length := hb1.lt
  have g2 : h2[h1.length]? = some (.lst [AV.str [97], .str [97, 98], .str [97, 97, 98, 120, 121, 122], .str [97, 98, 99, 100, 101, 102, 103, 104, 105, 106, 107, 108, 109, 110, 111, 112, 113, 114, 115, 116, 117, 118, 119, 120, 121, 122]]) := by
    rw [eh2, get_set_ne (by omega)]; exact get_new _ _
  simp (decide := true) only [wp_seq', wp_if, wp_B, wp_bin, wp_un, wp_b1, wp_set, wp_ret, wp_expr, wp_skip, wp_break, wp_cont, wp_par, wp_asg, wp_for, wp_nil, wp_cons, wp_tup, wp_lst, wp_andV, wp_orV, wp_notV, wp_and, wp_or, wp_not, wp_ifE, wp_yes, var0, varS, evC, wp_ok, wps_nx, wps_rt, wps_bk, wps_ct, wp_call, wp_callK, wp_meth, wp_iter, wp_enum, wp_slice, wp_no, wp_some, wp_isi, wp_lc, wp_range1, wp_chain, of_some, wpO_some, add_ii, add_ss, iadd_ii, iadd_ss, sub_ii, mul_ii, div_ii, mod_ii, pow_ii, neg_i, eq_ii, eq_ss, eq_bb, ne_ii, ne_ss, ne_bb, lt_ii, le_ii, gt_ii, ge_ii, sindex_at, is_non, isNot_non, listA_s, listA_ref, ix_s, ix_con, ix_ref, ixO_lst, ixO_tup, ixO_rol, at0, at1, at2, len_s, len_scr, rdL_ref, rdT_ref, rdL_scr, ty_ref, ty_str, tyOf_s, tyOf_i, tyOf_b, tyOf_n, tyOf_ref, in_ss, notIn_ss, in_con, notIn_con, cut_s, cut_scr, cut_ref, src_s, src_ref, enum_s, enum_ref, chk_nil, gn, gt2, gt1, gs_nil, gs_cons, gsub, max_ii, min_ii, int_b, int_i, List.map_cons, List.map_nil, List.length_cons, List.length_nil, List.replicate, List.cons_append, List.nil_append, List.set_cons_succ, List.set_cons_zero, Option.map_some, Option.map_none, Option.isSome_some, AV.bl.injEq, AV.int.injEq, AV.str.injEq, Option.some.injEq, exists_eq_left', exists_eq_left, if_true, true_and, and_true, and_self, Bool.and_self, get_new, wipeA, List.any_cons, List.any_nil, Bool.or_false, Bool.or_true, Bool.true_or, Bool.false_or, Bool.not_true, Bool.not_false, if_false, Bool.false_eq_true, not_false_eq_true, g2, hls]
  generalize hK : h2 ++ [AO.lst [AV.str [40, 41]]] ++ [AO.lst [AV.str [40, 41], AV.str [91, 93]]] ++ [AO.lst [AV.str [123, 125], AV.str [91, 93], AV.str [40, 41]]] = h3
  have z1 : h3[h2.length]? = some (.lst ([[40, 41]].map AV.str)) := by rw [← hK]; exact getElem?_pre (getElem?_pre (get_new _ _))
  have z2 : h3[(h2 ++ [AO.lst [AV.str [40, 41]]]).length]? = some (.lst ([[40, 41], [91, 93]].map AV.str)) := by rw [← hK]; exact getElem?_pre (get_new _ _)
  have z3 : h3[(h2 ++ [AO.lst [AV.str [40, 41]]] ++ [AO.lst [AV.str [40, 41], AV.str [91, 93]]]).length]? = some (.lst ([[123, 125], [91, 93], [40, 41]].map AV.str)) := by rw [← hK]; exact get_new _ _
  have l2b : b < h2.length := hb2.lt
  have kp3 : Kp [b] h0 h3 := by rw [← hK]; exact ((kp2.app _).app _).app _
  have hb3 : Bag h3 b (n + 1 + 1) := by rw [← hK]; exact ((hb2.kp (Kp.rfl'.app _)).kp (Kp.rfl'.app _)).kp (Kp.rfl'.app _)
  have m1 : b ≠ h2.length := by omega
  have m2 : b ≠ (h2 ++ [AO.lst [AV.str [40, 41]]]).length := by rw [List.length_append]; omega
  have m3 : b ≠ (h2 ++ [AO.lst [AV.str [40, 41]]] ++ [AO.lst [AV.str [40, 41], AV.str [91, 93]]]).length := by rw [List.length_append, List.length_append]; omega
  generalize h2.length = k1 at z1 m1
  generalize (h2 ++ [AO.lst [AV.str [40, 41]]]).length = k2 at z2 m2
  generalize (h2 ++ [AO.lst [AV.str [40, 41]]] ++ [AO.lst [AV.str [40, 41], AV.str [91, 93]]]).length = k3 at z3 m3
  clear hK
  refine (wA_draw (hb3.kp (Kp.rfl'.app _)) (by omega) (by omega) (by omega)).mono fun v h4 ⟨d3, o3, ev, d30, d31, eh3, hb4⟩ => ?_
  subst ev
  have kp4 : Kp [b] h3 h4 := by rw [eh3]; exact (Kp.rfl'.app _).set (.inl (by simp)) _
  have l3b : b < h3.length := hb3.lt
  have g4 : h4[h3.length]? = some (.lst [AV.ref k1, AV.ref k2, AV.ref k3]) := by
    rw [eh3, get_set_ne (by omega)]; exact get_new _ _
  obtain ⟨kn, hkn, hkb, hkk⟩ : ∃ kn, atA [AV.ref k1, AV.ref k2, AV.ref k3] d3 = some (.ref kn) ∧ b ≠ kn ∧ Kinds h4 kn := by
    have : d3 = 0 ∨ d3 = 1 ∨ d3 = 2 := by omega
    rcases this with rfl | rfl | rfl
    · exact ⟨_, rfl, m1, kinds_mk (hb3.keepNe kp4 z1 m1.symm) (by decide) (by decide) (by decide)⟩
    · exact ⟨_, rfl, m2, kinds_mk (hb3.keepNe kp4 z2 m2.symm) (by decide) (by decide) (by decide)⟩
    · exact ⟨_, rfl, m3, kinds_mk (hb3.keepNe kp4 z3 m3.symm) (by decide) (by decide) (by decide)⟩
  have f2 : fits 2 = true := by decide +kernel
  simp (decide := true) only [wp_seq', wp_if, wp_B, wp_bin, wp_un, wp_b1, wp_set, wp_ret, wp_expr, wp_skip, wp_break, wp_cont, wp_par, wp_asg, wp_for, wp_nil, wp_cons, wp_tup, wp_lst, wp_andV, wp_orV, wp_notV, wp_and, wp_or, wp_not, wp_ifE, wp_yes, var0, varS, evC, wp_ok, wps_nx, wps_rt, wps_bk, wps_ct, wp_call, wp_callK, wp_meth, wp_iter, wp_enum, wp_slice, wp_no, wp_some, wp_isi, wp_lc, wp_range1, wp_chain, of_some, wpO_some, add_ii, add_ss, iadd_ii, iadd_ss, sub_ii, mul_ii, div_ii, mod_ii, pow_ii, neg_i, eq_ii, eq_ss, eq_bb, ne_ii, ne_ss, ne_bb, lt_ii, le_ii, gt_ii, ge_ii, sindex_at, is_non, isNot_non, listA_s, listA_ref, ix_s, ix_con, ix_ref, ixO_lst, ixO_tup, ixO_rol, at0, at1, at2, len_s, len_scr, rdL_ref, rdT_ref, rdL_scr, ty_ref, ty_str, tyOf_s, tyOf_i, tyOf_b, tyOf_n, tyOf_ref, in_ss, notIn_ss, in_con, notIn_con, cut_s, cut_scr, cut_ref, src_s, src_ref, enum_s, enum_ref, chk_nil, gn, gt2, gt1, gs_nil, gs_cons, gsub, max_ii, min_ii, int_b, int_i, List.map_cons, List.map_nil, List.length_cons, List.length_nil, List.replicate, List.cons_append, List.nil_append, List.set_cons_succ, List.set_cons_zero, Option.map_some, Option.map_none, Option.isSome_some, AV.bl.injEq, AV.int.injEq, AV.str.injEq, Option.some.injEq, exists_eq_left', exists_eq_left, if_true, true_and, and_true, and_self, Bool.and_self, get_new, wipeA, List.any_cons, List.any_nil, Bool.or_false, Bool.or_true, Bool.true_or, Bool.false_or, Bool.not_true, Bool.not_false, if_false, Bool.false_eq_true, not_false_eq_true, g4, hkn, f2]
  have hb5 := hb4.kp (Kp.rfl'.app [AO.tup [AV.str [], AV.int 0]])
  have kk5 := hb4.keep (Kp.rfl'.app [AO.tup [AV.str [], AV.int 0]]) hkk
  have kp5 : Kp [b] h0 (h4 ++ [AO.tup [AV.str [], AV.int 0]]) := (kp3.transM kp4).app _
  generalize h4 ++ [AO.tup [AV.str [], AV.int 0]] = h5 at hb5 kk5 kp5
  have em2 : (most : Int) / 2 = ((most / 2 : Nat) : Int) := by omega
  rw [em2]
  refine (wA_draw (l := ((most / 2 : Nat) : Int) + 1) hb5 (by omega) (by omega) (by omega)).mono fun v h6 ⟨T, o6, ev, T0, T1, eh6, hb6⟩ => ?_
  subst ev
  have kp6 : Kp [b] h5 h6 := by rw [eh6]; exact Kp.rfl'.set (.inl (by simp)) _
  have kk6 := hb5.keep kp6 kk5
  refine (wA_draw (hb6.kp (Kp.rfl'.app _)) (by omega) (by omega) (by omega)).mono fun v h7 ⟨d7, o7, ev, d70, d71, eh7, hb7⟩ => ?_
  subst ev
  have kp7 : Kp [b] h6 h7 := by rw [eh7]; exact (Kp.rfl'.app _).set (.inl (by simp)) _
  have kk7 := hb6.keep kp7 kk6
  have l6b : b < h6.length := hb6.lt
  have g7 : h7[h6.length]? = some (.lst [AV.int T, AV.int ((most / 2 : Nat) : Int)]) := by
    rw [eh7, get_set_ne (by omega)]; exact get_new _ _
  obtain ⟨N, hN, hN2⟩ : ∃ N : Nat, atA [AV.int T, AV.int ((most / 2 : Nat) : Int)] (d7 / 2) = some (.int (N : Nat)) ∧ N ≤ most / 2 := by
    have : d7 / 2 = 0 ∨ d7 / 2 = 1 := by omega
    rcases this with e | e
    · rw [e]; exact ⟨T.toNat, by show some (AV.int T) = _; rw [show ((T.toNat : Nat) : Int) = T by omega], by omega⟩
    · rw [e]; exact ⟨most / 2, rfl, Nat.le_refl _⟩
  simp (decide := true) only [wp_seq', wp_if, wp_B, wp_bin, wp_un, wp_b1, wp_set, wp_ret, wp_expr, wp_skip, wp_break, wp_cont, wp_par, wp_asg, wp_for, wp_nil, wp_cons, wp_tup, wp_lst, wp_andV, wp_orV, wp_notV, wp_and, wp_or, wp_not, wp_ifE, wp_yes, var0, varS, evC, wp_ok, wps_nx, wps_rt, wps_bk, wps_ct, wp_call, wp_callK, wp_meth, wp_iter, wp_enum, wp_slice, wp_no, wp_some, wp_isi, wp_lc, wp_range1, wp_chain, of_some, wpO_some, add_ii, add_ss, iadd_ii, iadd_ss, sub_ii, mul_ii, div_ii, mod_ii, pow_ii, neg_i, eq_ii, eq_ss, eq_bb, ne_ii, ne_ss, ne_bb, lt_ii, le_ii, gt_ii, ge_ii, sindex_at, is_non, isNot_non, listA_s, listA_ref, ix_s, ix_con, ix_ref, ixO_lst, ixO_tup, ixO_rol, at0, at1, at2, len_s, len_scr, rdL_ref, rdT_ref, rdL_scr, ty_ref, ty_str, tyOf_s, tyOf_i, tyOf_b, tyOf_n, tyOf_ref, in_ss, notIn_ss, in_con, notIn_con, cut_s, cut_scr, cut_ref, src_s, src_ref, enum_s, enum_ref, chk_nil, gn, gt2, gt1, gs_nil, gs_cons, gsub, max_ii, min_ii, int_b, int_i, List.map_cons, List.map_nil, List.length_cons, List.length_nil, List.replicate, List.cons_append, List.nil_append, List.set_cons_succ, List.set_cons_zero, Option.map_some, Option.map_none, Option.isSome_some, AV.bl.injEq, AV.int.injEq, AV.str.injEq, Option.some.injEq, exists_eq_left', exists_eq_left, if_true, true_and, and_true, and_self, Bool.and_self, get_new, wipeA, List.any_cons, List.any_nil, Bool.or_false, Bool.or_true, Bool.true_or, Bool.false_or, Bool.not_true, Bool.not_false, if_false, Bool.false_eq_true, not_false_eq_true, g7, hN]
  refine ⟨by simp [small60]; omega, ?_⟩
  have kpS : Kp [b] h0 h7 := (kp5.transM kp6).transM kp7
  rw [rIt_zero]
  refine loop_wp (fun its sl h => ∃ (k : Nat) (w : List Nat) (at_ : Nat) (t7 : Option AV), its = rIt (N - k) k ∧ k ≤ N ∧ sl = [some (.ref b), some (.int (most : Nat)), some (.int style), some (.str ls), some (.ref kn), some (.str w), some (.int (at_ : Nat)), t7] ∧ Bal w ∧ at_ ≤ w.length ∧ w.length ≤ 2 * (N - k) ∧ Kp [b] h0 h ∧ Kinds h kn ∧ Bag h b (n + 10 + 3 * ((N : Int) - k))) ?_ ?_ ?_ _ _ _ ⟨N, [], 0, none, by simp, Nat.le_refl _, rfl, rfl, by simp, by simp, kpS, kk7, hb7.le (by omega)⟩
  · intro its sl h _; rfl
  · rintro sl h ⟨k, w, at_, t7, hit, hk, rfl, hw, ha, hl, kp, kk, hb⟩
    have := rIt_nil hit
    subst this
    simp (decide := true) only [wp_seq', wp_if, wp_B, wp_bin, wp_un, wp_b1, wp_set, wp_ret, wp_expr, wp_skip, wp_break, wp_cont, wp_par, wp_asg, wp_for, wp_nil, wp_cons, wp_tup, wp_lst, wp_andV, wp_orV, wp_notV, wp_and, wp_or, wp_not, wp_ifE, wp_yes, var0, varS, evC, wp_ok, wps_nx, wps_rt, wps_bk, wps_ct, wp_call, wp_callK, wp_meth, wp_iter, wp_enum, wp_slice, wp_no, wp_some, wp_isi, wp_lc, wp_range1, wp_chain, of_some, wpO_some, add_ii, add_ss, iadd_ii, iadd_ss, sub_ii, mul_ii, div_ii, mod_ii, pow_ii, neg_i, eq_ii, eq_ss, eq_bb, ne_ii, ne_ss, ne_bb, lt_ii, le_ii, gt_ii, ge_ii, sindex_at, is_non, isNot_non, listA_s, listA_ref, ix_s, ix_con, ix_ref, ixO_lst, ixO_tup, ixO_rol, at0, at1, at2, len_s, len_scr, rdL_ref, rdT_ref, rdL_scr, ty_ref, ty_str, tyOf_s, tyOf_i, tyOf_b, tyOf_n, tyOf_ref, in_ss, notIn_ss, in_con, notIn_con, cut_s, cut_scr, cut_ref, src_s, src_ref, enum_s, enum_ref, chk_nil, gn, gt2, gt1, gs_nil, gs_cons, gsub, max_ii, min_ii, int_b, int_i, List.map_cons, List.map_nil, List.length_cons, List.length_nil, List.replicate, List.cons_append, List.nil_append, List.set_cons_succ, List.set_cons_zero, Option.map_some, Option.map_none, Option.isSome_some, AV.bl.injEq, AV.int.injEq, AV.str.injEq, Option.some.injEq, exists_eq_left', exists_eq_left, if_true, true_and, and_true, and_self, Bool.and_self, get_new, wipeA, List.any_cons, List.any_nil, Bool.or_false, Bool.or_true, Bool.true_or, Bool.false_or, Bool.not_true, Bool.not_false, if_false, Bool.false_eq_true, not_false_eq_true]
    exact ⟨hw, by omega, kp, hb.le (by omega)⟩
  · rintro it r sl h ⟨k, w, at_, t7, hit, hk, rfl, hw, ha, hl, kp, kk, hb⟩
    cases k with
    | zero => cases hit
    | succ k =>
      rw [rIt_succ] at hit
      obtain ⟨rfl, rfl⟩ := List.cons.inj hit
      refine ⟨_, _, rfl, ?_⟩
      unfold b__law_text_1
      -- the place is found, then the part is put there
      have put : ∀ (h' : Hh) (a : Nat), a ≤ w.length → Kp [b] h0 h' → Kinds h' kn → Bag h' b (n + 10 + 3 * ((N : Int) - (k + 1 : Nat)) + 1) → Wp (m__law_part [.ref b, .str ls, .ref kn] h') fun v h'' => ∃ m, v = .str m ∧ Neut m ∧ 0 < m.length ∧ m.length ≤ 2 ∧ Kp [b] h0 h'' ∧ Kinds h'' kn ∧ Bag h'' b (n + 10 + 3 * ((N : Int) - k)) := fun h' a ha kp kk hb =>
        (wA_part hb (by omega) hl1 hl2 hl3 kk).mono fun v h'' ⟨m, ev, q1, q2, q3, q4, q5⟩ => ⟨m, ev, q1, q2, q3, kp.transM q4, hb.keep q4 kk, q5.le (by omega)⟩
      have fin : ∀ (h'' : Hh) (a : Nat) (m : List Nat), a ≤ w.length → Neut m → 0 < m.length → m.length ≤ 2 → Kp [b] h0 h'' → Kinds h'' kn → Bag h'' b (n + 10 + 3 * ((N : Int) - k)) →
          ∃ (k_1 : Nat) (w_1 : List Nat) (at__1 : Nat) (t7 : Option AV), rIt (N - (k + 1) + 1) k = rIt (N - k_1) k_1 ∧ k_1 ≤ N ∧ [some (.ref b), some (.int (most : Nat)), some (.int style), some (.str ls), some (.ref kn), some (.str (w.take a ++ m ++ w.drop a)), some (.int ((a : Int) + 1)), some (.int ((N - (k + 1) : Nat) : Int))] = [some (.ref b), some (.int (most : Nat)), some (.int style), some (.str ls), some (.ref kn), some (.str w_1), some (.int (at__1 : Nat)), t7] ∧ Bal w_1 ∧ at__1 ≤ w_1.length ∧ w_1.length ≤ 2 * (N - k_1) ∧ Kp [b] h0 h'' ∧ Kinds h'' kn ∧ Bag h'' b (n + 10 + 3 * ((N : Int) - k_1)) := fun h'' a m ha q1 q2 q3 kp kk hb => by
        refine ⟨k, w.take a ++ m ++ w.drop a, a + 1, _, by rw [show N - (k + 1) + 1 = N - k by omega], by omega, rfl, bal_ins (by rw [List.take_append_drop]; exact hw) q1, ?_, ?_, kp, kk, hb⟩
        · simp only [List.length_append, List.length_take, List.length_drop]; omega
        · simp only [List.length_append, List.length_take, List.length_drop]; omega
      have lw : w.length ≤ 10000000 := by omega
      have rest : ∀ (h' : Hh) (a : Nat), a ≤ w.length → Kp [b] h0 h' → Kinds h' kn → Bag h' b (n + 10 + 3 * ((N : Int) - (k + 1 : Nat)) + 1) → Wp (m__law_part [.ref b, .str ls, .ref kn] h') fun y h2 => Wp (R.of (opAdd (.str (w.take a)) y h2)) fun x h1 => Wp (R.of (opAdd x (.str (w.drop a)) h1)) fun v h => ∃ (k_1 : Nat) (w_1 : List Nat) (at__1 : Nat) (t7 : Option AV), rIt (N - (k + 1) + 1) k = rIt (N - k_1) k_1 ∧ k_1 ≤ N ∧ [some (.ref b), some (.int (most : Nat)), some (.int style), some (.str ls), some (.ref kn), some v, some (.int ((a : Int) + 1)), some (.int ((N - (k + 1) : Nat) : Int))] = [some (.ref b), some (.int (most : Nat)), some (.int style), some (.str ls), some (.ref kn), some (.str w_1), some (.int (at__1 : Nat)), t7] ∧ Bal w_1 ∧ at__1 ≤ w_1.length ∧ w_1.length ≤ 2 * (N - k_1) ∧ Kp [b] h0 h ∧ Kinds h kn ∧ Bag h b (n + 10 + 3 * ((N : Int) - k_1)) := fun h' a ha kp kk hb => by
        refine (put h' a ha kp kk hb).mono fun v h'' ⟨m, ev, q1, q2, q3, q4, q5, q6⟩ => ?_
        subst ev
        rw [add_ss, if_pos (line_big (by simp only [List.length_take]; omega))]
        simp (decide := true) only [wp_seq', wp_if, wp_B, wp_bin, wp_un, wp_b1, wp_set, wp_ret, wp_expr, wp_skip, wp_break, wp_cont, wp_par, wp_asg, wp_for, wp_nil, wp_cons, wp_tup, wp_lst, wp_andV, wp_orV, wp_notV, wp_and, wp_or, wp_not, wp_ifE, wp_yes, var0, varS, evC, wp_ok, wps_nx, wps_rt, wps_bk, wps_ct, wp_call, wp_callK, wp_meth, wp_iter, wp_enum, wp_slice, wp_no, wp_some, wp_isi, wp_lc, wp_range1, wp_chain, of_some, wpO_some, add_ii, add_ss, iadd_ii, iadd_ss, sub_ii, mul_ii, div_ii, mod_ii, pow_ii, neg_i, eq_ii, eq_ss, eq_bb, ne_ii, ne_ss, ne_bb, lt_ii, le_ii, gt_ii, ge_ii, sindex_at, is_non, isNot_non, listA_s, listA_ref, ix_s, ix_con, ix_ref, ixO_lst, ixO_tup, ixO_rol, at0, at1, at2, len_s, len_scr, rdL_ref, rdT_ref, rdL_scr, ty_ref, ty_str, tyOf_s, tyOf_i, tyOf_b, tyOf_n, tyOf_ref, in_ss, notIn_ss, in_con, notIn_con, cut_s, cut_scr, cut_ref, src_s, src_ref, enum_s, enum_ref, chk_nil, gn, gt2, gt1, gs_nil, gs_cons, gsub, max_ii, min_ii, int_b, int_i, List.map_cons, List.map_nil, List.length_cons, List.length_nil, List.replicate, List.cons_append, List.nil_append, List.set_cons_succ, List.set_cons_zero, Option.map_some, Option.map_none, Option.isSome_some, AV.bl.injEq, AV.int.injEq, AV.str.injEq, Option.some.injEq, exists_eq_left', exists_eq_left, if_true, true_and, and_true, and_self, Bool.and_self, get_new, wipeA, List.any_cons, List.any_nil, Bool.or_false, Bool.or_true, Bool.true_or, Bool.false_or, Bool.not_true, Bool.not_false, if_false, Bool.false_eq_true, not_false_eq_true]
        rw [if_pos (line_big (by simp only [List.length_append, List.length_take, List.length_drop]; omega))]
        exact fin h'' a m ha q1 q2 q3 q4 q5 q6
      have ct : ∀ a : Nat, cutA w none (some (a : Int)) = w.take a := fun a => cutA_to w a
      have cf : ∀ a : Nat, cutA w (some (a : Int)) none = w.drop a := fun a => cutA_from w a
      simp (decide := true) only [wp_seq', wp_if, wp_B, wp_bin, wp_un, wp_b1, wp_set, wp_ret, wp_expr, wp_skip, wp_break, wp_cont, wp_par, wp_asg, wp_for, wp_nil, wp_cons, wp_tup, wp_lst, wp_andV, wp_orV, wp_notV, wp_and, wp_or, wp_not, wp_ifE, wp_yes, var0, varS, evC, wp_ok, wps_nx, wps_rt, wps_bk, wps_ct, wp_call, wp_callK, wp_meth, wp_iter, wp_enum, wp_slice, wp_no, wp_some, wp_isi, wp_lc, wp_range1, wp_chain, of_some, wpO_some, add_ii, add_ss, iadd_ii, iadd_ss, sub_ii, mul_ii, div_ii, mod_ii, pow_ii, neg_i, eq_ii, eq_ss, eq_bb, ne_ii, ne_ss, ne_bb, lt_ii, le_ii, gt_ii, ge_ii, sindex_at, is_non, isNot_non, listA_s, listA_ref, ix_s, ix_con, ix_ref, ixO_lst, ixO_tup, ixO_rol, at0, at1, at2, len_s, len_scr, rdL_ref, rdT_ref, rdL_scr, ty_ref, ty_str, tyOf_s, tyOf_i, tyOf_b, tyOf_n, tyOf_ref, in_ss, notIn_ss, in_con, notIn_con, cut_s, cut_scr, cut_ref, src_s, src_ref, enum_s, enum_ref, chk_nil, gn, gt2, gt1, gs_nil, gs_cons, gsub, max_ii, min_ii, int_b, int_i, List.map_cons, List.map_nil, List.length_cons, List.length_nil, List.replicate, List.cons_append, List.nil_append, List.set_cons_succ, List.set_cons_zero, Option.map_some, Option.map_none, Option.isSome_some, AV.bl.injEq, AV.int.injEq, AV.str.injEq, Option.some.injEq, exists_eq_left', exists_eq_left, if_true, true_and, and_true, and_self, Bool.and_self, get_new, wipeA, List.any_cons, List.any_nil, Bool.or_false, Bool.or_true, Bool.true_or, Bool.false_or, Bool.not_true, Bool.not_false, if_false, Bool.false_eq_true, not_false_eq_true, if_pos (line_big lw)]
      split
      · refine (wA_draw (l := (w.length : Int) + 1) hb (by omega) (by omega) (by omega)).mono fun v h8 ⟨d, o, ev, d0, d1, eh, hb8⟩ => ?_
        obtain ⟨a, rfl⟩ : ∃ a : Nat, d = (a : Int) := ⟨d.toNat, by omega⟩
        subst ev
        have kp8 : Kp [b] h h8 := by rw [eh]; exact Kp.rfl'.set (.inl (by simp)) _
        simp (decide := true) only [wp_seq', wp_if, wp_B, wp_bin, wp_un, wp_b1, wp_set, wp_ret, wp_expr, wp_skip, wp_break, wp_cont, wp_par, wp_asg, wp_for, wp_nil, wp_cons, wp_tup, wp_lst, wp_andV, wp_orV, wp_notV, wp_and, wp_or, wp_not, wp_ifE, wp_yes, var0, varS, evC, wp_ok, wps_nx, wps_rt, wps_bk, wps_ct, wp_call, wp_callK, wp_meth, wp_iter, wp_enum, wp_slice, wp_no, wp_some, wp_isi, wp_lc, wp_range1, wp_chain, of_some, wpO_some, add_ii, add_ss, iadd_ii, iadd_ss, sub_ii, mul_ii, div_ii, mod_ii, pow_ii, neg_i, eq_ii, eq_ss, eq_bb, ne_ii, ne_ss, ne_bb, lt_ii, le_ii, gt_ii, ge_ii, sindex_at, is_non, isNot_non, listA_s, listA_ref, ix_s, ix_con, ix_ref, ixO_lst, ixO_tup, ixO_rol, at0, at1, at2, len_s, len_scr, rdL_ref, rdT_ref, rdL_scr, ty_ref, ty_str, tyOf_s, tyOf_i, tyOf_b, tyOf_n, tyOf_ref, in_ss, notIn_ss, in_con, notIn_con, cut_s, cut_scr, cut_ref, src_s, src_ref, enum_s, enum_ref, chk_nil, gn, gt2, gt1, gs_nil, gs_cons, gsub, max_ii, min_ii, int_b, int_i, List.map_cons, List.map_nil, List.length_cons, List.length_nil, List.replicate, List.cons_append, List.nil_append, List.set_cons_succ, List.set_cons_zero, Option.map_some, Option.map_none, Option.isSome_some, AV.bl.injEq, AV.int.injEq, AV.str.injEq, Option.some.injEq, exists_eq_left', exists_eq_left, if_true, true_and, and_true, and_self, Bool.and_self, get_new, wipeA, List.any_cons, List.any_nil, Bool.or_false, Bool.or_true, Bool.true_or, Bool.false_or, Bool.not_true, Bool.not_false, if_false, Bool.false_eq_true, not_false_eq_true, ct, cf]
        exact rest h8 a (by omega) (kp.transM kp8) (hb.keep kp8 kk) hb8
      · split
        · rw [ct, cf]
          exact rest h w.length (Nat.le_refl _) kp kk (hb.le (by omega))
        · rw [ct, cf]
          exact rest h at_ ha kp kk (hb.le (by omega))
/-- the law's own search for the pairs -/
theorem wA_pairs {h0 : Hh} {w : List Nat} (hw : w.length ≤ 50000) (hb : Bal w) : Wp (m__law_pairs [.str w] h0) fun v h' => Rp h' (.lst ((prs 0 w).map pD)) v ∧ (∃ n, v = .ref n ∧ h0.length ≤ n) ∧ Kp [] h0 h' := by
  apply fn_wp
  unfold b__law_pairs
  simp (decide := true) only [wp_seq', wp_if, wp_B, wp_bin, wp_un, wp_b1, wp_set, wp_ret, wp_expr, wp_skip, wp_break, wp_cont, wp_par, wp_asg, wp_for, wp_nil, wp_cons, wp_tup, wp_lst, wp_andV, wp_orV, wp_notV, wp_and, wp_or, wp_not, wp_ifE, wp_yes, var0, varS, evC, wp_ok, wps_nx, wps_rt, wps_bk, wps_ct, wp_call, wp_callK, wp_meth, wp_iter, wp_enum, wp_slice, wp_no, wp_some, wp_isi, wp_lc, wp_range1, wp_chain, of_some, wpO_some, add_ii, add_ss, iadd_ii, iadd_ss, sub_ii, mul_ii, div_ii, mod_ii, pow_ii, neg_i, eq_ii, eq_ss, eq_bb, ne_ii, ne_ss, ne_bb, lt_ii, le_ii, gt_ii, ge_ii, sindex_at, is_non, isNot_non, listA_s, listA_ref, ix_s, ix_con, ix_ref, ixO_lst, ixO_tup, ixO_rol, at0, at1, at2, len_s, len_scr, rdL_ref, rdT_ref, rdL_scr, ty_ref, ty_str, tyOf_s, tyOf_i, tyOf_b, tyOf_n, tyOf_ref, in_ss, notIn_ss, in_con, notIn_con, cut_s, cut_scr, cut_ref, src_s, src_ref, enum_s, enum_ref, chk_nil, gn, gt2, gt1, gs_nil, gs_cons, gsub, max_ii, min_ii, int_b, int_i, List.map_cons, List.map_nil, List.length_cons, List.length_nil, List.replicate, List.cons_append, List.nil_append, List.set_cons_succ, List.set_cons_zero, Option.map_some, Option.map_none, Option.isSome_some, AV.bl.injEq, AV.int.injEq, AV.str.injEq, Option.some.injEq, exists_eq_left', exists_eq_left, if_true, true_and, and_true, and_self, Bool.and_self, get_new, wipeA, List.any_cons, List.any_nil, Bool.or_false, Bool.or_true, Bool.true_or, Bool.false_or, Bool.not_true, Bool.not_false, if_false, Bool.false_eq_true, not_false_eq_true]
  refine loop_wp (fun its sl h => ∃ (rest : List Nat) (k : Nat) (xs : List AV) (l : List (Nat × Nat)) (cs : List Nat) (t2 t3 t4 t5 t6 : Option AV), its = pairsFrom k (rest.map fun ch => .str [ch]) ∧ sl = [some (.str w), some (.ref h0.length), t2, t3, t4, t5, t6] ∧ w.drop k = rest ∧ k + rest.length = w.length ∧ h[h0.length]? = some (.lst xs) ∧ Kp [] h0 h ∧ RpL h (l.map pD) xs ∧ l ++ prs k rest = prs 0 w ∧ run cs rest = some [] ∧ (∀ c ∈ cs, isClo c) ∧ xs.length ≤ k) ?_ ?_ ?_ _ _ _ ⟨w, 0, [], [], [], none, none, none, none, none, rfl, rfl, rfl, by simp, get_new _ _, Kp.rfl'.app _, RpL.nil, rfl, hb, by simp, Nat.le_refl _⟩
  · intro its sl h _; rfl
  · rintro sl h ⟨rest, k, xs, l, cs, t2, t3, t4, t5, t6, hr, rfl, hd, hk, e, kp, rp, hl, hrun, hcc, _⟩
    have : rest = [] := by cases rest with
      | nil => rfl
      | cons a r => cases hr
    subst this
    have : l = prs 0 w := by simpa [prs] using hl
    rw [this] at rp
    simp (decide := true) only [wp_seq', wp_if, wp_B, wp_bin, wp_un, wp_b1, wp_set, wp_ret, wp_expr, wp_skip, wp_break, wp_cont, wp_par, wp_asg, wp_for, wp_nil, wp_cons, wp_tup, wp_lst, wp_andV, wp_orV, wp_notV, wp_and, wp_or, wp_not, wp_ifE, wp_yes, var0, varS, evC, wp_ok, wps_nx, wps_rt, wps_bk, wps_ct, wp_call, wp_callK, wp_meth, wp_iter, wp_enum, wp_slice, wp_no, wp_some, wp_isi, wp_lc, wp_range1, wp_chain, of_some, wpO_some, add_ii, add_ss, iadd_ii, iadd_ss, sub_ii, mul_ii, div_ii, mod_ii, pow_ii, neg_i, eq_ii, eq_ss, eq_bb, ne_ii, ne_ss, ne_bb, lt_ii, le_ii, gt_ii, ge_ii, sindex_at, is_non, isNot_non, listA_s, listA_ref, ix_s, ix_con, ix_ref, ixO_lst, ixO_tup, ixO_rol, at0, at1, at2, len_s, len_scr, rdL_ref, rdT_ref, rdL_scr, ty_ref, ty_str, tyOf_s, tyOf_i, tyOf_b, tyOf_n, tyOf_ref, in_ss, notIn_ss, in_con, notIn_con, cut_s, cut_scr, cut_ref, src_s, src_ref, enum_s, enum_ref, chk_nil, gn, gt2, gt1, gs_nil, gs_cons, gsub, max_ii, min_ii, int_b, int_i, List.map_cons, List.map_nil, List.length_cons, List.length_nil, List.replicate, List.cons_append, List.nil_append, List.set_cons_succ, List.set_cons_zero, Option.map_some, Option.map_none, Option.isSome_some, AV.bl.injEq, AV.int.injEq, AV.str.injEq, Option.some.injEq, exists_eq_left', exists_eq_left, if_true, true_and, and_true, and_self, Bool.and_self, get_new, wipeA, List.any_cons, List.any_nil, Bool.or_false, Bool.or_true, Bool.true_or, Bool.false_or, Bool.not_true, Bool.not_false, if_false, Bool.false_eq_true, not_false_eq_true]
    exact ⟨Rp.lst e rp, ⟨_, rfl, Nat.le_refl _⟩, kp⟩
  · rintro it r sl h ⟨rest, k, xs, l, cs, t2, t3, t4, t5, t6, hr, rfl, hd, hk, e, kp, rp, hl, hrun, hcc, hxk⟩
    cases rest with
    | nil => cases hr
    | cons c rest =>
      obtain ⟨rfl, rfl⟩ : it = [.int (k : Int), .str [c]] ∧ r = pairsFrom (k + 1) (rest.map fun ch => .str [ch]) := by
        have := List.cons.inj hr
        exact this
      rw [List.length_cons] at hk
      have hd2 : w.drop (k + 1) = rest := by
        rw [← List.drop_drop, hd]
        rfl
      rw [prs_cons] at hl
      refine ⟨_, _, rfl, ?_⟩
      unfold b__law_pairs_1
      have inl : ∀ (hh : Hh) (s : List Nat) (ch : Nat), opIn (.str [ch]) (.ref hh.length) (hh ++ [AO.lst (s.map fun ch => .str [ch])]) = some (.bl (decide (ch ∈ s)), hh ++ [AO.lst (s.map fun ch => .str [ch])]) := fun hh s ch => by
        unfold opIn inB
        have e1 : dicOf (hh ++ [AO.lst (s.map fun ch => AV.str [ch])]) (.ref hh.length) = none := by unfold dicOf; simp only [get_new]
        have e2 : rdL (hh ++ [AO.lst (s.map fun ch => AV.str [ch])]) (.ref hh.length) = some (s.map fun ch => AV.str [ch]) := by rw [rdL_ref, get_new]
        have e3 : ((s.map fun ch => AV.str [ch]).all flatA) = true := by rw [List.all_eq_true]; intro x hx; obtain ⟨y, _, rfl⟩ := List.mem_map.mp hx; rfl
        have e4 : flatA (.str [ch]) = true := rfl
        have e5 : ((s.map fun ch => AV.str [ch]).any fun z => eqF z (.str [ch])) = decide (ch ∈ s) := by
          rw [List.any_map]
          have : ∀ y : Nat, (eqF (AV.str [y]) (.str [ch])) = decide (y = ch) := fun y => by
            show (([y] : List Nat) == [ch]) = _
            by_cases q : y = ch
            · subst q; simp
            · simp [q]
          rw [show (fun z => eqF z (AV.str [ch])) ∘ (fun ch => AV.str [ch]) = fun y => decide (y = ch) from funext fun y => this y]
          by_cases q : ch ∈ s
          · rw [decide_eq_true q, List.any_eq_true]; exact ⟨ch, q, by simp⟩
          · rw [decide_eq_false q, List.any_eq_false]; intro y hy; simp; exact fun z => q (z ▸ hy)
        simp only [e1, e2, e3, e4, e5]
        rfl
      have il : ∀ (hh : Hh), opIn (.str [c]) (.ref hh.length) (hh ++ [AO.lst [AV.str [40], .str [91], .str [123]]]) = some (.bl (opnB c), hh ++ [AO.lst [AV.str [40], .str [91], .str [123]]]) := fun hh => inl hh [40, 91, 123] c
      simp (decide := true) only [wp_seq', wp_if, wp_B, wp_bin, wp_un, wp_b1, wp_set, wp_ret, wp_expr, wp_skip, wp_break, wp_cont, wp_par, wp_asg, wp_for, wp_nil, wp_cons, wp_tup, wp_lst, wp_andV, wp_orV, wp_notV, wp_and, wp_or, wp_not, wp_ifE, wp_yes, var0, varS, evC, wp_ok, wps_nx, wps_rt, wps_bk, wps_ct, wp_call, wp_callK, wp_meth, wp_iter, wp_enum, wp_slice, wp_no, wp_some, wp_isi, wp_lc, wp_range1, wp_chain, of_some, wpO_some, add_ii, add_ss, iadd_ii, iadd_ss, sub_ii, mul_ii, div_ii, mod_ii, pow_ii, neg_i, eq_ii, eq_ss, eq_bb, ne_ii, ne_ss, ne_bb, lt_ii, le_ii, gt_ii, ge_ii, sindex_at, is_non, isNot_non, listA_s, listA_ref, ix_s, ix_con, ix_ref, ixO_lst, ixO_tup, ixO_rol, at0, at1, at2, len_s, len_scr, rdL_ref, rdT_ref, rdL_scr, ty_ref, ty_str, tyOf_s, tyOf_i, tyOf_b, tyOf_n, tyOf_ref, in_ss, notIn_ss, in_con, notIn_con, cut_s, cut_scr, cut_ref, src_s, src_ref, enum_s, enum_ref, chk_nil, gn, gt2, gt1, gs_nil, gs_cons, gsub, max_ii, min_ii, int_b, int_i, List.map_cons, List.map_nil, List.length_cons, List.length_nil, List.replicate, List.cons_append, List.nil_append, List.set_cons_succ, List.set_cons_zero, Option.map_some, Option.map_none, Option.isSome_some, AV.bl.injEq, AV.int.injEq, AV.str.injEq, Option.some.injEq, exists_eq_left', exists_eq_left, if_true, true_and, and_true, and_self, Bool.and_self, get_new, wipeA, List.any_cons, List.any_nil, Bool.or_false, Bool.or_true, Bool.true_or, Bool.false_or, Bool.not_true, Bool.not_false, if_false, Bool.false_eq_true, not_false_eq_true, il]
      have more : ∀ {cs' : List Nat} {hh : Hh}, opnB c = false → run cs' rest = some [] → (∀ c ∈ cs', isClo c) → hh = h ++ [AO.lst [AV.str [40], .str [91], .str [123]]] → ∃ (rest_1 : List Nat) (k_1 : Nat) (xs : List AV) (l : List (Nat × Nat)) (cs : List Nat) (t2 t3 t4_1 t5_1 t6_1 : Option AV), pairsFrom (k + 1) (rest.map fun ch => AV.str [ch]) = pairsFrom k_1 (rest_1.map fun ch => AV.str [ch]) ∧ [some (AV.str w), some (.ref h0.length), some (.int (k : Nat)), some (.str [c]), t4, t5, t6] = [some (AV.str w), some (.ref h0.length), t2, t3, t4_1, t5_1, t6_1] ∧ w.drop k_1 = rest_1 ∧ k_1 + rest_1.length = w.length ∧ hh[h0.length]? = some (.lst xs) ∧ Kp [] h0 hh ∧ RpL hh (l.map pD) xs ∧ l ++ prs k_1 rest_1 = prs 0 w ∧ run cs rest_1 = some [] ∧ (∀ c ∈ cs, isClo c) ∧ xs.length ≤ k_1 := fun {cs' hh} ho hr hc eh => by
        rw [if_neg (by rw [ho]; exact Bool.false_ne_true)] at hl
        subst eh
        exact ⟨rest, k + 1, xs, l, cs', _, _, _, _, _, rfl, rfl, hd2, by omega, getElem?_pre e, kp.app _, RpL.kp (Kp.rfl'.app _) rp, hl, hr, hc, by omega⟩
      rcases run_step hrun hcc with ⟨h1, h2, h3, tt, ht, hr2⟩ | ⟨h1, h2, h3, hr2⟩ | ⟨h1, h2, h3, cs', rfl, hr2⟩
      · rw [if_pos h1] at hl
        simp (decide := true) only [wp_seq', wp_if, wp_B, wp_bin, wp_un, wp_b1, wp_set, wp_ret, wp_expr, wp_skip, wp_break, wp_cont, wp_par, wp_asg, wp_for, wp_nil, wp_cons, wp_tup, wp_lst, wp_andV, wp_orV, wp_notV, wp_and, wp_or, wp_not, wp_ifE, wp_yes, var0, varS, evC, wp_ok, wps_nx, wps_rt, wps_bk, wps_ct, wp_call, wp_callK, wp_meth, wp_iter, wp_enum, wp_slice, wp_no, wp_some, wp_isi, wp_lc, wp_range1, wp_chain, of_some, wpO_some, add_ii, add_ss, iadd_ii, iadd_ss, sub_ii, mul_ii, div_ii, mod_ii, pow_ii, neg_i, eq_ii, eq_ss, eq_bb, ne_ii, ne_ss, ne_bb, lt_ii, le_ii, gt_ii, ge_ii, sindex_at, is_non, isNot_non, listA_s, listA_ref, ix_s, ix_con, ix_ref, ixO_lst, ixO_tup, ixO_rol, at0, at1, at2, len_s, len_scr, rdL_ref, rdT_ref, rdL_scr, ty_ref, ty_str, tyOf_s, tyOf_i, tyOf_b, tyOf_n, tyOf_ref, in_ss, notIn_ss, in_con, notIn_con, cut_s, cut_scr, cut_ref, src_s, src_ref, enum_s, enum_ref, chk_nil, gn, gt2, gt1, gs_nil, gs_cons, gsub, max_ii, min_ii, int_b, int_i, List.map_cons, List.map_nil, List.length_cons, List.length_nil, List.replicate, List.cons_append, List.nil_append, List.set_cons_succ, List.set_cons_zero, Option.map_some, Option.map_none, Option.isSome_some, AV.bl.injEq, AV.int.injEq, AV.str.injEq, Option.some.injEq, exists_eq_left', exists_eq_left, if_true, true_and, and_true, and_self, Bool.and_self, get_new, wipeA, List.any_cons, List.any_nil, Bool.or_false, Bool.or_true, Bool.true_or, Bool.false_or, Bool.not_true, Bool.not_false, if_false, Bool.false_eq_true, not_false_eq_true, h1]
        have hcc2 : ∀ x ∈ tt :: cs, isClo x := fun x hx => by
          rcases List.mem_cons.mp hx with rfl | hx
          · exact ht
          · exact hcc x hx
        refine while_wp (fun m sl h' => ∃ (d L : Nat) (suf cs' : List Nat) (t6 : Option AV), sl = [some (.str w), some (.ref h0.length), some (.int (k : Nat)), some (.str [c]), some (.int (d : Nat)), some (.int (L : Nat)), t6] ∧ w.drop (L + 1) = suf ∧ m = suf.length ∧ Kp [] h h' ∧ ((0 < d ∧ k + 1 + closeOff 1 rest = L + 1 + closeOff d suf ∧ run cs' suf = some [] ∧ d ≤ cs'.length ∧ ∀ c ∈ cs', isClo c) ∨ (d = 0 ∧ L = k + 1 + closeOff 1 rest))) ?_ 100000 rest.length _ _ (by omega) ⟨1, k, rest, tt :: cs, t6, rfl, hd2, rfl, Kp.rfl'.app _, .inl ⟨by omega, rfl, hr2, by simp, hcc2⟩⟩
        rintro m sl h' ⟨d, L, suf, cs', t6, rfl, hsuf, rfl, kp', hor⟩
        simp (decide := true) only [wp_seq', wp_if, wp_B, wp_bin, wp_un, wp_b1, wp_set, wp_ret, wp_expr, wp_skip, wp_break, wp_cont, wp_par, wp_asg, wp_for, wp_nil, wp_cons, wp_tup, wp_lst, wp_andV, wp_orV, wp_notV, wp_and, wp_or, wp_not, wp_ifE, wp_yes, var0, varS, evC, wp_ok, wps_nx, wps_rt, wps_bk, wps_ct, wp_call, wp_callK, wp_meth, wp_iter, wp_enum, wp_slice, wp_no, wp_some, wp_isi, wp_lc, wp_range1, wp_chain, of_some, wpO_some, add_ii, add_ss, iadd_ii, iadd_ss, sub_ii, mul_ii, div_ii, mod_ii, pow_ii, neg_i, eq_ii, eq_ss, eq_bb, ne_ii, ne_ss, ne_bb, lt_ii, le_ii, gt_ii, ge_ii, sindex_at, is_non, isNot_non, listA_s, listA_ref, ix_s, ix_con, ix_ref, ixO_lst, ixO_tup, ixO_rol, at0, at1, at2, len_s, len_scr, rdL_ref, rdT_ref, rdL_scr, ty_ref, ty_str, tyOf_s, tyOf_i, tyOf_b, tyOf_n, tyOf_ref, in_ss, notIn_ss, in_con, notIn_con, cut_s, cut_scr, cut_ref, src_s, src_ref, enum_s, enum_ref, chk_nil, gn, gt2, gt1, gs_nil, gs_cons, gsub, max_ii, min_ii, int_b, int_i, List.map_cons, List.map_nil, List.length_cons, List.length_nil, List.replicate, List.cons_append, List.nil_append, List.set_cons_succ, List.set_cons_zero, Option.map_some, Option.map_none, Option.isSome_some, AV.bl.injEq, AV.int.injEq, AV.str.injEq, Option.some.injEq, exists_eq_left', exists_eq_left, if_true, true_and, and_true, and_self, Bool.and_self, get_new, wipeA, List.any_cons, List.any_nil, Bool.or_false, Bool.or_true, Bool.true_or, Bool.false_or, Bool.not_true, Bool.not_false, if_false, Bool.false_eq_true, not_false_eq_true]
        rcases hor with ⟨hd0, hcl, hrs, hdl, hcs'⟩ | ⟨rfl, rfl⟩
        · rw [if_pos (decide_eq_true (by omega))]
          cases suf with
          | nil =>
            have : cs' = [] := by simpa [run] using hrs
            subst this
            simp at hdl
            omega
          | cons c2 suf =>
            have hw2 : w[L + 1]? = some c2 := by
              have := congrArg (fun z => z[0]?) hsuf
              simpa [List.getElem?_drop] using this
            have a2 : atA w ((L : Int) + 1) = some c2 := by
              rw [show (L : Int) + 1 = ((L + 1 : Nat) : Int) by omega]
              exact atA_nat hw2
            have hs2 : w.drop (L + 1 + 1) = suf := by
              rw [← List.drop_drop, hsuf]
              rfl
            have io : ∀ (hh : Hh), opIn (.str [c2]) (.ref hh.length) (hh ++ [AO.lst [AV.str [40], .str [91], .str [123]]]) = some (.bl (opnB c2), hh ++ [AO.lst [AV.str [40], .str [91], .str [123]]]) := fun hh => inl hh [40, 91, 123] c2
            have ic : ∀ (hh : Hh), opIn (.str [c2]) (.ref hh.length) (hh ++ [AO.lst [AV.str [41], .str [93], .str [125]]]) = some (.bl (cloB c2), hh ++ [AO.lst [AV.str [41], .str [93], .str [125]]]) := fun hh => inl hh [41, 93, 125] c2
            simp (decide := true) only [wp_seq', wp_if, wp_B, wp_bin, wp_un, wp_b1, wp_set, wp_ret, wp_expr, wp_skip, wp_break, wp_cont, wp_par, wp_asg, wp_for, wp_nil, wp_cons, wp_tup, wp_lst, wp_andV, wp_orV, wp_notV, wp_and, wp_or, wp_not, wp_ifE, wp_yes, var0, varS, evC, wp_ok, wps_nx, wps_rt, wps_bk, wps_ct, wp_call, wp_callK, wp_meth, wp_iter, wp_enum, wp_slice, wp_no, wp_some, wp_isi, wp_lc, wp_range1, wp_chain, of_some, wpO_some, add_ii, add_ss, iadd_ii, iadd_ss, sub_ii, mul_ii, div_ii, mod_ii, pow_ii, neg_i, eq_ii, eq_ss, eq_bb, ne_ii, ne_ss, ne_bb, lt_ii, le_ii, gt_ii, ge_ii, sindex_at, is_non, isNot_non, listA_s, listA_ref, ix_s, ix_con, ix_ref, ixO_lst, ixO_tup, ixO_rol, at0, at1, at2, len_s, len_scr, rdL_ref, rdT_ref, rdL_scr, ty_ref, ty_str, tyOf_s, tyOf_i, tyOf_b, tyOf_n, tyOf_ref, in_ss, notIn_ss, in_con, notIn_con, cut_s, cut_scr, cut_ref, src_s, src_ref, enum_s, enum_ref, chk_nil, gn, gt2, gt1, gs_nil, gs_cons, gsub, max_ii, min_ii, int_b, int_i, List.map_cons, List.map_nil, List.length_cons, List.length_nil, List.replicate, List.cons_append, List.nil_append, List.set_cons_succ, List.set_cons_zero, Option.map_some, Option.map_none, Option.isSome_some, AV.bl.injEq, AV.int.injEq, AV.str.injEq, Option.some.injEq, exists_eq_left', exists_eq_left, if_true, true_and, and_true, and_self, Bool.and_self, get_new, wipeA, List.any_cons, List.any_nil, Bool.or_false, Bool.or_true, Bool.true_or, Bool.false_or, Bool.not_true, Bool.not_false, if_false, Bool.false_eq_true, not_false_eq_true, if_pos (line_big (show w.length ≤ 10000000 by omega)), a2, io, ic]
            have go : ∀ (d' : Nat) (cs2 : List Nat) (q : Int), q = (d' : Int) → ((0 < d' ∧ k + 1 + closeOff 1 rest = L + 1 + 1 + closeOff d' suf ∧ run cs2 suf = some [] ∧ d' ≤ cs2.length ∧ ∀ c ∈ cs2, isClo c) ∨ (d' = 0 ∧ L + 1 = k + 1 + closeOff 1 rest)) → ∃ k' : Nat, k' < suf.length + 1 ∧ ∃ (d_1 L_1 : Nat) (suf_1 cs' : List Nat) (t6 : Option AV), [some (AV.str w), some (.ref h0.length), some (.int (k : Nat)), some (.str [c]), some (.int q), some (.int ((L : Int) + 1)), some (AV.str [c2])] = [some (.str w), some (.ref h0.length), some (.int (k : Nat)), some (.str [c]), some (.int (d_1 : Nat)), some (.int (L_1 : Nat)), t6] ∧ w.drop (L_1 + 1) = suf_1 ∧ k' = suf_1.length ∧ Kp [] h (h' ++ [AO.lst [AV.str [40], .str [91], .str [123]]] ++ [AO.lst [AV.str [41], .str [93], .str [125]]]) ∧ ((0 < d_1 ∧ k + 1 + closeOff 1 rest = L_1 + 1 + closeOff d_1 suf_1 ∧ run cs' suf_1 = some [] ∧ d_1 ≤ cs'.length ∧ ∀ c ∈ cs', isClo c) ∨ (d_1 = 0 ∧ L_1 = k + 1 + closeOff 1 rest)) := fun d' cs2 q hq hor =>
              ⟨suf.length, by omega, d', L + 1, suf, cs2, some (AV.str [c2]), by subst hq; rfl, hs2, rfl, (kp'.app _).app _, hor⟩
            rw [closeOff_cons] at hcl
            rcases run_step hrs hcs' with ⟨g1, g2, g3, t3, ht3, hr3⟩ | ⟨g1, g2, g3, hr3⟩ | ⟨g1, g2, g3, cs3, rfl, hr3⟩
            · rw [if_pos g1] at hcl
              refine go (d + 1) (t3 :: cs') _ (by rw [g1, g2]; simp) (.inl ⟨by omega, by omega, hr3, by simp; omega, fun x hx => ?_⟩)
              rcases List.mem_cons.mp hx with rfl | hx
              · exact ht3
              · exact hcs' x hx
            · rw [g1, g2] at hcl
              simp at hcl
              exact go d cs' _ (by rw [g1, g2]; simp) (.inl ⟨hd0, by omega, hr3, hdl, hcs'⟩)
            · rw [g1, g2] at hcl
              simp at hcl
              simp at hdl
              refine go (d - 1) cs3 _ (by rw [g1, g2]; simp; omega) ?_
              by_cases hd1 : d ≤ 1
              · rw [if_pos hd1] at hcl
                exact .inr ⟨by omega, by omega⟩
              · rw [if_neg hd1] at hcl
                exact .inl ⟨by omega, by omega, hr3, by omega, fun x hx => hcs' x (List.mem_cons_of_mem _ hx)⟩
        · rw [if_neg (by simp)]
          have e' := kp'.get0 e
          have e2 : (h' ++ [AO.tup [AV.int (k : Nat), .int ((k + 1 + closeOff 1 rest : Nat) : Int)]])[h0.length]? = some (.lst xs) := getElem?_pre e'
          simp (decide := true) only [wp_seq', wp_if, wp_B, wp_bin, wp_un, wp_b1, wp_set, wp_ret, wp_expr, wp_skip, wp_break, wp_cont, wp_par, wp_asg, wp_for, wp_nil, wp_cons, wp_tup, wp_lst, wp_andV, wp_orV, wp_notV, wp_and, wp_or, wp_not, wp_ifE, wp_yes, var0, varS, evC, wp_ok, wps_nx, wps_rt, wps_bk, wps_ct, wp_call, wp_callK, wp_meth, wp_iter, wp_enum, wp_slice, wp_no, wp_some, wp_isi, wp_lc, wp_range1, wp_chain, of_some, wpO_some, add_ii, add_ss, iadd_ii, iadd_ss, sub_ii, mul_ii, div_ii, mod_ii, pow_ii, neg_i, eq_ii, eq_ss, eq_bb, ne_ii, ne_ss, ne_bb, lt_ii, le_ii, gt_ii, ge_ii, sindex_at, is_non, isNot_non, listA_s, listA_ref, ix_s, ix_con, ix_ref, ixO_lst, ixO_tup, ixO_rol, at0, at1, at2, len_s, len_scr, rdL_ref, rdT_ref, rdL_scr, ty_ref, ty_str, tyOf_s, tyOf_i, tyOf_b, tyOf_n, tyOf_ref, in_ss, notIn_ss, in_con, notIn_con, cut_s, cut_scr, cut_ref, src_s, src_ref, enum_s, enum_ref, chk_nil, gn, gt2, gt1, gs_nil, gs_cons, gsub, max_ii, min_ii, int_b, int_i, List.map_cons, List.map_nil, List.length_cons, List.length_nil, List.replicate, List.cons_append, List.nil_append, List.set_cons_succ, List.set_cons_zero, Option.map_some, Option.map_none, Option.isSome_some, AV.bl.injEq, AV.int.injEq, AV.str.injEq, Option.some.injEq, exists_eq_left', exists_eq_left, if_true, true_and, and_true, and_self, Bool.and_self, get_new, wipeA, List.any_cons, List.any_nil, Bool.or_false, Bool.or_true, Bool.true_or, Bool.false_or, Bool.not_true, Bool.not_false, if_false, Bool.false_eq_true, not_false_eq_true, e', e2, append_at e2, if_pos (show xs.length < LINE from Nat.lt_of_le_of_lt (show xs.length ≤ 1000000 by omega) (by decide))]
          refine ⟨rest, k + 1, xs ++ [.ref h'.length], l ++ [(k, k + 1 + closeOff 1 rest)], tt :: cs, _, _, _, _, _, rfl, rfl, hd2, by omega, get_set_eq e2, ((kp.trans0 kp').app _).set (.inr (Nat.le_refl _)) _, ?_, by rw [List.append_assoc]; exact hl, hr2, hcc2, by simp only [List.length_append, List.length_cons, List.length_nil]; omega⟩
          rw [List.map_append]
          exact RpL.kpT (KpT.set e2) (noLs_app (noL_pD _) rfl) ((RpL.kp (kp'.app _) rp).app (RpL.cons (Rp.tup (get_new _ _) (RpL.cons Rp.int (RpL.cons Rp.int RpL.nil))) RpL.nil))
      · simp (decide := true) only [wp_seq', wp_if, wp_B, wp_bin, wp_un, wp_b1, wp_set, wp_ret, wp_expr, wp_skip, wp_break, wp_cont, wp_par, wp_asg, wp_for, wp_nil, wp_cons, wp_tup, wp_lst, wp_andV, wp_orV, wp_notV, wp_and, wp_or, wp_not, wp_ifE, wp_yes, var0, varS, evC, wp_ok, wps_nx, wps_rt, wps_bk, wps_ct, wp_call, wp_callK, wp_meth, wp_iter, wp_enum, wp_slice, wp_no, wp_some, wp_isi, wp_lc, wp_range1, wp_chain, of_some, wpO_some, add_ii, add_ss, iadd_ii, iadd_ss, sub_ii, mul_ii, div_ii, mod_ii, pow_ii, neg_i, eq_ii, eq_ss, eq_bb, ne_ii, ne_ss, ne_bb, lt_ii, le_ii, gt_ii, ge_ii, sindex_at, is_non, isNot_non, listA_s, listA_ref, ix_s, ix_con, ix_ref, ixO_lst, ixO_tup, ixO_rol, at0, at1, at2, len_s, len_scr, rdL_ref, rdT_ref, rdL_scr, ty_ref, ty_str, tyOf_s, tyOf_i, tyOf_b, tyOf_n, tyOf_ref, in_ss, notIn_ss, in_con, notIn_con, cut_s, cut_scr, cut_ref, src_s, src_ref, enum_s, enum_ref, chk_nil, gn, gt2, gt1, gs_nil, gs_cons, gsub, max_ii, min_ii, int_b, int_i, List.map_cons, List.map_nil, List.length_cons, List.length_nil, List.replicate, List.cons_append, List.nil_append, List.set_cons_succ, List.set_cons_zero, Option.map_some, Option.map_none, Option.isSome_some, AV.bl.injEq, AV.int.injEq, AV.str.injEq, Option.some.injEq, exists_eq_left', exists_eq_left, if_true, true_and, and_true, and_self, Bool.and_self, get_new, wipeA, List.any_cons, List.any_nil, Bool.or_false, Bool.or_true, Bool.true_or, Bool.false_or, Bool.not_true, Bool.not_false, if_false, Bool.false_eq_true, not_false_eq_true, h1]
        exact more h1 hr2 hcc rfl
      · simp (decide := true) only [wp_seq', wp_if, wp_B, wp_bin, wp_un, wp_b1, wp_set, wp_ret, wp_expr, wp_skip, wp_break, wp_cont, wp_par, wp_asg, wp_for, wp_nil, wp_cons, wp_tup, wp_lst, wp_andV, wp_orV, wp_notV, wp_and, wp_or, wp_not, wp_ifE, wp_yes, var0, varS, evC, wp_ok, wps_nx, wps_rt, wps_bk, wps_ct, wp_call, wp_callK, wp_meth, wp_iter, wp_enum, wp_slice, wp_no, wp_some, wp_isi, wp_lc, wp_range1, wp_chain, of_some, wpO_some, add_ii, add_ss, iadd_ii, iadd_ss, sub_ii, mul_ii, div_ii, mod_ii, pow_ii, neg_i, eq_ii, eq_ss, eq_bb, ne_ii, ne_ss, ne_bb, lt_ii, le_ii, gt_ii, ge_ii, sindex_at, is_non, isNot_non, listA_s, listA_ref, ix_s, ix_con, ix_ref, ixO_lst, ixO_tup, ixO_rol, at0, at1, at2, len_s, len_scr, rdL_ref, rdT_ref, rdL_scr, ty_ref, ty_str, tyOf_s, tyOf_i, tyOf_b, tyOf_n, tyOf_ref, in_ss, notIn_ss, in_con, notIn_con, cut_s, cut_scr, cut_ref, src_s, src_ref, enum_s, enum_ref, chk_nil, gn, gt2, gt1, gs_nil, gs_cons, gsub, max_ii, min_ii, int_b, int_i, List.map_cons, List.map_nil, List.length_cons, List.length_nil, List.replicate, List.cons_append, List.nil_append, List.set_cons_succ, List.set_cons_zero, Option.map_some, Option.map_none, Option.isSome_some, AV.bl.injEq, AV.int.injEq, AV.str.injEq, Option.some.injEq, exists_eq_left', exists_eq_left, if_true, true_and, and_true, and_self, Bool.and_self, get_new, wipeA, List.any_cons, List.any_nil, Bool.or_false, Bool.or_true, Bool.true_or, Bool.false_or, Bool.not_true, Bool.not_false, if_false, Bool.false_eq_true, not_false_eq_true, h1]
        exact more h1 hr2 (fun x hx => hcc x (List.mem_cons_of_mem _ hx)) rfl
theorem lenTup {h : Hh} {n : Nat} {xs : List AV} (e : h[n]? = some (.tup xs)) : bLen [.ref n] h = some (.int xs.length, h) := by unfold bLen; simp [e]
theorem mem_deps : ∀ {ds : List D} {d : D}, d ∈ ds → d.dep ≤ D.deps ds
  | x :: xs, d, h => by
    show d.dep ≤ max x.dep (D.deps xs)
    rcases List.mem_cons.mp h with rfl | h
    · omega
    · have := mem_deps h; omega
theorem mem_lims : ∀ {ds : List D} {d : D}, D.lims ds = true → d ∈ ds → d.lim = true
  | x :: xs, d, hl, h => by
    obtain ⟨h1, h2⟩ := lims_cons hl
    rcases List.mem_cons.mp h with rfl | h
    · exact h1
    · exact mem_lims h2 h
/-- the law's comparison of the same data -/
theorem wA_equal : ∀ (n : Nat) (d : D) (h : Hh) (v u : AV), d.dep < n → d.lim = true → Rp h d v → Rp h d u → Wp (m__law_equal n [v, u] h) fun r h' => r = .bl true ∧ Kp [] h h'
  | 0, _, _, _, _, hd, _, _, _ => by omega
  | n + 1, d, h, v, u, hd, hlim, rv, ru => by
    unfold m__law_equal
    apply fn_wp
    unfold b__law_equal
    have tv := isTyD rv
    have tu := isTyD ru
    cases d with
    | non =>
      rw [show v = AV.non from by simpa only [Rp] using rv, show u = AV.non from by simpa only [Rp] using ru]
      have : opEq .non .non h = some (.bl true, h) := rfl
      simp (decide := true) only [wp_seq', wp_if, wp_B, wp_bin, wp_un, wp_b1, wp_set, wp_ret, wp_expr, wp_skip, wp_break, wp_cont, wp_par, wp_asg, wp_for, wp_nil, wp_cons, wp_tup, wp_lst, wp_andV, wp_orV, wp_notV, wp_and, wp_or, wp_not, wp_ifE, wp_yes, var0, varS, evC, wp_ok, wps_nx, wps_rt, wps_bk, wps_ct, wp_call, wp_callK, wp_meth, wp_iter, wp_enum, wp_slice, wp_no, wp_some, wp_isi, wp_lc, wp_range1, wp_chain, of_some, wpO_some, add_ii, add_ss, iadd_ii, iadd_ss, sub_ii, mul_ii, div_ii, mod_ii, pow_ii, neg_i, eq_ii, eq_ss, eq_bb, ne_ii, ne_ss, ne_bb, lt_ii, le_ii, gt_ii, ge_ii, sindex_at, is_non, isNot_non, listA_s, listA_ref, ix_s, ix_con, ix_ref, ixO_lst, ixO_tup, ixO_rol, at0, at1, at2, len_s, len_scr, rdL_ref, rdT_ref, rdL_scr, ty_ref, ty_str, tyOf_s, tyOf_i, tyOf_b, tyOf_n, tyOf_ref, in_ss, notIn_ss, in_con, notIn_con, cut_s, cut_scr, cut_ref, src_s, src_ref, enum_s, enum_ref, chk_nil, gn, gt2, gt1, gs_nil, gs_cons, gsub, max_ii, min_ii, int_b, int_i, List.map_cons, List.map_nil, List.length_cons, List.length_nil, List.replicate, List.cons_append, List.nil_append, List.set_cons_succ, List.set_cons_zero, Option.map_some, Option.map_none, Option.isSome_some, AV.bl.injEq, AV.int.injEq, AV.str.injEq, Option.some.injEq, exists_eq_left', exists_eq_left, if_true, true_and, and_true, and_self, Bool.and_self, get_new, wipeA, List.any_cons, List.any_nil, Bool.or_false, Bool.or_true, Bool.true_or, Bool.false_or, Bool.not_true, Bool.not_false, if_false, Bool.false_eq_true, not_false_eq_true, this, show (Ty.sub .non .list) = false from rfl, show (Ty.sub .non .tuple) = false from rfl, show (Ty.sub .non .bool) = false from rfl, show (Ty.sub .non .str) = false from rfl, show decide (AV.non = AV.non) = true from rfl, show ((false : Bool) == false) = true from rfl]
      exact Kp.rfl'
    | bl b =>
      rw [show v = AV.bl b from by simpa only [Rp] using rv, show u = AV.bl b from by simpa only [Rp] using ru]
      simp (decide := true) only [wp_seq', wp_if, wp_B, wp_bin, wp_un, wp_b1, wp_set, wp_ret, wp_expr, wp_skip, wp_break, wp_cont, wp_par, wp_asg, wp_for, wp_nil, wp_cons, wp_tup, wp_lst, wp_andV, wp_orV, wp_notV, wp_and, wp_or, wp_not, wp_ifE, wp_yes, var0, varS, evC, wp_ok, wps_nx, wps_rt, wps_bk, wps_ct, wp_call, wp_callK, wp_meth, wp_iter, wp_enum, wp_slice, wp_no, wp_some, wp_isi, wp_lc, wp_range1, wp_chain, of_some, wpO_some, add_ii, add_ss, iadd_ii, iadd_ss, sub_ii, mul_ii, div_ii, mod_ii, pow_ii, neg_i, eq_ii, eq_ss, eq_bb, ne_ii, ne_ss, ne_bb, lt_ii, le_ii, gt_ii, ge_ii, sindex_at, is_non, isNot_non, listA_s, listA_ref, ix_s, ix_con, ix_ref, ixO_lst, ixO_tup, ixO_rol, at0, at1, at2, len_s, len_scr, rdL_ref, rdT_ref, rdL_scr, ty_ref, ty_str, tyOf_s, tyOf_i, tyOf_b, tyOf_n, tyOf_ref, in_ss, notIn_ss, in_con, notIn_con, cut_s, cut_scr, cut_ref, src_s, src_ref, enum_s, enum_ref, chk_nil, gn, gt2, gt1, gs_nil, gs_cons, gsub, max_ii, min_ii, int_b, int_i, List.map_cons, List.map_nil, List.length_cons, List.length_nil, List.replicate, List.cons_append, List.nil_append, List.set_cons_succ, List.set_cons_zero, Option.map_some, Option.map_none, Option.isSome_some, AV.bl.injEq, AV.int.injEq, AV.str.injEq, Option.some.injEq, exists_eq_left', exists_eq_left, if_true, true_and, and_true, and_self, Bool.and_self, get_new, wipeA, List.any_cons, List.any_nil, Bool.or_false, Bool.or_true, Bool.true_or, Bool.false_or, Bool.not_true, Bool.not_false, if_false, Bool.false_eq_true, not_false_eq_true, show (Ty.sub .bool .list) = false from rfl, show (Ty.sub .bool .tuple) = false from rfl, show (Ty.sub .bool .bool) = true from rfl, show ((true : Bool) == true) = true from rfl, beq_self_eq_true]
      exact Kp.rfl'
    | int b =>
      rw [show v = AV.int b from by simpa only [Rp] using rv, show u = AV.int b from by simpa only [Rp] using ru]
      simp (decide := true) only [wp_seq', wp_if, wp_B, wp_bin, wp_un, wp_b1, wp_set, wp_ret, wp_expr, wp_skip, wp_break, wp_cont, wp_par, wp_asg, wp_for, wp_nil, wp_cons, wp_tup, wp_lst, wp_andV, wp_orV, wp_notV, wp_and, wp_or, wp_not, wp_ifE, wp_yes, var0, varS, evC, wp_ok, wps_nx, wps_rt, wps_bk, wps_ct, wp_call, wp_callK, wp_meth, wp_iter, wp_enum, wp_slice, wp_no, wp_some, wp_isi, wp_lc, wp_range1, wp_chain, of_some, wpO_some, add_ii, add_ss, iadd_ii, iadd_ss, sub_ii, mul_ii, div_ii, mod_ii, pow_ii, neg_i, eq_ii, eq_ss, eq_bb, ne_ii, ne_ss, ne_bb, lt_ii, le_ii, gt_ii, ge_ii, sindex_at, is_non, isNot_non, listA_s, listA_ref, ix_s, ix_con, ix_ref, ixO_lst, ixO_tup, ixO_rol, at0, at1, at2, len_s, len_scr, rdL_ref, rdT_ref, rdL_scr, ty_ref, ty_str, tyOf_s, tyOf_i, tyOf_b, tyOf_n, tyOf_ref, in_ss, notIn_ss, in_con, notIn_con, cut_s, cut_scr, cut_ref, src_s, src_ref, enum_s, enum_ref, chk_nil, gn, gt2, gt1, gs_nil, gs_cons, gsub, max_ii, min_ii, int_b, int_i, List.map_cons, List.map_nil, List.length_cons, List.length_nil, List.replicate, List.cons_append, List.nil_append, List.set_cons_succ, List.set_cons_zero, Option.map_some, Option.map_none, Option.isSome_some, AV.bl.injEq, AV.int.injEq, AV.str.injEq, Option.some.injEq, exists_eq_left', exists_eq_left, if_true, true_and, and_true, and_self, Bool.and_self, get_new, wipeA, List.any_cons, List.any_nil, Bool.or_false, Bool.or_true, Bool.true_or, Bool.false_or, Bool.not_true, Bool.not_false, if_false, Bool.false_eq_true, not_false_eq_true, show (Ty.sub .int .list) = false from rfl, show (Ty.sub .int .tuple) = false from rfl, show (Ty.sub .int .bool) = false from rfl, show (Ty.sub .int .str) = false from rfl, show (Ty.sub .int .int) = true from rfl, show decide (AV.int b = AV.non) = false from rfl, beq_self_eq_true]
      exact Kp.rfl'
    | str b =>
      rw [show v = AV.str b from by simpa only [Rp] using rv, show u = AV.str b from by simpa only [Rp] using ru]
      simp (decide := true) only [wp_seq', wp_if, wp_B, wp_bin, wp_un, wp_b1, wp_set, wp_ret, wp_expr, wp_skip, wp_break, wp_cont, wp_par, wp_asg, wp_for, wp_nil, wp_cons, wp_tup, wp_lst, wp_andV, wp_orV, wp_notV, wp_and, wp_or, wp_not, wp_ifE, wp_yes, var0, varS, evC, wp_ok, wps_nx, wps_rt, wps_bk, wps_ct, wp_call, wp_callK, wp_meth, wp_iter, wp_enum, wp_slice, wp_no, wp_some, wp_isi, wp_lc, wp_range1, wp_chain, of_some, wpO_some, add_ii, add_ss, iadd_ii, iadd_ss, sub_ii, mul_ii, div_ii, mod_ii, pow_ii, neg_i, eq_ii, eq_ss, eq_bb, ne_ii, ne_ss, ne_bb, lt_ii, le_ii, gt_ii, ge_ii, sindex_at, is_non, isNot_non, listA_s, listA_ref, ix_s, ix_con, ix_ref, ixO_lst, ixO_tup, ixO_rol, at0, at1, at2, len_s, len_scr, rdL_ref, rdT_ref, rdL_scr, ty_ref, ty_str, tyOf_s, tyOf_i, tyOf_b, tyOf_n, tyOf_ref, in_ss, notIn_ss, in_con, notIn_con, cut_s, cut_scr, cut_ref, src_s, src_ref, enum_s, enum_ref, chk_nil, gn, gt2, gt1, gs_nil, gs_cons, gsub, max_ii, min_ii, int_b, int_i, List.map_cons, List.map_nil, List.length_cons, List.length_nil, List.replicate, List.cons_append, List.nil_append, List.set_cons_succ, List.set_cons_zero, Option.map_some, Option.map_none, Option.isSome_some, AV.bl.injEq, AV.int.injEq, AV.str.injEq, Option.some.injEq, exists_eq_left', exists_eq_left, if_true, true_and, and_true, and_self, Bool.and_self, get_new, wipeA, List.any_cons, List.any_nil, Bool.or_false, Bool.or_true, Bool.true_or, Bool.false_or, Bool.not_true, Bool.not_false, if_false, Bool.false_eq_true, not_false_eq_true, show (Ty.sub .str .list) = false from rfl, show (Ty.sub .str .tuple) = false from rfl, show (Ty.sub .str .bool) = false from rfl, show (Ty.sub .str .str) = true from rfl, show ((false : Bool) == false) = true from rfl, beq_self_eq_true]
      exact Kp.rfl'
    | lst ds =>
      obtain ⟨p, xs, rfl, ep, rx⟩ := rv.lst_inv
      obtain ⟨q, ys, rfl, eq, ry⟩ := ru.lst_inv
      obtain ⟨l1, l2⟩ := lim_lst hlim
      have hz : ∀ {t : Sl}, mZip (mVar 0) (mVar 1) (some (.ref p) :: some (.ref q) :: t) h = .ok ⟨zipIt xs ys, [(true, .ref p, xs), (true, .ref q, ys)]⟩ h := fun {t} => by
        unfold mZip
        simp only [var0, varS, R.bind, rdL_ref, ep, eq]
      have hdd : D.deps ds < n := by simp only [D.dep] at hd; omega
      simp (decide := true) only [wp_seq', wp_if, wp_B, wp_bin, wp_un, wp_b1, wp_set, wp_ret, wp_expr, wp_skip, wp_break, wp_cont, wp_par, wp_asg, wp_for, wp_nil, wp_cons, wp_tup, wp_lst, wp_andV, wp_orV, wp_notV, wp_and, wp_or, wp_not, wp_ifE, wp_yes, var0, varS, evC, wp_ok, wps_nx, wps_rt, wps_bk, wps_ct, wp_call, wp_callK, wp_meth, wp_iter, wp_enum, wp_slice, wp_no, wp_some, wp_isi, wp_lc, wp_range1, wp_chain, of_some, wpO_some, add_ii, add_ss, iadd_ii, iadd_ss, sub_ii, mul_ii, div_ii, mod_ii, pow_ii, neg_i, eq_ii, eq_ss, eq_bb, ne_ii, ne_ss, ne_bb, lt_ii, le_ii, gt_ii, ge_ii, sindex_at, is_non, isNot_non, listA_s, listA_ref, ix_s, ix_con, ix_ref, ixO_lst, ixO_tup, ixO_rol, at0, at1, at2, len_s, len_scr, rdL_ref, rdT_ref, rdL_scr, ty_ref, ty_str, tyOf_s, tyOf_i, tyOf_b, tyOf_n, tyOf_ref, in_ss, notIn_ss, in_con, notIn_con, cut_s, cut_scr, cut_ref, src_s, src_ref, enum_s, enum_ref, chk_nil, gn, gt2, gt1, gs_nil, gs_cons, gsub, max_ii, min_ii, int_b, int_i, List.map_cons, List.map_nil, List.length_cons, List.length_nil, List.replicate, List.cons_append, List.nil_append, List.set_cons_succ, List.set_cons_zero, Option.map_some, Option.map_none, Option.isSome_some, AV.bl.injEq, AV.int.injEq, AV.str.injEq, Option.some.injEq, exists_eq_left', exists_eq_left, if_true, true_and, and_true, and_self, Bool.and_self, get_new, wipeA, List.any_cons, List.any_nil, Bool.or_false, Bool.or_true, Bool.true_or, Bool.false_or, Bool.not_true, Bool.not_false, if_false, Bool.false_eq_true, not_false_eq_true, ep, eq, lenLst ep, lenLst eq, rx.len, ry.len, show (Ty.sub .list .list) = true from rfl, show (Ty.sub .list .tuple) = false from rfl, show ((true : Bool) == true) = true from rfl, beq_self_eq_true, hz]
      refine (zip_loop (ds := ds) l1 (fun h' kp => by simp [chkOk, rdB, kp.get0 ep, kp.get0 eq]) (fun v u => rfl) (fun v u => rfl) (fun d hm h' v u kp r1 r2 => wA_equal n d h' v u (Nat.lt_of_le_of_lt (mem_deps hm) hdd) (mem_lims l2 hm) r1 r2) rx ry).mono fun v h2 ⟨ev, e2, kp2⟩ => ?_
      subst ev
      simp (decide := true) only [wp_seq', wp_if, wp_B, wp_bin, wp_un, wp_b1, wp_set, wp_ret, wp_expr, wp_skip, wp_break, wp_cont, wp_par, wp_asg, wp_for, wp_nil, wp_cons, wp_tup, wp_lst, wp_andV, wp_orV, wp_notV, wp_and, wp_or, wp_not, wp_ifE, wp_yes, var0, varS, evC, wp_ok, wps_nx, wps_rt, wps_bk, wps_ct, wp_call, wp_callK, wp_meth, wp_iter, wp_enum, wp_slice, wp_no, wp_some, wp_isi, wp_lc, wp_range1, wp_chain, of_some, wpO_some, add_ii, add_ss, iadd_ii, iadd_ss, sub_ii, mul_ii, div_ii, mod_ii, pow_ii, neg_i, eq_ii, eq_ss, eq_bb, ne_ii, ne_ss, ne_bb, lt_ii, le_ii, gt_ii, ge_ii, sindex_at, is_non, isNot_non, listA_s, listA_ref, ix_s, ix_con, ix_ref, ixO_lst, ixO_tup, ixO_rol, at0, at1, at2, len_s, len_scr, rdL_ref, rdT_ref, rdL_scr, ty_ref, ty_str, tyOf_s, tyOf_i, tyOf_b, tyOf_n, tyOf_ref, in_ss, notIn_ss, in_con, notIn_con, cut_s, cut_scr, cut_ref, src_s, src_ref, enum_s, enum_ref, chk_nil, gn, gt2, gt1, gs_nil, gs_cons, gsub, max_ii, min_ii, int_b, int_i, List.map_cons, List.map_nil, List.length_cons, List.length_nil, List.replicate, List.cons_append, List.nil_append, List.set_cons_succ, List.set_cons_zero, Option.map_some, Option.map_none, Option.isSome_some, AV.bl.injEq, AV.int.injEq, AV.str.injEq, Option.some.injEq, exists_eq_left', exists_eq_left, if_true, true_and, and_true, and_self, Bool.and_self, get_new, wipeA, List.any_cons, List.any_nil, Bool.or_false, Bool.or_true, Bool.true_or, Bool.false_or, Bool.not_true, Bool.not_false, if_false, Bool.false_eq_true, not_false_eq_true, all_true e2]
      exact kp2
    | tup ds =>
      obtain ⟨p, xs, rfl, ep, rx⟩ := rv.tup_inv
      obtain ⟨q, ys, rfl, eq, ry⟩ := ru.tup_inv
      obtain ⟨l1, l2⟩ := lim_tup hlim
      have hz : ∀ {t : Sl}, mZip (mVar 0) (mVar 1) (some (.ref p) :: some (.ref q) :: t) h = .ok ⟨zipIt xs ys, [(false, .ref p, xs), (false, .ref q, ys)]⟩ h := fun {t} => by
        unfold mZip
        simp only [var0, varS, R.bind, rdL_ref, rdT_ref, ep, eq]
      have hdd : D.deps ds < n := by simp only [D.dep] at hd; omega
      simp (decide := true) only [wp_seq', wp_if, wp_B, wp_bin, wp_un, wp_b1, wp_set, wp_ret, wp_expr, wp_skip, wp_break, wp_cont, wp_par, wp_asg, wp_for, wp_nil, wp_cons, wp_tup, wp_lst, wp_andV, wp_orV, wp_notV, wp_and, wp_or, wp_not, wp_ifE, wp_yes, var0, varS, evC, wp_ok, wps_nx, wps_rt, wps_bk, wps_ct, wp_call, wp_callK, wp_meth, wp_iter, wp_enum, wp_slice, wp_no, wp_some, wp_isi, wp_lc, wp_range1, wp_chain, of_some, wpO_some, add_ii, add_ss, iadd_ii, iadd_ss, sub_ii, mul_ii, div_ii, mod_ii, pow_ii, neg_i, eq_ii, eq_ss, eq_bb, ne_ii, ne_ss, ne_bb, lt_ii, le_ii, gt_ii, ge_ii, sindex_at, is_non, isNot_non, listA_s, listA_ref, ix_s, ix_con, ix_ref, ixO_lst, ixO_tup, ixO_rol, at0, at1, at2, len_s, len_scr, rdL_ref, rdT_ref, rdL_scr, ty_ref, ty_str, tyOf_s, tyOf_i, tyOf_b, tyOf_n, tyOf_ref, in_ss, notIn_ss, in_con, notIn_con, cut_s, cut_scr, cut_ref, src_s, src_ref, enum_s, enum_ref, chk_nil, gn, gt2, gt1, gs_nil, gs_cons, gsub, max_ii, min_ii, int_b, int_i, List.map_cons, List.map_nil, List.length_cons, List.length_nil, List.replicate, List.cons_append, List.nil_append, List.set_cons_succ, List.set_cons_zero, Option.map_some, Option.map_none, Option.isSome_some, AV.bl.injEq, AV.int.injEq, AV.str.injEq, Option.some.injEq, exists_eq_left', exists_eq_left, if_true, true_and, and_true, and_self, Bool.and_self, get_new, wipeA, List.any_cons, List.any_nil, Bool.or_false, Bool.or_true, Bool.true_or, Bool.false_or, Bool.not_true, Bool.not_false, if_false, Bool.false_eq_true, not_false_eq_true, ep, eq, lenTup ep, lenTup eq, rx.len, ry.len, show (Ty.sub .tuple .list) = false from rfl, show (Ty.sub .tuple .tuple) = true from rfl, show ((false : Bool) == false) = true from rfl, beq_self_eq_true, hz]
      refine (zip_loop (ds := ds) l1 (fun h' kp => by simp [chkOk, rdB, kp.get0 ep, kp.get0 eq]) (fun v u => rfl) (fun v u => rfl) (fun d hm h' v u kp r1 r2 => wA_equal n d h' v u (Nat.lt_of_le_of_lt (mem_deps hm) hdd) (mem_lims l2 hm) r1 r2) rx ry).mono fun v h2 ⟨ev, e2, kp2⟩ => ?_
      subst ev
      simp (decide := true) only [wp_seq', wp_if, wp_B, wp_bin, wp_un, wp_b1, wp_set, wp_ret, wp_expr, wp_skip, wp_break, wp_cont, wp_par, wp_asg, wp_for, wp_nil, wp_cons, wp_tup, wp_lst, wp_andV, wp_orV, wp_notV, wp_and, wp_or, wp_not, wp_ifE, wp_yes, var0, varS, evC, wp_ok, wps_nx, wps_rt, wps_bk, wps_ct, wp_call, wp_callK, wp_meth, wp_iter, wp_enum, wp_slice, wp_no, wp_some, wp_isi, wp_lc, wp_range1, wp_chain, of_some, wpO_some, add_ii, add_ss, iadd_ii, iadd_ss, sub_ii, mul_ii, div_ii, mod_ii, pow_ii, neg_i, eq_ii, eq_ss, eq_bb, ne_ii, ne_ss, ne_bb, lt_ii, le_ii, gt_ii, ge_ii, sindex_at, is_non, isNot_non, listA_s, listA_ref, ix_s, ix_con, ix_ref, ixO_lst, ixO_tup, ixO_rol, at0, at1, at2, len_s, len_scr, rdL_ref, rdT_ref, rdL_scr, ty_ref, ty_str, tyOf_s, tyOf_i, tyOf_b, tyOf_n, tyOf_ref, in_ss, notIn_ss, in_con, notIn_con, cut_s, cut_scr, cut_ref, src_s, src_ref, enum_s, enum_ref, chk_nil, gn, gt2, gt1, gs_nil, gs_cons, gsub, max_ii, min_ii, int_b, int_i, List.map_cons, List.map_nil, List.length_cons, List.length_nil, List.replicate, List.cons_append, List.nil_append, List.set_cons_succ, List.set_cons_zero, Option.map_some, Option.map_none, Option.isSome_some, AV.bl.injEq, AV.int.injEq, AV.str.injEq, Option.some.injEq, exists_eq_left', exists_eq_left, if_true, true_and, and_true, and_self, Bool.and_self, get_new, wipeA, List.any_cons, List.any_nil, Bool.or_false, Bool.or_true, Bool.true_or, Bool.false_or, Bool.not_true, Bool.not_false, if_false, Bool.false_eq_true, not_false_eq_true, all_true e2]
      exact kp2
theorem eq_scr_nil {h : Hh} {k : Nat} {ns : List Int} (e : h[k]? = some (.lst [])) : opEq (.scr ns) (.ref k) h = some (.bl (decide (ns = [])), h) := by
  have r2 : Rp h (.lst []) (.ref k) := Rp.lst e RpL.nil
  show (match reify 40 h (.scr ns), reify 40 h (.ref k) with
      | some d, some e => if (d.fine && e.fine) = true then some (D.eqv d e) else none
      | _, _ => none).map (fun b => (AV.bl b, h)) = _
  rw [r2.reify (by decide)]
  have : reify 40 h (.scr ns) = some (.lst (ns.map D.int)) := rfl
  rw [this]
  have f : D.fine (.lst (ns.map D.int)) = true := by unfold D.fine; exact fines_int ns
  simp only [f, show D.fine (.lst []) = true from rfl]
  show some (AV.bl (D.eqvs (ns.map D.int) (([] : List Int).map D.int)), h) = _
  rw [eqvs_int]
theorem add_scr {h : Hh} {k : Nat} {ns ms : List Int} (e : h[k]? = some (.lst (iVs ms))) (hl : ns.length + ms.length ≤ LINE) : opAdd (.scr ns) (.ref k) h = some (.ref h.length, h ++ [.lst (iVs (ns ++ ms))]) := by
  have e3 : rdL h (.ref k) = some (iVs ms) := by simp [e]
  show (match rdL h (.scr ns), rdL h (.ref k) with
    | some xs, some ys => if xs.length + ys.length ≤ LINE then some (AV.ref h.length, h ++ [AO.lst (xs ++ ys)]) else none
    | _, _ => none) = _
  rw [e3]
  simp only [rdL_scr]
  rw [if_pos (by rw [List.length_map, iVs_len]; exact hl)]
  unfold iVs
  rw [List.map_append]
theorem prs_len : ∀ (k : Nat) (w : List Nat), (prs k w).length ≤ w.length
  | _, [] => Nat.le_refl _
  | k, c :: r => by
    rw [prs_cons]
    have := prs_len (k + 1) r
    split <;> simp only [List.length_cons] <;> omega
theorem pD_lim (l : List (Nat × Nat)) (hl : l.length ≤ 1000000) : D.lim (.lst (l.map pD)) = true := by
  show (decide ((l.map pD).length ≤ 1000000) && D.lims (l.map pD)) = true
  rw [decide_eq_true (by rw [List.length_map]; exact hl), lims_mk fun x hx => ?_]
  · rfl
  · obtain ⟨p, _, rfl⟩ := List.mem_map.mp hx
    rfl
theorem pD_dep (l : List (Nat × Nat)) : D.dep (.lst (l.map pD)) ≤ 2 := by
  show D.deps (l.map pD) + 1 ≤ 2
  have := deps_mk (n := 1) (xs := l.map pD) fun x hx => by
    obtain ⟨p, _, rfl⟩ := List.mem_map.mp hx
    exact Nat.le_refl _
  omega
theorem run_deep : ∀ (m : Nat) (cs : List Nat), run cs (List.replicate m [123, 91, 40]).flatten = some ((List.replicate m [41, 93, 125]).flatten ++ cs)
  | 0, cs => rfl
  | m + 1, cs => by
    rw [List.replicate_succ, List.flatten_cons, run_app]
    have : run cs [123, 91, 40] = some ([41, 93, 125] ++ cs) := by simp [run]
    rw [this]
    show run ([41, 93, 125] ++ cs) _ = _
    rw [run_deep m, List.replicate_succ', List.flatten_append]
    simp
theorem bal_deep (m : Nat) : Bal ((List.replicate m [123, 91, 40]).flatten ++ (List.replicate m [41, 93, 125]).flatten) := by
  show run [] _ = some []
  rw [run_app, run_deep, List.append_nil]
  refine run_clo _ fun c hc => ?_
  simp only [List.mem_flatten, List.mem_replicate] at hc
  obtain ⟨l, ⟨_, rfl⟩, hc⟩ := hc
  simpa [isClo] using hc


theorem w_attempts {hE : Hh} {w : List Nat} {x : AV} {t0 t1 t2 t5 t6 : Option AV} (hw : w.length ≤ 50000) (hb : Bal w) (rx : Rp hE (.lst ((prs 0 w).map pD)) x) {D : En}
    (hD : ∀ h t5 t6, Kp [] hE h → D.nx [t0, t1, t2, some (.str w), some x, t5, t6] h) : WpS (loopF [] (mGn 5) b__law_holds_1 (rIt 0 2) [t0, t1, t2, some (.str w), some x, t5, t6] hE) D := by
  refine loop_wp (fun its sl h => ∃ (k : Nat) (t5 t6 : Option AV), its = rIt (2 - k) k ∧ k ≤ 2 ∧ sl = [t0, t1, t2, some (.str w), some x, t5, t6] ∧ Kp [] hE h) ?_ ?_ ?_ _ _ _ ⟨2, t5, t6, rfl, by omega, rfl, Kp.rfl'⟩
  · intro its sl h _; rfl
  · rintro sl h ⟨k, t5, t6, _, _, rfl, kp⟩
    exact hD _ _ _ kp
  · rintro it r sl h ⟨k, t5, t6, hit, hk, rfl, kp⟩
    cases k with
    | zero => cases hit
    | succ k =>
      rw [rIt_succ] at hit
      obtain ⟨rfl, rfl⟩ := List.cons.inj hit
      refine ⟨_, _, rfl, ?_⟩
      unfold b__law_holds_1
      simp (decide := true) only [wp_seq', wp_if, wp_B, wp_bin, wp_un, wp_b1, wp_set, wp_ret, wp_expr, wp_skip, wp_break, wp_cont, wp_par, wp_asg, wp_for, wp_nil, wp_cons, wp_tup, wp_lst, wp_andV, wp_orV, wp_notV, wp_and, wp_or, wp_not, wp_ifE, wp_yes, var0, varS, evC, wp_ok, wps_nx, wps_rt, wps_bk, wps_ct, wp_call, wp_callK, wp_meth, wp_iter, wp_enum, wp_slice, wp_no, wp_some, wp_isi, wp_lc, wp_range1, wp_chain, of_some, wpO_some, add_ii, add_ss, iadd_ii, iadd_ss, sub_ii, mul_ii, div_ii, mod_ii, pow_ii, neg_i, eq_ii, eq_ss, eq_bb, ne_ii, ne_ss, ne_bb, lt_ii, le_ii, gt_ii, ge_ii, sindex_at, is_non, isNot_non, listA_s, listA_ref, ix_s, ix_con, ix_ref, ixO_lst, ixO_tup, ixO_rol, at0, at1, at2, len_s, len_scr, rdL_ref, rdT_ref, rdL_scr, ty_ref, ty_str, tyOf_s, tyOf_i, tyOf_b, tyOf_n, tyOf_ref, in_ss, notIn_ss, in_con, notIn_con, cut_s, cut_scr, cut_ref, src_s, src_ref, enum_s, enum_ref, chk_nil, gn, gt2, gt1, gs_nil, gs_cons, gsub, max_ii, min_ii, int_b, int_i, List.map_cons, List.map_nil, List.length_cons, List.length_nil, List.replicate, List.cons_append, List.nil_append, List.set_cons_succ, List.set_cons_zero, Option.map_some, Option.map_none, Option.isSome_some, AV.bl.injEq, AV.int.injEq, AV.str.injEq, Option.some.injEq, exists_eq_left', exists_eq_left, if_true, true_and, and_true, and_self, Bool.and_self, get_new, wipeA, List.any_cons, List.any_nil, Bool.or_false, Bool.or_true, Bool.true_or, Bool.false_or, Bool.not_true, Bool.not_false, if_false, Bool.false_eq_true, not_false_eq_true]
      refine (w_pairs_of (by omega) hb).mono fun v h1 ⟨r1, ⟨n, ev, hn⟩, kp1⟩ => ?_
      subst ev
      have hpl : (prs 0 w).length ≤ 1000000 := by have := prs_len 0 w; omega
      refine (wA_equal 8 _ h1 _ _ (by have := pD_dep (prs 0 w); omega) (pD_lim _ hpl) r1 ((rx.kp kp).kp kp1)).mono fun v h2 ⟨ev, kp2⟩ => ?_
      subst ev
      obtain ⟨m, xs, em, e1, rl⟩ := r1.lst_inv
      cases em
      have e2 := kp2.get0 e1
      have e3 : (h2 ++ [AO.tup [AV.int 0, .int 1]])[n]? = some (.lst xs) := getElem?_pre e2
      have e4 := get_set_eq (o' := .lst (xs ++ [.ref h2.length])) e3
      have hxl : xs.length < LINE := by rw [rl.len, List.length_map]; exact Nat.lt_of_le_of_lt hpl (by decide)
      have hrev : mReverse (.ref n) [] ((h2 ++ [AO.tup [AV.int 0, .int 1]]).set n (.lst (xs ++ [.ref h2.length]))) = some (.non, ((h2 ++ [AO.tup [AV.int 0, .int 1]]).set n (.lst (xs ++ [.ref h2.length]))).set n (.lst (xs ++ [AV.ref h2.length]).reverse)) := by
        unfold mReverse
        simp only [lsAt_ref, e4]
      simp (decide := true) only [wp_seq', wp_if, wp_B, wp_bin, wp_un, wp_b1, wp_set, wp_ret, wp_expr, wp_skip, wp_break, wp_cont, wp_par, wp_asg, wp_for, wp_nil, wp_cons, wp_tup, wp_lst, wp_andV, wp_orV, wp_notV, wp_and, wp_or, wp_not, wp_ifE, wp_yes, var0, varS, evC, wp_ok, wps_nx, wps_rt, wps_bk, wps_ct, wp_call, wp_callK, wp_meth, wp_iter, wp_enum, wp_slice, wp_no, wp_some, wp_isi, wp_lc, wp_range1, wp_chain, of_some, wpO_some, add_ii, add_ss, iadd_ii, iadd_ss, sub_ii, mul_ii, div_ii, mod_ii, pow_ii, neg_i, eq_ii, eq_ss, eq_bb, ne_ii, ne_ss, ne_bb, lt_ii, le_ii, gt_ii, ge_ii, sindex_at, is_non, isNot_non, listA_s, listA_ref, ix_s, ix_con, ix_ref, ixO_lst, ixO_tup, ixO_rol, at0, at1, at2, len_s, len_scr, rdL_ref, rdT_ref, rdL_scr, ty_ref, ty_str, tyOf_s, tyOf_i, tyOf_b, tyOf_n, tyOf_ref, in_ss, notIn_ss, in_con, notIn_con, cut_s, cut_scr, cut_ref, src_s, src_ref, enum_s, enum_ref, chk_nil, gn, gt2, gt1, gs_nil, gs_cons, gsub, max_ii, min_ii, int_b, int_i, List.map_cons, List.map_nil, List.length_cons, List.length_nil, List.replicate, List.cons_append, List.nil_append, List.set_cons_succ, List.set_cons_zero, Option.map_some, Option.map_none, Option.isSome_some, AV.bl.injEq, AV.int.injEq, AV.str.injEq, Option.some.injEq, exists_eq_left', exists_eq_left, if_true, true_and, and_true, and_self, Bool.and_self, get_new, wipeA, List.any_cons, List.any_nil, Bool.or_false, Bool.or_true, Bool.true_or, Bool.false_or, Bool.not_true, Bool.not_false, if_false, Bool.false_eq_true, not_false_eq_true, e2, append_at e3, if_pos hxl, e4, hrev]
      refine ⟨k, _, _, by rw [show 2 - (k + 1) + 1 = 2 - k by omega], by omega, rfl, kp.trans0 ((((kp1.trans0 kp2).app _).set (.inr hn) _).set (.inr hn) _)⟩
theorem w_holds {h0 : Hh} {b : Nat} {n : Int} {most : Nat} (hb : Bag h0 b n) (hn : n < 2 ^ 40) (hm : most ≤ 300) (hm2 : 2 ≤ most) : Wp (m__law_holds [.ref b, .int (most : Nat)] h0) fun v h' => v = .bl true ∧ Kp [b] h0 h' := by
  apply fn_wp
  unfold b__law_holds
  have f6 : fits 6 = true := by decide +kernel
  have em : (most : Int) / 6 = ((most / 6 : Nat) : Int) := by omega
  simp (decide := true) only [wp_seq', wp_if, wp_B, wp_bin, wp_un, wp_b1, wp_set, wp_ret, wp_expr, wp_skip, wp_break, wp_cont, wp_par, wp_asg, wp_for, wp_nil, wp_cons, wp_tup, wp_lst, wp_andV, wp_orV, wp_notV, wp_and, wp_or, wp_not, wp_ifE, wp_yes, var0, varS, evC, wp_ok, wps_nx, wps_rt, wps_bk, wps_ct, wp_call, wp_callK, wp_meth, wp_iter, wp_enum, wp_slice, wp_no, wp_some, wp_isi, wp_lc, wp_range1, wp_chain, of_some, wpO_some, add_ii, add_ss, iadd_ii, iadd_ss, sub_ii, mul_ii, div_ii, mod_ii, pow_ii, neg_i, eq_ii, eq_ss, eq_bb, ne_ii, ne_ss, ne_bb, lt_ii, le_ii, gt_ii, ge_ii, sindex_at, is_non, isNot_non, listA_s, listA_ref, ix_s, ix_con, ix_ref, ixO_lst, ixO_tup, ixO_rol, at0, at1, at2, len_s, len_scr, rdL_ref, rdT_ref, rdL_scr, ty_ref, ty_str, tyOf_s, tyOf_i, tyOf_b, tyOf_n, tyOf_ref, in_ss, notIn_ss, in_con, notIn_con, cut_s, cut_scr, cut_ref, src_s, src_ref, enum_s, enum_ref, chk_nil, gn, gt2, gt1, gs_nil, gs_cons, gsub, max_ii, min_ii, int_b, int_i, List.map_cons, List.map_nil, List.length_cons, List.length_nil, List.replicate, List.cons_append, List.nil_append, List.set_cons_succ, List.set_cons_zero, Option.map_some, Option.map_none, Option.isSome_some, AV.bl.injEq, AV.int.injEq, AV.str.injEq, Option.some.injEq, exists_eq_left', exists_eq_left, if_true, true_and, and_true, and_self, Bool.and_self, get_new, wipeA, List.any_cons, List.any_nil, Bool.or_false, Bool.or_true, Bool.true_or, Bool.false_or, Bool.not_true, Bool.not_false, if_false, Bool.false_eq_true, not_false_eq_true, f6, em, mul_si]
  have q1 : ((most / 6 : Nat) : Int) ≤ 1048576 ∧ -1048576 ≤ ((most / 6 : Nat) : Int) ∧ (0 + 1 + 1 + 1) * (most / 6) ≤ LINE := ⟨by omega, by omega, line_big (by omega)⟩
  have hadd : (List.replicate (most / 6) [123, 91, 40]).flatten.length + (List.replicate (most / 6) [41, 93, 125]).flatten.length ≤ LINE := by rw [rep_len, rep_len]; exact line_big (by simp; omega)
  simp (decide := true) only [wp_seq', wp_if, wp_B, wp_bin, wp_un, wp_b1, wp_set, wp_ret, wp_expr, wp_skip, wp_break, wp_cont, wp_par, wp_asg, wp_for, wp_nil, wp_cons, wp_tup, wp_lst, wp_andV, wp_orV, wp_notV, wp_and, wp_or, wp_not, wp_ifE, wp_yes, var0, varS, evC, wp_ok, wps_nx, wps_rt, wps_bk, wps_ct, wp_call, wp_callK, wp_meth, wp_iter, wp_enum, wp_slice, wp_no, wp_some, wp_isi, wp_lc, wp_range1, wp_chain, of_some, wpO_some, add_ii, add_ss, iadd_ii, iadd_ss, sub_ii, mul_ii, div_ii, mod_ii, pow_ii, neg_i, eq_ii, eq_ss, eq_bb, ne_ii, ne_ss, ne_bb, lt_ii, le_ii, gt_ii, ge_ii, sindex_at, is_non, isNot_non, listA_s, listA_ref, ix_s, ix_con, ix_ref, ixO_lst, ixO_tup, ixO_rol, at0, at1, at2, len_s, len_scr, rdL_ref, rdT_ref, rdL_scr, ty_ref, ty_str, tyOf_s, tyOf_i, tyOf_b, tyOf_n, tyOf_ref, in_ss, notIn_ss, in_con, notIn_con, cut_s, cut_scr, cut_ref, src_s, src_ref, enum_s, enum_ref, chk_nil, gn, gt2, gt1, gs_nil, gs_cons, gsub, max_ii, min_ii, int_b, int_i, List.map_cons, List.map_nil, List.length_cons, List.length_nil, List.replicate, List.cons_append, List.nil_append, List.set_cons_succ, List.set_cons_zero, Option.map_some, Option.map_none, Option.isSome_some, AV.bl.injEq, AV.int.injEq, AV.str.injEq, Option.some.injEq, exists_eq_left', exists_eq_left, if_true, true_and, and_true, and_self, Bool.and_self, get_new, wipeA, List.any_cons, List.any_nil, Bool.or_false, Bool.or_true, Bool.true_or, Bool.false_or, Bool.not_true, Bool.not_false, if_false, Bool.false_eq_true, not_false_eq_true, if_pos q1, if_pos hadd, show (((most / 6 : Nat) : Int)).toNat = most / 6 from Int.toNat_natCast _]
  have ld : ((List.replicate (most / 6) [123, 91, 40]).flatten ++ (List.replicate (most / 6) [41, 93, 125]).flatten).length ≤ 50000 := by
    rw [List.length_append, rep_len, rep_len]
    simp
    omega
  refine (wA_text hb (by omega) hm hm2).mono fun v h1 ⟨w, ev, hw, hl, kp1, hb1⟩ => ?_
  subst ev
  have hbd := bal_deep (most / 6)
  generalize (List.replicate (most / 6) [123, 91, 40]).flatten ++ (List.replicate (most / 6) [41, 93, 125]).flatten = deep at ld hbd
  refine loop_wp (fun its sl h' => ∃ (l : List (List Nat)) (t3 t4 t5 t6 : Option AV), its = one (l.map AV.str) ∧ sl = [some (.ref b), some (.int (most : Nat)), some (.str deep), t3, t4, t5, t6] ∧ (∀ s ∈ l, Bal s ∧ s.length ≤ 50000) ∧ Kp [] (h1 ++ [AO.lst [AV.str w, .str deep]]) h') ?_ ?_ ?_ _ _ _ ⟨[w, deep], none, none, none, none, rfl, rfl, ?_, Kp.rfl'⟩
  · rintro its sl h' ⟨_, _, _, _, _, _, _, _, kp⟩
    exact chk_lst (kp.get0 (get_new _ _))
  · rintro sl h' ⟨l, t3, t4, t5, t6, _, rfl, _, kp⟩
    have kk := (kp1.app [AO.lst [AV.str w, .str deep]]).trans0 kp
    simp (decide := true) only [wp_seq', wp_if, wp_B, wp_bin, wp_un, wp_b1, wp_set, wp_ret, wp_expr, wp_skip, wp_break, wp_cont, wp_par, wp_asg, wp_for, wp_nil, wp_cons, wp_tup, wp_lst, wp_andV, wp_orV, wp_notV, wp_and, wp_or, wp_not, wp_ifE, wp_yes, var0, varS, evC, wp_ok, wps_nx, wps_rt, wps_bk, wps_ct, wp_call, wp_callK, wp_meth, wp_iter, wp_enum, wp_slice, wp_no, wp_some, wp_isi, wp_lc, wp_range1, wp_chain, of_some, wpO_some, add_ii, add_ss, iadd_ii, iadd_ss, sub_ii, mul_ii, div_ii, mod_ii, pow_ii, neg_i, eq_ii, eq_ss, eq_bb, ne_ii, ne_ss, ne_bb, lt_ii, le_ii, gt_ii, ge_ii, sindex_at, is_non, isNot_non, listA_s, listA_ref, ix_s, ix_con, ix_ref, ixO_lst, ixO_tup, ixO_rol, at0, at1, at2, len_s, len_scr, rdL_ref, rdT_ref, rdL_scr, ty_ref, ty_str, tyOf_s, tyOf_i, tyOf_b, tyOf_n, tyOf_ref, in_ss, notIn_ss, in_con, notIn_con, cut_s, cut_scr, cut_ref, src_s, src_ref, enum_s, enum_ref, chk_nil, gn, gt2, gt1, gs_nil, gs_cons, gsub, max_ii, min_ii, int_b, int_i, List.map_cons, List.map_nil, List.length_cons, List.length_nil, List.replicate, List.cons_append, List.nil_append, List.set_cons_succ, List.set_cons_zero, Option.map_some, Option.map_none, Option.isSome_some, AV.bl.injEq, AV.int.injEq, AV.str.injEq, Option.some.injEq, exists_eq_left', exists_eq_left, if_true, true_and, and_true, and_self, Bool.and_self, get_new, wipeA, List.any_cons, List.any_nil, Bool.or_false, Bool.or_true, Bool.true_or, Bool.false_or, Bool.not_true, Bool.not_false, if_false, Bool.false_eq_true, not_false_eq_true]
    have eqn : ∀ {hh : Hh} {v : AV} {p : Nat}, v = .ref p → Rp hh (.lst []) v → opEq v (.ref hh.length) (hh ++ [AO.lst []]) = some (.bl true, hh ++ [AO.lst []]) := fun {hh v p} ev r => by
      unfold opEq
      rw [eqH_D (d := .lst []) (e := .lst []) (r.kp (Kp.rfl'.app _)) (Rp.lst (get_new _ _) RpL.nil) (by decide) (by decide) rfl rfl (.inl ⟨p, ev⟩)]
      rfl
    refine (w_pairs_of (w := []) (by simp) rfl).mono fun v h2 ⟨r2, ⟨p, ev, _⟩, kp2⟩ => ?_
    rw [eqn ev r2]
    simp (decide := true) only [wp_seq', wp_if, wp_B, wp_bin, wp_un, wp_b1, wp_set, wp_ret, wp_expr, wp_skip, wp_break, wp_cont, wp_par, wp_asg, wp_for, wp_nil, wp_cons, wp_tup, wp_lst, wp_andV, wp_orV, wp_notV, wp_and, wp_or, wp_not, wp_ifE, wp_yes, var0, varS, evC, wp_ok, wps_nx, wps_rt, wps_bk, wps_ct, wp_call, wp_callK, wp_meth, wp_iter, wp_enum, wp_slice, wp_no, wp_some, wp_isi, wp_lc, wp_range1, wp_chain, of_some, wpO_some, add_ii, add_ss, iadd_ii, iadd_ss, sub_ii, mul_ii, div_ii, mod_ii, pow_ii, neg_i, eq_ii, eq_ss, eq_bb, ne_ii, ne_ss, ne_bb, lt_ii, le_ii, gt_ii, ge_ii, sindex_at, is_non, isNot_non, listA_s, listA_ref, ix_s, ix_con, ix_ref, ixO_lst, ixO_tup, ixO_rol, at0, at1, at2, len_s, len_scr, rdL_ref, rdT_ref, rdL_scr, ty_ref, ty_str, tyOf_s, tyOf_i, tyOf_b, tyOf_n, tyOf_ref, in_ss, notIn_ss, in_con, notIn_con, cut_s, cut_scr, cut_ref, src_s, src_ref, enum_s, enum_ref, chk_nil, gn, gt2, gt1, gs_nil, gs_cons, gsub, max_ii, min_ii, int_b, int_i, List.map_cons, List.map_nil, List.length_cons, List.length_nil, List.replicate, List.cons_append, List.nil_append, List.set_cons_succ, List.set_cons_zero, Option.map_some, Option.map_none, Option.isSome_some, AV.bl.injEq, AV.int.injEq, AV.str.injEq, Option.some.injEq, exists_eq_left', exists_eq_left, if_true, true_and, and_true, and_self, Bool.and_self, get_new, wipeA, List.any_cons, List.any_nil, Bool.or_false, Bool.or_true, Bool.true_or, Bool.false_or, Bool.not_true, Bool.not_false, if_false, Bool.false_eq_true, not_false_eq_true]
    refine (w_pairs_of (w := [97, 98]) (by simp) rfl).mono fun v h3 ⟨r3, ⟨p, ev, _⟩, kp3⟩ => ?_
    rw [eqn ev r3]
    exact ⟨rfl, (((kk.trans0 kp2).app _).trans0 kp3).app _⟩
  · rintro it r sl h' ⟨l, t3, t4, t5, t6, hr, rfl, hs, kp⟩
    cases l with
    | nil => cases hr
    | cons s l =>
      obtain ⟨rfl, rfl⟩ : it = [.str s] ∧ r = one (l.map AV.str) := by
        have := List.cons.inj hr
        exact this
      obtain ⟨s1, s2⟩ := hs s List.mem_cons_self
      refine ⟨_, _, rfl, ?_⟩
      unfold b__law_holds_2
      simp (decide := true) only [wp_seq', wp_if, wp_B, wp_bin, wp_un, wp_b1, wp_set, wp_ret, wp_expr, wp_skip, wp_break, wp_cont, wp_par, wp_asg, wp_for, wp_nil, wp_cons, wp_tup, wp_lst, wp_andV, wp_orV, wp_notV, wp_and, wp_or, wp_not, wp_ifE, wp_yes, var0, varS, evC, wp_ok, wps_nx, wps_rt, wps_bk, wps_ct, wp_call, wp_callK, wp_meth, wp_iter, wp_enum, wp_slice, wp_no, wp_some, wp_isi, wp_lc, wp_range1, wp_chain, of_some, wpO_some, add_ii, add_ss, iadd_ii, iadd_ss, sub_ii, mul_ii, div_ii, mod_ii, pow_ii, neg_i, eq_ii, eq_ss, eq_bb, ne_ii, ne_ss, ne_bb, lt_ii, le_ii, gt_ii, ge_ii, sindex_at, is_non, isNot_non, listA_s, listA_ref, ix_s, ix_con, ix_ref, ixO_lst, ixO_tup, ixO_rol, at0, at1, at2, len_s, len_scr, rdL_ref, rdT_ref, rdL_scr, ty_ref, ty_str, tyOf_s, tyOf_i, tyOf_b, tyOf_n, tyOf_ref, in_ss, notIn_ss, in_con, notIn_con, cut_s, cut_scr, cut_ref, src_s, src_ref, enum_s, enum_ref, chk_nil, gn, gt2, gt1, gs_nil, gs_cons, gsub, max_ii, min_ii, int_b, int_i, List.map_cons, List.map_nil, List.length_cons, List.length_nil, List.replicate, List.cons_append, List.nil_append, List.set_cons_succ, List.set_cons_zero, Option.map_some, Option.map_none, Option.isSome_some, AV.bl.injEq, AV.int.injEq, AV.str.injEq, Option.some.injEq, exists_eq_left', exists_eq_left, if_true, true_and, and_true, and_self, Bool.and_self, get_new, wipeA, List.any_cons, List.any_nil, Bool.or_false, Bool.or_true, Bool.true_or, Bool.false_or, Bool.not_true, Bool.not_false, if_false, Bool.false_eq_true, not_false_eq_true]
      refine (wA_pairs s2 s1).mono fun v h2 ⟨r2, _, kp2⟩ => ?_
      rw [show (2 : Int).toNat = 2 from rfl, rIt_zero]
      exact w_attempts s2 s1 r2 fun h3 t5 t6 kp3 => ⟨l, _, _, _, _, rfl, rfl, fun x hx => hs x (List.mem_cons_of_mem _ hx), (kp.trans0 kp2).trans0 kp3⟩
  · intro s hs
    simp only [List.mem_cons, List.not_mem_nil, or_false] at hs
    rcases hs with rfl | rfl
    · exact ⟨hw, by omega⟩
    · exact ⟨hbd, ld⟩
theorem w_law (ns : List Int) (hns : ns.length ≤ 63) : Wp (m_law [.scr ns] []) fun v _ => v = .bl true := by
  apply fn_wp
  unfold b_law
  have ea : opAdd (.scr ns) (.ref 0) [AO.lst [.int 0]] = some (.ref 1, [AO.lst [.int 0], AO.lst (iVs (ns ++ [0]))]) := add_scr (ms := [0]) rfl (line_big (by simp; omega))
  simp (decide := true) only [wp_seq', wp_if, wp_B, wp_bin, wp_un, wp_b1, wp_set, wp_ret, wp_expr, wp_skip, wp_break, wp_cont, wp_par, wp_asg, wp_for, wp_nil, wp_cons, wp_tup, wp_lst, wp_andV, wp_orV, wp_notV, wp_and, wp_or, wp_not, wp_ifE, wp_yes, var0, varS, evC, wp_ok, wps_nx, wps_rt, wps_bk, wps_ct, wp_call, wp_callK, wp_meth, wp_iter, wp_enum, wp_slice, wp_no, wp_some, wp_isi, wp_lc, wp_range1, wp_chain, of_some, wpO_some, add_ii, add_ss, iadd_ii, iadd_ss, sub_ii, mul_ii, div_ii, mod_ii, pow_ii, neg_i, eq_ii, eq_ss, eq_bb, ne_ii, ne_ss, ne_bb, lt_ii, le_ii, gt_ii, ge_ii, sindex_at, is_non, isNot_non, listA_s, listA_ref, ix_s, ix_con, ix_ref, ixO_lst, ixO_tup, ixO_rol, at0, at1, at2, len_s, len_scr, rdL_ref, rdT_ref, rdL_scr, ty_ref, ty_str, tyOf_s, tyOf_i, tyOf_b, tyOf_n, tyOf_ref, in_ss, notIn_ss, in_con, notIn_con, cut_s, cut_scr, cut_ref, src_s, src_ref, enum_s, enum_ref, chk_nil, gn, gt2, gt1, gs_nil, gs_cons, gsub, max_ii, min_ii, int_b, int_i, List.map_cons, List.map_nil, List.length_cons, List.length_nil, List.replicate, List.cons_append, List.nil_append, List.set_cons_succ, List.set_cons_zero, Option.map_some, Option.map_none, Option.isSome_some, AV.bl.injEq, AV.int.injEq, AV.str.injEq, Option.some.injEq, exists_eq_left', exists_eq_left, if_true, true_and, and_true, and_self, Bool.and_self, get_new, wipeA, List.any_cons, List.any_nil, Bool.or_false, Bool.or_true, Bool.true_or, Bool.false_or, Bool.not_true, Bool.not_false, if_false, Bool.false_eq_true, not_false_eq_true, ea]
  obtain ⟨m, hm, hm2⟩ : ∃ m : Nat, (if (if (12 : Int) < (ns.length : Int) then (12 : Int) else (ns.length : Int)) > 1 then (if (12 : Int) < (ns.length : Int) then (12 : Int) else (ns.length : Int)) else 1) = (m : Int) ∧ m ≤ 12 := by
    by_cases h1 : (12 : Int) < (ns.length : Int)
    · rw [if_pos h1]; exact ⟨12, rfl, by omega⟩
    · rw [if_neg h1]
      by_cases h2 : (ns.length : Int) > 1
      · rw [if_pos h2]; exact ⟨ns.length, rfl, by omega⟩
      · rw [if_neg h2]; exact ⟨1, rfl, by omega⟩
  have eg : ([AO.lst [AV.int 0], AO.lst (iVs (ns ++ [0]))] : Hh)[1]? = some (.lst (iVs (ns ++ [0]))) := rfl
  have ec : cutA (iVs (ns ++ [0])) none (some (m : Int)) = iVs ((ns ++ [0]).take m) := by rw [cutA_to]; unfold iVs; rw [List.map_take]
  rw [hm]
  simp (decide := true) only [wp_seq', wp_if, wp_B, wp_bin, wp_un, wp_b1, wp_set, wp_ret, wp_expr, wp_skip, wp_break, wp_cont, wp_par, wp_asg, wp_for, wp_nil, wp_cons, wp_tup, wp_lst, wp_andV, wp_orV, wp_notV, wp_and, wp_or, wp_not, wp_ifE, wp_yes, var0, varS, evC, wp_ok, wps_nx, wps_rt, wps_bk, wps_ct, wp_call, wp_callK, wp_meth, wp_iter, wp_enum, wp_slice, wp_no, wp_some, wp_isi, wp_lc, wp_range1, wp_chain, of_some, wpO_some, add_ii, add_ss, iadd_ii, iadd_ss, sub_ii, mul_ii, div_ii, mod_ii, pow_ii, neg_i, eq_ii, eq_ss, eq_bb, ne_ii, ne_ss, ne_bb, lt_ii, le_ii, gt_ii, ge_ii, sindex_at, is_non, isNot_non, listA_s, listA_ref, ix_s, ix_con, ix_ref, ixO_lst, ixO_tup, ixO_rol, at0, at1, at2, len_s, len_scr, rdL_ref, rdT_ref, rdL_scr, ty_ref, ty_str, tyOf_s, tyOf_i, tyOf_b, tyOf_n, tyOf_ref, in_ss, notIn_ss, in_con, notIn_con, cut_s, cut_scr, cut_ref, src_s, src_ref, enum_s, enum_ref, chk_nil, gn, gt2, gt1, gs_nil, gs_cons, gsub, max_ii, min_ii, int_b, int_i, List.map_cons, List.map_nil, List.length_cons, List.length_nil, List.replicate, List.cons_append, List.nil_append, List.set_cons_succ, List.set_cons_zero, Option.map_some, Option.map_none, Option.isSome_some, AV.bl.injEq, AV.int.injEq, AV.str.injEq, Option.some.injEq, exists_eq_left', exists_eq_left, if_true, true_and, and_true, and_self, Bool.and_self, get_new, wipeA, List.any_cons, List.any_nil, Bool.or_false, Bool.or_true, Bool.true_or, Bool.false_or, Bool.not_true, Bool.not_false, if_false, Bool.false_eq_true, not_false_eq_true, eg, ec]
  generalize hH : [AO.lst [AV.int 0], AO.lst (iVs (ns ++ [0])), AO.lst (iVs ((ns ++ [0]).take m))] = H2
  have e2 : H2[2]? = some (.lst (iVs ((ns ++ [0]).take m))) := by rw [← hH]; rfl
  clear hH ea eg
  simp (decide := true) only [wp_seq', wp_if, wp_B, wp_bin, wp_un, wp_b1, wp_set, wp_ret, wp_expr, wp_skip, wp_break, wp_cont, wp_par, wp_asg, wp_for, wp_nil, wp_cons, wp_tup, wp_lst, wp_andV, wp_orV, wp_notV, wp_and, wp_or, wp_not, wp_ifE, wp_yes, var0, varS, evC, wp_ok, wps_nx, wps_rt, wps_bk, wps_ct, wp_call, wp_callK, wp_meth, wp_iter, wp_enum, wp_slice, wp_no, wp_some, wp_isi, wp_lc, wp_range1, wp_chain, of_some, wpO_some, add_ii, add_ss, iadd_ii, iadd_ss, sub_ii, mul_ii, div_ii, mod_ii, pow_ii, neg_i, eq_ii, eq_ss, eq_bb, ne_ii, ne_ss, ne_bb, lt_ii, le_ii, gt_ii, ge_ii, sindex_at, is_non, isNot_non, listA_s, listA_ref, ix_s, ix_con, ix_ref, ixO_lst, ixO_tup, ixO_rol, at0, at1, at2, len_s, len_scr, rdL_ref, rdT_ref, rdL_scr, ty_ref, ty_str, tyOf_s, tyOf_i, tyOf_b, tyOf_n, tyOf_ref, in_ss, notIn_ss, in_con, notIn_con, cut_s, cut_scr, cut_ref, src_s, src_ref, enum_s, enum_ref, chk_nil, gn, gt2, gt1, gs_nil, gs_cons, gsub, max_ii, min_ii, int_b, int_i, List.map_cons, List.map_nil, List.length_cons, List.length_nil, List.replicate, List.cons_append, List.nil_append, List.set_cons_succ, List.set_cons_zero, Option.map_some, Option.map_none, Option.isSome_some, AV.bl.injEq, AV.int.injEq, AV.str.injEq, Option.some.injEq, exists_eq_left', exists_eq_left, if_true, true_and, and_true, and_self, Bool.and_self, get_new, wipeA, List.any_cons, List.any_nil, Bool.or_false, Bool.or_true, Bool.true_or, Bool.false_or, Bool.not_true, Bool.not_false, if_false, Bool.false_eq_true, not_false_eq_true, e2]
  refine loop_wp (fun its sl h => ∃ (rest : List Int) (k : Nat) (t1 t2 : Option AV), its = pairsFrom k (iVs rest) ∧ sl = [some (.scr ns), t1, t2] ∧ k + rest.length ≤ 12 ∧ Kp [] H2 h) ?_ ?_ ?_ _ _ _ ⟨_, 0, none, none, rfl, rfl, by rw [List.length_take]; omega, Kp.rfl'⟩
  · rintro its sl h ⟨_, _, _, _, _, _, _, kp⟩
    exact chk_lst (kp.get0 e2)
  · rintro sl h _
    simp (decide := true) only [wp_seq', wp_if, wp_B, wp_bin, wp_un, wp_b1, wp_set, wp_ret, wp_expr, wp_skip, wp_break, wp_cont, wp_par, wp_asg, wp_for, wp_nil, wp_cons, wp_tup, wp_lst, wp_andV, wp_orV, wp_notV, wp_and, wp_or, wp_not, wp_ifE, wp_yes, var0, varS, evC, wp_ok, wps_nx, wps_rt, wps_bk, wps_ct, wp_call, wp_callK, wp_meth, wp_iter, wp_enum, wp_slice, wp_no, wp_some, wp_isi, wp_lc, wp_range1, wp_chain, of_some, wpO_some, add_ii, add_ss, iadd_ii, iadd_ss, sub_ii, mul_ii, div_ii, mod_ii, pow_ii, neg_i, eq_ii, eq_ss, eq_bb, ne_ii, ne_ss, ne_bb, lt_ii, le_ii, gt_ii, ge_ii, sindex_at, is_non, isNot_non, listA_s, listA_ref, ix_s, ix_con, ix_ref, ixO_lst, ixO_tup, ixO_rol, at0, at1, at2, len_s, len_scr, rdL_ref, rdT_ref, rdL_scr, ty_ref, ty_str, tyOf_s, tyOf_i, tyOf_b, tyOf_n, tyOf_ref, in_ss, notIn_ss, in_con, notIn_con, cut_s, cut_scr, cut_ref, src_s, src_ref, enum_s, enum_ref, chk_nil, gn, gt2, gt1, gs_nil, gs_cons, gsub, max_ii, min_ii, int_b, int_i, List.map_cons, List.map_nil, List.length_cons, List.length_nil, List.replicate, List.cons_append, List.nil_append, List.set_cons_succ, List.set_cons_zero, Option.map_some, Option.map_none, Option.isSome_some, AV.bl.injEq, AV.int.injEq, AV.str.injEq, Option.some.injEq, exists_eq_left', exists_eq_left, if_true, true_and, and_true, and_self, Bool.and_self, get_new, wipeA, List.any_cons, List.any_nil, Bool.or_false, Bool.or_true, Bool.true_or, Bool.false_or, Bool.not_true, Bool.not_false, if_false, Bool.false_eq_true, not_false_eq_true]
  · rintro it r sl h ⟨rest, k, t1, t2, hr, rfl, hk, kp⟩
    cases rest with
    | nil => cases hr
    | cons cell rest =>
      obtain ⟨rfl, rfl⟩ : it = [.int (k : Int), .int cell] ∧ r = pairsFrom (k + 1) (iVs rest) := by
        have := List.cons.inj hr
        exact this
      rw [List.length_cons] at hk
      refine ⟨_, _, rfl, ?_⟩
      unfold b_law_1
      simp (decide := true) only [wp_seq', wp_if, wp_B, wp_bin, wp_un, wp_b1, wp_set, wp_ret, wp_expr, wp_skip, wp_break, wp_cont, wp_par, wp_asg, wp_for, wp_nil, wp_cons, wp_tup, wp_lst, wp_andV, wp_orV, wp_notV, wp_and, wp_or, wp_not, wp_ifE, wp_yes, var0, varS, evC, wp_ok, wps_nx, wps_rt, wps_bk, wps_ct, wp_call, wp_callK, wp_meth, wp_iter, wp_enum, wp_slice, wp_no, wp_some, wp_isi, wp_lc, wp_range1, wp_chain, of_some, wpO_some, add_ii, add_ss, iadd_ii, iadd_ss, sub_ii, mul_ii, div_ii, mod_ii, pow_ii, neg_i, eq_ii, eq_ss, eq_bb, ne_ii, ne_ss, ne_bb, lt_ii, le_ii, gt_ii, ge_ii, sindex_at, is_non, isNot_non, listA_s, listA_ref, ix_s, ix_con, ix_ref, ixO_lst, ixO_tup, ixO_rol, at0, at1, at2, len_s, len_scr, rdL_ref, rdT_ref, rdL_scr, ty_ref, ty_str, tyOf_s, tyOf_i, tyOf_b, tyOf_n, tyOf_ref, in_ss, notIn_ss, in_con, notIn_con, cut_s, cut_scr, cut_ref, src_s, src_ref, enum_s, enum_ref, chk_nil, gn, gt2, gt1, gs_nil, gs_cons, gsub, max_ii, min_ii, int_b, int_i, List.map_cons, List.map_nil, List.length_cons, List.length_nil, List.replicate, List.cons_append, List.nil_append, List.set_cons_succ, List.set_cons_zero, Option.map_some, Option.map_none, Option.isSome_some, AV.bl.injEq, AV.int.injEq, AV.str.injEq, Option.some.injEq, exists_eq_left', exists_eq_left, if_true, true_and, and_true, and_self, Bool.and_self, get_new, wipeA, List.any_cons, List.any_nil, Bool.or_false, Bool.or_true, Bool.true_or, Bool.false_or, Bool.not_true, Bool.not_false, if_false, Bool.false_eq_true, not_false_eq_true]
      refine (wA_source (by omega)).mono fun v h1 ⟨ev, kp1, hl1, hb1⟩ => ?_
      subst ev
      have hBl : H2.length ≤ h.length := kp.1
      generalize h.length = b at hb1 hBl
      have kq1 : Kp [] H2 h1 := kp.trans0 kp1
      clear kp1 hl1
      rw [eq_scr_nil (get_new _ _)]
      simp (decide := true) only [wp_seq', wp_if, wp_B, wp_bin, wp_un, wp_b1, wp_set, wp_ret, wp_expr, wp_skip, wp_break, wp_cont, wp_par, wp_asg, wp_for, wp_nil, wp_cons, wp_tup, wp_lst, wp_andV, wp_orV, wp_notV, wp_and, wp_or, wp_not, wp_ifE, wp_yes, var0, varS, evC, wp_ok, wps_nx, wps_rt, wps_bk, wps_ct, wp_call, wp_callK, wp_meth, wp_iter, wp_enum, wp_slice, wp_no, wp_some, wp_isi, wp_lc, wp_range1, wp_chain, of_some, wpO_some, add_ii, add_ss, iadd_ii, iadd_ss, sub_ii, mul_ii, div_ii, mod_ii, pow_ii, neg_i, eq_ii, eq_ss, eq_bb, ne_ii, ne_ss, ne_bb, lt_ii, le_ii, gt_ii, ge_ii, sindex_at, is_non, isNot_non, listA_s, listA_ref, ix_s, ix_con, ix_ref, ixO_lst, ixO_tup, ixO_rol, at0, at1, at2, len_s, len_scr, rdL_ref, rdT_ref, rdL_scr, ty_ref, ty_str, tyOf_s, tyOf_i, tyOf_b, tyOf_n, tyOf_ref, in_ss, notIn_ss, in_con, notIn_con, cut_s, cut_scr, cut_ref, src_s, src_ref, enum_s, enum_ref, chk_nil, gn, gt2, gt1, gs_nil, gs_cons, gsub, max_ii, min_ii, int_b, int_i, List.map_cons, List.map_nil, List.length_cons, List.length_nil, List.replicate, List.cons_append, List.nil_append, List.set_cons_succ, List.set_cons_zero, Option.map_some, Option.map_none, Option.isSome_some, AV.bl.injEq, AV.int.injEq, AV.str.injEq, Option.some.injEq, exists_eq_left', exists_eq_left, if_true, true_and, and_true, and_self, Bool.and_self, get_new, wipeA, List.any_cons, List.any_nil, Bool.or_false, Bool.or_true, Bool.true_or, Bool.false_or, Bool.not_true, Bool.not_false, if_false, Bool.false_eq_true, not_false_eq_true]
      have hb2 : Bag (h1 ++ [AO.lst []]) b 0 := hb1.kp (Kp.rfl'.app _)
      have go : ∀ most : Nat, most ≤ 300 → 2 ≤ most → Wp (m__law_holds [.ref b, .int (most : Nat)] (h1 ++ [AO.lst []])) fun v h2 => ∃ b_1, v = .bl b_1 ∧ if (!b_1) = true then False else ∃ (rest_1 : List Int) (k_1 : Nat) (t1 t2 : Option AV), pairsFrom (k + 1) (iVs rest) = pairsFrom k_1 (iVs rest_1) ∧ [some (.scr ns), some (.int (k : Nat)), some (.int cell)] = [some (.scr ns), t1, t2] ∧ k_1 + rest_1.length ≤ 12 ∧ Kp [] H2 h2 := fun most h1' h2' => by
        refine (w_holds hb2 (by omega) h1' h2').mono fun v h2 ⟨ev, kp2⟩ => ?_
        exact ⟨true, ev, rest, k + 1, _, _, rfl, rfl, by omega, bag_off (kq1.app _) hBl kp2⟩
      split
      · exact go 8 (by omega) (by omega)
      · exact go 150 (by omega) (by omega)
theorem law_true (ns : List Int) (hns : ns.length ≤ 63) : ∃ h, m_law [.scr ns] [] = .ok (.bl true) h := by
  obtain ⟨v, h, e, rfl⟩ := (w_law ns hns).ex
  exact ⟨h, e⟩

end Lk03
open PySem PySem.W PyProof.Rows
set_option maxHeartbeats 0 in
theorem PySem.Challenge.cw_autoclosing_k03_pairs_of_texts_holds : PySem.Challenge.rw_autoclosing_k03_pairs_of_texts.Holds := by
  w_on; o_law; k_head; (case hw => w_witness2)
  k_fill
  refine Det.law_end (l := PySem.Challenge.rw_autoclosing_k03_pairs_of_texts) (k := 11) (x := "script") rfl rfl ⟨rfl, by decide, by decide⟩ (fun w h Y => PySem.W.kIn_of Y) ?F
  case F =>
    intro w mg fa h KX G hmg
    refine' Lk03.all_mk Lk03.law_true KX G hmg ?a0 ?l0 ?q0 ?k0 ?a1 ?l1 ?q1 ?k1 ?a2 ?l2 ?q2 ?k2 ?a3 ?l3 ?q3 ?k3 ?a4 ?l4 ?q4 ?k4 ?a5 ?l5 ?q5 ?k5 ?a6 ?l6 ?q6 ?k6 ?a7 ?l7 ?q7 ?k7 ?a8 ?l8 ?q8 ?k8 ?a9 ?l9 ?q9 ?k9 ?a10 ?l10 ?q10 ?k10 ?a11 ?l11 ?q11 ?k11 ?a12 ?l12 ?q12 ?k12 ?z_all ?z_bool ?z_enumerate ?z_int ?z_isinstance ?z_len ?z_list ?z_max ?z_min ?z_range ?z_str ?z_tuple ?z_zip ?s_CLOSING_OF ?l_CLOSING_OF ?y_CLOSING_OF ?w_CLOSING_OF ?v_CLOSING_OF ?s_LETTERS ?e_LETTERS ?s_CLOSING ?e_CLOSING
    (case a0 => k_is)
    (case l0 => k_is)
    (case q0 => k_is)
    (case k0 => k_is)
    (case a1 => k_is)
    (case l1 => k_is)
    (case q1 => k_is)
    (case k1 => k_is)
    (case a2 => k_is)
    (case l2 => k_is)
    (case q2 => k_is)
    (case k2 => k_is)
    (case a3 => k_is)
    (case l3 => k_is)
    (case q3 => k_is)
    (case k3 => k_is)
    (case a4 => k_is)
    (case l4 => k_is)
    (case q4 => k_is)
    (case k4 => k_is)
    (case a5 => k_is)
    (case l5 => k_is)
    (case q5 => k_is)
    (case k5 => k_is)
    (case a6 => k_is)
    (case l6 => k_is)
    (case q6 => k_is)
    (case k6 => k_is)
    (case a7 => k_is)
    (case l7 => k_is)
    (case q7 => k_is)
    (case k7 => k_is)
    (case a8 => k_is)
    (case l8 => k_is)
    (case q8 => k_is)
    (case k8 => k_is)
    (case a9 => k_is)
    (case l9 => k_is)
    (case q9 => k_is)
    (case k9 => k_is)
    (case a10 => k_is)
    (case l10 => k_is)
    (case q10 => k_is)
    (case k10 => k_is)
    (case a11 => k_is)
    (case l11 => k_is)
    (case q11 => k_is)
    (case k11 => k_is)
    (case a12 => k_is)
    (case l12 => k_is)
    (case q12 => k_is)
    (case k12 => k_is)
    (case z_all => k_is)
    (case z_bool => k_is)
    (case z_enumerate => k_is)
    (case z_int => k_is)
    (case z_isinstance => k_is)
    (case z_len => k_is)
    (case z_list => k_is)
    (case z_max => k_is)
    (case z_min => k_is)
    (case z_range => k_is)
    (case z_str => k_is)
    (case z_tuple => k_is)
    (case z_zip => k_is)
    (case s_CLOSING_OF => k_is)
    (case l_CLOSING_OF => k_is)
    (case y_CLOSING_OF => exact ⟨⟨_, _, rfl, rfl⟩, ⟨_, _, rfl, rfl⟩, ⟨_, _, rfl, rfl⟩, trivial⟩)
    (case w_CLOSING_OF => decide)
    (case v_CLOSING_OF => exact fun c => .cons ⟨⟨_, rfl⟩, _, rfl, ⟨_, rfl⟩⟩ (.cons ⟨⟨_, rfl⟩, _, rfl, ⟨_, rfl⟩⟩ (.cons ⟨⟨_, rfl⟩, _, rfl, ⟨_, rfl⟩⟩ .nil)))
    (case s_LETTERS => k_is)
    (case e_LETTERS => decide +kernel)
    (case s_CLOSING => k_is)
    (case e_CLOSING => decide +kernel)
