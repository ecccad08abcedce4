import PyProof.Rows.All
import PySem.Challenge.RW_autoclosing_k15_key_lists_recognized
import Wide.All
import OpenK.AllK
import Wide.FinOn
import HandS.ForMost
import HandS.More
import HandS.Exc
import HandS.TryOnly
import HandS.ExcOwn
import HandS.WordsExc
import HandS.Wide
import HandS.IsInst
import HandS.Deep
import HandS.Style
import HandS.Zip
import KE.GoesMore
import KE.GoesEnum
import HandS.SortInts
import PyProof.ListStr
import HandS.Replace
import HandS.ReplaceLit
import HandS.ReplaceList
import HandS.ReplaceDef
import PyProof.Rows.StrRev
import HandS.Codes
import PyProof.ReprRoads
import PyProof.ReprBulk
import PyProof.Rows.ReprOcc
import PyProof.TupleOfStr
set_option Elab.async false
set_option linter.all false
set_option maxRecDepth 100000
set_option autoImplicit false
set_option maxHeartbeats 4000000
/-! Det: a deterministic reading over HandS: abstract values, an abstract heap by names, results. -/
namespace Det
open PySem PySem.Spec PyProof.Rows L2

/-- the constants of the modules that are objects -/
inductive CK where | empty | closingOf | letterOf | nameOf
  deriving DecidableEq
inductive AV where
  | non | bl (b : Bool) | int (i : Int) | str (s : List Nat) | ref (n : Nat) | con (k : CK) | scr (ns : List Int)
  deriving DecidableEq
abbrev AKey := Sum Int (List Nat)
inductive AO where
  | lst (xs : List AV) | rol (xs : List AV) | tup (xs : List AV) | dic (kvs : List (AKey × AV)) | ins (k : Nat) (fs : List (Str × AV)) | xd (fs : List (Str × AV))
  deriving DecidableEq
abbrev Hh := List AO
abbrev Sl := List (Option AV)
def AO.mut : AO → Bool
  | .lst _ => true | .dic _ => true | .ins _ _ => true | .xd _ => true | _ => false
structure AX where
  cls : Nat
  d : Option Nat
  deriving DecidableEq
inductive R (α : Type) where
  | ok (a : α) (h : Hh) | ex (x : AX) (h : Hh) | no
def R.bind {α β : Type} (r : R α) (k : α → Hh → R β) : R β := match r with
  | .ok a h => k a h | .ex x h => .ex x h | .no => .no
def R.of {α : Type} : Option (α × Hh) → R α
  | some (a, h) => .ok a h | none => .no

structure Ct where
  P : Params
  has : CK → Bool
  sa : Addr
  sns : List Int
  con : CK → Addr
  cls : Nat → Addr

def mkS (s : List Nat) : Str := ⟨s.toArray⟩
theorem mkS_inj {a b : List Nat} (h : mkS a = mkS b) : a = b := by
  have := congrArg (fun x => x.cps.toList) h
  simpa [mkS] using this
theorem mkS_tl (x : Str) : mkS x.cps.toList = x := by cases x; simp [mkS]
theorem mkS_len (s : List Nat) : (mkS s).length = s.length := by simp [mkS, Str.length]
theorem mkS_app (s t : List Nat) : mkS s ++ mkS t = mkS (s ++ t) := by
  show Str.append (mkS s) (mkS t) = mkS (s ++ t)
  simp [mkS, Str.append]
def kk : AKey → Key
  | .inl i => .inl i
  | .inr s => .inr (mkS s)
theorem kk_inj {a b : AKey} (h : kk a = kk b) : a = b := by
  cases a <;> cases b <;> simp [kk] at h ⊢
  · exact h
  · exact mkS_inj h

def RV (c : Ct) (ι : List Addr) : AV → V → Prop
  | .non, v => v = .non
  | .bl b, v => v = .bl b
  | .int i, v => v = .int i
  | .str s, v => v = .str (mkS s)
  | .ref n, v => ∃ a, ι[n]? = some a ∧ v = .ref a
  | .con k, v => v = .ref (c.con k) ∧ c.has k = true
  | .scr ns, v => v = .ref c.sa ∧ ns = c.sns
abbrev RVs (c : Ct) (ι : List Addr) : List AV → List V → Prop := Paired (RV c ι)
def RF (c : Ct) (ι : List Addr) : List (Str × AV) → List (Str × V) → Prop := Paired fun p q => q.1 = p.1 ∧ RV c ι p.2 q.2
def RKV (c : Ct) (ι : List Addr) : List (AKey × AV) → List (Key × V) → Prop := Paired fun p q => q.1 = kk p.1 ∧ RV c ι p.2 q.2
def RO (c : Ct) (ι : List Addr) (H : Hp) (a : Addr) : AO → Prop
  | .lst xs => ∃ vs, RVs c ι xs vs ∧ H a = some (.lst vs)
  | .rol xs => ∃ vs, RVs c ι xs vs ∧ Rd H a (.lst vs)
  | .tup xs => ∃ vs, RVs c ι xs vs ∧ Rd H a (.tup vs)
  | .dic kvs => ∃ vs, RKV c ι kvs vs ∧ H a = some (.dK vs)
  | .ins k fs => ∃ dx vs, RF c ι fs vs ∧ H a = some (.ins (c.cls k) dx vs)
  | .xd fs => ∃ vs, RF c ι fs vs ∧ H a = some (.xd vs)
def RSl (c : Ct) (ι : List Addr) : Option AV → Option V → Prop
  | none, _ => True
  | some v, some x => RV c ι v x
  | some _, none => False
abbrev RS (c : Ct) (ι : List Addr) : Sl → L2.St → Prop := Paired (RSl c ι)

/-- the contents of a constant -/
def CK.tup? : CK → Option (List AV)
  | .empty => some [.str [], .int 0]
  | _ => none
def txt (s : String) : List Nat := s.toList.map Char.toNat
def CK.dic? : CK → Option (List (List Nat × AV))
  | .closingOf => some [([40], .str [41]), ([91], .str [93]), ([123], .str [125])]
  | .letterOf => some [([105, 110, 115, 101, 114, 116], .str [105]), ([101, 120, 105, 116], .str [120]), ([112, 97, 115, 115], .str [112])]
  | .nameOf => some [([105], .str [105, 110, 115, 101, 114, 116]), ([120], .str [101, 120, 105, 116]), ([112], .str [112, 97, 115, 115])]
  | _ => none
/-- an entry of a written dict -/
def REnt (c : Ct) (p : List Nat × AV) (e : DictEntry) : Prop := (∃ t, e.key = .str (mkS p.1) t) ∧ ∃ x, RV c [] p.2 x ∧ RelV x e.val
def Scr (K : PySem.W.Frag) (c : Ct) (H : Hp) : Prop :=
  (∃ o, H c.sa = some (.frz o (.lst (c.sns.map V.int)))) ∨
    ∃ (o : Obj) (its : Array Value) (n : Nat), K.lookup c.sa = some o ∧ o.cls = .type "list" ∧ o.dict = none ∧ o.data = .seq its n ∧ its.size ≤ sizeLine ∧ Vals (c.sns.map V.int) its.toList
theorem Scr.sql {K : PySem.W.Frag} {c : Ct} {H : Hp} (h : Scr K c H) : SqL K H c.sa (c.sns.map V.int) := by
  rcases h with ⟨o, h⟩ | h
  · exact .inl (.inr ⟨o, h⟩)
  · exact .inr h
structure CtOk (K : PySem.W.Frag) (c : Ct) : Prop where
  tup : ∀ k xs, c.has k = true → k.tup? = some xs → ∃ vs, RVs c [] xs vs ∧ ∃ (o : Obj) (its : Array Value) (n : Nat), K.lookup (c.con k) = some o ∧ o.cls = .type "tuple" ∧ o.data = .seq its n ∧ its.size ≤ sizeLine ∧ Vals vs its.toList
  dic : ∀ k kvs, c.has k = true → k.dic? = some kvs → ∃ es n, K.lookup (c.con k) = some ⟨.type "dict", none, .dict es n, #[]⟩ ∧ PySem.W.KeysLit c.P es.toList ∧ (c.con k == sysModules) = false ∧ Paired (REnt c) kvs es.toList
  line : c.sns.length ≤ 63

structure RelH (K : PySem.W.Frag) (c : Ct) (ι : List Addr) (ah : Hh) (H : Hp) : Prop where
  cok : CtOk K c
  scr : Scr K c H
  len : ι.length = ah.length
  obj : ∀ (n : Nat) (o : AO), ah[n]? = some o → ∃ a, ι[n]? = some a ∧ RO c ι H a o
  apart : ∀ (n m : Nat) (a : Addr) (o : AO), ah[n]? = some o → o.mut = true → ι[n]? = some a → ι[m]? = some a → m = n

structure Ext (H : Hp) (ι : List Addr) (H' : Hp) (ι' : List Addr) : Prop where
  pre : ∃ r, ι' = ι ++ r ∧ ∀ a ∈ r, H a = none
  fr : ∀ b o, H b = some o → b ∉ ι → H' b = some o
theorem Ext.refl (H : Hp) (ι : List Addr) : Ext H ι H ι := ⟨⟨[], by simp, by simp⟩, fun _ _ h _ => h⟩

section
variable {K : PySem.W.Frag} {c : Ct} {ι ι' ι1 ι2 : List Addr} {ah ah' ah1 : Hh} {H H' H1 H2 : Hp} {σ : L2.St} {sl : Sl}
theorem RO.tracked {a : Addr} {o : AO} (h : RO c ι H a o) : ∃ u, H a = some u := by
  cases o with
  | lst xs => obtain ⟨vs, _, e⟩ := h; exact ⟨_, e⟩
  | rol xs => obtain ⟨vs, _, e | ⟨o, e⟩⟩ := h <;> exact ⟨_, e⟩
  | tup xs => obtain ⟨vs, _, e | ⟨o, e⟩⟩ := h <;> exact ⟨_, e⟩
  | dic xs => obtain ⟨vs, _, e⟩ := h; exact ⟨_, e⟩
  | ins k xs => obtain ⟨dx, vs, _, e⟩ := h; exact ⟨_, e⟩
  | xd xs => obtain ⟨vs, _, e⟩ := h; exact ⟨_, e⟩
theorem RelH.tracked (h : RelH K c ι ah H) {a : Addr} (ha : a ∈ ι) : ∃ u, H a = some u := by
  obtain ⟨n, hn, e⟩ := List.mem_iff_getElem.mp ha
  have hl : n < ah.length := by rw [← h.len]; exact hn
  obtain ⟨b, hb, r⟩ := h.obj n ah[n] (List.getElem?_eq_getElem hl)
  rw [List.getElem?_eq_getElem hn, e] at hb
  cases hb
  exact r.tracked
theorem Ext.trans (a : Ext H ι H1 ι1) (h1 : RelH K c ι1 ah1 H1) (b : Ext H1 ι1 H2 ι2) : Ext H ι H2 ι2 := by
  obtain ⟨⟨r1, e1, n1⟩, f1⟩ := a
  obtain ⟨⟨r2, e2, n2⟩, f2⟩ := b
  refine ⟨⟨r1 ++ r2, by rw [e2, e1, List.append_assoc], fun x hx => ?_⟩, fun x o hx ni => f2 x o (f1 x o hx ni) fun hm => ?_⟩
  · rcases List.mem_append.mp hx with hx | hx
    · exact n1 x hx
    · cases q : H x with
      | none => rfl
      | some o =>
        have z := n2 x hx
        by_cases hm : x ∈ ι
        · obtain ⟨u, hu⟩ := h1.tracked (a := x) (by rw [e1]; exact List.mem_append_left _ hm)
          rw [z] at hu; cases hu
        · rw [f1 x o q hm] at z; cases z
  · rw [e1] at hm
    rcases List.mem_append.mp hm with hm | hm
    · exact ni hm
    · rw [n1 x hm] at hx; cases hx
theorem getElem?_pre {α : Type} {l r : List α} {n : Nat} {x : α} (h : l[n]? = some x) : (l ++ r)[n]? = some x := by
  rw [List.getElem?_append_left (by exact (List.getElem?_eq_some_iff.mp h).1)]
  exact h
theorem RV.app {v : AV} {x : V} (h : RV c ι v x) (r : List Addr) : RV c (ι ++ r) v x := by
  cases v with
  | ref n => obtain ⟨a, e, q⟩ := h; exact ⟨a, getElem?_pre e, q⟩
  | _ => exact h
theorem RV.ext {v : AV} {x : V} (h : RV c ι v x) (e : Ext H ι H' ι') : RV c ι' v x := by
  obtain ⟨⟨r, e, _⟩, _⟩ := e
  rw [e]; exact h.app r
theorem RVs.app {vs : List AV} {xs : List V} (h : RVs c ι vs xs) (r : List Addr) : RVs c (ι ++ r) vs xs := Paired.mapP h fun _ _ q => q.app r
theorem RVs.ext {vs : List AV} {xs : List V} (h : RVs c ι vs xs) (e : Ext H ι H' ι') : RVs c ι' vs xs := Paired.mapP h fun _ _ q => q.ext e
theorem RSl.ext {v : Option AV} {x : Option V} (h : RSl c ι v x) (e : Ext H ι H' ι') : RSl c ι' v x := by
  cases v with
  | none => trivial
  | some v => cases x with
    | none => exact h
    | some x => exact RV.ext h e
theorem RS.ext (h : RS c ι sl σ) (e : Ext H ι H' ι') : RS c ι' sl σ := Paired.mapP h fun _ _ q => q.ext e
theorem RF.app {vs : List (Str × AV)} {xs : List (Str × V)} (h : RF c ι vs xs) (r : List Addr) : RF c (ι ++ r) vs xs := Paired.mapP h fun _ _ q => ⟨q.1, q.2.app r⟩
theorem RKV.app {vs : List (AKey × AV)} {xs : List (Key × V)} (h : RKV c ι vs xs) (r : List Addr) : RKV c (ι ++ r) vs xs := Paired.mapP h fun _ _ q => ⟨q.1, q.2.app r⟩
/-- what an object's relation leans on: its own place -/
theorem RO.stay {a : Addr} {o : AO} (h : RO c ι H a o) (e : H' a = H a) (r : List Addr) : RO c (ι ++ r) H' a o := by
  cases o with
  | lst xs => obtain ⟨vs, p, q⟩ := h; exact ⟨vs, p.app r, e.trans q⟩
  | rol xs => obtain ⟨vs, p, q⟩ := h; exact ⟨vs, p.app r, by unfold Rd at q ⊢; rw [e]; exact q⟩
  | tup xs => obtain ⟨vs, p, q⟩ := h; exact ⟨vs, p.app r, by unfold Rd at q ⊢; rw [e]; exact q⟩
  | dic xs => obtain ⟨vs, p, q⟩ := h; exact ⟨vs, p.app r, e.trans q⟩
  | ins k xs => obtain ⟨dx, vs, p, q⟩ := h; exact ⟨dx, vs, p.app r, e.trans q⟩
  | xd xs => obtain ⟨vs, p, q⟩ := h; exact ⟨vs, p.app r, e.trans q⟩
theorem RO.stay0 {a : Addr} {o : AO} (h : RO c ι H a o) (e : H' a = H a) : RO c ι H' a o := by
  have := h.stay e []
  simpa using this
theorem Scr.stay (h : Scr K c H) {p : Addr} {o : HO} (hp : ∀ o' u, H p ≠ some (.frz o' u)) : Scr K c (upd H p o) := by
  rcases h with ⟨ob, h⟩ | h
  · refine .inl ⟨ob, ?_⟩
    rw [upd_ne (fun e => hp _ _ (e ▸ h))]; exact h
  · exact .inr h
/-- a new object that is given no name -/
theorem RelH.junk (h : RelH K c ι ah H) {p : Addr} {o : HO} (hp : H p = none) : RelH K c ι ah (upd H p o) := by
  refine ⟨h.cok, h.scr.stay (by intro _ _ e; rw [hp] at e; cases e), h.len, fun n ob e => ?_, h.apart⟩
  obtain ⟨a, ha, r⟩ := h.obj n ob e
  obtain ⟨u, hu⟩ := r.tracked
  exact ⟨a, ha, r.stay0 (upd_ne (ne_of_none hu hp))⟩
theorem Ext.junk {p : Addr} {o : HO} (hp : H p = none) : Ext H ι (upd H p o) ι :=
  ⟨⟨[], by simp, by simp⟩, fun b u hb _ => by rw [upd_ne (ne_of_none hb hp)]; exact hb⟩
/-- a new object with its name -/
theorem RelH.lay (h : RelH K c ι ah H) {p : Addr} {u : HO} {o : AO} (hp : H p = none) (ho : RO c (ι ++ [p]) (upd H p u) p o) : RelH K c (ι ++ [p]) (ah ++ [o]) (upd H p u) := by
  have hne : ∀ {n : Nat} {a : Addr}, ι[n]? = some a → a ≠ p := fun {n a} e z => by
    obtain ⟨u, hu⟩ := h.tracked (List.mem_of_getElem? e)
    rw [z, hp] at hu; cases hu
  refine ⟨h.cok, h.scr.stay (by intro _ _ e; rw [hp] at e; cases e), by simp [h.len], fun n ob e => ?_, fun n m a ob e mu e1 e2 => ?_⟩
  · by_cases hn : n < ah.length
    · rw [List.getElem?_append_left hn] at e
      obtain ⟨a, ha, r⟩ := h.obj n ob e
      exact ⟨a, getElem?_pre ha, r.stay (upd_ne (hne ha)) [p]⟩
    · have hn2 : n = ah.length := by
        have := (List.getElem?_eq_some_iff.mp e).1
        simp at this; omega
      subst hn2
      rw [List.getElem?_append_right (Nat.le_refl _)] at e
      simp at e
      subst e
      exact ⟨p, by rw [← h.len]; simp, ho⟩
  · have key : ∀ {k : Nat} {b : Addr}, (ι ++ [p])[k]? = some b → (k < ι.length ∧ ι[k]? = some b) ∨ (k = ι.length ∧ b = p) := fun {k b} e => by
      by_cases hk : k < ι.length
      · rw [List.getElem?_append_left hk] at e; exact .inl ⟨hk, e⟩
      · have := (List.getElem?_eq_some_iff.mp e).1
        have hk2 : k = ι.length := by simp at this; omega
        subst hk2
        simp at e
        exact .inr ⟨rfl, e.symm⟩
    rcases key e1 with ⟨l1, q1⟩ | ⟨l1, q1⟩ <;> rcases key e2 with ⟨l2, q2⟩ | ⟨l2, q2⟩
    · rw [List.getElem?_append_left (by rw [← h.len]; exact l1)] at e
      exact h.apart n m a ob e mu q1 q2
    · exact absurd q2 (hne q1)
    · exact absurd q1 (hne q2)
    · omega
theorem Ext.lay {p : Addr} {u : HO} (hp : H p = none) : Ext H ι (upd H p u) (ι ++ [p]) :=
  ⟨⟨[p], rfl, by simp [hp]⟩, fun b o hb _ => by rw [upd_ne (ne_of_none hb hp)]; exact hb⟩
/-- a named object is changed -/
theorem RelH.set (h : RelH K c ι ah H) {n : Nat} {a : Addr} {u : HO} {o o' : AO} (hn : ah[n]? = some o) (mu : o.mut = true) (mu' : o'.mut = true) (ha : ι[n]? = some a) (ho : RO c ι (upd H a u) a o') : RelH K c ι (ah.set n o') (upd H a u) := by
  have ro : ∃ b, ι[n]? = some b ∧ RO c ι H b o := h.obj n o hn
  obtain ⟨b, hb, r⟩ := ro
  rw [ha] at hb; cases hb
  refine ⟨h.cok, h.scr.stay ?_, by simp [h.len], fun m ob e => ?_, fun m k b ob e mb e1 e2 => ?_⟩
  · intro o' u' e
    cases o with
    | lst xs => obtain ⟨vs, _, q⟩ := r; rw [e] at q; cases q
    | dic xs => obtain ⟨vs, _, q⟩ := r; rw [e] at q; cases q
    | ins k xs => obtain ⟨dx, vs, _, q⟩ := r; rw [e] at q; cases q
    | xd xs => obtain ⟨vs, _, q⟩ := r; rw [e] at q; cases q
    | rol xs => cases mu
    | tup xs => cases mu
  · by_cases hm : m = n
    · subst hm
      rw [List.getElem?_set_self (by exact (List.getElem?_eq_some_iff.mp hn).1)] at e
      cases e
      exact ⟨a, ha, ho⟩
    · rw [List.getElem?_set_ne (Ne.symm hm)] at e
      obtain ⟨b, hb, r⟩ := h.obj m ob e
      refine ⟨b, hb, r.stay0 (upd_ne fun z => hm ?_)⟩
      subst z
      exact h.apart n m b o hn mu ha hb
  · by_cases hm : m = n
    · subst hm
      rw [ha] at e1; cases e1
      exact h.apart m k a o hn mu ha e2
    · rw [List.getElem?_set_ne (Ne.symm hm)] at e
      exact h.apart m k b ob e mb e1 e2
theorem Ext.set {n : Nat} {a : Addr} {u : HO} (ha : ι[n]? = some a) : Ext H ι (upd H a u) ι :=
  ⟨⟨[], by simp, by simp⟩, fun b o hb hm => by rw [upd_ne (fun z => hm (by rw [z]; exact List.mem_of_getElem? ha))]; exact hb⟩
end

/-! ### what is wanted behind -/
def RX (c : Ct) (ι : List Addr) (x : AX) (cls : Value) (d : Option Addr) : Prop :=
  cls = .ref (c.cls x.cls) ∧ match x.d, d with
    | none, none => True
    | some n, some a => ι[n]? = some a
    | _, _ => False
def Post {α β : Type} (K : PySem.W.Frag) (c : Ct) (W : WX) (σ : L2.St) (H : Hp) (ι : List Addr) (RB : List Addr → α → β → Prop) (r : R α) (Q : β → Hp → Prop) : Prop :=
  match r with
  | .ok a ah => ∀ ι' H' b, Ext H ι H' ι' → RelH K c ι' ah H' → RB ι' a b → Q b H'
  | .ex x ah => ∀ ι' H' cls d, Ext H ι H' ι' → RelH K c ι' ah H' → RX c ι' x cls d → W cls d σ H'
  | .no => False
section
variable {K : PySem.W.Frag} {c : Ct} {W : WX} {σ : L2.St} {H H1 : Hp} {ι ι1 : List Addr} {ah ah1 : Hh} {α β γ : Type} {RB : List Addr → α → β → Prop}
theorem Post.shift {r : R α} {Q : β → Hp → Prop} (p : Post K c W σ H ι RB r Q) (e : Ext H ι H1 ι1) (h1 : RelH K c ι1 ah1 H1) : Post K c W σ H1 ι1 RB r Q := by
  cases r with
  | ok a ah => exact fun ι' H' b e' r' q => p ι' H' b (e.trans h1 e') r' q
  | ex x ah => exact fun ι' H' cl d e' r' q => p ι' H' cl d (e.trans h1 e') r' q
  | no => exact p
theorem Post.bind {δ ε : Type} {RC : List Addr → δ → ε → Prop} {r : R α} {k : α → Hh → R δ} {Q : ε → Hp → Prop} (p : Post K c W σ H ι RC (r.bind k) Q) :
    Post K c W σ H ι RB r fun b H1 => ∃ ι1 a ah1, Ext H ι H1 ι1 ∧ RelH K c ι1 ah1 H1 ∧ RB ι1 a b ∧ Post K c W σ H1 ι1 RC (k a ah1) Q := by
  cases r with
  | ok a ah => exact fun ι' H' b e' r' q => ⟨ι', a, ah, e', r', q, Post.shift p e' r'⟩
  | ex x ah => exact p
  | no => exact p
end

abbrev Ev := Sl → Hh → R AV
abbrev Et := Sl → Hh → R Bool
abbrev Ea := Sl → Hh → R (List AV)
/-- the readings -/
def tD (K : PySem.W.Frag) (c : Ct) (W : WX) (m : Ev) : TE := fun σ H Q => ∃ ι sl ah, RelH K c ι ah H ∧ RS c ι sl σ ∧ Post K c W σ H ι (RV c) (m sl ah) Q
def tDt (K : PySem.W.Frag) (c : Ct) (W : WX) (m : Et) : TT := fun σ H Q => ∃ ι sl ah, RelH K c ι ah H ∧ RS c ι sl σ ∧ Post K c W σ H ι (fun _ a b => a = b) (m sl ah) Q
def tDa (K : PySem.W.Frag) (c : Ct) (W : WX) (m : Ea) : TA := fun σ H Q => ∃ ι sl ah, RelH K c ι ah H ∧ RS c ι sl σ ∧ Post K c W σ H ι (RVs c) (m sl ah) Q
abbrev DE (X : Cx) (c : Ct) (W : WX) (e : Expr) (m : Ev) : Prop := PE X e (tD X.K c W m)
abbrev DT (X : Cx) (c : Ct) (W : WX) (e : Expr) (m : Et) : Prop := PT X e (tDt X.K c W m)
abbrev DWt (X : Cx) (c : Ct) (W : WX) (e : Expr) (m : Et) : Prop := PW X e (tDt X.K c W m)
abbrev DA (X : Cx) (c : Ct) (W : WX) (es : List Expr) (m : Ea) : Prop := PA X es (tDa X.K c W m)

theorem pe_imp {X : Cx} {e : Expr} {t t' : TE} (h : PE X e t) (k : ∀ σ H Q, t' σ H Q → t σ H Q) : PE X e t' := ⟨fun pins s σ H Q I q => h.run pins s σ H Q I (k σ H Q q)⟩
theorem pt_imp {X : Cx} {e : Expr} {t t' : TT} (h : PT X e t) (k : ∀ σ H Q, t' σ H Q → t σ H Q) : PT X e t' := ⟨fun pins s σ H Q I q => h.run pins s σ H Q I (k σ H Q q)⟩
theorem pw_imp {X : Cx} {e : Expr} {t t' : TT} (h : PW X e t) (k : ∀ σ H Q, t' σ H Q → t σ H Q) : PW X e t' := ⟨fun wh pins s σ H Q I q => h.run wh pins s σ H Q I (k σ H Q q)⟩
theorem pa_imp {X : Cx} {e : List Expr} {t t' : TA} (h : PA X e t) (k : ∀ σ H Q, t' σ H Q → t σ H Q) : PA X e t' := ⟨fun po pins s σ H Q I q => h.run po pins s σ H Q I (k σ H Q q)⟩
theorem ps_imp {X : Cx} {e : Stmt} {t t' : TS} (h : PS X e t) (k : ∀ D σ H, t' D σ H → t D σ H) : PS X e t' := ⟨fun pins s σ H D I q => h.run pins s σ H D I (k D σ H q)⟩
theorem pss_imp {X : Cx} {e : List Stmt} {t t' : TS} (h : PSs X e t) (k : ∀ D σ H, t' D σ H → t D σ H) : PSs X e t' := ⟨fun pins s σ H D I q => h.run pins s σ H D I (k D σ H q)⟩
end Det

/-! Det1: expressions. -/
namespace Det
open PySem PySem.Spec PyProof.Rows L2

/-! ### data as trees -/
inductive D where
  | non | bl (b : Bool) | int (i : Int) | str (s : List Nat) | lst (xs : List D) | tup (xs : List D)
def mapO {α β : Type} (f : α → Option β) : List α → Option (List β)
  | [] => some []
  | x :: r => match f x, mapO f r with
    | some y, some ys => some (y :: ys)
    | _, _ => none
def reify : Nat → Hh → AV → Option D
  | 0, _, _ => none
  | f + 1, h, v => match v with
    | .non => some .non
    | .bl b => some (.bl b)
    | .int i => some (.int i)
    | .str s => some (.str s)
    | .ref n => match h[n]? with
      | some (.lst xs) => (mapO (reify f h) xs).map .lst
      | some (.rol xs) => (mapO (reify f h) xs).map .lst
      | some (.tup xs) => (mapO (reify f h) xs).map .tup
      | _ => none
    | .con k => match k.tup? with
      | some xs => (mapO (reify f h) xs).map .tup
      | none => none
    | .scr ns => some (.lst (ns.map .int))
mutual
def D.eqv : D → D → Bool
  | .non, .non => true
  | .bl a, .bl b => a == b
  | .bl a, .int j => (if a then 1 else 0) == j
  | .int i, .bl b => i == (if b then 1 else 0)
  | .int i, .int j => i == j
  | .str x, .str y => x == y
  | .lst xs, .lst ys => D.eqvs xs ys
  | .tup xs, .tup ys => D.eqvs xs ys
  | _, _ => false
def D.eqvs : List D → List D → Bool
  | [], [] => true
  | x :: xs, y :: ys => D.eqv x y && D.eqvs xs ys
  | _, _ => false
end
mutual
def D.fine : D → Bool
  | .str s => s.all (· < 1114112)
  | .lst xs => D.fines xs
  | .tup xs => D.fines xs
  | _ => true
def D.fines : List D → Bool
  | [] => true
  | x :: xs => D.fine x && D.fines xs
end
mutual
def D.py : D → PyData
  | .non => .none
  | .bl b => .bool b
  | .int i => .int i
  | .str s => .str (mkS s)
  | .lst xs => .list (D.pys xs)
  | .tup xs => .tuple (D.pys xs)
def D.pys : List D → List PyData
  | [] => []
  | x :: xs => D.py x :: D.pys xs
end
theorem mkS_beq (a b : List Nat) : (mkS a == mkS b) = (a == b) := by
  rw [Bool.eq_iff_iff, beq_iff_eq, beq_iff_eq]
  exact ⟨mkS_inj, fun e => by rw [e]⟩
mutual
theorem py_eqv : ∀ d e : D, PyData.eqv d.py e.py = D.eqv d e
  | .non, .non => by simp [D.py, PyData.eqv, D.eqv]
  | .non, .bl _ => by simp [D.py, PyData.eqv, D.eqv]
  | .non, .int _ => by simp [D.py, PyData.eqv, D.eqv]
  | .non, .str _ => by simp [D.py, PyData.eqv, D.eqv]
  | .non, .lst _ => by simp [D.py, PyData.eqv, D.eqv]
  | .non, .tup _ => by simp [D.py, PyData.eqv, D.eqv]
  | .bl _, .non => by simp [D.py, PyData.eqv, D.eqv]
  | .bl _, .bl _ => by simp [D.py, PyData.eqv, D.eqv]
  | .bl _, .int _ => by simp [D.py, PyData.eqv, D.eqv]
  | .bl _, .str _ => by simp [D.py, PyData.eqv, D.eqv]
  | .bl _, .lst _ => by simp [D.py, PyData.eqv, D.eqv]
  | .bl _, .tup _ => by simp [D.py, PyData.eqv, D.eqv]
  | .int _, .non => by simp [D.py, PyData.eqv, D.eqv]
  | .int _, .bl _ => by simp [D.py, PyData.eqv, D.eqv]
  | .int _, .int _ => by simp [D.py, PyData.eqv, D.eqv]
  | .int _, .str _ => by simp [D.py, PyData.eqv, D.eqv]
  | .int _, .lst _ => by simp [D.py, PyData.eqv, D.eqv]
  | .int _, .tup _ => by simp [D.py, PyData.eqv, D.eqv]
  | .str _, .non => by simp [D.py, PyData.eqv, D.eqv]
  | .str _, .bl _ => by simp [D.py, PyData.eqv, D.eqv]
  | .str _, .int _ => by simp [D.py, PyData.eqv, D.eqv]
  | .str a, .str b => by simp only [D.py, PyData.eqv, D.eqv]; exact mkS_beq a b
  | .str _, .lst _ => by simp [D.py, PyData.eqv, D.eqv]
  | .str _, .tup _ => by simp [D.py, PyData.eqv, D.eqv]
  | .lst _, .non => by simp [D.py, PyData.eqv, D.eqv]
  | .lst _, .bl _ => by simp [D.py, PyData.eqv, D.eqv]
  | .lst _, .int _ => by simp [D.py, PyData.eqv, D.eqv]
  | .lst _, .str _ => by simp [D.py, PyData.eqv, D.eqv]
  | .lst xs, .lst ys => by simp only [D.py, PyData.eqv, D.eqv]; exact pys_eqv xs ys
  | .lst _, .tup _ => by simp [D.py, PyData.eqv, D.eqv]
  | .tup _, .non => by simp [D.py, PyData.eqv, D.eqv]
  | .tup _, .bl _ => by simp [D.py, PyData.eqv, D.eqv]
  | .tup _, .int _ => by simp [D.py, PyData.eqv, D.eqv]
  | .tup _, .str _ => by simp [D.py, PyData.eqv, D.eqv]
  | .tup _, .lst _ => by simp [D.py, PyData.eqv, D.eqv]
  | .tup xs, .tup ys => by simp only [D.py, PyData.eqv, D.eqv]; exact pys_eqv xs ys
theorem pys_eqv : ∀ d e : List D, PyData.eqvAll (D.pys d) (D.pys e) = D.eqvs d e
  | [], [] => by simp [D.pys, PyData.eqvAll, D.eqvs]
  | [], _ :: _ => by simp [D.pys, PyData.eqvAll, D.eqvs]
  | _ :: _, [] => by simp [D.pys, PyData.eqvAll, D.eqvs]
  | x :: xs, y :: ys => by simp only [D.pys, PyData.eqvAll, D.eqvs]; rw [py_eqv x y, pys_eqv xs ys]
end
mutual
theorem py_lay : ∀ d : D, d.fine = true → d.py.canLay0 = true
  | .non, _ => by simp [D.py, PyData.canLay0]
  | .bl _, _ => by simp [D.py, PyData.canLay0]
  | .int _, _ => by simp [D.py, PyData.canLay0]
  | .str s, h => by
    simp only [D.py, PyData.canLay0]
    simp only [D.fine] at h
    simpa [PyData.strOk, mkS] using h
  | .lst xs, h => by simp only [D.py, PyData.canLay0]; exact pys_lay xs (by simpa [D.fine] using h)
  | .tup xs, h => by simp only [D.py, PyData.canLay0]; exact pys_lay xs (by simpa [D.fine] using h)
theorem pys_lay : ∀ d : List D, D.fines d = true → PyData.canLayAll0 (D.pys d) = true
  | [], _ => by simp [D.pys, PyData.canLayAll0]
  | x :: xs, h => by
    simp only [D.fines, Bool.and_eq_true] at h
    simp only [D.pys, PyData.canLayAll0, Bool.and_eq_true]
    exact ⟨py_lay x h.1, pys_lay xs h.2⟩
end
theorem mapO_cons {α β : Type} {f : α → Option β} {x : α} {r : List α} {zs : List β} (h : mapO f (x :: r) = some zs) : ∃ y ys, f x = some y ∧ mapO f r = some ys ∧ zs = y :: ys := by
  unfold mapO at h
  split at h
  · rename_i y ys e1 e2
    exact ⟨y, ys, e1, e2, (Option.some.inj h).symm⟩
  · cases h
theorem mapO_nil {α β : Type} {f : α → Option β} {zs : List β} (h : mapO f [] = some zs) : zs = [] := (Option.some.inj h).symm
theorem reify_depth : ∀ (f : Nat) (h : Hh) (v : AV) (d : D), reify f h v = some d → d.py.depth ≤ f := by
  intro f
  induction f with
  | zero => intro h v d e; simp [reify] at e
  | succ f ih =>
    intro h v d e
    have all : ∀ (xs : List AV) (ds : List D), mapO (reify f h) xs = some ds → PyData.depthAll (D.pys ds) ≤ f := by
      intro xs
      induction xs with
      | nil => intro ds e; rw [mapO_nil e]; simp [D.pys, PyData.depthAll]
      | cons x r ihr =>
        intro ds e
        obtain ⟨y, ys, e1, e2, rfl⟩ := mapO_cons e
        simp only [D.pys, PyData.depthAll]
        exact Nat.max_le.mpr ⟨ih h x y e1, ihr ys e2⟩
    unfold reify at e
    split at e
    · cases e; simp [D.py, PyData.depth]
    · cases e; simp [D.py, PyData.depth]
    · cases e; simp [D.py, PyData.depth]
    · cases e; simp [D.py, PyData.depth]
    · split at e
      · obtain ⟨ds, e1, rfl⟩ := Option.map_eq_some_iff.mp e
        simp only [D.py, PyData.depth]; exact Nat.succ_le_succ (all _ _ e1)
      · obtain ⟨ds, e1, rfl⟩ := Option.map_eq_some_iff.mp e
        simp only [D.py, PyData.depth]; exact Nat.succ_le_succ (all _ _ e1)
      · obtain ⟨ds, e1, rfl⟩ := Option.map_eq_some_iff.mp e
        simp only [D.py, PyData.depth]; exact Nat.succ_le_succ (all _ _ e1)
      · cases e
    · split at e
      · obtain ⟨ds, e1, rfl⟩ := Option.map_eq_some_iff.mp e
        simp only [D.py, PyData.depth]; exact Nat.succ_le_succ (all _ _ e1)
      · cases e
    · cases e
      simp only [D.py, PyData.depth]
      have : ∀ ns : List Int, PyData.depthAll (D.pys (ns.map D.int)) = 0 := by
        intro ns
        induction ns with
        | nil => simp [D.pys, PyData.depthAll]
        | cons n r ihr => simp [D.pys, PyData.depthAll, D.py, PyData.depth, ihr]
      rw [this]; omega

/-! ### reading lists and tuples -/
def rdL (h : Hh) : AV → Option (List AV)
  | .ref n => match h[n]? with
    | some (.lst xs) => some xs
    | some (.rol xs) => some xs
    | _ => none
  | .scr ns => some (ns.map .int)
  | _ => none
def rdT (h : Hh) : AV → Option (List AV)
  | .ref n => match h[n]? with
    | some (.tup xs) => some xs
    | _ => none
  | .con k => k.tup?
  | _ => none
section
variable {K : PySem.W.Frag} {c : Ct} {ι ι' : List Addr} {ah : Hh} {H H' : Hp}
theorem RelH.at (R : RelH K c ι ah H) {n : Nat} {o : AO} (h : ah[n]? = some o) {v : V} (r : RV c ι (.ref n) v) : ∃ a, v = .ref a ∧ ι[n]? = some a ∧ RO c ι H a o := by
  obtain ⟨a, e, rfl⟩ := r
  obtain ⟨b, hb, ro⟩ := R.obj n o h
  rw [e] at hb; cases hb
  exact ⟨a, rfl, e, ro⟩
theorem ints_rv {c : Ct} {ι : List Addr} : ∀ ns : List Int, RVs c ι (ns.map AV.int) (ns.map V.int)
  | [] => .nil
  | n :: r => .cons rfl (ints_rv r)
theorem rdL_ok (R : RelH K c ι ah H) {v : AV} {x : V} {xs : List AV} (h : rdL ah v = some xs) (r : RV c ι v x) : ∃ a vs, x = .ref a ∧ SqL K H a vs ∧ RVs c ι xs vs := by
  unfold rdL at h
  split at h
  · split at h
    · rename_i n _ ys e
      cases h
      obtain ⟨a, rfl, _, vs, rv, e⟩ := R.at e r
      exact ⟨a, vs, rfl, .inl (.inl e), rv⟩
    · rename_i n _ ys e
      cases h
      obtain ⟨a, rfl, _, vs, rv, e⟩ := R.at e r
      exact ⟨a, vs, rfl, .inl e, rv⟩
    · cases h
  · rename_i ns
    cases h
    obtain ⟨rfl, e⟩ := r
    exact ⟨c.sa, _, rfl, R.scr.sql, by rw [e]; exact ints_rv _⟩
  · cases h
theorem rdT_ok (R : RelH K c ι ah H) {v : AV} {x : V} {xs : List AV} (h : rdT ah v = some xs) (r : RV c ι v x) : ∃ a vs, x = .ref a ∧ SqT K H a vs ∧ RVs c ι xs vs := by
  unfold rdT at h
  split at h
  · split at h
    · rename_i n _ ys e
      cases h
      obtain ⟨a, rfl, _, vs, rv, e⟩ := R.at e r
      exact ⟨a, vs, rfl, .inl e, rv⟩
    · cases h
  · rename_i k
    obtain ⟨rfl, hk⟩ := r
    obtain ⟨vs, rv, q⟩ := R.cok.tup k xs hk h
    refine ⟨_, vs, rfl, .inr q, ?_⟩
    have := rv.app ι
    simpa using this
  · cases h
theorem reify_dp (R : RelH K c ι ah H) : ∀ (f : Nat) (v : AV) (x : V) (d : D), reify f ah v = some d → RV c ι v x → Dp K H x d.py := by
  intro f
  induction f with
  | zero => intro v x d e; simp [reify] at e
  | succ f ih =>
    intro v x d e r
    have all : ∀ (xs : List AV) (ds : List D) (vs : List V), mapO (reify f ah) xs = some ds → RVs c ι xs vs → DpAll K H vs (D.pys ds) := by
      intro xs
      induction xs with
      | nil => intro ds vs e r; cases r; rw [mapO_nil e]; exact .nil
      | cons x r ihr =>
        intro ds vs e r
        obtain ⟨y, ys, e1, e2, rfl⟩ := mapO_cons e
        cases r with
        | cons r1 r2 => exact .cons (ih x _ y e1 r1) (ihr ys _ e2 r2)
    unfold reify at e
    split at e
    · cases e; cases r; exact .non
    · cases e; cases r; exact .bl _
    · cases e; cases r; exact .int _
    · cases e; cases r; exact .str _
    · split at e
      · rename_i n _ ys q
        obtain ⟨ds, e1, rfl⟩ := Option.map_eq_some_iff.mp e
        obtain ⟨a, vs, rfl, s, rv⟩ := rdL_ok (v := .ref n) (xs := ys) R (by simp [rdL, q]) r
        exact .lst s (all _ _ _ e1 rv)
      · rename_i n _ ys q
        obtain ⟨ds, e1, rfl⟩ := Option.map_eq_some_iff.mp e
        obtain ⟨a, vs, rfl, s, rv⟩ := rdL_ok (v := .ref n) (xs := ys) R (by simp [rdL, q]) r
        exact .lst s (all _ _ _ e1 rv)
      · rename_i n _ ys q
        obtain ⟨ds, e1, rfl⟩ := Option.map_eq_some_iff.mp e
        obtain ⟨a, vs, rfl, s, rv⟩ := rdT_ok (v := .ref n) (xs := ys) R (by simp [rdT, q]) r
        exact .tup s (all _ _ _ e1 rv)
      · cases e
    · rename_i k
      split at e
      · rename_i ys q
        obtain ⟨ds, e1, rfl⟩ := Option.map_eq_some_iff.mp e
        obtain ⟨a, vs, rfl, s, rv⟩ := rdT_ok (v := .con k) (xs := ys) R q r
        exact .tup s (all _ _ _ e1 rv)
      · cases e
    · rename_i ns
      cases e
      obtain ⟨a, vs, rfl, s, rv⟩ := rdL_ok (v := .scr ns) R rfl r
      refine .lst s ?_
      have : ∀ (ns : List Int) (vs : List V), RVs c ι (ns.map AV.int) vs → DpAll K H vs (D.pys (ns.map D.int)) := by
        intro ns
        induction ns with
        | nil => intro vs r; cases r; exact .nil
        | cons n r ihr => intro vs r; cases r with
          | cons r1 r2 => cases r1; exact .cons (.int _) (ihr _ r2)
      exact this ns vs rv
theorem reify_shaped {f : Nat} {v : AV} {d : D} (h : reify f ah v = some d) (hf : f ≤ 64) (hd : d.fine = true) : SeqAt.shaped d.py = true := by
  unfold SeqAt.shaped
  rw [py_lay d hd]
  have := reify_depth f ah v d h
  simp only [Bool.true_and, decide_eq_true_eq]
  omega
end
end Det

/-! Det2: names, constants, operators. -/
namespace Det
open PySem PySem.Spec PyProof.Rows L2

def LINE : Nat := 16777216
theorem line_eq : sizeLine = LINE := sizeLine_eq
section
variable {X : Cx} {c : Ct} {W : WX}

/-! ### names, constants -/
def mVar (i : Nat) : Ev := fun sl h => match sl[i]? with
  | some (some v) => .ok v h
  | _ => .no
def mC (v : AV) : Ev := fun _ h => .ok v h
theorem RS.get {ι : List Addr} {sl : Sl} {σ : L2.St} (r : RS c ι sl σ) {i : Nat} {v : AV} (h : sl[i]? = some (some v)) : ∃ x, σ[i]? = some (some x) ∧ RV c ι v x := by
  obtain ⟨b, hb, q⟩ := paired_get r h
  cases b with
  | none => exact absurd q (by simp [RSl])
  | some x => exact ⟨x, hb, q⟩
theorem de_var (i : Nat) {x : Str} {pos : Pos} (h : PE X (.Name x pos) (tVar i)) : DE X c W (.Name x pos) (mVar i) := by
  refine pe_imp h fun σ H Q ⟨ι, sl, ah, R, S, p⟩ => ?_
  unfold mVar at p
  split at p
  · rename_i v e
    obtain ⟨x, hx, rv⟩ := S.get e
    exact ⟨x, hx, p ι H x (Ext.refl _ _) R rv⟩
  · exact p.elim
theorem de_c {e : Expr} {v : AV} {x : V} (h : PE X e (tC x)) (r : ∀ ι, RV c ι v x) : DE X c W e (mC v) :=
  pe_imp h fun σ H Q ⟨ι, sl, ah, R, S, p⟩ => p ι H x (Ext.refl _ _) R (r ι)
theorem de_int {i : Int} {j pos} : DE X c W (.Constant (.int i) j pos) (mC (.int i)) := de_c pe_int fun _ => rfl
theorem de_bl {b : Bool} {j pos} : DE X c W (.Constant (.bool b) j pos) (mC (.bl b)) := de_c pe_bl fun _ => rfl
theorem de_non {j pos} : DE X c W (.Constant .none j pos) (mC .non) := de_c pe_non fun _ => rfl
theorem de_str (s : List Nat) {x : Str} {j pos} (h : x.cps.toList = s := by decide +kernel) : DE X c W (.Constant (.str x) j pos) (mC (.str s)) :=
  de_c pe_str fun _ => by subst h; show V.str x = V.str _; rw [mkS_tl]

/-! ### operators -/
abbrev Op2 := AV → AV → Hh → Option (AV × Hh)
def rD (K : PySem.W.Frag) (c : Ct) (f : Op2) : R2 := fun x y H Q => ∃ ι a b ah v ah', RelH K c ι ah H ∧ RV c ι a x ∧ RV c ι b y ∧ f a b ah = some (v, ah') ∧
  ∀ ι' H' z, Ext H ι H' ι' → RelH K c ι' ah' H' → RV c ι' v z → Q z H'
def DOp (X : Cx) (c : Ct) (F : Value → Value → Sem Value) (f : Op2) : Prop := OpR X F (rD X.K c f)
def mBin (f : Op2) (ma mb : Ev) : Ev := fun sl h => (ma sl h).bind fun x h1 => (mb sl h1).bind fun y h2 => R.of (f x y h2)
def mChain (f g : Op2) (ma mb mc : Ev) : Ev := fun sl h => (ma sl h).bind fun x h1 => (mb sl h1).bind fun y h2 => (R.of (f x y h2)).bind fun r h3 => match r with
  | .bl true => (mc sl h3).bind fun z h4 => R.of (g y z h4)
  | .bl false => .ok (.bl false) h3
  | _ => .no
variable {K : PySem.W.Frag} {σ : L2.St} {H H' : Hp} {ι ι' : List Addr} {sl : Sl} {ah ah' : Hh}
theorem Post.mono {α β : Type} {RB : List Addr → α → β → Prop} {r : R α} {Q Q' : β → Hp → Prop} (p : Post K c W σ H ι RB r Q) (h : ∀ b H', Q b H' → Q' b H') : Post K c W σ H ι RB r Q' := by
  cases r with
  | ok a ah => exact fun ι' H' b e r q => h _ _ (p ι' H' b e r q)
  | ex x ah => exact p
  | no => exact p
/-- the workhorse: a part's post, with what is left behind it -/
theorem Post.step {α β δ ε : Type} {RB : List Addr → α → β → Prop} {RC : List Addr → δ → ε → Prop} {r : R α} {k : α → Hh → R δ} {Q : ε → Hp → Prop} {Q' : β → Hp → Prop} (p : Post K c W σ H ι RC (r.bind k) Q)
    (h : ∀ b H1 ι1 a ah1, Ext H ι H1 ι1 → RelH K c ι1 ah1 H1 → RB ι1 a b → Post K c W σ H1 ι1 RC (k a ah1) Q → Q' b H1) : Post K c W σ H ι RB r Q' :=
  Post.mono (Post.bind (RB := RB) p) fun b H1 ⟨ι1, a, ah1, e, rh, q, p1⟩ => h b H1 ι1 a ah1 e rh q p1
theorem post_of {f : Op2} {a b : AV} {x y : V} {Q : VK} (rh : RelH K c ι ah H) (ra : RV c ι a x) (rb : RV c ι b y) (p : Post K c W σ H ι (RV c) (R.of (f a b ah)) Q) : rD K c f x y H Q := by
  cases e : f a b ah with
  | none => rw [e] at p; exact p.elim
  | some r =>
    obtain ⟨v, ah'⟩ := r
    rw [e] at p
    exact ⟨ι, a, b, ah, v, ah', rh, ra, rb, e, fun ι' H' z e1 r1 rz => p ι' H' z e1 r1 rz⟩
theorem bin_imp {f : Op2} {ma mb : Ev} {Q : VK} (h : tD K c W (mBin f ma mb) σ H Q) : tOp (rD K c f) (tD K c W ma) (tD K c W mb) σ H Q := by
  obtain ⟨ι, sl, ah, rh, S, p⟩ := h
  refine ⟨ι, sl, ah, rh, S, Post.step p fun x H1 ι1 a ah1 e1 r1 ra p1 => ?_⟩
  exact ⟨ι1, sl, ah1, r1, S.ext e1, Post.step p1 fun y H2 ι2 b ah2 e2 r2 rb p2 => post_of r2 (ra.ext e2) rb p2⟩
theorem de_bin {op : Operator} {f : Op2} {a b : Expr} {ma mb : Ev} {pos : Pos} (ho : DOp X c (binaryOp op) f) (ha : DE X c W a ma) (hb : DE X c W b mb) : DE X c W (.BinOp a op b pos) (mBin f ma mb) :=
  pe_imp (pe_op ho ha hb) fun _ _ _ h => bin_imp h
theorem de_cmp {op : CmpOp} {f : Op2} {a b : Expr} {ma mb : Ev} {pos : Pos} (ho : DOp X c (compareOp op) f) (ha : DE X c W a ma) (hb : DE X c W b mb) (hm : behindInMarks op b = false) : DE X c W (.Compare a [op] [b] pos) (mBin f ma mb) :=
  pe_imp (pe_cmpR ho ha hb hm) fun _ _ _ h => bin_imp h
/-- a value that is a bool, as a test -/
def mB (m : Ev) : Et := fun sl h => (m sl h).bind fun v h1 => match v with
  | .bl b => .ok b h1
  | _ => .no
theorem tB_imp {m : Ev} {Q : Bool → Hp → Prop} (h : tDt K c W (mB m) σ H Q) : tD K c W m σ H fun x H' => ∃ k, x = .bl k ∧ Q k H' := by
  obtain ⟨ι, sl, ah, rh, S, p⟩ := h
  refine ⟨ι, sl, ah, rh, S, Post.step p fun x H1 ι1 a ah1 e1 r1 ra p1 => ?_⟩
  cases a with
  | bl b => cases ra; exact ⟨b, rfl, p1 ι1 H1 b (Ext.refl _ _) r1 rfl⟩
  | _ => exact p1.elim
theorem tD_mono {m : Ev} {Q Q' : VK} (h : tD K c W m σ H Q) (k : ∀ v H', Q v H' → Q' v H') : tD K c W m σ H Q' := by
  obtain ⟨ι, sl, ah, rh, S, p⟩ := h
  exact ⟨ι, sl, ah, rh, S, Post.mono p k⟩
theorem rD_mono {f : Op2} {x y : V} {Q Q' : VK} (h : rD K c f x y H Q) (k : ∀ v H', Q v H' → Q' v H') : rD K c f x y H Q' := by
  obtain ⟨ι, a, b, ah, v, ah', rh, ra, rb, e, q⟩ := h
  exact ⟨ι, a, b, ah, v, ah', rh, ra, rb, e, fun ι' H' z e1 r1 rz => k _ _ (q ι' H' z e1 r1 rz)⟩
theorem dt_cmp {op : CmpOp} {f : Op2} {a b : Expr} {ma mb : Ev} {pos : Pos} (ho : DOp X c (compareOp op) f) (ha : DE X c W a ma) (hb : DE X c W b mb) (hm : behindInMarks op b = false) : DT X c W (.Compare a [op] [b] pos) (mB (mBin f ma mb)) :=
  pt_imp (pt_cmpR ho ha hb hm) fun σ H Q h => bin_imp (tB_imp h)
theorem chain_imp {f g : Op2} {ma mb mc : Ev} {Q : VK} (h : tD K c W (mChain f g ma mb mc) σ H Q) : tChain (rD K c f) (rD K c g) (tD K c W ma) (tD K c W mb) (tD K c W mc) σ H Q := by
  obtain ⟨ι, sl, ah, rh, S, p⟩ := h
  refine ⟨ι, sl, ah, rh, S, Post.step p fun x H1 ι1 a ah1 e1 r1 ra p1 => ?_⟩
  refine ⟨ι1, sl, ah1, r1, S.ext e1, Post.step p1 fun y H2 ι2 b ah2 e2 r2 rb p2 => ?_⟩
  have q := post_of (Q := fun z H3 => ∃ k, z = .bl k ∧ (if k = true then tD K c W mc σ H3 fun w' H4 => rD K c g y w' H4 Q else Q (.bl false) H3)) r2 (ra.ext e2) rb (Post.step p2 fun z H3 ι3 v ah3 e3 r3 rv p3 => ?_)
  · exact q
  · cases v with
    | bl k =>
      cases rv
      cases k with
      | true =>
        refine ⟨true, rfl, ?_⟩
        rw [if_pos rfl]
        exact ⟨ι3, sl, ah3, r3, (S.ext e1).ext e2 |>.ext e3, Post.step p3 fun w H4 ι4 d ah4 e4 r4 rd p4 => post_of r4 ((rb.ext e3).ext e4) rd p4⟩
      | false =>
        refine ⟨false, rfl, ?_⟩
        rw [if_neg Bool.false_ne_true]
        exact p3 ι3 H3 _ (Ext.refl _ _) r3 rfl
    | _ => exact p3.elim
theorem de_chain {op op' : CmpOp} {f g : Op2} {a b d : Expr} {ma mb mc : Ev} {pos : Pos} (ho : DOp X c (compareOp op) f) (ho' : DOp X c (compareOp op') g) (ha : DE X c W a ma) (hb : DE X c W b mb) (hc : DE X c W d mc)
    (hm : lastMarks [op, op'] [b, d] = false := by with_unfolding_all rfl) : DE X c W (.Compare a [op, op'] [b, d] pos) (mChain f g ma mb mc) :=
  pe_imp (pe_chain ho ho' ha hb hc hm) fun _ _ _ h => chain_imp h
theorem dt_chain {op op' : CmpOp} {f g : Op2} {a b d : Expr} {ma mb mc : Ev} {pos : Pos} (ho : DOp X c (compareOp op) f) (ho' : DOp X c (compareOp op') g) (ha : DE X c W a ma) (hb : DE X c W b mb) (hc : DE X c W d mc)
    (hm : lastMarks [op, op'] [b, d] = false := by with_unfolding_all rfl) : DT X c W (.Compare a [op, op'] [b, d] pos) (mB (mChain f g ma mb mc)) :=
  pt_imp (pt_chain ho ho' ha hb hc hm) fun σ H Q h => chain_imp (tB_imp h)
/-! ### and, or, not, if else -/
def mAndV (ma mb : Ev) : Ev := fun sl h => (ma sl h).bind fun x h1 => match x with
  | .bl true => mb sl h1
  | .bl false => .ok (.bl false) h1
  | _ => .no
def mOrV (ma mb : Ev) : Ev := fun sl h => (ma sl h).bind fun x h1 => match x with
  | .bl true => .ok (.bl true) h1
  | .bl false => mb sl h1
  | _ => .no
def mNotV (ma : Ev) : Ev := fun sl h => (ma sl h).bind fun x h1 => match x with
  | .bl b => .ok (.bl (!b)) h1
  | _ => .no
def mAnd (ma mb : Et) : Et := fun sl h => (ma sl h).bind fun x h1 => if x = true then mb sl h1 else .ok false h1
def mOr (ma mb : Et) : Et := fun sl h => (ma sl h).bind fun x h1 => if x = true then .ok true h1 else mb sl h1
def mNot (ma : Et) : Et := fun sl h => (ma sl h).bind fun x h1 => .ok (!x) h1
def mIfE (t : Et) (ma mb : Ev) : Ev := fun sl h => (t sl h).bind fun x h1 => if x = true then ma sl h1 else mb sl h1
section
variable {a b : Expr} {rest : List Expr} {ma mb : Ev} {ta tb : Et} {pos : Pos}
theorem de_one {op} (h : DE X c W a ma) : DE X c W (.BoolOp op [a] pos) ma := pe_one h
theorem de_and (ha : DE X c W a ma) (hb : DE X c W (.BoolOp .And (b :: rest) pos) mb) : DE X c W (.BoolOp .And (a :: b :: rest) pos) (mAndV ma mb) :=
  pe_imp (pe_and ha hb) fun σ H Q ⟨ι, sl, ah, rh, S, p⟩ => ⟨ι, sl, ah, rh, S, Post.step p fun x H1 ι1 v ah1 e1 r1 rv p1 => by
    cases v with
    | bl k =>
      cases rv
      cases k with
      | true => exact ⟨true, rfl, ι1, sl, ah1, r1, S.ext e1, p1⟩
      | false => exact ⟨false, rfl, p1 ι1 H1 _ (Ext.refl _ _) r1 rfl⟩
    | _ => exact p1.elim⟩
theorem de_or (ha : DE X c W a ma) (hb : DE X c W (.BoolOp .Or (b :: rest) pos) mb) : DE X c W (.BoolOp .Or (a :: b :: rest) pos) (mOrV ma mb) :=
  pe_imp (pe_or ha hb) fun σ H Q ⟨ι, sl, ah, rh, S, p⟩ => ⟨ι, sl, ah, rh, S, Post.step p fun x H1 ι1 v ah1 e1 r1 rv p1 => by
    cases v with
    | bl k =>
      cases rv
      cases k with
      | false => exact ⟨false, rfl, ι1, sl, ah1, r1, S.ext e1, p1⟩
      | true => exact ⟨true, rfl, p1 ι1 H1 _ (Ext.refl _ _) r1 rfl⟩
    | _ => exact p1.elim⟩
theorem de_not (ha : DE X c W a ma) : DE X c W (.UnaryOp .Not a pos) (mNotV ma) :=
  pe_imp (pe_not ha) fun σ H Q ⟨ι, sl, ah, rh, S, p⟩ => ⟨ι, sl, ah, rh, S, Post.step p fun x H1 ι1 v ah1 e1 r1 rv p1 => by
    cases v with
    | bl k => cases rv; exact ⟨k, rfl, p1 ι1 H1 _ (Ext.refl _ _) r1 rfl⟩
    | _ => exact p1.elim⟩
theorem dw_and1 (ha : DT X c W a ta) : DWt X c W (.BoolOp .And [a] pos) ta := pw_and1 ha
theorem dw_or1 (ha : DT X c W a ta) : DWt X c W (.BoolOp .Or [a] pos) ta := pw_or1 ha
theorem dw_and (ha : DT X c W a ta) (hb : DWt X c W (.BoolOp .And (b :: rest) pos) tb) : DWt X c W (.BoolOp .And (a :: b :: rest) pos) (mAnd ta tb) :=
  pw_imp (pw_and ha hb) fun σ H Q ⟨ι, sl, ah, rh, S, p⟩ => ⟨ι, sl, ah, rh, S, Post.step p fun x H1 ι1 v ah1 e1 r1 rv p1 => by
    cases rv
    cases x with
    | true => exact ⟨ι1, sl, ah1, r1, S.ext e1, p1⟩
    | false => exact p1 ι1 H1 _ (Ext.refl _ _) r1 rfl⟩
theorem dw_or (ha : DT X c W a ta) (hb : DWt X c W (.BoolOp .Or (b :: rest) pos) tb) : DWt X c W (.BoolOp .Or (a :: b :: rest) pos) (mOr ta tb) :=
  pw_imp (pw_or ha hb) fun σ H Q ⟨ι, sl, ah, rh, S, p⟩ => ⟨ι, sl, ah, rh, S, Post.step p fun x H1 ι1 v ah1 e1 r1 rv p1 => by
    cases rv
    cases x with
    | false => exact ⟨ι1, sl, ah1, r1, S.ext e1, p1⟩
    | true => exact p1 ι1 H1 _ (Ext.refl _ _) r1 rfl⟩
theorem dt_w (h : DWt X c W a ta) : DT X c W a ta := h.pt
theorem dt_not (ha : DT X c W a ta) : DT X c W (.UnaryOp .Not a pos) (mNot ta) :=
  pt_imp (pt_not ha) fun σ H Q ⟨ι, sl, ah, rh, S, p⟩ => ⟨ι, sl, ah, rh, S, Post.step p fun x H1 ι1 v ah1 e1 r1 rv p1 => by
    cases rv
    exact p1 ι1 H1 _ (Ext.refl _ _) r1 rfl⟩
theorem de_if {d : Expr} (hc : DT X c W d ta) (ha : DE X c W a ma) (hb : DE X c W b mb) : DE X c W (.IfExp d a b pos) (mIfE ta ma mb) :=
  pe_imp (pe_ifExp hc ha hb) fun σ H Q ⟨ι, sl, ah, rh, S, p⟩ => ⟨ι, sl, ah, rh, S, Post.step p fun x H1 ι1 v ah1 e1 r1 rv p1 => by
    cases rv
    cases x with
    | true => exact ⟨ι1, sl, ah1, r1, S.ext e1, p1⟩
    | false => exact ⟨ι1, sl, ah1, r1, S.ext e1, p1⟩⟩
end
end
end Det

/-! Det3: operators by values. -/
namespace Det
open PySem PySem.Spec PyProof.Rows L2

def BIG : Nat := 4096
def fits (i : Int) : Bool := decide (i.natAbs < 2 ^ BIG)
theorem fits_lt {i : Int} (h : fits i = true) : i.natAbs < 2 ^ BIG := of_decide_eq_true h

def opAdd : Op2 := fun x y h => match x, y with
  | .int i, .int j => some (.int (i + j), h)
  | .str s, .str t => if s.length + t.length ≤ LINE then some (.str (s ++ t), h) else none
  | x, y => match rdL h x, rdL h y with
    | some xs, some ys => if xs.length + ys.length ≤ LINE then some (.ref h.length, h ++ [.lst (xs ++ ys)]) else none
    | _, _ => none
def opSub : Op2 := fun x y h => match x, y with
  | .int i, .int j => some (.int (i - j), h)
  | _, _ => none
def opMul : Op2 := fun x y h => match x, y with
  | .int i, .int j => if (fits i && fits j) = true then some (.int (i * j), h) else none
  | .str s, .int n => if n ≤ 1048576 ∧ -1048576 ≤ n ∧ s.length * n.toNat ≤ LINE then some (.str (List.replicate n.toNat s).flatten, h) else none
  | .ref k, .int n => match h[k]? with
    | some (.lst xs) => if n ≤ 1048576 ∧ -1048576 ≤ n ∧ xs.length * n.toNat ≤ LINE then some (.ref h.length, h ++ [.lst (List.replicate n.toNat xs).flatten]) else none
    | _ => none
  | _, _ => none
def opDiv : Op2 := fun x y h => match x, y with
  | .int i, .int j => if 0 < j ∧ fits j = true then some (.int (i / j), h) else none
  | _, _ => none
def opMod : Op2 := fun x y h => match x, y with
  | .int i, .int j => if 0 < j then some (.int (i % j), h) else none
  | _, _ => none
def opPow : Op2 := fun x y h => match x, y with
  | .int i, .int j => if 0 ≤ j ∧ j ≤ 1000 ∧ fits i = true then some (.int (i ^ j.toNat), h) else none
  | _, _ => none
/-- equal scalars of one kind; other things as data -/
def eqH (h : Hh) (x y : AV) : Option Bool := match x, y with
  | .str s, .str t => some (s == t)
  | .int i, .int j => some (i == j)
  | .bl a, .bl b => some (a == b)
  | x, y => match reify 40 h x, reify 40 h y with
    | some d, some e => if (d.fine && e.fine) = true then some (D.eqv d e) else none
    | _, _ => none
def opEq : Op2 := fun x y h => (eqH h x y).map fun b => (.bl b, h)
def opNe : Op2 := fun x y h => (eqH h x y).map fun b => (.bl (!b), h)
def opLt : Op2 := fun x y h => match x, y with
  | .int i, .int j => some (.bl (decide (i < j)), h)
  | .str s, .str t => some (.bl (decide (s < t)), h)
  | _, _ => none
def opLe : Op2 := fun x y h => match x, y with
  | .int i, .int j => some (.bl (decide (i ≤ j)), h)
  | .str s, .str t => some (.bl (!decide (t < s)), h)
  | _, _ => none
def opGt : Op2 := fun x y h => match x, y with
  | .int i, .int j => some (.bl (decide (j < i)), h)
  | .str s, .str t => some (.bl (decide (t < s)), h)
  | _, _ => none
def opGe : Op2 := fun x y h => match x, y with
  | .int i, .int j => some (.bl (decide (j ≤ i)), h)
  | .str s, .str t => some (.bl (!decide (s < t)), h)
  | _, _ => none
def opIs : Op2 := fun x y h => match x, y with
  | x, .non => some (.bl (decide (x = .non)), h)
  | .bl a, .bl b => some (.bl (decide (a = b)), h)
  | _, _ => none
def opIsNot : Op2 := fun x y h => match x, y with
  | x, .non => some (.bl (!decide (x = .non)), h)
  | .bl a, .bl b => some (.bl (!decide (a = b)), h)
  | _, _ => none

section
variable {X : Cx} {c : Ct} {W : WX}
theorem dop {F : Value → Value → Sem Value} {f : Op2} (h : ∀ (pins : List (Addr × Obj)) (s : Shared) (σ : L2.St) (H : Hp) (x y : V) (v u : Value) (Q : VK) ι a b ah w ah', Inv X pins σ H s → RelV x v → RelV y u →
    RelH X.K c ι ah H → RV c ι a x → RV c ι b y → f a b ah = some (w, ah') → (∀ ι' H' z, Ext H ι H' ι' → RelH X.K c ι' ah' H' → RV c ι' w z → Q z H') → wpAny (model X.prog X.w) X.A (F v u) (EP X pins σ Q) X.xe s) : DOp X c F f :=
  fun pins s σ H x y v u Q I rx ry ⟨ι, a, b, ah, w, ah', rh, ra, rb, e, q⟩ => h pins s σ H x y v u Q ι a b ah w ah' I rx ry rh ra rb e q
theorem le_of_line {a : Nat} (h : a ≤ LINE) : a ≤ sizeLine := by rw [line_eq]; exact h
/-- list + list, whatever is read -/
theorem cat_any : OpR X (binaryOp .Add) (fun x y H Q => ∃ l b xs zs, x = .ref l ∧ y = .ref b ∧ SqL X.K H l xs ∧ SqL X.K H b zs ∧ xs.length + zs.length ≤ sizeLine ∧ ∀ p, H p = none → Q (.ref p) (upd H p (.lst (xs ++ zs)))) := by
  intro pins s σ H x y v u Q I rx ry h
  obtain ⟨l, b, xs, zs, rfl, rfl, hH, hB, hz, q⟩ := h
  cases rx
  cases ry
  obtain ⟨its, r, p1, _⟩ := I.list hH
  obtain ⟨its2, r2, p2, _⟩ := I.list hB
  have hl := r.length
  have hl2 := r2.length
  obtain ⟨⟨cls, dd, data, slt⟩, ho, hc, n, hd⟩ := p1.isList
  obtain ⟨⟨cls2, dd2, data2, sl2⟩, ho2, hc2, n2, hd2⟩ := p2.isList
  simp only at hc hd hc2 hd2
  subst hc hd hc2 hd2
  refine concat_meets ⟨_, ho, rfl⟩ ⟨_, ho2, rfl⟩ noFill_list_add seq_list_add PySem.F.slot_list_add PySem.F.entry_list_add (PySem.F.args_list_add_2 _ _) (list_addW l b its.toArray its2.toArray n n2 dd dd2 slt sl2 (by rw [List.size_toArray, List.size_toArray]; omega)) ⟨ho, ho2, ?_⟩
  have ea : its.toArray ++ its2.toArray = (its ++ its2).toArray := by simp
  rw [ea]
  exact ⟨.ref _, _, I.lnew (t' := s.toks) (r.append r2) (by rw [List.length_append]; omega), rfl, q _ I.fresh⟩
theorem Paired.app {α β : Type} {G : α → β → Prop} : ∀ {a : List α} {b : List β} {d : List α} {e : List β}, Paired G a b → Paired G d e → Paired G (a ++ d) (b ++ e)
  | _, _, _, _, .nil, h => h
  | _, _, _, _, .cons r t, h => .cons r (Paired.app t h)
theorem lay_lst {K : PySem.W.Frag} {ι : List Addr} {ah : Hh} {H : Hp} {Q : VK} {xs : List AV} {vs : List V} (rh : RelH K c ι ah H) (rv : RVs c ι xs vs)
    (q : ∀ ι' H' z, Ext H ι H' ι' → RelH K c ι' (ah ++ [.lst xs]) H' → RV c ι' (.ref ah.length) z → Q z H') : ∀ p, H p = none → Q (.ref p) (upd H p (.lst vs)) := fun p hp =>
  q (ι ++ [p]) _ (.ref p) (Ext.lay hp) (rh.lay hp ⟨vs, rv.app [p], upd_same⟩) ⟨p, by rw [← rh.len]; simp, rfl⟩
theorem lay_tup {K : PySem.W.Frag} {ι : List Addr} {ah : Hh} {H : Hp} {Q : VK} {xs : List AV} {vs : List V} (rh : RelH K c ι ah H) (rv : RVs c ι xs vs)
    (q : ∀ ι' H' z, Ext H ι H' ι' → RelH K c ι' (ah ++ [.tup xs]) H' → RV c ι' (.ref ah.length) z → Q z H') : ∀ p, H p = none → Q (.ref p) (upd H p (.tup vs)) := fun p hp =>
  q (ι ++ [p]) _ (.ref p) (Ext.lay hp) (rh.lay hp ⟨vs, rv.app [p], .inl upd_same⟩) ⟨p, by rw [← rh.len]; simp, rfl⟩
theorem do_add : DOp X c (binaryOp .Add) opAdd := dop fun pins s σ H x y v u Q ι a b ah w ah' I rx ry rh ra rb e q => by
  unfold opAdd at e
  split at e
  · rename_i i j
    cases e; cases ra; cases rb
    exact op_add pins s σ H _ _ v u Q I rx ry ⟨i, j, rfl, rfl, q ι H _ (Ext.refl _ _) rh rfl⟩
  · rename_i i j
    split at e
    · rename_i hl
      cases e; cases ra; cases rb
      exact op_add_str pins s σ H _ _ v u Q I rx ry ⟨_, _, rfl, rfl, by rw [mkS_len, mkS_len]; exact le_of_line hl, by rw [mkS_app]; exact q ι H _ (Ext.refl _ _) rh rfl⟩
    · cases e
  · split at e
    · rename_i xs ys e1 e2
      split at e
      · rename_i hl
        cases e
        obtain ⟨a1, vs, rfl, s1, r1⟩ := rdL_ok rh e1 ra
        obtain ⟨a2, ws, rfl, s2, r2⟩ := rdL_ok rh e2 rb
        refine cat_any pins s σ H _ _ v u Q I rx ry ⟨a1, a2, vs, ws, rfl, rfl, s1, s2, ?_, lay_lst rh (Paired.app r1 r2) q⟩
        rw [← Paired.length r1, ← Paired.length r2]; exact le_of_line hl
      · cases e
    · cases e
theorem do_sub : DOp X c (binaryOp .Sub) opSub := dop fun pins s σ H x y v u Q ι a b ah w ah' I rx ry rh ra rb e q => by
  unfold opSub at e
  split at e
  · rename_i i j
    cases e; cases ra; cases rb
    exact op_sub pins s σ H _ _ v u Q I rx ry ⟨i, j, rfl, rfl, q ι H _ (Ext.refl _ _) rh rfl⟩
  · cases e
theorem Paired.rep {α β : Type} {G : α → β → Prop} {a : List α} {b : List β} (h : Paired G a b) : ∀ k : Nat, Paired G (List.replicate k a).flatten (List.replicate k b).flatten
  | 0 => .nil
  | k + 1 => by rw [List.replicate_succ, List.replicate_succ, List.flatten_cons, List.flatten_cons]; exact Paired.app h (Paired.rep h k)
theorem foldl_app (x : Array Nat) (s : List Nat) (hx : x.toList = s) : ∀ (k : Nat) (acc : Array Nat), ((List.replicate k x).foldl (· ++ ·) acc).toList = acc.toList ++ (List.replicate k s).flatten
  | 0, acc => by simp
  | k + 1, acc => by
    rw [List.replicate_succ, List.foldl_cons, foldl_app x s hx k, List.replicate_succ, List.flatten_cons]
    simp [hx]
theorem fits_log {i : Int} (h : fits i = true) : i.natAbs.log2 < 4097 := Nat.lt_succ_of_lt (PySem.Flt.log2_lt_of (k := BIG) (by decide) (fits_lt h))
theorem do_mul : DOp X c (binaryOp .Mult) opMul := dop fun pins s σ H x y v u Q ι a b ah w ah' I rx ry rh ra rb e q => by
  unfold opMul at e
  split at e
  · rename_i i j
    split at e
    · rename_i hf
      rw [Bool.and_eq_true] at hf
      cases e; cases ra; cases rb
      have h1 := fits_log hf.1
      have h2 := fits_log hf.2
      exact op_mulW pins s σ H _ _ v u Q I rx ry ⟨i, j, rfl, rfl, (by show i.natAbs.log2 + j.natAbs.log2 < 1000000; omega), q ι H _ (Ext.refl _ _) rh rfl⟩
    · cases e
  · rename_i t n
    split at e
    · rename_i hl
      obtain ⟨h1, h2, h3⟩ := hl
      cases e; cases ra; cases rb
      obtain ⟨t1, rfl⟩ := rx
      obtain ⟨t2, rfl⟩ := ry
      have hL : LINE = 16777216 := rfl
      have fin : ∀ (z : Str) (s' : Shared) (tk : Tok), mkS (List.replicate n.toNat t).flatten = z → Inv X pins σ H s' → EP X pins σ Q (.str z tk) s' := fun z s' tk ez I' => ⟨.str z, H, I', ⟨_, rfl⟩, by rw [← ez]; exact q ι H _ (Ext.refl _ _) rh rfl⟩
      refine PySem.P.mul_str ?_ (fun hn hx => ?_) (fun hn hx => ?_) ?_
      · rw [decide_eq_false (by omega), decide_eq_false (by omega)]; rfl
      · rw [mkS_len]
        have hn1 : 1 ≤ n := by omega
        have hb : (8796093022207 : Int) ≤ (2 ^ 63 - 1) / n := (Int.le_ediv_iff_mul_le (by omega)).mpr (by omega)
        have hs : t.length ≤ LINE := by
          have : 1 ≤ n.toNat := by omega
          exact Nat.le_trans (Nat.le_mul_of_pos_right _ this) h3
        omega
      · unfold Builtin.Str.tooLong
        rw [mkS_len]
        exact decide_eq_false (by rw [line_eq]; omega)
      · by_cases hn : n < 1
        · rw [if_pos hn]
          have e0 : n.toNat = 0 := by omega
          exact ⟨by decide, fin _ _ _ (by rw [e0]; rfl) (I.tok _)⟩
        · rw [if_neg hn]
          by_cases hx : (n == 1 || (mkS t).length == 0) = true
          · rw [if_pos hx]
            refine fin _ _ _ ?_ I
            rw [Bool.or_eq_true, beq_iff_eq, beq_iff_eq, mkS_len] at hx
            rcases hx with e1 | e1
            · rw [e1]; simp [mkS]
            · have : t = [] := List.eq_nil_of_length_eq_zero e1
              subst this
              simp
          · rw [if_neg hx]
            have key : mkS (List.replicate n.toNat t).flatten = (⟨(List.replicate n.toNat (mkS t).cps).foldl (· ++ ·) #[]⟩ : Str) := by
              apply Str.ext'
              apply Array.toList_inj.mp
              show (List.replicate n.toNat t).flatten.toArray.toList = ((List.replicate n.toNat (mkS t).cps).foldl (· ++ ·) #[]).toList
              rw [foldl_app (mkS t).cps t (by simp [mkS])]
              simp
            refine ⟨?_, fin _ _ _ key (I.tok _)⟩
            rw [← key, mkS_len, lm_len_rep_flat, line_eq, Nat.mul_comm]
            exact h3
    · cases e
  · rename_i k n
    split at e
    · rename_i xs hk
      split at e
      · rename_i hl
        obtain ⟨h1, h2, h3⟩ := hl
        cases e
        obtain ⟨a1, rfl, _, vs, rv, ha⟩ := rh.at hk ra
        cases rb
        refine op_rep pins s σ H _ _ v u Q I rx ry ⟨a1, n, vs, rfl, rfl, ha, by omega, by omega, ?_, lay_lst rh (Paired.rep rv n.toNat) q⟩
        rw [← Paired.length rv]; exact le_of_line h3
      · cases e
    · cases e
  · cases e
theorem do_div : DOp X c (binaryOp .FloorDiv) opDiv := dop fun pins s σ H x y v u Q ι a b ah w ah' I rx ry rh ra rb e q => by
  unfold opDiv at e
  split at e
  · rename_i i j
    split at e
    · rename_i hf
      cases e; cases ra; cases rb
      have h2 := fits_log hf.2
      exact op_fdivW pins s σ H _ _ v u Q I rx ry ⟨i, j, rfl, rfl, ⟨hf.1, by omega⟩, q ι H _ (Ext.refl _ _) rh rfl⟩
    · cases e
  · cases e
theorem do_mod : DOp X c (binaryOp .Mod) opMod := dop fun pins s σ H x y v u Q ι a b ah w ah' I rx ry rh ra rb e q => by
  unfold opMod at e
  split at e
  · rename_i i j
    split at e
    · rename_i hf
      cases e; cases ra; cases rb
      exact op_mod pins s σ H _ _ v u Q I rx ry ⟨i, j, rfl, rfl, hf, q ι H _ (Ext.refl _ _) rh rfl⟩
    · cases e
  · cases e
theorem do_pow : DOp X c (binaryOp .Pow) opPow := dop fun pins s σ H x y v u Q ι a b ah w ah' I rx ry rh ra rb e q => by
  unfold opPow at e
  split at e
  · rename_i i j
    split at e
    · rename_i hf
      obtain ⟨h0, h1, h2⟩ := hf
      cases e; cases ra; cases rb
      obtain ⟨t1, rfl⟩ := rx
      obtain ⟨t2, rfl⟩ := ry
      have hb : Builtin.Int.intBits i ≤ BIG := intBits_le (fits_lt h2)
      have hB : BIG = 4096 := rfl
      refine pow_int h0 ?_ ⟨.int (i ^ j.toNat), H, I.tok _, ⟨_, rfl⟩, q ι H _ (Ext.refl _ _) rh rfl⟩
      have hm : (Builtin.Int.intBits i : Int) * j ≤ 4096 * 1000 := Int.mul_le_mul (by omega) h1 h0 (by decide)
      exact Int.le_trans hm (by decide)
    · cases e
  · cases e
theorem fin_b {H : Hp} {Q : VK} {ι : List Addr} {ah : Hh} {k : Bool} (rh : RelH X.K c ι ah H) (q : ∀ ι' H' z, Ext H ι H' ι' → RelH X.K c ι' ah H' → RV c ι' (.bl k) z → Q z H') : Q (.bl k) H :=
  q ι H _ (Ext.refl _ _) rh rfl
theorem do_eq (hu : X.A.units + 64 < cLine) : DOp X c (compareOp .Eq) opEq := dop fun pins s σ H x y v u Q ι a b ah w ah' I rx ry rh ra rb e q => by
  obtain ⟨k, e1, e2⟩ := Option.map_eq_some_iff.mp e
  cases e2
  have qq := fin_b rh q
  unfold eqH at e1
  split at e1
  · cases e1; cases ra; cases rb
    exact op_eq pins s σ H _ _ v u Q I rx ry ⟨rfl, by rw [dec_str, mkS_beq]; exact qq⟩
  · cases e1; cases ra; cases rb
    exact op_eq pins s σ H _ _ v u Q I rx ry ⟨rfl, by rw [dec_int]; exact qq⟩
  · cases e1; cases ra; cases rb
    exact op_eq pins s σ H _ _ v u Q I rx ry ⟨rfl, by rw [dec_bl]; exact qq⟩
  · split at e1
    · rename_i d1 d2 f1 f2
      split at e1
      · rename_i hf
        rw [Bool.and_eq_true] at hf
        cases e1
        exact op_eqD hu pins s σ H x y v u Q I rx ry ⟨_, _, reify_dp rh 40 _ _ _ f1 ra, reify_dp rh 40 _ _ _ f2 rb, reify_shaped f1 (by decide) hf.1, reify_shaped f2 (by decide) hf.2, by rw [py_eqv]; exact qq⟩
      · cases e1
    · cases e1
theorem do_ne (hu : X.A.units + 64 < cLine) : DOp X c (compareOp .NotEq) opNe := dop fun pins s σ H x y v u Q ι a b ah w ah' I rx ry rh ra rb e q => by
  obtain ⟨k, e1, e2⟩ := Option.map_eq_some_iff.mp e
  cases e2
  have qq := fin_b rh q
  unfold eqH at e1
  split at e1
  · cases e1; cases ra; cases rb
    exact op_ne pins s σ H _ _ v u Q I rx ry ⟨rfl, by rw [dec_str, mkS_beq]; exact qq⟩
  · cases e1; cases ra; cases rb
    exact op_ne pins s σ H _ _ v u Q I rx ry ⟨rfl, by rw [dec_int]; exact qq⟩
  · cases e1; cases ra; cases rb
    exact op_ne pins s σ H _ _ v u Q I rx ry ⟨rfl, by rw [dec_bl]; exact qq⟩
  · split at e1
    · rename_i d1 d2 f1 f2
      split at e1
      · rename_i hf
        rw [Bool.and_eq_true] at hf
        cases e1
        exact op_neD hu pins s σ H x y v u Q I rx ry ⟨_, _, reify_dp rh 40 _ _ _ f1 ra, reify_dp rh 40 _ _ _ f2 rb, reify_shaped f1 (by decide) hf.1, reify_shaped f2 (by decide) hf.2, by rw [py_eqv]; exact qq⟩
      · cases e1
    · cases e1
theorem mkS_cps (s : List Nat) : (mkS s).cps.toList = s := by simp [mkS]
theorem do_lt : DOp X c (compareOp .Lt) opLt := dop fun pins s σ H x y v u Q ι a b ah w ah' I rx ry rh ra rb e q => by
  unfold opLt at e
  split at e
  · cases e; cases ra; cases rb
    exact op_lt pins s σ H _ _ v u Q I rx ry ⟨_, _, rfl, rfl, fin_b rh q⟩
  · cases e; cases ra; cases rb
    exact op_lt_str pins s σ H _ _ v u Q I rx ry ⟨_, _, rfl, rfl, by rw [mkS_cps, mkS_cps]; exact fin_b rh q⟩
  · cases e
theorem do_le : DOp X c (compareOp .LtE) opLe := dop fun pins s σ H x y v u Q ι a b ah w ah' I rx ry rh ra rb e q => by
  unfold opLe at e
  split at e
  · cases e; cases ra; cases rb
    exact op_le pins s σ H _ _ v u Q I rx ry ⟨_, _, rfl, rfl, fin_b rh q⟩
  · cases e; cases ra; cases rb
    exact op_le_str pins s σ H _ _ v u Q I rx ry ⟨_, _, rfl, rfl, by rw [mkS_cps, mkS_cps]; exact fin_b rh q⟩
  · cases e
theorem do_gt : DOp X c (compareOp .Gt) opGt := dop fun pins s σ H x y v u Q ι a b ah w ah' I rx ry rh ra rb e q => by
  unfold opGt at e
  split at e
  · cases e; cases ra; cases rb
    exact op_gt pins s σ H _ _ v u Q I rx ry ⟨_, _, rfl, rfl, fin_b rh q⟩
  · cases e; cases ra; cases rb
    exact op_gt_str pins s σ H _ _ v u Q I rx ry ⟨_, _, rfl, rfl, by rw [mkS_cps, mkS_cps]; exact fin_b rh q⟩
  · cases e
theorem do_ge : DOp X c (compareOp .GtE) opGe := dop fun pins s σ H x y v u Q ι a b ah w ah' I rx ry rh ra rb e q => by
  unfold opGe at e
  split at e
  · cases e; cases ra; cases rb
    exact op_ge pins s σ H _ _ v u Q I rx ry ⟨_, _, rfl, rfl, fin_b rh q⟩
  · cases e; cases ra; cases rb
    exact op_ge_str pins s σ H _ _ v u Q I rx ry ⟨_, _, rfl, rfl, by rw [mkS_cps, mkS_cps]; exact fin_b rh q⟩
  · cases e
theorem rv_non {ι : List Addr} {a : AV} {x : V} (r : RV c ι a x) : decide (x = V.non) = decide (a = .non) := by
  cases a with
  | non => cases r; rfl
  | bl b => cases r; simp
  | int b => cases r; simp
  | str b => cases r; simp
  | ref n => obtain ⟨a, _, rfl⟩ := r; simp
  | con k => obtain ⟨rfl, _⟩ := r; simp
  | scr ns => obtain ⟨rfl, _⟩ := r; simp
theorem do_is : DOp X c (compareOp .Is) opIs := dop fun pins s σ H x y v u Q ι a b ah w ah' I rx ry rh ra rb e q => by
  unfold opIs at e
  split at e
  · cases e; cases rb
    exact op_isN pins s σ H _ _ v u Q I rx ry ⟨rfl, by rw [rv_non ra]; exact fin_b rh q⟩
  · cases e; cases ra; cases rb
    exact op_isBl pins s σ H _ _ v u Q I rx ry ⟨_, _, rfl, rfl, fin_b rh q⟩
  · cases e
theorem do_isNot : DOp X c (compareOp .IsNot) opIsNot := dop fun pins s σ H x y v u Q ι a b ah w ah' I rx ry rh ra rb e q => by
  unfold opIsNot at e
  split at e
  · cases e; cases rb
    exact op_notN pins s σ H _ _ v u Q I rx ry ⟨rfl, by rw [rv_non ra]; exact fin_b rh q⟩
  · cases e; cases ra; cases rb
    exact op_notBl pins s σ H _ _ v u Q I rx ry ⟨_, _, rfl, rfl, fin_b rh q⟩
  · cases e
end
end Det

/-! Det4: statements, loops, comprehensions, calls, defs. -/
namespace Det
open PySem PySem.Spec PyProof.Rows L2

inductive RSt where
  | nx (sl : Sl) (h : Hh) | rt (v : AV) (h : Hh) | bk (sl : Sl) (h : Hh) | ct (sl : Sl) (h : Hh) | ex (x : AX) (sl : Sl) (h : Hh) | no
def R.bindS {α : Type} (r : R α) (sl : Sl) (k : α → Hh → RSt) : RSt := match r with
  | .ok a h => k a h | .ex x h => .ex x sl h | .no => .no
def PostS (K : PySem.W.Frag) (c : Ct) (W : WX) (H : Hp) (ι : List Addr) (r : RSt) (D : Ends) : Prop :=
  match r with
  | .nx sl ah => ∀ ι' H' σ', Ext H ι H' ι' → RelH K c ι' ah H' → RS c ι' sl σ' → D.nx σ' H'
  | .bk sl ah => ∀ ι' H' σ', Ext H ι H' ι' → RelH K c ι' ah H' → RS c ι' sl σ' → D.bk σ' H'
  | .ct sl ah => ∀ ι' H' σ', Ext H ι H' ι' → RelH K c ι' ah H' → RS c ι' sl σ' → D.ct σ' H'
  | .rt v ah => ∀ ι' H' x, Ext H ι H' ι' → RelH K c ι' ah H' → RV c ι' v x → D.rt x H'
  | .ex x sl ah => ∀ ι' H' σ' cls d, Ext H ι H' ι' → RelH K c ι' ah H' → RS c ι' sl σ' → RX c ι' x cls d → W cls d σ' H'
  | .no => False
abbrev Es := Sl → Hh → RSt
def tDs (K : PySem.W.Frag) (c : Ct) (W : WX) (m : Es) : TS := fun D σ H => ∃ ι sl ah, RelH K c ι ah H ∧ RS c ι sl σ ∧ PostS K c W H ι (m sl ah) D
abbrev DS (X : Cx) (c : Ct) (W : WX) (st : Stmt) (m : Es) : Prop := PS X st (tDs X.K c W m)
abbrev DSs (X : Cx) (c : Ct) (W : WX) (st : List Stmt) (m : Es) : Prop := PSs X st (tDs X.K c W m)

section
variable {K : PySem.W.Frag} {c : Ct} {W : WX} {σ : L2.St} {H H1 : Hp} {ι ι1 : List Addr} {ah ah1 : Hh} {sl : Sl} {D D' : Ends} {α β : Type}
theorem PostS.shift {r : RSt} (p : PostS K c W H ι r D) (e : Ext H ι H1 ι1) (h1 : RelH K c ι1 ah1 H1) : PostS K c W H1 ι1 r D := by
  cases r with
  | nx sl ah => exact fun ι' H' σ' e' r' q => p ι' H' σ' (e.trans h1 e') r' q
  | bk sl ah => exact fun ι' H' σ' e' r' q => p ι' H' σ' (e.trans h1 e') r' q
  | ct sl ah => exact fun ι' H' σ' e' r' q => p ι' H' σ' (e.trans h1 e') r' q
  | rt v ah => exact fun ι' H' x e' r' q => p ι' H' x (e.trans h1 e') r' q
  | ex x sl ah => exact fun ι' H' σ' cl d e' r' q s => p ι' H' σ' cl d (e.trans h1 e') r' q s
  | no => exact p
/-- an expression ahead of a statement's rest -/
theorem PostS.step {RB : List Addr → α → β → Prop} {r : R α} {k : α → Hh → RSt} {Q' : β → Hp → Prop} (S : RS c ι sl σ) (p : PostS K c W H ι (r.bindS sl k) D)
    (h : ∀ b H1 ι1 a ah1, Ext H ι H1 ι1 → RelH K c ι1 ah1 H1 → RB ι1 a b → RS c ι1 sl σ → PostS K c W H1 ι1 (k a ah1) D → Q' b H1) : Post K c W σ H ι RB r Q' := by
  cases r with
  | ok a ah => exact fun ι' H' b e r' q => h b H' ι' a ah e r' q (S.ext e) (PostS.shift p e r')
  | ex x ah => exact fun ι' H' cl d e r' q => p ι' H' σ cl d e r' (S.ext e) q
  | no => exact p
theorem PostS.nx (p : PostS K c W H ι (.nx sl ah) D) (rh : RelH K c ι ah H) (S : RS c ι sl σ) : D.nx σ H := p ι H σ (Ext.refl _ _) rh S
theorem RS.set {v : AV} {x : V} (S : RS c ι sl σ) (r : RV c ι v x) (i : Nat) : RS c ι (sl.set i (some v)) (σ.set i (some x)) := by
  have : ∀ {a : Sl} {b : L2.St} (i : Nat), Paired (RSl c ι) a b → Paired (RSl c ι) (a.set i (some v)) (b.set i (some x)) := by
    intro a b i h
    induction h generalizing i with
    | nil => exact .nil
    | cons q t ih => cases i with
      | zero => exact .cons r t
      | succ i => exact .cons q (ih i)
  exact this i S
theorem RS.unset (S : RS c ι sl σ) (i : Nat) {z : Option V} : RS c ι (sl.set i none) (σ.set i z) := by
  have : ∀ {a : Sl} {b : L2.St} (i : Nat), Paired (RSl c ι) a b → Paired (RSl c ι) (a.set i none) (b.set i z) := by
    intro a b i h
    induction h generalizing i with
    | nil => exact .nil
    | cons q t ih => cases i with
      | zero => exact .cons trivial t
      | succ i => exact .cons q (ih i)
  exact this i S
end

/-! ### blocks -/
def mSkip : Es := fun sl h => .nx sl h
def mSeq (m n : Es) : Es := fun sl h => match m sl h with
  | .nx sl' h' => n sl' h'
  | .rt v h => .rt v h
  | .bk sl h => .bk sl h
  | .ct sl h => .ct sl h
  | .ex x sl h => .ex x sl h
  | .no => .no
def mStop : Es := fun _ _ => .no
def mBreak : Es := fun sl h => .bk sl h
def mCont : Es := fun sl h => .ct sl h
def mExpr (m : Ev) : Es := fun sl h => (m sl h).bindS sl fun _ h1 => .nx sl h1
def mRet (m : Ev) : Es := fun sl h => (m sl h).bindS sl fun v h1 => .rt v h1
def mIf (t : Et) (m n : Es) : Es := fun sl h => (t sl h).bindS sl fun b h1 => if b = true then m sl h1 else n sl h1
def mSet (i : Nat) (m : Ev) : Es := fun sl h => (m sl h).bindS sl fun v h1 => .nx (sl.set i (some v)) h1
section
variable {X : Cx} {c : Ct} {W : WX} {st : Stmt} {rest : List Stmt} {m n : Es} {e : Expr} {me : Ev} {pos : Pos}
theorem dss_nil : DSs X c W [] mSkip := pss_imp pss_nil fun D σ H ⟨ι, sl, ah, rh, S, p⟩ => p.nx rh S
theorem seq_post {K : PySem.W.Frag} {H : Hp} {ι : List Addr} {sl : Sl} {ah : Hh} {D : Ends} (p : PostS K c W H ι (mSeq m n sl ah) D) : PostS K c W H ι (m sl ah) { D with nx := fun σ' H' => tDs K c W n D σ' H' } := by
  unfold mSeq at p
  revert p
  cases m sl ah with
  | nx sl' h' => exact fun p ι' H' σ' e r' q => ⟨ι', sl', h', r', q, PostS.shift p e r'⟩
  | _ => exact fun p => p
theorem dss_cons (h1 : DS X c W st m) (h2 : DSs X c W rest n) : DSs X c W (st :: rest) (mSeq m n) :=
  pss_imp (pss_cons h1 h2) fun D σ H ⟨ι, sl, ah, rh, S, p⟩ => ⟨ι, sl, ah, rh, S, seq_post p⟩
theorem dss_one (h1 : DS X c W st m) : DSs X c W [st] m := pss_one h1
theorem dss_stop {sts : List Stmt} : DSs X c W sts mStop := pss_imp pss_never fun _ _ _ ⟨_, _, _, _, _, p⟩ => p
theorem ds_stop : DS X c W st mStop := ps_imp ps_never fun _ _ _ ⟨_, _, _, _, _, p⟩ => p
theorem ds_pass : DS X c W (.Pass pos) mSkip := ps_imp ps_pass fun D σ H ⟨ι, sl, ah, rh, S, p⟩ => p.nx rh S
theorem ds_doc {x : Str} {j pos'} : DS X c W (.Expr (.Constant (.str x) j pos) pos') mSkip := ps_imp ps_doc fun D σ H ⟨ι, sl, ah, rh, S, p⟩ => p.nx rh S
theorem ds_break : DS X c W (.Break pos) mBreak := ps_imp ps_break fun D σ H ⟨ι, sl, ah, rh, S, p⟩ => p ι H σ (Ext.refl _ _) rh S
theorem ds_cont : DS X c W (.Continue pos) mCont := ps_imp ps_continue fun D σ H ⟨ι, sl, ah, rh, S, p⟩ => p ι H σ (Ext.refl _ _) rh S
theorem ds_expr (he : DE X c W e me) (hs : swapsWith e none pos.line X.env = pure false := by rfl) : DS X c W (.Expr e pos) (mExpr me) :=
  ps_imp (ps_expr he hs) fun D σ H ⟨ι, sl, ah, rh, S, p⟩ => ⟨ι, sl, ah, rh, S, PostS.step S p fun x H1 ι1 a ah1 e1 r1 ra S1 p1 => p1.nx r1 S1⟩
theorem ds_ret (he : DE X c W e me) : DS X c W (.Return (some e) pos) (mRet me) :=
  ps_imp (ps_ret he) fun D σ H ⟨ι, sl, ah, rh, S, p⟩ => ⟨ι, sl, ah, rh, S, PostS.step S p fun x H1 ι1 a ah1 e1 r1 ra S1 p1 => p1 ι1 H1 x (Ext.refl _ _) r1 ra⟩
theorem ds_retN : DS X c W (.Return none pos) (fun _ h => .rt .non h) := ps_imp ps_retN fun D σ H ⟨ι, sl, ah, rh, S, p⟩ => p ι H .non (Ext.refl _ _) rh rfl
theorem ds_if {d : Expr} {a b : List Stmt} {t : Et} (hc : DT X c W d t) (ha : DSs X c W a m) (hb : DSs X c W b n) : DS X c W (.If d a b pos) (mIf t m n) :=
  ps_imp (ps_if hc ha hb) fun D σ H ⟨ι, sl, ah, rh, S, p⟩ => ⟨ι, sl, ah, rh, S, PostS.step S p fun x H1 ι1 a ah1 e1 r1 ra S1 p1 => by
    cases ra
    cases x with
    | true => exact ⟨ι1, sl, ah1, r1, S1, p1⟩
    | false => exact ⟨ι1, sl, ah1, r1, S1, p1⟩⟩
theorem ds_set {i : Nat} {x : Str} {pos' : Pos} (hN : X.N.Nodup) (hi : X.N[i]? = some x) (hx : Loc X.env.scope x) (he : DE X c W e me) (hs : swapsWith e (some (.Name x pos')) pos.line X.env = pure false := by rfl) (hf : X.fn x = true ∨ X.env.scope.names.lookup x = some .local := by first | exact .inl rfl | exact .inr rfl | assumption) :
    DS X c W (.Assign [.Name x pos'] e pos) (mSet i me) :=
  ps_imp (ps_set hN hi hx he hs hf) fun D σ H ⟨ι, sl, ah, rh, S, p⟩ => ⟨ι, sl, ah, rh, S, PostS.step S p fun x H1 ι1 a ah1 e1 r1 ra S1 p1 => p1.nx r1 (S1.set ra i)⟩
end

/-! ### targets -/
abbrev Eg := List AV → Sl → Hh → Option (Sl × Hh)
/-- a yield: one value, or a pair that is given no name -/
def YV (K : PySem.W.Frag) (c : Ct) (ι : List Addr) (H : Hp) (it : List AV) (v : V) : Prop := match it with
  | [a] => RV c ι a v
  | [a, b] => ∃ T x y, v = .ref T ∧ SqT K H T [x, y] ∧ RV c ι a x ∧ RV c ι b y
  | _ => False
def gY (K : PySem.W.Frag) (c : Ct) (vs : List Nat) (g : Eg) : TG := fun v σ H Q => ∃ ι sl ah it sl' ah', RelH K c ι ah H ∧ RS c ι sl σ ∧ YV K c ι H it v ∧ g it sl ah = some (sl', ah') ∧
  ∀ ι' H' σ', Ext H ι H' ι' → RelH K c ι' ah' H' → RS c ι' sl' σ' → wipe σ' vs = wipe σ vs → Q σ' H'
abbrev DG (X : Cx) (c : Ct) (vs : List Nat) (tg : Expr) (g : Eg) : Prop := PG X tg (gY X.K c vs g)
theorem pg_imp {X : Cx} {e : Expr} {t t' : TG} (h : PG X e t) (k : ∀ v σ H Q, t' v σ H Q → t v σ H Q) : PG X e t' := ⟨fun pins s σ H v u Q I r q => h.run pins s σ H v u Q I r (k v σ H Q q)⟩
theorem pgs_imp {X : Cx} {e : List Expr} {t t' : TGs} (h : PGs X e t) (k : ∀ v σ H Q, t' v σ H Q → t v σ H Q) : PGs X e t' := ⟨fun pins s σ H v u Q I r q => h.run pins s σ H v u Q I r (k v σ H Q q)⟩
def mGn (i : Nat) : Eg := fun it sl h => match it with
  | [a] => some (sl.set i (some a), h)
  | _ => none
/-- the items of a tuple, one after another, to the targets -/
def mGs : List Eg → List AV → Sl → Hh → Option (Sl × Hh)
  | [], [], sl, h => some (sl, h)
  | g :: gs, v :: vs, sl, h => match g [v] sl h with
    | some (sl1, h1) => mGs gs vs sl1 h1
    | none => none
  | _, _, _, _ => none
def mGt (gs : List Eg) : Eg := fun it sl h => match it with
  | [a, b] => mGs gs [a, b] sl h
  | [a] => match rdT h a with
    | some xs => mGs gs xs sl h
    | none => none
  | _ => none
section
variable {X : Cx} {c : Ct} {W : WX} {K : PySem.W.Frag} {σ σ' : L2.St} {H H' : Hp}
theorem wipe_set (vs : List Nat) (i : Nat) (x : Option V) (hi : i ∈ vs) : ∀ σ : L2.St, wipe (σ.set i x) vs = wipe σ vs := by
  induction vs with
  | nil => cases hi
  | cons v vs ih =>
    intro σ
    by_cases h : v = i
    · subst h
      by_cases hm : v ∈ vs
      · simp only [wipe]; rw [ih hm σ]
      · have key : ∀ (vs : List Nat), v ∉ vs → ∀ σ : L2.St, wipe (σ.set v x) vs = (wipe σ vs).set v x := by
          intro vs
          induction vs with
          | nil => intro _ σ; rfl
          | cons w ws ihw =>
            intro hv σ
            simp only [List.mem_cons, not_or] at hv
            simp only [wipe]
            rw [ihw hv.2 σ, List.set_comm _ _ (fun z => hv.1 z)]
        simp only [wipe]
        rw [key vs hm σ, List.set_set]
    · have hm : i ∈ vs := by
        rcases List.mem_cons.mp hi with e | e
        · exact absurd e.symm h
        · exact e
      simp only [wipe]; rw [ih hm σ]
theorem dg_name {i : Nat} {x : Str} {pos : Pos} {vs : List Nat} (hi' : i ∈ vs) (hN : X.N.Nodup) (hi : X.N[i]? = some x) (hx : Loc X.env.scope x) (hf : X.fn x = true ∨ X.env.scope.names.lookup x = some .local := by first | exact .inl rfl | exact .inr rfl | assumption) : DG X c vs (.Name x pos) (mGn i) :=
  pg_imp (pg_name hN hi hx hf) fun v σ H Q ⟨ι, sl, ah, it, sl', ah', rh, S, y, e, q⟩ => by
    unfold mGn at e
    split at e
    · cases e
      exact q ι H _ (Ext.refl _ _) rh (S.set y i) (wipe_set vs i _ hi' σ)
    · cases e
/-- several targets with their values -/
def gYs (K : PySem.W.Frag) (c : Ct) (vs : List Nat) (gs : List Eg) : TGs := fun xs σ H Q => ∃ ι sl ah as sl' ah', RelH K c ι ah H ∧ RS c ι sl σ ∧ RVs c ι as xs ∧ mGs gs as sl ah = some (sl', ah') ∧
  ∀ ι' H' σ', Ext H ι H' ι' → RelH K c ι' ah' H' → RS c ι' sl' σ' → wipe σ' vs = wipe σ vs → Q σ' H'
abbrev DGs (X : Cx) (c : Ct) (vs : List Nat) (tgs : List Expr) (gs : List Eg) : Prop := PGs X tgs (gYs X.K c vs gs)
theorem dgs_nil {vs : List Nat} : DGs X c vs [] [] := pgs_imp pgs_nil fun xs σ H Q ⟨ι, sl, ah, as, sl', ah', rh, S, rv, e, q⟩ => by
  cases rv with
  | nil => cases e; exact ⟨rfl, q ι H σ (Ext.refl _ _) rh S rfl⟩
  | cons _ _ => cases e
theorem dgs_cons {vs : List Nat} {e : Expr} {es : List Expr} {g : Eg} {gs : List Eg} (h1 : DG X c vs e g) (h2 : DGs X c vs es gs)
    (hs : (assignEach (e :: es) X.env).map (·.2) = assign e X.env :: (assignEach es X.env).map (·.2) := by rfl) : DGs X c vs (e :: es) (g :: gs) :=
  pgs_imp (pgs_cons h1 h2 hs) fun xs σ H Q ⟨ι, sl, ah, as, sl', ah', rh, S, rv, e, q⟩ => by
    cases rv with
    | nil => cases e
    | @cons a b as bs r t =>
      unfold mGs at e
      split at e
      · rename_i sl1 h1 e1
        exact ⟨_, _, rfl, ι, sl, ah, [a], sl1, h1, rh, S, r, e1, fun ι' H' σ' x' r' S' w' =>
          ⟨ι', sl1, h1, as, sl', ah', r', S', RVs.ext t x', e, fun ι2 H2 σ2 x2 r2 S2 w2 => q ι2 H2 σ2 (x'.trans r' x2) r2 S2 (w2.trans w')⟩⟩
      · cases e
theorem mGs_len : ∀ (gs : List Eg) (as : List AV) (sl : Sl) (h : Hh) (z : Sl × Hh), mGs gs as sl h = some z → as.length = gs.length
  | [], [], _, _, _, _ => rfl
  | g :: gs, v :: vs, sl, h, z, e => by
    unfold mGs at e
    split at e
    · rename_i sl1 h1 _
      have := mGs_len gs vs sl1 h1 z e
      simp [this]
    · cases e
  | [], _ :: _, _, _, _, e => by cases e
  | _ :: _, [], _, _, _, e => by cases e
theorem dg_tup {es : List Expr} {k : Nat} {pos : Pos} {vs : List Nat} {gs : List Eg} (hc : X.calm = true) (h : DGs X c vs es gs)
    (hn : (assignEach es X.env).length = gs.length := by rfl) (hst : (assignEach es X.env).findIdx? (·.1) = none := by rfl) : DG X c vs (.Tuple es k pos) (mGt gs) :=
  pg_imp (pg_tup hc h hn hst) fun v σ H Q ⟨ι, sl, ah, it, sl', ah', rh, S, y, e, q⟩ => by
    unfold mGt at e
    split at e
    · rename_i a b
      obtain ⟨T, x, y', rfl, s, ra, rb⟩ := y
      exact ⟨T, _, rfl, s, mGs_len _ _ _ _ _ e, ι, sl, ah, [a, b], sl', ah', rh, S, .cons ra (.cons rb .nil), e, q⟩
    · rename_i a
      split at e
      · rename_i xs e1
        obtain ⟨T, ws, rfl, s, rv⟩ := rdT_ok rh e1 y
        exact ⟨T, ws, rfl, s, by rw [← Paired.length rv]; exact mGs_len _ _ _ _ _ e, ι, sl, ah, xs, sl', ah', rh, S, rv, e, q⟩
      · cases e
    · cases e
/-- target = value -/
def mAsg (g : Eg) (m : Ev) : Es := fun sl h => (m sl h).bindS sl fun v h1 => match g [v] sl h1 with
  | some (sl', h2) => .nx sl' h2
  | none => .no
theorem ds_asg {tg e : Expr} {pos : Pos} {me : Ev} {g : Eg} {vs : List Nat} (he : DE X c W e me) (hg : DG X c vs tg g) (hs : swapsWithSole [tg] e pos.line X.env = pure false := by rfl) (hw : swappedStores [tg] e X.env = pure none := by rfl)
    (h1 : (assignEach [tg] X.env).map (·.2) = [assign tg X.env] := by rfl) : DS X c W (.Assign [tg] e pos) (mAsg g me) :=
  ps_imp (ps_asg he hg hs hw h1) fun D σ H ⟨ι, sl, ah, rh, S, p⟩ => ⟨ι, sl, ah, rh, S, PostS.step S p fun x H1 ι1 a ah1 e1 r1 ra S1 p1 => by
    cases e : g [a] sl ah1 with
    | none => rw [e] at p1; exact p1.elim
    | some z =>
      obtain ⟨sl', h2⟩ := z
      rw [e] at p1
      exact ⟨ι1, sl, ah1, [a], sl', h2, r1, S1, ra, e, fun ι' H' σ' x' r' S' _ => p1 ι' H' σ' x' r' S'⟩⟩
/-- a, b = x, y with plain local names -/
def mPar (i j : Nat) (ma mb : Ev) : Es := fun sl h => (ma sl h).bindS sl fun v h1 => (mb sl h1).bindS sl fun w h2 => .nx ((sl.set i (some v)).set j (some w)) h2
end
end Det

/-! Det5: argument lists, displays, loops, comprehensions. -/
namespace Det
open PySem PySem.Spec PyProof.Rows L2

/-! ### argument lists, displays -/
def mNil : Ea := fun _ h => .ok [] h
def mCons (ma : Ev) (mr : Ea) : Ea := fun sl h => (ma sl h).bind fun v h1 => (mr sl h1).bind fun vs h2 => .ok (v :: vs) h2
def mTup (m : Ea) : Ev := fun sl h => (m sl h).bind fun vs h1 => if vs.length ≤ LINE then .ok (.ref h1.length) (h1 ++ [.tup vs]) else .no
def mLst (m : Ea) : Ev := fun sl h => (m sl h).bind fun vs h1 => if vs.length ≤ LINE then .ok (.ref h1.length) (h1 ++ [.lst vs]) else .no
section
variable {X : Cx} {c : Ct} {W : WX} {e : Expr} {es : List Expr} {ma : Ev} {mr : Ea} {pos : Pos}
theorem da_nil : DA X c W [] mNil := pa_imp pa_nil fun σ H Q ⟨ι, sl, ah, rh, S, p⟩ => p ι H [] (Ext.refl _ _) rh .nil
theorem da_cons (ha : DE X c W e ma) (hr : DA X c W es mr) (hs : starEach (e :: es) X.env = (false, eval e X.env) :: starEach es X.env := by rfl) : DA X c W (e :: es) (mCons ma mr) :=
  pa_imp (pa_cons ha hr hs) fun σ H Q ⟨ι, sl, ah, rh, S, p⟩ => ⟨ι, sl, ah, rh, S, Post.step p fun x H1 ι1 a ah1 e1 r1 ra p1 =>
    ⟨ι1, sl, ah1, r1, S.ext e1, Post.step p1 fun xs H2 ι2 as ah2 e2 r2 rs p2 => p2 ι2 H2 _ (Ext.refl _ _) r2 (.cons (ra.ext e2) rs)⟩⟩
theorem pk_imp {X : Cx} {e : List Keyword} {t t' : TA} (h : PK X e t) (k : ∀ σ H Q, t' σ H Q → t σ H Q) : PK X e t' := ⟨by
  obtain ⟨r⟩ := h
  intros
  first
    | exact r _ _ _ _ _ (by assumption) (k _ _ _ (by assumption))
    | exact r _ _ _ _ _ _ (by assumption) (k _ _ _ (by assumption))⟩
abbrev DK (X : Cx) (c : Ct) (W : WX) (es : List Keyword) (m : Ea) : Prop := PK X es (tDa X.K c W m)
theorem dk_nil : DK X c W [] mNil := pk_imp pk_nil fun σ H Q ⟨ι, sl, ah, rh, S, p⟩ => p ι H [] (Ext.refl _ _) rh .nil
theorem dk_cons {kws : List Keyword} {nm : Option Str} {kpos : Pos} (ha : DE X c W e ma) (hr : DK X c W kws mr) (h : ∀ {te t}, PE X e te → PK X kws t → PK X (⟨nm, e, kpos⟩ :: kws) (tCons te t)) : DK X c W (⟨nm, e, kpos⟩ :: kws) (mCons ma mr) :=
  pk_imp (h ha hr) fun σ H Q ⟨ι, sl, ah, rh, S, p⟩ => ⟨ι, sl, ah, rh, S, Post.step p fun x H1 ι1 a ah1 e1 r1 ra p1 =>
    ⟨ι1, sl, ah1, r1, S.ext e1, Post.step p1 fun xs H2 ι2 as ah2 e2 r2 rs p2 => p2 ι2 H2 _ (Ext.refl _ _) r2 (.cons (ra.ext e2) rs)⟩⟩
theorem de_tup {x1} (h : DA X c W es mr) : DE X c W (.Tuple es x1 pos) (mTup mr) :=
  pe_imp (pe_tup h) fun σ H Q ⟨ι, sl, ah, rh, S, p⟩ => ⟨ι, sl, ah, rh, S, Post.step p fun xs H1 ι1 as ah1 e1 r1 ra p1 => by
    split at p1
    · rename_i hl
      refine ⟨by rw [← Paired.length ra]; exact le_of_line hl, lay_tup r1 ra p1⟩
    · exact p1.elim⟩
theorem de_lst (h : DA X c W es mr) : DE X c W (.List es pos) (mLst mr) :=
  pe_imp (pe_lst h) fun σ H Q ⟨ι, sl, ah, rh, S, p⟩ => ⟨ι, sl, ah, rh, S, Post.step p fun xs H1 ι1 as ah1 e1 r1 ra p1 => by
    split at p1
    · rename_i hl
      refine ⟨by rw [← Paired.length ra]; exact le_of_line hl, lay_lst r1 ra p1⟩
    · exact p1.elim⟩
theorem ds_par {i j : Nat} {x y : Str} {a b : Expr} {mb : Ev} {px py pt : Pos} {kt k2 pt2} (hc : X.calm = true) (hN : X.N.Nodup) (hi : X.N[i]? = some x) (hj : X.N[j]? = some y) (hij : i ≠ j)
    (hx : X.env.scope.names.lookup x = some .local) (hy : X.env.scope.names.lookup y = some .local) (ha : DE X c W a ma) (hb : DE X c W b mb)
    (hw : swappedStores [.Tuple [.Name x px, .Name y py] kt pt] (.Tuple [a, b] k2 pt2) X.env = pure (some [x, y]))
    (hs : swapsWithSole [.Tuple [.Name x px, .Name y py] kt pt] (.Tuple [a, b] k2 pt2) pos.line X.env = pure false := by rfl)
    (hs1 : starEach [a, b] X.env = (false, eval a X.env) :: starEach [b] X.env := by rfl) (hs2 : starEach [b] X.env = (false, eval b X.env) :: starEach [] X.env := by rfl) :
    DS X c W (.Assign [.Tuple [.Name x px, .Name y py] kt pt] (.Tuple [a, b] k2 pt2) pos) (mPar i j ma mb) :=
  ps_imp (ps_par hc hN hi hj hij hx hy (pa_cons ha (pa_cons hb pa_nil hs2) hs1) hw hs) fun D σ H ⟨ι, sl, ah, rh, S, p⟩ => ⟨ι, sl, ah, rh, S, PostS.step S p fun x H1 ι1 a ah1 e1 r1 ra S1 p1 =>
    ⟨ι1, sl, ah1, r1, S1, PostS.step S1 p1 fun y H2 ι2 b ah2 e2 r2 rb S2 p2 => ⟨_, _, rfl, p2.nx r2 ((S2.set (ra.ext e2) i).set rb j)⟩⟩⟩
end

/-! ### what is walked -/
structure Src where
  items : List (List AV)
  chks : List (Bool × AV × List AV)
def rdB (b : Bool) (h : Hh) (v : AV) : Option (List AV) := match b with
  | true => rdL h v
  | false => rdT h v
def chkOk (cs : List (Bool × AV × List AV)) (h : Hh) : Bool := cs.all fun p => decide (rdB p.1 h p.2.1 = some p.2.2)
def JRel (K : PySem.W.Frag) (c : Ct) (ι0 : List Addr) (s : Src) (J : It) : Prop := ∀ ι H ah, (∃ r, ι = ι0 ++ r) → RelH K c ι ah H → chkOk s.chks ah = true →
  J.stop s.items.length H ∧ ∀ (i : Nat) (it : List AV), s.items[i]? = some it → J.go i H ∧ ∀ x H', J.yld i H x H' → YV K c ι H' it x ∧ (H' = H ∨ ∃ T u, H T = none ∧ H' = upd H T u)
abbrev Ei := Sl → Hh → R Src
def tI (K : PySem.W.Frag) (c : Ct) (W : WX) (m : Ei) : TI := fun σ H Q => ∃ ι sl ah, RelH K c ι ah H ∧ RS c ι sl σ ∧ Post K c W σ H ι (JRel K c) (m sl ah) Q
abbrev DI (X : Cx) (c : Ct) (W : WX) (tg e : Expr) (m : Ei) : Prop := PI X tg e (tI X.K c W m)
theorem pi_imp {X : Cx} {tg e : Expr} {t t' : TI} (h : PI X tg e t) (k : ∀ σ H Q, t' σ H Q → t σ H Q) : PI X tg e t' := ⟨fun pins s σ H Q I q => h.run pins s σ H Q I (k σ H Q q)⟩

/-! ### for -/
def loopF (cs : List (Bool × AV × List AV)) (g : Eg) (body : Es) : List (List AV) → Es
  | [], sl, h => if chkOk cs h = true then .nx sl h else .no
  | it :: r, sl, h => if chkOk cs h = true then match g it sl h with
    | some (sl1, h1) => match body sl1 h1 with
      | .nx s h => loopF cs g body r s h
      | .ct s h => loopF cs g body r s h
      | .bk s h => .nx s h
      | .rt v h => .rt v h
      | .ex x s h => .ex x s h
      | .no => .no
    | none => .no
    else .no
def mFor (src : Ei) (g : Eg) (body : Es) : Es := fun sl h => (src sl h).bindS sl fun s h1 => loopF s.chks g body s.items sl h1
def mWhile (t : Et) (body : Es) : Nat → Es
  | 0, _, _ => .no
  | n + 1, sl, h => (t sl h).bindS sl fun b h1 => if b = true then match body sl h1 with
      | .nx s h => mWhile t body n s h
      | .ct s h => mWhile t body n s h
      | .bk s h => .nx s h
      | .rt v h => .rt v h
      | .ex x s h => .ex x s h
      | .no => .no
    else .nx sl h1
section
variable {X : Cx} {c : Ct} {W : WX} {K : PySem.W.Frag}
theorem RS.app {ι : List Addr} {sl : Sl} {σ : L2.St} (S : RS c ι sl σ) (r : List Addr) : RS c (ι ++ r) sl σ := Paired.mapP S fun a b q => by
  cases a with
  | none => trivial
  | some v => cases b with
    | none => exact q
    | some x => exact RV.app q r
theorem Ext.pre' {H H' : Hp} {ι ι' : List Addr} (e : Ext H ι H' ι') : ∃ r, ι' = ι ++ r := let ⟨r, q, _⟩ := e.pre; ⟨r, q⟩
theorem ds_for {tg iter : Expr} {body : List Stmt} {mi : Ei} {g : Eg} {mb : Es} {vs : List Nat} {pos : Pos} (hp : PassesOwn (model X.prog X.w) X.A X.env X.xe) (hc : X.calm = true) (hi : DI X c W tg iter mi) (hg : DG X c vs tg g) (hb : DSs X c W body mb)
    (hs : ∀ x, foldedSetIterable iter X.env x = pure x := by intro _; rfl) : DS X c W (.For tg iter body [] pos) (mFor mi g mb) :=
  ps_imp (ps_for hp hc hi hg hb hs) fun D σ H ⟨ι, sl, ah, rh, S, p⟩ => ⟨ι, sl, ah, rh, S, PostS.step S p fun J H1 ι1 s ah1 e1 r1 jr S1 p1 => by
    refine ⟨fun i m σ H => m = s.items.length - i ∧ i ≤ s.items.length ∧ ∃ ι sl ah, (∃ r, ι = ι1 ++ r) ∧ RelH X.K c ι ah H ∧ RS c ι sl σ ∧ PostS X.K c W H ι (loopF s.chks g mb (s.items.drop i) sl ah) D,
      ⟨_, rfl, Nat.zero_le _, ι1, sl, ah1, ⟨[], by simp⟩, r1, S1, by simpa using p1⟩, ?_⟩
    rintro i m σ H ⟨rfl, hi, ι, sl, ah, hpre, rh, S, p⟩
    by_cases hlt : i < s.items.length
    · rw [List.drop_eq_getElem_cons hlt] at p
      unfold loopF at p
      split at p
      · rename_i hck
        obtain ⟨_, j2⟩ := jr ι H ah hpre rh hck
        obtain ⟨jgo, jy⟩ := j2 i _ (List.getElem?_eq_getElem hlt)
        split at p
        · rename_i sl1 h1 eg
          refine .inr ⟨jgo, fun σ' H' => ∃ ι sl ah, (∃ r, ι = ι1 ++ r) ∧ RelH X.K c ι ah H' ∧ RS c ι sl σ' ∧ PostS X.K c W H' ι (loopF s.chks g mb (s.items.drop (i + 1)) sl ah) D, fun σ' H' q => ⟨_, by omega, rfl, hlt, q⟩, fun x H' hy => ?_⟩
          obtain ⟨yv, hH⟩ := jy x H' hy
          have rh' : RelH X.K c ι ah H' := by
            rcases hH with rfl | ⟨T, u, hT, rfl⟩
            · exact rh
            · exact rh.junk hT
          have ex' : Ext H ι H' ι := by
            rcases hH with rfl | ⟨T, u, hT, rfl⟩
            · exact Ext.refl _ _
            · exact Ext.junk hT
          refine ⟨ι, sl, ah, _, sl1, h1, rh', S, yv, eg, fun ι2 H2 σ2 x2 r2 S2 _ => ⟨ι2, sl1, h1, r2, S2, ?_⟩⟩
          have p' := PostS.shift p (ex'.trans rh' x2) r2
          have pre2 : ∃ r, ι2 = ι1 ++ r := by
            obtain ⟨ra, e1⟩ := hpre
            obtain ⟨rb, e2⟩ := x2.pre'
            exact ⟨ra ++ rb, by rw [e2, e1, List.append_assoc]⟩
          have nxt : ∀ {ι3 : List Addr} {sl3 : Sl} {h3 : Hh} {H3 : Hp} {σ3 : L2.St}, PostS X.K c W H2 ι2 (loopF s.chks g mb (s.items.drop (i + 1)) sl3 h3) D → Ext H2 ι2 H3 ι3 → RelH X.K c ι3 h3 H3 → RS c ι3 sl3 σ3 →
              ∃ ι sl ah, (∃ r, ι = ι1 ++ r) ∧ RelH X.K c ι ah H3 ∧ RS c ι sl σ3 ∧ PostS X.K c W H3 ι (loopF s.chks g mb (s.items.drop (i + 1)) sl ah) D := fun {ι3 sl3 h3 H3 σ3} q x3 r3 S3 => by
            refine ⟨ι3, sl3, h3, ?_, r3, S3, PostS.shift q x3 r3⟩
            obtain ⟨ra, e1⟩ := pre2
            obtain ⟨rb, e2⟩ := x3.pre'
            exact ⟨ra ++ rb, by rw [e2, e1, List.append_assoc]⟩
          revert p'
          cases mb sl1 h1 with
          | nx s3 h3 => exact fun q ι3 H3 σ3 x3 r3 S3 => nxt q x3 r3 S3
          | ct s3 h3 => exact fun q ι3 H3 σ3 x3 r3 S3 => nxt q x3 r3 S3
          | bk s3 h3 => exact fun q => q
          | rt v h3 => exact fun q => q
          | ex x s3 h3 => exact fun q => q
          | no => exact fun q => q
        · exact p.elim
      · exact p.elim
    · have e : i = s.items.length := by omega
      subst e
      rw [List.drop_length] at p
      unfold loopF at p
      split at p
      · rename_i hck
        obtain ⟨j1, _⟩ := jr ι H ah hpre rh hck
        exact .inl ⟨j1, p.nx rh S⟩
      · exact p.elim⟩
theorem ds_while {d : Expr} {body : List Stmt} {t : Et} {mb : Es} {pos : Pos} (n : Nat) (hp : PassesOwn (model X.prog X.w) X.A X.env X.xe) (hc : DT X c W d t) (hb : DSs X c W body mb) : DS X c W (.While d body [] pos) (mWhile t mb n) :=
  ps_imp (ps_while hp hc hb) fun D σ H ⟨ι, sl, ah, rh, S, p⟩ => by
    refine ⟨fun m σ H => ∃ ι sl ah, RelH X.K c ι ah H ∧ RS c ι sl σ ∧ PostS X.K c W H ι (mWhile t mb m sl ah) D, ⟨n, ι, sl, ah, rh, S, p⟩, ?_⟩
    rintro m σ H ⟨ι, sl, ah, rh, S, p⟩
    cases m with
    | zero => exact p.elim
    | succ m =>
      refine ⟨ι, sl, ah, rh, S, PostS.step S (show PostS X.K c W H ι ((t sl ah).bindS sl _) D from p) fun b H1 ι1 b' ah1 e1 r1 eb S1 p1 => ?_⟩
      cases eb
      cases b with
      | false => exact p1.nx r1 S1
      | true =>
        refine ⟨fun σ' H' => ∃ ι sl ah, RelH X.K c ι ah H' ∧ RS c ι sl σ' ∧ PostS X.K c W H' ι (mWhile t mb m sl ah) D, fun σ' H' q => ⟨m, Nat.lt_succ_self m, q⟩, ι1, sl, ah1, r1, S1, ?_⟩
        rw [if_pos rfl] at p1
        revert p1
        cases mb sl ah1 with
        | nx s3 h3 => exact fun q ι3 H3 σ3 x3 r3 S3 => ⟨ι3, s3, h3, r3, S3, PostS.shift q x3 r3⟩
        | ct s3 h3 => exact fun q ι3 H3 σ3 x3 r3 S3 => ⟨ι3, s3, h3, r3, S3, PostS.shift q x3 r3⟩
        | bk s3 h3 => exact fun q => q
        | rt v h3 => exact fun q => q
        | ex x s3 h3 => exact fun q => q
        | no => exact fun q => q
end

/-! ### comprehensions -/
def wipeA (sl : Sl) : List Nat → Sl
  | [] => sl
  | v :: vs => (wipeA sl vs).set v none
theorem wipeA_rs {c : Ct} {ι : List Addr} {sl : Sl} {σ : L2.St} (S : RS c ι sl σ) : ∀ vs : List Nat, RS c ι (wipeA sl vs) (wipe σ vs)
  | [] => S
  | v :: vs => (wipeA_rs S vs).unset v
abbrev W0 : WX := fun _ _ _ _ => False
def R.only {α β : Type} (r : R α) (k : α → Hh → R β) : R β := match r with
  | .ok a h => k a h
  | .ex _ _ => .no
  | .no => .no
def loopC (cs : List (Bool × AV × List AV)) (slw : Sl) (dn : Nat) (g : Eg) (tt : Et) (te : Ev) : List (List AV) → Hh → R AV
  | [], h => if chkOk cs h = true then .ok (.ref dn) h else .no
  | it :: r, h => if chkOk cs h = true then match g it slw h with
    | some (sl1, h1) => (tt sl1 h1).only fun b h2 => if b = true then (te sl1 h2).only fun y h3 => match h3[dn]? with
          | some (.lst acc) => if acc.length < LINE then loopC cs slw dn g tt te r (h3.set dn (.lst (acc ++ [y]))) else .no
          | _ => .no
        else loopC cs slw dn g tt te r h2
    | none => .no
    else .no
def mLc (src : Ei) (vs : List Nat) (g : Eg) (tt : Et) (te : Ev) : Ev := fun sl h => (src sl h).bind fun s h1 => loopC s.chks (wipeA sl vs) h1.length g tt te s.items (h1 ++ [.lst []])
def mYes : Et := fun _ h => .ok true h
abbrev DTs (X : Cx) (c : Ct) (W : WX) (ifs : List Expr) (m : Et) : Prop := PTs X ifs (tDt X.K c W m)
theorem pts_imp {X : Cx} {e : List Expr} {t t' : TT} (h : PTs X e t) (k : ∀ σ H Q, t' σ H Q → t σ H Q) : PTs X e t' := ⟨fun pins s σ H Q I q => h.run pins s σ H Q I (k σ H Q q)⟩
section
variable {X : Cx} {c : Ct} {W : WX} {K : PySem.W.Frag}
theorem dts_nil : DTs X c W [] mYes := pts_imp pts_nil fun σ H Q ⟨ι, sl, ah, rh, S, p⟩ => p ι H true (Ext.refl _ _) rh rfl
theorem dts_one {e : Expr} {m : Et} (h : DT X c W e m) : DTs X c W [e] m := pts_one h
theorem post0 {α β : Type} {RB : List Addr → α → β → Prop} {r : R α} {k : α → Hh → R AV} {Q : VK} {Q' : β → Hp → Prop} {σ σ2 : L2.St} {H : Hp} {ι : List Addr} (p : Post K c W σ H ι (RV c) (r.only k) Q)
    (h : ∀ b H1 ι1 a ah1, Ext H ι H1 ι1 → RelH K c ι1 ah1 H1 → RB ι1 a b → Post K c W σ H1 ι1 (RV c) (k a ah1) Q → Q' b H1) : Post K c W0 σ2 H ι RB r Q' := by
  cases r with
  | ok a ah => exact fun ι' H' b e r' q => h b H' ι' a ah e r' q (Post.shift p e r')
  | ex x ah => exact p.elim
  | no => exact p.elim
theorem lc_imp {mi : Ei} {vs : List Nat} {g : Eg} {tt : Et} {te : Ev} {σ : L2.St} {H : Hp} {Q : VK} (h : tD K c W (mLc mi vs g tt te) σ H Q) : tLc (tI K c W mi) (gY K c vs g) (tDt K c W0 tt) (tD K c W0 te) vs σ H Q := by
  obtain ⟨ι, sl, ah, rh, S, p⟩ := h
  refine ⟨ι, sl, ah, rh, S, Post.step p fun J H1 ι1 s ah1 e1 r1 jr p1 => fun D hD => ?_⟩
  have S1 := S.ext e1
  have r2 : RelH K c (ι1 ++ [D]) (ah1 ++ [.lst []]) (upd H1 D (.lst [])) := r1.lay hD ⟨[], .nil, upd_same⟩
  have p2 := Post.shift p1 (Ext.lay (u := .lst []) hD) r2
  have hdn : (ι1 ++ [D])[ah1.length]? = some D := by rw [← r1.len]; simp
  refine ⟨fun i m H => m = s.items.length - i ∧ i ≤ s.items.length ∧ ∃ ι ah, (∃ r, ι = ι1 ++ [D] ++ r) ∧ RelH K c ι ah H ∧ Post K c W σ H ι (RV c) (loopC s.chks (wipeA sl vs) ah1.length g tt te (s.items.drop i) ah) Q,
    ⟨_, rfl, Nat.zero_le _, _, _, ⟨[], by simp⟩, r2, by simpa using p2⟩, ?_⟩
  rintro i m H ⟨rfl, hi, ι, ah, ⟨ro, hpre⟩, rh, p⟩
  have hpre1 : ∃ r, ι = ι1 ++ r := ⟨[D] ++ ro, by rw [hpre, List.append_assoc]⟩
  have Sw : RS c ι (wipeA sl vs) (wipe σ vs) := by
    obtain ⟨r, e⟩ := hpre1
    rw [e]; exact (wipeA_rs S1 vs).app r
  have hD1 : ι[ah1.length]? = some D := by rw [hpre]; exact getElem?_pre hdn
  by_cases hlt : i < s.items.length
  · rw [List.drop_eq_getElem_cons hlt] at p
    unfold loopC at p
    split at p
    · rename_i hck
      obtain ⟨_, j2⟩ := jr ι H ah hpre1 rh hck
      obtain ⟨jgo, jy⟩ := j2 i _ (List.getElem?_eq_getElem hlt)
      split at p
      · rename_i sl1 h1 eg
        refine .inr ⟨jgo, fun H' => ∃ ι ah, (∃ r, ι = ι1 ++ [D] ++ r) ∧ RelH K c ι ah H' ∧ Post K c W σ H' ι (RV c) (loopC s.chks (wipeA sl vs) ah1.length g tt te (s.items.drop (i + 1)) ah) Q, fun H' q => ⟨_, by omega, rfl, hlt, q⟩, fun x H' hy => ?_⟩
        obtain ⟨yv, hH⟩ := jy x H' hy
        have rh' : RelH K c ι ah H' := by
          rcases hH with rfl | ⟨T, u, hT, rfl⟩
          · exact rh
          · exact rh.junk hT
        have ex' : Ext H ι H' ι := by
          rcases hH with rfl | ⟨T, u, hT, rfl⟩
          · exact Ext.refl _ _
          · exact Ext.junk hT
        refine ⟨ι, wipeA sl vs, ah, _, sl1, h1, rh', Sw, yv, eg, fun ι2 H2 σ2 x2 rr2 S2 hw => ⟨hw.trans ?_, ι2, sl1, h1, rr2, S2, ?_⟩⟩
        · have key : ∀ (us : List Nat) (σ : L2.St), (∀ i ∈ us, i ∈ vs) → wipe (wipe σ us) vs = wipe σ vs := by
            intro us
            induction us with
            | nil => intro σ _; rfl
            | cons u us ih => intro σ hu; simp only [wipe]; rw [wipe_set vs u _ (hu u List.mem_cons_self)]; exact ih σ fun i hi => hu i (List.mem_cons_of_mem _ hi)
          exact key vs σ fun _ h => h
        · have pp := Post.shift p (ex'.trans rh' x2) rr2
          have pre2 : ∃ r, ι2 = ι1 ++ [D] ++ r := by
            obtain ⟨rb, e2⟩ := x2.pre'
            exact ⟨ro ++ rb, by rw [e2, hpre, List.append_assoc]⟩
          have go : ∀ {ι3 : List Addr} {h3 : Hh} {H3 : Hp}, (∃ r, ι3 = ι1 ++ [D] ++ r) → RelH K c ι3 h3 H3 → Post K c W σ H3 ι3 (RV c) (loopC s.chks (wipeA sl vs) ah1.length g tt te (s.items.drop (i + 1)) h3) Q →
              ∃ ι ah, (∃ r, ι = ι1 ++ [D] ++ r) ∧ RelH K c ι ah H3 ∧ Post K c W σ H3 ι (RV c) (loopC s.chks (wipeA sl vs) ah1.length g tt te (s.items.drop (i + 1)) ah) Q := fun {ι3 h3 H3} a b d => ⟨ι3, h3, a, b, d⟩
          refine post0 (RB := fun _ a b => a = b) pp fun b H3 ι3 b' h3 x3 r3 eb p3 => ?_
          cases eb
          have pre3 : ∃ r, ι3 = ι1 ++ [D] ++ r := by
            obtain ⟨ra, e1⟩ := pre2
            obtain ⟨rb, e2⟩ := x3.pre'
            exact ⟨ra ++ rb, by rw [e2, e1, List.append_assoc]⟩
          cases b with
          | false => exact go pre3 r3 p3
          | true =>
            rw [if_pos rfl] at p3
            rw [if_pos rfl]
            refine ⟨ι3, sl1, h3, r3, S2.ext x3, post0 (RB := RV c) p3 fun y H4 ι4 ay h4 x4 r4 ry p4 => ?_⟩
            have pre4 : ∃ r, ι4 = ι1 ++ [D] ++ r := by
              obtain ⟨ra, e1⟩ := pre3
              obtain ⟨rb, e2⟩ := x4.pre'
              exact ⟨ra ++ rb, by rw [e2, e1, List.append_assoc]⟩
            have hD4 : ι4[ah1.length]? = some D := by
              obtain ⟨r, e⟩ := pre4
              rw [e]; exact getElem?_pre hdn
            split at p4
            · rename_i acc ha
              split at p4
              · rename_i hl
                obtain ⟨a', ha', ws, rw', hw4⟩ := r4.obj _ _ ha
                rw [hD4] at ha'
                cases ha'
                refine ⟨ws, hw4, by rw [← Paired.length rw', line_eq]; exact hl, ?_⟩
                have rset : RelH K c ι4 (h4.set ah1.length (.lst (acc ++ [ay]))) (upd H4 D (.lst (ws ++ [y]))) := r4.set ha rfl rfl hD4 ⟨_, Paired.app rw' (.cons ry .nil), upd_same⟩
                exact go pre4 rset (Post.shift p4 (Ext.set hD4) rset)
              · exact p4.elim
            · exact p4.elim
      · exact p.elim
    · exact p.elim
  · have e : i = s.items.length := by omega
    subst e
    rw [List.drop_length] at p
    unfold loopC at p
    split at p
    · rename_i hck
      obtain ⟨j1, _⟩ := jr ι H ah hpre1 rh hck
      exact .inl ⟨j1, p ι H _ (Ext.refl _ _) rh ⟨D, hD1, rfl⟩⟩
    · exact p.elim
theorem de_lc {elt tg iter : Expr} {ifs : List Expr} {scope : Scope} {own : List (Str × Nat)} {pos : Pos} {mi : Ei} {g : Eg} {tt : Et} {te : Ev} {vs : List Nat} (hc : X.calm = true) (hN : X.N.Nodup) (hi : DI X c W tg iter mi) (ok : BlkOk X.N X.env.scope scope own) (hv : own.map (·.2) = vs)
    (hg : ∀ (s : Shared) (H : Hp) (C : Addr) (cl : List (Str × Addr)) (fp : List Addr), DG (X.blk s H scope (compEnvC scope cl C X.env) fp) c vs tg g) (ht : ∀ (s : Shared) (H : Hp) (C : Addr) (cl : List (Str × Addr)) (fp : List Addr), DTs (X.blk s H scope (compEnvC scope cl C X.env) fp) c W0 ifs tt)
    (he : ∀ (s : Shared) (H : Hp) (C : Addr) (cl : List (Str × Addr)) (fp : List Addr), DE (X.blk s H scope (compEnvC scope cl C X.env) fp) c W0 elt te) (hs : ∀ x, foldedSetIterable iter X.env x = pure x := by intro _; rfl) :
    DE X c W (.ListComp elt [⟨tg, iter, ifs, 0⟩] scope pos) (mLc mi vs g tt te) := by
  subst hv
  exact pe_imp (pe_lc hc hN hi ok hg ht he hs) fun _ _ _ h => lc_imp h
/-- name = [..] -/
theorem ds_setLc {i : Nat} {y : Str} {py : Pos} {elt tg iter : Expr} {ifs : List Expr} {scope : Scope} {own : List (Str × Nat)} {pos spos : Pos} {mi : Ei} {g : Eg} {tt : Et} {te : Ev} {vs : List Nat} (hc : X.calm = true) (hN : X.N.Nodup) (hy : X.N[i]? = some y) (hyl : X.env.scope.names.lookup y = some .local)
    (hsw : swapsWith (.ListComp elt [⟨tg, iter, ifs, 0⟩] scope pos) (some (.Name y py)) spos.line X.env = pure true) (hi : DI X c W tg iter mi) (ok : BlkOk X.N X.env.scope scope own) (hv : own.map (·.2) = vs)
    (hg : ∀ (s : Shared) (H : Hp) (C : Addr) (cl : List (Str × Addr)) (fp : List Addr), DG (X.blk s H scope (compEnvC scope cl C X.env) fp) c vs tg g) (ht : ∀ (s : Shared) (H : Hp) (C : Addr) (cl : List (Str × Addr)) (fp : List Addr), DTs (X.blk s H scope (compEnvC scope cl C X.env) fp) c W0 ifs tt)
    (he : ∀ (s : Shared) (H : Hp) (C : Addr) (cl : List (Str × Addr)) (fp : List Addr), DE (X.blk s H scope (compEnvC scope cl C X.env) fp) c W0 elt te) (hs : ∀ x, foldedSetIterable iter X.env x = pure x := by intro _; rfl) :
    DS X c W (.Assign [.Name y py] (.ListComp elt [⟨tg, iter, ifs, 0⟩] scope pos) spos) (mSet i (mLc mi vs g tt te)) := by
  subst hv
  exact ps_imp (ps_setLc hc hN hy hyl hsw hi ok hg ht he hs) fun D σ H ⟨ι, sl, ah, rh, S, p⟩ => by
    refine lc_imp (W := W) (Q := fun x H1 => gName i x σ H1 D.nx) (show tD X.K c W (mLc mi (own.map (·.2)) g tt te) σ H _ from ⟨ι, sl, ah, rh, S, ?_⟩)
    exact PostS.step S p fun x H1 ι1 a ah1 e1 r1 ra S1 p1 => p1.nx r1 (S1.set ra i)
end
end Det

/-! Det6: what is walked. -/
namespace Det
open PySem PySem.Spec PyProof.Rows L2

/-! ### enumerate of a text -/
def ItE (x : Str) : It :=
  ⟨fun i _ => i < x.cps.size, fun i H v H' => ∃ T ch, v = .ref T ∧ H T = none ∧ H' = upd H T (.tup [.int (i : Nat), .str ⟨#[ch]⟩]) ∧ x.cps[i]? = some ch, fun i _ => i = x.cps.size⟩
theorem turn_enumS {P : Program} {w : World} {K : PySem.W.Frag} {elts : List Expr} {kk : Nat} {tpos : Pos} (e it : Addr) (x : Str) (t : Tok) :
    Turn P w K (.Tuple elts kk tpos) (ItE x) [e, it] e (fun i h => (∃ old, IsEnum h e it ((i : Nat) : Int) old) ∧ h.IsStrIter it (strIterType x) x t i ∧ e ≠ it) where
  mem := by simp
  obj := fun i h st b hb => by
    obtain ⟨⟨old, he⟩, ⟨o, ho, hc, hd⟩, _⟩ := st
    have e' : b = e ∨ b = it := by simpa using hb
    rcases e' with z | z
    · rw [z]; exact ⟨_, he, fun v q => nomatch q⟩
    · rw [z]; exact ⟨o, ho, fun v q => by rw [hd] at q; cases q⟩
  keep := fun i h h' st k => let ⟨⟨old, he⟩, ⟨o, ho, r⟩, hne⟩ := st; ⟨⟨old, k e (by simp) _ he⟩, ⟨o, k it (by simp) o ho, r⟩, hne⟩
  item := by
    intro X hP hw hK hc i pins s σ H E I hf st hg
    subst hP hw hK
    obtain ⟨⟨old, he⟩, hit, hne⟩ := st
    have hel : e < s.heap.objs.size := Heap.lt_size he
    have hil : it < s.heap.objs.size := by obtain ⟨_, q, _⟩ := hit; exact Heap.lt_size q
    have D := Draws.text (prog := X.prog) (w := X.w) (A := X.A.in1) (show X.A.in1.handled = none from I.ok.hd hc) it x t
    refine wpAny_pyNext_enum_itemC D he hit hg hne (by simpa using hne) fun v h' tk hv ho hit' hT hsz hk => ?_
    obtain ⟨ch, u, hch, rfl⟩ := hv
    refine ⟨_, rfl, wpAny_letOwnedTupleGo_enum (s := { s with heap := h', toks := tk + 1 }) ho fun h'' he' sb => ?_⟩
    have hT2 : h''.get? s.heap.objs.size = some { cls := .type "tuple", data := .seq #[.int i tk, .str ⟨#[ch]⟩ u] } := (sb.2 _ (Nat.ne_of_gt hel)).trans hT
    have new : ObjOk X.prog X.w (upd H s.heap.objs.size (.tup [.int (i : Nat), .str ⟨#[ch]⟩])) h'' s.heap.objs.size (.tup [.int (i : Nat), .str ⟨#[ch]⟩]) :=
      ⟨by show 2 ≤ sizeLine; decide, [.int i tk, .str ⟨#[ch]⟩ u], .cons ⟨_, rfl⟩ (.cons ⟨_, rfl⟩ .nil), ⟨_, hT2, rfl, _, rfl⟩⟩
    have I1 : Inv X pins σ (upd H s.heap.objs.size (.tup [.int (i : Nat), .str ⟨#[ch]⟩])) { s with heap := h'', toks := tk + 1 } :=
      I.turnedNew (ch := [e, it]) (fun b ob hb q => (sb.2 b (fun z => hb (by simp [z]))).trans (hk b ob (fun z => hb (by simp [z])) (fun z => hb (by simp [z])) q)) hf (Nat.le_refl _) new
    obtain ⟨oi, ei, r⟩ := hit'
    refine ⟨.ref s.heap.objs.size, _, I1, rfl, ⟨_, ch, rfl, I.hok.fresh (Nat.le_refl _), rfl, hch⟩, ⟨⟨.str ⟨#[ch]⟩ u, ?_⟩, ⟨oi, (sb.2 it (Ne.symm hne)).trans ei, r⟩, hne⟩, fun b hb => ?_⟩
    · have e1 : ((i + 1 : Nat) : Int) = (i : Int) + 1 := by omega
      rw [e1]; exact he'
    · have hb' : b < s.heap.objs.size := by
        have e' : b = e ∨ b = it := by simpa using hb
        rcases e' with z | z
        · rw [z]; exact hel
        · rw [z]; exact hil
      rw [upd_ne (Nat.ne_of_lt hb')]
      exact (hf b hb).1
  done := by
    intro X hP hw hK hc i pins s σ H E I hf st hg
    subst hP hw hK
    obtain ⟨⟨old, he⟩, hit, hne⟩ := st
    obtain ⟨f0, f1, f2, f3, f4, f5⟩ := hf it (by simp)
    have hg' : i = x.cps.size := hg
    subst hg'
    have D := Draws.text (prog := X.prog) (w := X.w) (A := X.A.in1) (show X.A.in1.handled = none from I.ok.hd hc) it x t
    exact wpAny_pyNext_enum_endD D he hit fun h' eb => ⟨rfl, I.turned (t' := s.toks) (fun b o hb q => eb b o hb q) f0 f1 f3 f4 f5⟩
  self := fun A i s Q E st h => let ⟨⟨_, he⟩, _⟩ := st; wpAny_pyIter_enum he h
def iEnumS (ta : TA) : TI := fun σ H R => ta σ H fun vs H1 => ∃ x, vs = [.str x] ∧ R (ItE x) H1
/-- enumerate of a list or of a text -/
def iEnumA (K : PySem.W.Frag) (ta : TA) : TI := fun σ H R => ta σ H fun vs H1 => (∃ a xs, vs = [.ref a] ∧ SqL K H1 a xs ∧ R (Ite K a) H1) ∨ ∃ x, vs = [.str x] ∧ R (ItE x) H1
section
variable {X : Cx} {c : Ct} {W : WX}
theorem pi_enumA {e : Expr} {ta : TA} {p pos tpos : Pos} {elts : List Expr} {kk : Nat} (hg : Gl X "enumerate") (hm : X.mg "enumerate" = none) (ha : PA X [e] ta) (hs : starEach [e] X.env = [(false, eval e X.env)] := by rfl) :
    PI X (.Tuple elts kk tpos) (.Call (.Name "enumerate" p) [e] [] pos) (iEnumA X.K ta) := by
  refine ⟨fun pins s σ H R I h => ?_⟩
  refine Call_ (ld_blt I hg hm boot_enumerate (PyProof.Rows.callWith_type1 (thn (ha.run pos pins s σ H _ I h) fun us s1 ⟨vs, H1, I1, r1, q1⟩ => ?_) hs rfl))
  rcases q1 with ⟨a, xs, ex, hq, q⟩ | ⟨x, ex, q⟩
  · subst ex
    cases r1 with
    | cons r rr =>
      cases rr
      cases r
      obtain ⟨its, rv, p', hz⟩ := I1.list hq
      refine call_enumerate_list p'.isList fun h' he hit hsz hk => wpAny_pyIter_enum he ?_
      have I2 : Inv X pins σ H1 { s1 with heap := h' } := I1.kept (t' := s1.toks) hk
      refine ⟨s1.heap.objs.size + 1, [s1.heap.objs.size + 1, s1.heap.objs.size], _, _, H1, rfl, I2, turn_enum a (s1.heap.objs.size + 1) s1.heap.objs.size, ⟨⟨.none, he⟩, hit, Nat.succ_ne_self _⟩, fun b hb => ?_, q⟩
      have e' : b = s1.heap.objs.size + 1 ∨ b = s1.heap.objs.size := by simpa using hb
      have hle : s1.heap.objs.size ≤ b := by
        rcases e' with z | z
        · rw [z]; exact Nat.le_add_right _ _
        · rw [z]; exact Nat.le_refl _
      exact I1.fpOk hle (I1.hok.fresh hle)
  · subst ex
    cases r1 with
    | cons r rr =>
      cases rr
      obtain ⟨t, rfl⟩ := r
      refine call_enumerate_str fun h' he hit hsz hk => wpAny_pyIter_enum he ?_
      have I2 : Inv X pins σ H1 { s1 with heap := h' } := I1.kept (t' := s1.toks) hk
      refine ⟨s1.heap.objs.size + 1, [s1.heap.objs.size + 1, s1.heap.objs.size], _, _, H1, rfl, I2, turn_enumS (s1.heap.objs.size + 1) s1.heap.objs.size x t, ⟨⟨.none, he⟩, hit, Nat.succ_ne_self _⟩, fun b hb => ?_, q⟩
      have e' : b = s1.heap.objs.size + 1 ∨ b = s1.heap.objs.size := by simpa using hb
      have hle : s1.heap.objs.size ≤ b := by
        rcases e' with z | z
        · rw [z]; exact Nat.le_add_right _ _
        · rw [z]; exact Nat.le_refl _
      exact I1.fpOk hle (I1.hok.fresh hle)
/-- a list, a tuple, a text -/
def iAny (K : PySem.W.Frag) (tl : TE) : TI := fun σ H R => tl σ H fun x H1 => (∃ a, x = .ref a ∧ (∃ xs, SqL K H1 a xs) ∧ R (Itl K a) H1) ∨ (∃ a, x = .ref a ∧ (∃ xs, SqT K H1 a xs) ∧ R (Itt K a) H1) ∨ ∃ z, x = .str z ∧ R (Its z) H1
theorem pi_any {tg l : Expr} {tl : TE} (hl : PE X l tl) : PI X tg l (iAny X.K tl) := by
  refine ⟨fun pins s σ H R I h => ?_⟩
  refine thn (hl.run pins s σ H _ I h) fun v s1 ⟨x, H1, I1, r1, q1⟩ => ?_
  rcases q1 with ⟨a, e, ⟨xs, hq⟩, q⟩ | ⟨a, e, ⟨xs, hq⟩, q⟩ | ⟨z, e, q⟩
  · subst e
    cases r1
    obtain ⟨its, rv, p, hz⟩ := I1.list hq
    refine wpAny_pyIter_list p.isList ?_
    refine ⟨s1.heap.objs.size, [s1.heap.objs.size], _, _, H1, rfl, I1.kept (t' := s1.toks) fun b o e => Heap.get?_push_of_some _ e, turn_list a _, ⟨_, Heap.get?_push_size _ rfl, rfl, rfl⟩, fun b hb => ?_, q⟩
    have e : b = s1.heap.objs.size := by simpa using hb
    subst e
    exact I1.fpOk (Nat.le_refl _) (I1.hok.fresh (Nat.le_refl _))
  · subst e
    cases r1
    obtain ⟨its, rv, p, hz⟩ := I1.tuple hq
    refine wpAny_pyIter_tuple (show s1.heap.IsTuple a its.toArray from p) ?_
    refine ⟨s1.heap.objs.size, [s1.heap.objs.size], _, _, H1, rfl, I1.kept (t' := s1.toks) fun b o e => Heap.get?_push_of_some _ e, turn_tuple a _, ⟨_, Heap.get?_push_size _ rfl, rfl, rfl⟩, fun b hb => ?_, q⟩
    have e : b = s1.heap.objs.size := by simpa using hb
    subst e
    exact I1.fpOk (Nat.le_refl _) (I1.hok.fresh (Nat.le_refl _))
  · subst e
    obtain ⟨t, rfl⟩ := r1
    cases ha : z.cps.all (· < 128)
    · exact wpAny_pyIter_wide ha (pi_one (tk := s1.toks) I1 _ (turn_str _ z t "str_iterator" (.inr rfl)) ⟨_, Heap.get?_push_size _ rfl, rfl, rfl⟩ q)
    · exact wpAny_pyIter_ascii ha (pi_one (tk := s1.toks) I1 _ (turn_str _ z t "str_ascii_iterator" (.inl rfl)) ⟨_, Heap.get?_push_size _ rfl, rfl, rfl⟩ q)

/-! ### the sources -/
def one (xs : List AV) : List (List AV) := xs.map fun x => [x]
def srcOf (h : Hh) (v : AV) : Option Src := match v with
  | .str s => some ⟨s.map fun ch => [.str [ch]], []⟩
  | v => match rdL h v with
    | some xs => some ⟨one xs, [(true, v, xs)]⟩
    | none => match rdT h v with
      | some xs => some ⟨one xs, [(false, v, xs)]⟩
      | none => none
def mIter (m : Ev) : Ei := fun sl h => (m sl h).bind fun v h1 => match srcOf h1 v with
  | some s => .ok s h1
  | none => .no
def pairsFrom : Nat → List AV → List (List AV)
  | _, [] => []
  | i, x :: r => [.int (i : Int), x] :: pairsFrom (i + 1) r
def srcEnum (h : Hh) (v : AV) : Option Src := match v with
  | .str s => some ⟨pairsFrom 0 (s.map fun ch => .str [ch]), []⟩
  | v => match rdL h v with
    | some xs => some ⟨pairsFrom 0 xs, [(true, v, xs)]⟩
    | none => none
def mEnum (m : Ev) : Ei := fun sl h => (m sl h).bind fun v h1 => match srcEnum h1 v with
  | some s => .ok s h1
  | none => .no
def small60 (i : Int) : Bool := decide (-(2 ^ 60) ≤ i) && decide (i < 2 ^ 60)
def rangeIt (lo : Int) (n : Nat) : List (List AV) := (List.range n).map fun i => [.int (lo + (i : Nat))]
def mRange1 (m : Ev) : Ei := fun sl h => (m sl h).bind fun v h1 => match v with
  | .int j => if small60 j = true then .ok ⟨rangeIt 0 j.toNat, []⟩ h1 else .no
  | _ => .no
def mRange2 (ma mb : Ev) : Ei := fun sl h => (ma sl h).bind fun v h1 => (mb sl h1).bind fun u h2 => match v, u with
  | .int i, .int j => if (small60 i && small60 j) = true then .ok ⟨rangeIt i (j - i).toNat, []⟩ h2 else .no
  | _, _ => .no
/-- the step -1 -/
def mRange3 (ma mb mc : Ev) : Ei := fun sl h => (ma sl h).bind fun v h1 => (mb sl h1).bind fun u h2 => (mc sl h2).bind fun t h3 => match v, u, t with
  | .int i, .int j, .int k => if (small60 i && small60 j && decide (k = -1)) = true then .ok ⟨(List.range (i - j).toNat).map fun (k : Nat) => [.int (i + (k : Int) * (-1))], []⟩ h3 else .no
  | _, _, _ => .no
def zipIt : List AV → List AV → List (List AV)
  | x :: xs, y :: ys => [x, y] :: zipIt xs ys
  | _, _ => []
def mZip (ma mb : Ev) : Ei := fun sl h => (ma sl h).bind fun v h1 => (mb sl h1).bind fun u h2 => match rdL h2 v, rdL h2 u with
  | some xs, some ys => .ok ⟨zipIt xs ys, [(true, v, xs), (true, u, ys)]⟩ h2
  | _, _ => match rdT h2 v, rdT h2 u with
    | some xs, some ys => .ok ⟨zipIt xs ys, [(false, v, xs), (false, u, ys)]⟩ h2
    | _, _ => .no
variable {K : PySem.W.Frag} {σ : L2.St} {H : Hp} {ι : List Addr} {ah : Hh} {sl : Sl}
theorem chk_one {b : Bool} {v : AV} {xs : List AV} {h : Hh} (e : chkOk [(b, v, xs)] h = true) : rdB b h v = some xs := by simpa [chkOk] using e
theorem chk_two {b b' : Bool} {v v' : AV} {xs xs' : List AV} {h : Hh} (e : chkOk [(b, v, xs), (b', v', xs')] h = true) : rdB b h v = some xs ∧ rdB b' h v' = some xs' := by simpa [chkOk] using e
theorem later {v : AV} {a : Addr} (r : RV c ι v (.ref a)) {ι' : List Addr} (hp : ∃ r, ι' = ι ++ r) : RV c ι' v (.ref a) := by
  obtain ⟨rr, e1⟩ := hp
  rw [e1]; exact r.app rr
theorem sql_at {v : AV} {a : Addr} {xs : List AV} (r : RV c ι v (.ref a)) {ι' : List Addr} {H' : Hp} {ah' : Hh} (hp : ∃ r, ι' = ι ++ r) (rh : RelH K c ι' ah' H') (e : rdB true ah' v = some xs) : ∃ vs, SqL K H' a vs ∧ RVs c ι' xs vs := by
  obtain ⟨a', vs, e2, s, rv⟩ := rdL_ok rh e (later r hp)
  cases e2
  exact ⟨vs, s, rv⟩
theorem sqt_at {v : AV} {a : Addr} {xs : List AV} (r : RV c ι v (.ref a)) {ι' : List Addr} {H' : Hp} {ah' : Hh} (hp : ∃ r, ι' = ι ++ r) (rh : RelH K c ι' ah' H') (e : rdB false ah' v = some xs) : ∃ vs, SqT K H' a vs ∧ RVs c ι' xs vs := by
  obtain ⟨a', vs, e2, s, rv⟩ := rdT_ok rh e (later r hp)
  cases e2
  exact ⟨vs, s, rv⟩
theorem jr_list {v : AV} {xs : List AV} {a : Addr} (r : RV c ι v (.ref a)) : JRel K c ι ⟨one xs, [(true, v, xs)]⟩ (Itl K a) := fun ι' H' ah' hp rh ck => by
  obtain ⟨vs, s, rv⟩ := sql_at r hp rh (chk_one ck)
  refine ⟨⟨vs, s, by simp only [one, List.length_map]; rw [← Paired.length rv]; exact Nat.le_refl _⟩, fun i it hi => ?_⟩
  simp only [one, List.getElem?_map, Option.map_eq_some_iff] at hi
  obtain ⟨x, hx, rfl⟩ := hi
  obtain ⟨y, hy, ry⟩ := paired_get rv hx
  refine ⟨⟨vs, y, s, hy⟩, fun z H2 hz => ?_⟩
  obtain ⟨rfl, q⟩ := hz
  have := q vs s
  rw [hy] at this
  cases this
  exact ⟨ry, .inl rfl⟩
theorem jr_tup {v : AV} {xs : List AV} {a : Addr} (r : RV c ι v (.ref a)) : JRel K c ι ⟨one xs, [(false, v, xs)]⟩ (Itt K a) := fun ι' H' ah' hp rh ck => by
  obtain ⟨vs, s, rv⟩ := sqt_at r hp rh (chk_one ck)
  refine ⟨⟨vs, s, by simp only [one, List.length_map]; rw [← Paired.length rv]; exact Nat.le_refl _⟩, fun i it hi => ?_⟩
  simp only [one, List.getElem?_map, Option.map_eq_some_iff] at hi
  obtain ⟨x, hx, rfl⟩ := hi
  obtain ⟨y, hy, ry⟩ := paired_get rv hx
  refine ⟨⟨vs, y, s, hy⟩, fun z H2 hz => ?_⟩
  obtain ⟨rfl, q⟩ := hz
  have := q vs s
  rw [hy] at this
  cases this
  exact ⟨ry, .inl rfl⟩
theorem size_mkS (s : List Nat) : (mkS s).cps.size = s.length := by simp [mkS]
theorem get_mkS (s : List Nat) (i : Nat) : (mkS s).cps[i]? = s[i]? := by simp [mkS]
theorem jr_str {s : List Nat} : JRel K c ι ⟨s.map fun ch => [.str [ch]], []⟩ (Its (mkS s)) := fun ι' H' ah' hp rh ck => by
  refine ⟨by show (mkS s).cps.size ≤ _; rw [size_mkS]; simp, fun i it hi => ?_⟩
  simp only [List.getElem?_map, Option.map_eq_some_iff] at hi
  obtain ⟨x, hx, rfl⟩ := hi
  refine ⟨by show i < (mkS s).cps.size; rw [size_mkS]; exact (List.getElem?_eq_some_iff.mp hx).1, fun z H2 hz => ?_⟩
  obtain ⟨rfl, ch, hch, rfl⟩ := hz
  rw [get_mkS, hx] at hch
  cases hch
  exact ⟨rfl, .inl rfl⟩
theorem pairs_len : ∀ (xs : List AV) (k : Nat), (pairsFrom k xs).length = xs.length
  | [], _ => rfl
  | _ :: r, k => by simp [pairsFrom, pairs_len r]
theorem pairs_get : ∀ (xs : List AV) (k i : Nat) (it : List AV), (pairsFrom k xs)[i]? = some it → ∃ x, xs[i]? = some x ∧ it = [.int ((k + i : Nat) : Int), x]
  | [], _, _, _, h => by simp [pairsFrom] at h
  | x :: r, k, 0, it, h => by
    simp [pairsFrom] at h
    exact ⟨x, rfl, h.symm⟩
  | x :: r, k, i + 1, it, h => by
    simp only [pairsFrom, List.getElem?_cons_succ] at h
    obtain ⟨y, hy, e⟩ := pairs_get r (k + 1) i it h
    exact ⟨y, by simpa using hy, by rw [e, show k + 1 + i = k + (i + 1) by omega]⟩
theorem jr_enum {v : AV} {xs : List AV} {a : Addr} (r : RV c ι v (.ref a)) : JRel K c ι ⟨pairsFrom 0 xs, [(true, v, xs)]⟩ (Ite K a) := fun ι' H' ah' hp rh ck => by
  obtain ⟨vs, s, rv⟩ := sql_at r hp rh (chk_one ck)
  refine ⟨⟨vs, s, by simp only [pairs_len]; rw [← Paired.length rv]; exact Nat.le_refl _⟩, fun i it hi => ?_⟩
  obtain ⟨x, hx, rfl⟩ := pairs_get xs 0 i it hi
  obtain ⟨y, hy, ry⟩ := paired_get rv hx
  refine ⟨⟨vs, y, s, hy⟩, fun z H2 hz => ?_⟩
  obtain ⟨T, w, rfl, hT, rfl, q⟩ := hz
  have := q vs s
  rw [hy] at this
  cases this
  exact ⟨⟨T, _, _, rfl, .inl (.inl upd_same), by show V.int _ = V.int _; rw [Nat.zero_add], ry⟩, .inr ⟨T, _, hT, rfl⟩⟩
theorem jr_enumS {s : List Nat} : JRel K c ι ⟨pairsFrom 0 (s.map fun ch => .str [ch]), []⟩ (ItE (mkS s)) := fun ι' H' ah' hp rh ck => by
  refine ⟨by show (pairsFrom 0 _).length = (mkS s).cps.size; rw [size_mkS, pairs_len]; simp, fun i it hi => ?_⟩
  obtain ⟨x, hx, rfl⟩ := pairs_get _ 0 i it hi
  simp only [List.getElem?_map, Option.map_eq_some_iff] at hx
  obtain ⟨ch, hx, rfl⟩ := hx
  refine ⟨by show i < (mkS s).cps.size; rw [size_mkS]; exact (List.getElem?_eq_some_iff.mp hx).1, fun z H2 hz => ?_⟩
  obtain ⟨T, w, rfl, hT, rfl, q⟩ := hz
  rw [get_mkS, hx] at q
  cases q
  exact ⟨⟨T, _, _, rfl, .inl (.inl upd_same), by show V.int _ = V.int _; rw [Nat.zero_add], rfl⟩, .inr ⟨T, _, hT, rfl⟩⟩
theorem jr_range {lo : Int} {n : Nat} : JRel K c ι ⟨rangeIt lo n, []⟩ (Itr lo n) := fun ι' H' ah' hp rh ck => by
  refine ⟨by show n ≤ _; simp [rangeIt], fun i it hi => ?_⟩
  simp only [rangeIt, List.getElem?_map, Option.map_eq_some_iff] at hi
  obtain ⟨x, hx, rfl⟩ := hi
  have hl : i < n := by have := (List.getElem?_eq_some_iff.mp hx).1; simpa using this
  rw [List.getElem?_range hl] at hx
  cases hx
  exact ⟨hl, fun z H2 hz => by obtain ⟨rfl, rfl⟩ := hz; exact ⟨rfl, .inl rfl⟩⟩
theorem jr_rangeN {lo : Int} {n : Nat} : JRel K c ι ⟨(List.range n).map fun (k : Nat) => [.int (lo + (k : Int) * (-1))], []⟩ (Itc lo (-1) n) := fun ι' H' ah' hp rh ck => by
  refine ⟨by show n ≤ _; simp, fun i it hi => ?_⟩
  simp only [List.getElem?_map, Option.map_eq_some_iff] at hi
  obtain ⟨x, hx, rfl⟩ := hi
  have hl : i < n := by have := (List.getElem?_eq_some_iff.mp hx).1; simpa using this
  rw [List.getElem?_range hl] at hx
  cases hx
  exact ⟨hl, fun z H2 hz => by obtain ⟨rfl, rfl⟩ := hz; exact ⟨rfl, .inl rfl⟩⟩
theorem zip_get : ∀ (xs ys : List AV) (i : Nat) (it : List AV), (zipIt xs ys)[i]? = some it → ∃ x y, xs[i]? = some x ∧ ys[i]? = some y ∧ it = [x, y]
  | [], _, _, _, h => by simp [zipIt] at h
  | _ :: _, [], _, _, h => by simp [zipIt] at h
  | x :: r, y :: t, 0, it, h => by simp [zipIt] at h; exact ⟨x, y, rfl, rfl, h.symm⟩
  | x :: r, y :: t, i + 1, it, h => by
    simp only [zipIt, List.getElem?_cons_succ] at h
    obtain ⟨a, b, e1, e2, e3⟩ := zip_get r t i it h
    exact ⟨a, b, by simpa using e1, by simpa using e2, e3⟩
theorem zip_len : ∀ (xs ys : List AV), (zipIt xs ys).length = min xs.length ys.length
  | [], _ => by simp [zipIt]
  | _ :: _, [] => by simp [zipIt]
  | x :: r, y :: t => by simp [zipIt, zip_len r t]
theorem jr_zip {v u : AV} {xs ys : List AV} {a b : Addr} (r : RV c ι v (.ref a)) (r2 : RV c ι u (.ref b)) : JRel K c ι ⟨zipIt xs ys, [(true, v, xs), (true, u, ys)]⟩ (Itz K a b) := fun ι' H' ah' hp rh ck => by
  obtain ⟨c1, c2⟩ := chk_two ck
  obtain ⟨vs, s, rv⟩ := sql_at r hp rh c1
  obtain ⟨ws, s2, rw2⟩ := sql_at r2 hp rh c2
  have l1 := Paired.length rv
  have l2 := Paired.length rw2
  refine ⟨⟨vs, ws, s, s2, by simp only [zip_len]; omega⟩, fun i it hi => ?_⟩
  obtain ⟨x, y, hx, hy, rfl⟩ := zip_get xs ys i it hi
  obtain ⟨x', hx', rx⟩ := paired_get rv hx
  obtain ⟨y', hy', ry⟩ := paired_get rw2 hy
  refine ⟨⟨vs, ws, x', y', s, s2, hx', hy'⟩, fun z H2 hz => ?_⟩
  obtain ⟨T, p, q, rfl, hT, rfl, q1, q2⟩ := hz
  have e1 := q1 vs s
  have e2 := q2 ws s2
  rw [hx'] at e1
  rw [hy'] at e2
  cases e1; cases e2
  exact ⟨⟨T, _, _, rfl, .inl (.inl upd_same), rx, ry⟩, .inr ⟨T, _, hT, rfl⟩⟩
theorem jr_zipT {v u : AV} {xs ys : List AV} {a b : Addr} (r : RV c ι v (.ref a)) (r2 : RV c ι u (.ref b)) : JRel K c ι ⟨zipIt xs ys, [(false, v, xs), (false, u, ys)]⟩ (RZ.ItzT K a b) := fun ι' H' ah' hp rh ck => by
  obtain ⟨c1, c2⟩ := chk_two ck
  obtain ⟨vs, s, rv⟩ := sqt_at r hp rh c1
  obtain ⟨ws, s2, rw2⟩ := sqt_at r2 hp rh c2
  have l1 := Paired.length rv
  have l2 := Paired.length rw2
  refine ⟨⟨vs, ws, s, s2, by simp only [zip_len]; omega⟩, fun i it hi => ?_⟩
  obtain ⟨x, y, hx, hy, rfl⟩ := zip_get xs ys i it hi
  obtain ⟨x', hx', rx⟩ := paired_get rv hx
  obtain ⟨y', hy', ry⟩ := paired_get rw2 hy
  refine ⟨⟨vs, ws, x', y', s, s2, hx', hy'⟩, fun z H2 hz => ?_⟩
  obtain ⟨T, p, q, rfl, hT, rfl, q1, q2⟩ := hz
  have e1 := q1 vs s
  have e2 := q2 ws s2
  rw [hx'] at e1
  rw [hy'] at e2
  cases e1; cases e2
  exact ⟨⟨T, _, _, rfl, .inl (.inl upd_same), rx, ry⟩, .inr ⟨T, _, hT, rfl⟩⟩
theorem di_iter {tg e : Expr} {m : Ev} (h : DE X c W e m) : DI X c W tg e (mIter m) :=
  pi_imp (pi_any h) fun σ H Q ⟨ι, sl, ah, rh, S, p⟩ => ⟨ι, sl, ah, rh, S, Post.step p fun x H1 ι1 v ah1 e1 r1 rv p1 => by
    cases es : srcOf ah1 v with
    | none => rw [es] at p1; exact p1.elim
    | some s =>
      rw [es] at p1
      unfold srcOf at es
      split at es
      · cases es; cases rv
        exact .inr (.inr ⟨_, rfl, p1 ι1 H1 _ (Ext.refl _ _) r1 jr_str⟩)
      · split at es
        · rename_i xs e
          cases es
          obtain ⟨a, vs, rfl, s, r⟩ := rdL_ok r1 e rv
          exact .inl ⟨a, rfl, ⟨vs, s⟩, p1 ι1 H1 _ (Ext.refl _ _) r1 (jr_list rv)⟩
        · split at es
          · rename_i xs e
            cases es
            obtain ⟨a, vs, rfl, s, r⟩ := rdT_ok r1 e rv
            exact .inr (.inl ⟨a, rfl, ⟨vs, s⟩, p1 ι1 H1 _ (Ext.refl _ _) r1 (jr_tup rv)⟩)
          · cases es⟩
theorem da_one {e : Expr} {m : Ev} (ha : DE X c W e m) (hs : starEach [e] X.env = (false, eval e X.env) :: starEach [] X.env := by rfl) : PA X [e] (tCons (tD X.K c W m) tNil) := pa_cons ha pa_nil hs
theorem di_enum {e : Expr} {m : Ev} {p pos tpos : Pos} {elts : List Expr} {kk : Nat} (hg : Gl X "enumerate") (hm : X.mg "enumerate" = none) (h : DE X c W e m) (hs : starEach [e] X.env = [(false, eval e X.env)] := by rfl) :
    DI X c W (.Tuple elts kk tpos) (.Call (.Name "enumerate" p) [e] [] pos) (mEnum m) :=
  pi_imp (pi_enumA hg hm (pa_cons h pa_nil hs) hs) fun σ H Q ⟨ι, sl, ah, rh, S, p⟩ => ⟨ι, sl, ah, rh, S, Post.step p fun x H1 ι1 v ah1 e1 r1 rv p1 => by
    cases es : srcEnum ah1 v with
    | none => rw [es] at p1; exact p1.elim
    | some s =>
      rw [es] at p1
      unfold srcEnum at es
      split at es
      · cases es; cases rv
        exact .inr ⟨_, rfl, p1 ι1 H1 _ (Ext.refl _ _) r1 jr_enumS⟩
      · split at es
        · rename_i xs e
          cases es
          obtain ⟨a, vs, rfl, s, r⟩ := rdL_ok r1 e rv
          exact .inl ⟨a, vs, rfl, s, p1 ι1 H1 _ (Ext.refl _ _) r1 (jr_enum rv)⟩
        · cases es⟩
theorem small60_iff {i : Int} (h : small60 i = true) : -(2 ^ 60) ≤ i ∧ i < 2 ^ 60 := by
  unfold small60 at h
  rw [Bool.and_eq_true] at h
  exact ⟨of_decide_eq_true h.1, of_decide_eq_true h.2⟩
theorem di_range1 {tg e : Expr} {m : Ev} {p pos : Pos} (hg : Gl X "range") (hm : X.mg "range" = none) (h : DE X c W e m) (hs : starEach [e] X.env = [(false, eval e X.env)] := by rfl) : DI X c W tg (.Call (.Name "range" p) [e] [] pos) (mRange1 m) :=
  pi_imp (pi_range1 hg hm (pa_cons h pa_nil hs) hs) fun σ H Q ⟨ι, sl, ah, rh, S, p⟩ => ⟨ι, sl, ah, rh, S, Post.step p fun x H1 ι1 v ah1 e1 r1 rv p1 => by
    split at p1
    · rename_i j
      split at p1
      · rename_i hj
        obtain ⟨h1, h2⟩ := small60_iff hj
        cases rv
        exact ⟨j, rfl, by omega, by omega, p1 ι1 H1 _ (Ext.refl _ _) r1 jr_range⟩
      · exact p1.elim
    · exact p1.elim⟩
theorem di_range2 {tg e d : Expr} {m n : Ev} {p pos : Pos} (hg : Gl X "range") (hm : X.mg "range" = none) (h : DE X c W e m) (h' : DE X c W d n) (hs : starEach [e, d] X.env = [(false, eval e X.env), (false, eval d X.env)] := by rfl) (hs2 : starEach [d] X.env = [(false, eval d X.env)] := by rfl) : DI X c W tg (.Call (.Name "range" p) [e, d] [] pos) (mRange2 m n) :=
  pi_imp (pi_range2 hg hm (pa_cons h (pa_cons h' pa_nil hs2) (by rw [hs, hs2])) hs hs2) fun σ H Q ⟨ι, sl, ah, rh, S, p⟩ => ⟨ι, sl, ah, rh, S, Post.step p fun x H1 ι1 v ah1 e1 r1 rv p1 => ⟨ι1, sl, ah1, r1, S.ext e1, Post.step p1 fun y H2 ι2 u ah2 e2 r2 ru p2 => by
    split at p2
    · rename_i i j
      split at p2
      · rename_i hj
        rw [Bool.and_eq_true] at hj
        obtain ⟨h1, h2⟩ := small60_iff hj.1
        obtain ⟨h3, h4⟩ := small60_iff hj.2
        cases rv; cases ru
        exact ⟨i, j, rfl, by omega, p2 ι2 H2 _ (Ext.refl _ _) r2 jr_range⟩
      · exact p2.elim
    · exact p2.elim⟩⟩
theorem di_range3 {tg e d f : Expr} {m n o : Ev} {p pos : Pos} (hg : Gl X "range") (hm : X.mg "range" = none) (h : DE X c W e m) (h' : DE X c W d n) (h'' : DE X c W f o)
    (hr : ∀ {ta : TA}, PA X [e, d, f] ta → PI X tg (.Call (.Name "range" p) [e, d, f] [] pos) (iRng3 ta)) (hs : starEach [e, d, f] X.env = (false, eval e X.env) :: starEach [d, f] X.env := by rfl) (hs2 : starEach [d, f] X.env = (false, eval d X.env) :: starEach [f] X.env := by rfl) (hs3 : starEach [f] X.env = (false, eval f X.env) :: starEach [] X.env := by rfl) :
    DI X c W tg (.Call (.Name "range" p) [e, d, f] [] pos) (mRange3 m n o) :=
  pi_imp (hr (pa_cons h (pa_cons h' (pa_cons h'' pa_nil hs3) hs2) hs)) fun σ H Q ⟨ι, sl, ah, rh, S, p⟩ => ⟨ι, sl, ah, rh, S, Post.step p fun x H1 ι1 v ah1 e1 r1 rv p1 => ⟨ι1, sl, ah1, r1, S.ext e1, Post.step p1 fun y H2 ι2 u ah2 e2 r2 ru p2 => ⟨ι2, sl, ah2, r2, (S.ext e1).ext e2, Post.step p2 fun z H3 ι3 t ah3 e3 r3 rt p3 => by
    split at p3
    · rename_i i j k
      split at p3
      · rename_i hj
        rw [Bool.and_eq_true, Bool.and_eq_true, decide_eq_true_eq] at hj
        obtain ⟨⟨hj1, hj2⟩, rfl⟩ := hj
        obtain ⟨h1, h2⟩ := small60_iff hj1
        obtain ⟨h3, h4⟩ := small60_iff hj2
        cases rv; cases ru; cases rt
        exact ⟨i, j, -1, _, rfl, RgC.neg (by omega) (by omega) (by omega) (by omega), p3 ι3 H3 _ (Ext.refl _ _) r3 jr_rangeN⟩
      · exact p3.elim
    · exact p3.elim⟩⟩⟩
theorem di_zip {e d : Expr} {m n : Ev} {p pos tpos : Pos} {elts : List Expr} {kk : Nat} (hr : ∀ {ta : TA}, PA X [e, d] ta → PI X (.Tuple elts kk tpos) (.Call (.Name "zip" p) [e, d] [] pos) (RZ.iZipA X.K ta)) (h : DE X c W e m) (h' : DE X c W d n)
    (hs : starEach [e, d] X.env = (false, eval e X.env) :: starEach [d] X.env := by rfl) (hs2 : starEach [d] X.env = (false, eval d X.env) :: starEach [] X.env := by rfl) :
    DI X c W (.Tuple elts kk tpos) (.Call (.Name "zip" p) [e, d] [] pos) (mZip m n) :=
  pi_imp (hr (pa_cons h (pa_cons h' pa_nil hs2) hs)) fun σ H Q ⟨ι, sl, ah, rh, S, p⟩ => ⟨ι, sl, ah, rh, S, Post.step p fun x H1 ι1 v ah1 e1 r1 rv p1 => ⟨ι1, sl, ah1, r1, S.ext e1, Post.step p1 fun y H2 ι2 u ah2 e2 r2 ru p2 => by
    have rv2 := rv.ext e2
    split at p2
    · rename_i xs ys q1 q2
      obtain ⟨a, vs, rfl, s, r⟩ := rdL_ok r2 q1 rv2
      obtain ⟨b, ws, rfl, s', r'⟩ := rdL_ok r2 q2 ru
      exact ⟨a, b, vs, ws, rfl, .inl ⟨s, s', p2 ι2 H2 _ (Ext.refl _ _) r2 (jr_zip rv2 ru)⟩⟩
    · split at p2
      · rename_i xs ys q1 q2
        obtain ⟨a, vs, rfl, s, r⟩ := rdT_ok r2 q1 rv2
        obtain ⟨b, ws, rfl, s', r'⟩ := rdT_ok r2 q2 ru
        exact ⟨a, b, vs, ws, rfl, .inr ⟨s, s', p2 ι2 H2 _ (Ext.refl _ _) r2 (jr_zipT rv2 ru)⟩⟩
      · exact p2.elim⟩⟩
end
end Det

/-! Det7: defs and their calls. -/
namespace Det
open PySem PySem.Spec PyProof.Rows L2

abbrev Fn := List AV → Hh → R AV
/-- a def by its body: n slots, the parameters first -/
def mFn (n : Nat) (body : Es) : Fn := fun args h => match body (args.map some ++ List.replicate (n - args.length) none) h with
  | .nx _ h' => .ok .non h'
  | .rt v h' => .ok v h'
  | .ex x _ h' => .ex x h'
  | _ => .no
def spM (K : PySem.W.Frag) (c : Ct) (np : Nat) (m : Fn) : Sp := fun vs H Q E => ∃ ι as ah, RelH K c ι ah H ∧ RVs c ι as vs ∧ as.length = np ∧ Post K c (fun cls d _ H' => E cls d H') [] H ι (RV c) (m as ah) Q
theorem spM_len {K : PySem.W.Frag} {c : Ct} {np : Nat} {m : Fn} : ∀ vs H Q E, spM K c np m vs H Q E → vs.length = np := fun vs H Q E ⟨ι, as, ah, rh, rv, hl, p⟩ => by rw [← Paired.length rv]; exact hl
def mCall (m : Fn) (ma : Ea) : Ev := fun sl h => (ma sl h).bind fun vs h1 => m vs h1
theorem rs_start {c : Ct} {ι : List Addr} : ∀ {as : List AV} {vs : List V}, RVs c ι as vs → ∀ n, RS c ι (as.map some ++ List.replicate n none) (vs.map some ++ List.replicate n none) := by
  intro as vs h n
  induction h with
  | nil =>
    simp only [List.map_nil, List.nil_append]
    induction n with
    | zero => exact .nil
    | succ n ih => rw [List.replicate_succ, List.replicate_succ]; exact .cons trivial ih
  | cons r t ih => exact .cons r ih
section
variable {P : Program} {w : World} {K : PySem.W.Frag} {mg : Str → Option Value} {base : Heap} {c : Ct}
/-- THE RULE for a def -/
theorem fnD {x qual : Str} {st : Stmt} {f : Addr} {fd : FuncData} {N ps : List Str} {k : Nat} {m : Es} (F : Fun K x qual st f fd) (S : FnScope N ps (defScope st))
    (hb : ∀ (cdv : Value) (A : Around) (outer : List Env) (s : Shared) (H : Hp) (E : XK), Room k (A.deeper (envOfC qual (defScope st) s.heap.objs.size f cdv)) →
      DSs (cxOf (L2.CX P w) P w K mg base N qual (defScope st) f cdv A outer s H E) c (fun cls d _ H => E cls d H) (defBody st) m) : FnOk P w K mg base (L2.CX P w) (k + 1) f fd ps (spM K c ps.length (mFn N.length m)) := by
  refine F.okX S spM_len fun cdv A outer s H vs Q E hr h => ⟨_, hb cdv A outer s H E hr, ?_⟩
  obtain ⟨ι, as, ah, rh, rv, hl, p⟩ := h
  refine ⟨ι, as.map some ++ List.replicate (N.length - as.length) none, ah, rh, ?_, ?_⟩
  · unfold L2.start
    rw [← Paired.length rv]
    exact rs_start rv _
  · unfold mFn at p
    revert p
    cases m (as.map some ++ List.replicate (N.length - as.length) none) ah with
    | nx s h => exact fun q ι' H' σ' e r _ => q ι' H' .non e r rfl
    | rt v h => exact fun q ι' H' x e r rx => q ι' H' x e r rx
    | ex x s h => exact fun q ι' H' σ' cls d e r _ rx => q ι' H' cls d e r rx
    | bk s h => exact fun q => q.elim
    | ct s h => exact fun q => q.elim
    | no => exact fun q => q.elim
theorem fn_no {f : Addr} {fd : FuncData} {ps : List Str} {k : Nat} : FnOk P w K mg base (L2.CX P w) k f fd ps (spM K c ps.length fun _ _ => .no) :=
  ⟨spM_len, fun A outer s H args us vs Q E hr e0 hb r h => by obtain ⟨ι, as, ah, rh, rv, hl, p⟩ := h; exact p.elim⟩
end
section
variable {X : Cx} {c : Ct} {W : WX} {k np : Nat} {f : Addr} {fd : FuncData} {ps : List Str} {m : Fn} {x : Str} {p pos : Pos} {e : Expr} {es : List Expr} {ma : Ea}
theorem call_imp {K : PySem.W.Frag} {σ : L2.St} {H : Hp} {Q : VK} (hl : ∀ sl h vs h1, ma sl h = .ok vs h1 → vs.length = np) (h : tD K c W (mCall m ma) σ H Q) : tCallS (spM K c np m) (WE W) (tDa K c W ma) σ H Q := by
  obtain ⟨ι, sl, ah, rh, S, p⟩ := h
  refine ⟨ι, sl, ah, rh, S, ?_⟩
  have e : mCall m ma sl ah = (ma sl ah).bind fun vs h1 => m vs h1 := rfl
  rw [e] at p
  cases q : ma sl ah with
  | ok vs h1 =>
    rw [q] at p
    exact fun ι' H' b e1 r1 rb => ⟨ι', vs, h1, r1, rb, hl _ _ _ _ q, Post.shift (W := fun cls d _ H' => WE W σ cls d H') (σ := []) (show Post K c (fun cls d _ H' => W cls d σ H') [] H ι (RV c) (m vs h1) Q from by
      revert p
      show Post K c W σ H ι (RV c) (m vs h1) Q → _
      cases m vs h1 with
      | ok a h => exact fun z => z
      | ex a h => exact fun z => z
      | no => exact fun z => z) e1 r1⟩
  | ex y h1 => rw [q] at p; exact p
  | no => rw [q] at p; exact p
/-- an argument list of n parts gives n values -/
def ALen (n : Nat) (ma : Ea) : Prop := ∀ sl h vs h1, ma sl h = .ok vs h1 → vs.length = n
theorem alen_nil : ALen 0 mNil := fun sl h vs h1 e => by cases e; rfl
theorem alen_cons {n : Nat} {me : Ev} (h : ALen n ma) : ALen (n + 1) (mCons me ma) := fun sl h0 vs h1 e => by
  unfold mCons at e
  cases q : me sl h0 with
  | ok v h2 =>
    rw [q] at e
    have e' : (ma sl h2).bind (fun vs h2 => R.ok (v :: vs) h2) = .ok vs h1 := e
    cases q2 : ma sl h2 with
    | ok us h3 => rw [q2] at e'; cases e'; simp [h _ _ _ _ q2]
    | ex y h3 => rw [q2] at e'; cases e'
    | no => rw [q2] at e'; cases e'
  | ex y h2 => rw [q] at e; cases e
  | no => rw [q] at e; cases e
theorem de_call (F : FnOk X.prog X.w X.K X.mg X.base (L2.CX X.prog X.w) k f fd ps (spM X.K c np m)) (hr : Room k X.A) (hg : Gl X x) (hm : X.mg x = some (.ref f)) (hk : PySem.W.keepIn X.K (.ref f) = true) (hb : Binds X.K fd ps []) (tk : Takes X W)
    (ha : DA X c W (e :: es) ma) (hl : ALen np ma) (hdb : (x == ("__debug__" : Str)) = false := by decide) (he : starEach (e :: es) X.env = (false, eval e X.env) :: starEach es X.env := by rfl) (hpl : (backTo pos (starEach es X.env)).any (·.1) = false := by rfl) :
    DE X c W (.Call (.Name x p) (e :: es) [] pos) (mCall m ma) :=
  pe_imp (pe_callS F hr hg hm hk hb (fun σ => passAt tk σ) ha hdb he hpl) fun σ H Q h => call_imp hl h
theorem de_call0 {E : XK} (F : FnOk X.prog X.w X.K X.mg X.base (L2.CX X.prog X.w) k f fd [] (spM X.K c 0 m)) (hr : Room k X.A) (hg : Gl X x) (hm : X.mg x = some (.ref f)) (hk : PySem.W.keepIn X.K (.ref f) = true) (hb : Binds X.K fd [] []) (tk : Takes X fun cls d _ H => E cls d H)
    (hdb : (x == ("__debug__" : Str)) = false := by decide) :
    DE X c (fun cls d _ H => E cls d H) (.Call (.Name x p) [] [] pos) (mCall m mNil) :=
  pe_imp (pe_call0 F hr hg hm hk hb .nil (passes_call tk fun _ _ _ _ h => h) hdb) fun σ H Q h => by
    obtain ⟨ι, sl, ah, rh, S, p⟩ := h
    refine ⟨ι, [], ah, rh, .nil, rfl, ?_⟩
    have p' : Post X.K c (fun cls d _ H => E cls d H) σ H ι (RV c) (m [] ah) Q := p
    revert p'
    cases m [] ah with
    | ok a h => exact fun z => z
    | ex a h => exact fun z => z
    | no => exact fun z => z

/-! ### keywords -/
def perm {α : Type} (p : List Nat) (n m : Nat) (us ws : List α) : List α := if us.length = n ∧ ws.length = m then p.filterMap fun i => (us ++ ws)[i]? else []
theorem perm_rel {α β : Type} {G : α → β → Prop} (p : List Nat) (n m : Nat) {us : List α} {vs : List β} {ws : List α} {zs : List β} (h : Paired G us vs) (h2 : Paired G ws zs) : Paired G (perm p n m us ws) (perm p n m vs zs) := by
  unfold perm
  rw [Paired.length h, Paired.length h2]
  split
  · have ha := Paired.app h h2
    induction p with
    | nil => exact .nil
    | cons i r ih =>
      rw [List.filterMap_cons, List.filterMap_cons]
      cases e : (us ++ ws)[i]? with
      | none =>
        have : (vs ++ zs)[i]? = none := by
          rw [List.getElem?_eq_none_iff] at e ⊢
          rw [← Paired.length ha]; exact e
        rw [this]; exact ih
      | some a =>
        obtain ⟨b, hb, g⟩ := paired_get ha e
        rw [hb]
        exact .cons g ih
  · exact .nil
theorem kbinds_mk {K : PySem.W.Frag} {fd : FuncData} {ps ks : List Str} {p : List Nat} {n m : Nat} (h0 : ps ≠ []) (h : ∀ us ws : List Value, us.length = n → ws.length = m → bindArgs fd ⟨us, ks.zip ws⟩ = pure (ps.zip (perm p n m us ws))) :
    KBinds K fd ps ks (perm p n m) (perm p n m) where
  to := fun s us ws _ hl => by
    by_cases hx : us.length = n ∧ ws.length = m
    · exact .of_eq (h us ws hx.1 hx.2)
    · unfold perm at hl
      rw [if_neg hx] at hl
      exact absurd (List.eq_nil_of_length_eq_zero hl.symm) h0
  rel := fun r1 r2 => perm_rel p n m r1 r2
theorem pe_callK0 {CX : CXT} {sp : Sp} {E : XK} {kws : List Keyword} {tk : TA} {ks : List Str} {g : List Value → List Value → List Value} {gV : List V → List V → List V} (F : FnOk X.prog X.w X.K X.mg X.base CX k f fd ps sp) (hr : Room k X.A) (hg : Gl X x) (hm : X.mg x = some (.ref f)) (hk : PySem.W.keepIn X.K (.ref f) = true) (hb : KBinds X.K fd ps ks g gV) (hx : Passes CX X E)
    (hkw : PK X kws tk) (hall : (backToKw pos (keywordEach kws X.env)).all (·.1.isSome) = true := by rfl) (hks : (backToKw pos (keywordEach kws X.env)).filterMap (·.1) = ks := by rfl)
    (hdb : (x == ("__debug__" : Str)) = false := by decide)
    (hpl : ((backTo pos (starEach [] X.env)).any (·.1) || (backToKw pos (keywordEach kws X.env)).any (·.1.isNone)) = false := by rfl) :
    PE X (.Call (.Name x p) [] kws pos) (tCallK sp gV E tNil tk) := by
  refine ⟨fun pins s σ H Q I h => ?_⟩
  refine wpAny_Call_Name_kw (ld_glob I hg hm ?_ hdb)
  refine PySem.W.callWith_KW0 (h₀ := X.base) I.ok.mod.kin hk hall (thn (hkw.run pos pins s σ H _ I h) fun ws s2 ⟨zs, H2, I2, rz, q2⟩ => ⟨I2.kIn, ?_⟩) hpl
  rw [hks]
  exact run_fnk (us := []) F hr hb hx I2 .nil rz q2
def mCallK (m : Fn) (pp : List Nat) (n k : Nat) (ma mk : Ea) : Ev := fun sl h => (ma sl h).bind fun vs h1 => (mk sl h1).bind fun zs h2 => if (perm pp n k vs zs).length = pp.length then m (perm pp n k vs zs) h2 else .no
theorem post_w {K : PySem.W.Frag} {E : XK} {σ τ : L2.St} {H : Hp} {ι : List Addr} {r : R AV} {Q : VK} (p : Post K c (fun cls d _ H => E cls d H) σ H ι (RV c) r Q) : Post K c (fun cls d _ H => E cls d H) τ H ι (RV c) r Q := by
  cases r with
  | ok a h => exact p
  | ex a h => exact p
  | no => exact p
theorem de_callK {E : XK} {kws : List Keyword} {mk : Ea} {ks : List Str} {pp : List Nat} {n q : Nat} (F : FnOk X.prog X.w X.K X.mg X.base (L2.CX X.prog X.w) k f fd ps (spM X.K c pp.length m)) (hr : Room k X.A) (hg : Gl X x) (hm : X.mg x = some (.ref f)) (hk : PySem.W.keepIn X.K (.ref f) = true) (hb : KBinds X.K fd ps ks (perm pp n q) (perm pp n q))
    (tk : Takes X fun cls d _ H => E cls d H) (ha : DA X c (fun cls d _ H => E cls d H) (e :: es) ma) (hkw : DK X c (fun cls d _ H => E cls d H) kws mk) (hall : (backToKw pos (keywordEach kws X.env)).all (·.1.isSome) = true := by rfl) (hks : (backToKw pos (keywordEach kws X.env)).filterMap (·.1) = ks := by rfl)
    (hdb : (x == ("__debug__" : Str)) = false := by decide) (he : starEach (e :: es) X.env = (false, eval e X.env) :: starEach es X.env := by rfl)
    (hpl : ((backTo pos (starEach (e :: es) X.env)).any (·.1) || (backToKw pos (keywordEach kws X.env)).any (·.1.isNone)) = false := by rfl) :
    DE X c (fun cls d _ H => E cls d H) (.Call (.Name x p) (e :: es) kws pos) (mCallK m pp n q ma mk) :=
  pe_imp (pe_callK F hr hg hm hk hb (passes_call tk fun _ _ _ _ h => h) ha hkw hall hks hdb he hpl) fun σ H Q ⟨ι, sl, ah, rh, S, p⟩ => ⟨ι, sl, ah, rh, S, Post.step p fun vs H1 ι1 as ah1 e1 r1 ra p1 =>
    ⟨ι1, sl, ah1, r1, S.ext e1, Post.step p1 fun zs H2 ι2 bs ah2 e2 r2 rb p2 => by
      split at p2
      · rename_i hl
        exact ⟨ι2, _, ah2, r2, perm_rel pp n q (RVs.ext ra e2) rb, hl, post_w p2⟩
      · exact p2.elim⟩⟩
theorem de_callK0 {E : XK} {kws : List Keyword} {mk : Ea} {ks : List Str} {pp : List Nat} {q : Nat} (F : FnOk X.prog X.w X.K X.mg X.base (L2.CX X.prog X.w) k f fd ps (spM X.K c pp.length m)) (hr : Room k X.A) (hg : Gl X x) (hm : X.mg x = some (.ref f)) (hk : PySem.W.keepIn X.K (.ref f) = true) (hb : KBinds X.K fd ps ks (perm pp 0 q) (perm pp 0 q))
    (tk : Takes X fun cls d _ H => E cls d H) (hkw : DK X c (fun cls d _ H => E cls d H) kws mk) (hall : (backToKw pos (keywordEach kws X.env)).all (·.1.isSome) = true := by rfl) (hks : (backToKw pos (keywordEach kws X.env)).filterMap (·.1) = ks := by rfl)
    (hdb : (x == ("__debug__" : Str)) = false := by decide)
    (hpl : ((backTo pos (starEach [] X.env)).any (·.1) || (backToKw pos (keywordEach kws X.env)).any (·.1.isNone)) = false := by rfl) :
    DE X c (fun cls d _ H => E cls d H) (.Call (.Name x p) [] kws pos) (mCallK m pp 0 q mNil mk) :=
  pe_imp (pe_callK0 F hr hg hm hk hb (passes_call tk fun _ _ _ _ h => h) hkw hall hks hdb hpl) fun σ H Q ⟨ι, sl, ah, rh, S, p⟩ => by
    have p0 : Post X.K c (fun cls d _ H => E cls d H) σ H ι (RV c) ((mk sl ah).bind fun zs h2 => if (perm pp 0 q [] zs).length = pp.length then m (perm pp 0 q [] zs) h2 else .no) Q := p
    exact ⟨ι, sl, ah, rh, S, Post.step p0 fun zs H2 ι2 bs ah2 e2 r2 rb p2 => by
      split at p2
      · rename_i hl
        exact ⟨ι2, _, ah2, r2, perm_rel pp 0 q .nil rb, hl, post_w p2⟩
      · exact p2.elim⟩
end
end Det

/-! Det8: subscripts, slices, membership, stores. -/
namespace Det
open PySem PySem.Spec PyProof.Rows L2

def atA {α : Type} (xs : List α) (i : Int) : Option α := if 0 ≤ i then xs[i.toNat]? else if -(xs.length : Int) ≤ i then xs[(i + xs.length).toNat]? else none
theorem atA_atI {α : Type} {xs : List α} {i : Int} {v : α} (h : atA xs i = some v) : atI xs i = some v := by
  unfold atA at h
  unfold atI ixN
  by_cases h0 : 0 ≤ i
  · rw [if_pos h0] at h
    have hl := (List.getElem?_eq_some_iff.mp h).1
    rw [if_pos h0, if_pos (by omega)]
    exact h
  · rw [if_neg h0] at h
    rw [if_neg h0]
    split at h
    · rename_i h1
      rw [if_pos h1]
      exact h
    · cases h
theorem atI_pair {α β : Type} {G : α → β → Prop} {xs : List α} {ys : List β} (p : Paired G xs ys) {i : Int} {v : α} (h : atI xs i = some v) : ∃ w, atI ys i = some w ∧ G v w := by
  unfold atI at h ⊢
  rw [← Paired.length p]
  cases e : ixN xs.length i with
  | none => rw [e] at h; cases h
  | some j => rw [e] at h; exact paired_get p h

/-! ### dicts -/
def keyOf : AV → Option AKey
  | .int i => some (.inl i)
  | .str s => some (.inr s)
  | _ => none
def valA (kvs : List (AKey × AV)) (k : AKey) : Option AV := (kvs.find? fun p => decide (p.1 = k)).map (·.2)
def putA (kvs : List (AKey × AV)) (k : AKey) (v : AV) : List (AKey × AV) := if (kvs.any fun p => decide (p.1 = k)) = true then kvs.map (fun p => if p.1 = k then (p.1, v) else p) else kvs ++ [(k, v)]
def dicOf (h : Hh) : AV → Option (List (AKey × AV))
  | .ref n => match h[n]? with
    | some (.dic kvs) => some kvs
    | _ => none
  | _ => none
def conA (kvs : List (List Nat × AV)) (s : List Nat) : Option AV := (kvs.find? fun p => decide (p.1 = s)).map (·.2)
section
variable {K : PySem.W.Frag} {c : Ct} {ι : List Addr} {ah : Hh} {H : Hp}
theorem keyOf_ok {a : AV} {k : AKey} {x : V} (h : keyOf a = some k) (r : RV c ι a x) : x = kV (kk k) := by
  cases a with
  | int i => cases h; cases r; rfl
  | str s => cases h; cases r; rfl
  | _ => cases h
theorem valA_ok : ∀ {kvs : List (AKey × AV)} {vs : List (Key × V)} (k : AKey), RKV c ι kvs vs → (∀ v, valA kvs k = some v → ∃ x, valV vs (kk k) = some x ∧ RV c ι v x) ∧ (valA kvs k = none → valV vs (kk k) = none)
  | _, _, k, .nil => ⟨fun v h => by simp [valA] at h, fun _ => rfl⟩
  | _, _, k, @Paired.cons _ _ _ p q ps qs r t => by
    obtain ⟨i1, i2⟩ := valA_ok k t
    by_cases h : p.1 = k
    · have hq : q.1 = kk k := by rw [r.1, h]
      have e1 : valA (p :: ps) k = some p.2 := by simp [valA, List.find?_cons, h]
      rw [e1, valV_pos hq]
      exact ⟨fun v hv => by cases hv; exact ⟨_, rfl, r.2⟩, fun z => by cases z⟩
    · have hq : ¬ q.1 = kk k := fun z => h (kk_inj (r.1.symm.trans z))
      have e1 : valA (p :: ps) k = valA ps k := by simp [valA, List.find?_cons, h]
      rw [e1, valV_neg hq]
      exact ⟨i1, i2⟩
theorem dicOf_ok (R : RelH K c ι ah H) {v : AV} {x : V} {kvs : List (AKey × AV)} (h : dicOf ah v = some kvs) (r : RV c ι v x) : ∃ n a vs, v = .ref n ∧ x = .ref a ∧ ι[n]? = some a ∧ ah[n]? = some (.dic kvs) ∧ RKV c ι kvs vs ∧ H a = some (.dK vs) := by
  unfold dicOf at h
  split at h
  · split at h
    · rename_i n _ ys e
      cases h
      obtain ⟨a, rfl, ha, vs, rv, e2⟩ := R.at e r
      exact ⟨n, a, vs, rfl, rfl, ha, e, rv, e2⟩
    · cases h
  · cases h
/-- a written dict's answer at a text -/
theorem con_ns {d : Addr} {es : Array DictEntry} {n : Nat} {kvs : List (List Nat × AV)} (hl : K.lookup d = some ⟨.type "dict", none, .dict es n, #[]⟩) (hp : Paired (REnt c) kvs es.toList) (s : List Nat) :
    (∀ v, conA kvs s = some v → ∃ u x, PySem.W.nsIn K d (mkS s) = some (some u) ∧ RV c [] v x ∧ RelV x u) ∧ (conA kvs s = none → PySem.W.nsIn K d (mkS s) = some none) := by
  have e : PySem.W.nsIn K d (mkS s) = (match es.toList.find? (·.key.isStr (mkS s)) with
      | some e => some (some e.val)
      | none => if es.toList.any (·.refKey) then none else some none) := by
    simp only [PySem.W.nsIn, hl]
    rfl
  have nr : es.toList.any (·.refKey) = false := by
    rw [List.any_eq_false]
    have : ∀ {kvs : List (List Nat × AV)} {l : List DictEntry}, Paired (REnt c) kvs l → ∀ x ∈ l, ¬ x.refKey = true := by
      intro kvs l h
      induction h with
      | nil => intro x hx; cases hx
      | cons r t ih =>
        intro x hx
        rcases List.mem_cons.mp hx with rfl | hx
        · obtain ⟨⟨t, ht⟩, _⟩ := r
          simp [DictEntry.refKey, ht]
        · exact ih x hx
    exact this hp
  rw [e, nr]
  have key : ∀ {kvs : List (List Nat × AV)} {l : List DictEntry}, Paired (REnt c) kvs l → (∀ v, conA kvs s = some v → ∃ en x, l.find? (·.key.isStr (mkS s)) = some en ∧ RV c [] v x ∧ RelV x en.val) ∧ (conA kvs s = none → l.find? (·.key.isStr (mkS s)) = none) := by
    intro kvs l h
    induction h with
    | nil => exact ⟨fun v hv => by simp [conA] at hv, fun _ => rfl⟩
    | @cons p q ps qs r t ih =>
      obtain ⟨⟨t', ht⟩, x, rx, ru⟩ := r
      have hi : q.key.isStr (mkS s) = decide (p.1 = s) := by
        rw [ht]
        show (Value.str (mkS p.1) t').isStr (mkS s) = _
        rw [PySem.W.isStr_of]
        show (Value.isStrOf (mkS s) (.str (mkS p.1) t')) = _
        unfold Value.isStrOf
        by_cases h : p.1 = s
        · subst h; simp
        · have h2 : ¬ mkS p.1 = mkS s := fun z => h (mkS_inj z)
          have h3 : ¬ mkS s = mkS p.1 := fun z => h (mkS_inj z).symm
          simp [h, h2, h3]
      by_cases h : p.1 = s
      · have e1 : conA (p :: ps) s = some p.2 := by simp [conA, List.find?_cons, h]
        have e2 : (q :: qs).find? (·.key.isStr (mkS s)) = some q := by rw [List.find?_cons]; simp [hi, h]
        rw [e1, e2]
        exact ⟨fun v hv => by cases hv; exact ⟨q, x, rfl, rx, ru⟩, fun z => by cases z⟩
      · have e1 : conA (p :: ps) s = conA ps s := by simp [conA, List.find?_cons, h]
        have e2 : (q :: qs).find? (·.key.isStr (mkS s)) = qs.find? (·.key.isStr (mkS s)) := by rw [List.find?_cons]; simp [hi, h]
        rw [e1, e2]
        exact ih
  obtain ⟨k1, k2⟩ := key hp
  refine ⟨fun v hv => ?_, fun hv => ?_⟩
  · obtain ⟨en, x, e1, rx, ru⟩ := k1 v hv
    rw [e1]
    exact ⟨en.val, x, rfl, rx, ru⟩
  · rw [k2 hv]; rfl
theorem RV.up {v : AV} {x : V} (h : RV c [] v x) : RV c ι v x := by
  have := h.app ι
  simpa using this
end

/-! ### o[i] -/
def opIx : Op2 := fun x y h => match x, y with
  | .str s, .int i => if s.length ≤ LINE then (atA s i).map fun ch => (.str [ch], h) else none
  | .con k, .str s => match k.dic? with
    | some kvs => (conA kvs s).map fun v => (v, h)
    | none => none
  | x, y => match dicOf h x with
    | some kvs => match keyOf y with
      | some k => (valA kvs k).map fun v => (v, h)
      | none => none
    | none => match y with
      | .int i => match rdL h x with
        | some xs => (atA xs i).map fun v => (v, h)
        | none => match rdT h x with
          | some xs => (atA xs i).map fun v => (v, h)
          | none => none
      | _ => none
section
variable {X : Cx} {c : Ct} {W : WX}
theorem ix_all (hu : X.A.units + 64 < cLine) (hw : X.w.params = c.P) : IxR X (rD X.K c opIx) := by
  intro value slice pins s σ H x y v u Q I rx ry h hs
  obtain ⟨ι, a, b, ah, w, ah', rh, ra, rb, e, q⟩ := h
  unfold opIx at e
  split at e
  · rename_i t i
    split at e
    · rename_i hl
      obtain ⟨ch, e1, e2⟩ := Option.map_eq_some_iff.mp e
      cases e2; cases ra; cases rb
      exact ix_str value slice pins s σ H _ _ v u Q I rx ry ⟨_, i, ch, rfl, rfl, by rw [mkS_len]; exact le_of_line hl, by rw [mkS_cps]; exact atA_atI e1, q ι H _ (Ext.refl _ _) rh rfl⟩ hs
    · cases e
  · rename_i k t
    split at e
    · rename_i kvs hk
      obtain ⟨v0, e1, e2⟩ := Option.map_eq_some_iff.mp e
      cases e2
      obtain ⟨rfl, hh⟩ := ra
      cases rb
      obtain ⟨es, n, hl, lit, low, hp⟩ := rh.cok.dic k kvs hh hk
      have D : KDict X.K X.w (c.con k) es n := ⟨hl, by rw [hw]; exact lit, low⟩
      obtain ⟨u0, x0, hn, r0, ru0⟩ := (con_ns hl hp t).1 _ e1
      have Dt := kd_type D I
      cases rx
      exact tail_any Dt PySem.F.slot_dict_getitem.lookup (op_item_kd D pins s σ H (.ref (c.con k)) _ _ u Q I (show RelV (.ref (c.con k)) (.ref (c.con k)) from rfl) ry ⟨_, u0, x0, rfl, rfl, hn, ru0, q ι H x0 (Ext.refl _ _) rh r0.up⟩) hs
    · cases e
  · split at e
    · rename_i kvs hd
      split at e
      · rename_i k hk
        obtain ⟨v0, e1, e2⟩ := Option.map_eq_some_iff.mp e
        cases e2
        obtain ⟨n, a', vs, rfl, rfl, ha, hn, rk, hH⟩ := dicOf_ok rh hd ra
        obtain ⟨x0, hx0, rx0⟩ := (valA_ok k rk).1 _ e1
        have hy := keyOf_ok hk rb
        subst hy
        have g : DGet H a' (kV (kk k)) (some x0) := by rw [← hx0]; exact DGet.k hH
        cases rx
        exact tail_any (dict_typeIs I g) PySem.F.slot_dict_getitem.lookup (d_getItem (Nat.lt_of_le_of_lt (Nat.add_le_add_left (by decide) _) hu) I g ry fun w' s' I' rw' => ⟨x0, H, I', rw', q ι H x0 (Ext.refl _ _) rh rx0⟩) hs
      · cases e
    · split at e
      · rename_i i _ _
        cases rb
        split at e
        · rename_i xs hx
          obtain ⟨v0, e1, e2⟩ := Option.map_eq_some_iff.mp e
          cases e2
          obtain ⟨a', vs, rfl, s1, rv⟩ := rdL_ok rh hx ra
          obtain ⟨x0, hx0, rx0⟩ := atI_pair rv (atA_atI e1)
          exact ix_list value slice pins s σ H _ _ v u Q I rx ry ⟨a', vs, i, x0, rfl, rfl, s1, hx0, q ι H x0 (Ext.refl _ _) rh rx0⟩ hs
        · split at e
          · rename_i xs hx
            obtain ⟨v0, e1, e2⟩ := Option.map_eq_some_iff.mp e
            cases e2
            obtain ⟨a', vs, rfl, s1, rv⟩ := rdT_ok rh hx ra
            obtain ⟨x0, hx0, rx0⟩ := atI_pair rv (atA_atI e1)
            exact ix_tup value slice pins s σ H _ _ v u Q I rx ry ⟨a', vs, i, x0, rfl, rfl, s1, hx0, q ι H x0 (Ext.refl _ _) rh rx0⟩ hs
          · cases e
      · cases e
theorem de_ix {a b : Expr} {ma mb : Ev} {pos : Pos} (hu : X.A.units + 64 < cLine) (hw : X.w.params = c.P) (ha : DE X c W a ma) (hb : DE X c W b mb) (hs : PlainIx b) : DE X c W (.Subscript a b pos) (mBin opIx ma mb) :=
  pe_imp (pe_ix (ix_all hu hw) ha hb hs) fun _ _ _ h => bin_imp h
end

/-! ### slices -/
def cutIx (n d : Nat) : Option Int → Nat
  | none => d
  | some v => if v < 0 then (v + (n : Int)).toNat else min v.toNat n
theorem cutIx_eq (n d : Nat) (o : Option Int) : cutIx n d o = HT.sIx n d o := by cases o <;> rfl
def cutA {α : Type} (xs : List α) (lo hi : Option Int) : List α := (xs.drop (cutIx xs.length 0 lo)).take (cutIx xs.length xs.length hi - cutIx xs.length 0 lo)
def opSlice (x : AV) (lo hi : Option Int) (h : Hh) : Option (AV × Hh) := match x with
  | .str s => if s.length ≤ LINE then some (.str (cutA s lo hi), h) else none
  | x => match rdL h x with
    | some xs => some (.ref h.length, h ++ [.lst (cutA xs lo hi)])
    | none => match rdT h x with
      | some xs => if cutIx xs.length 0 lo = 0 ∧ cutIx xs.length xs.length hi = xs.length then none else some (.ref h.length, h ++ [.tup (cutA xs lo hi)])
      | none => none
abbrev Eo := Sl → Hh → R (Option Int)
def mNo : Eo := fun _ h => .ok none h
def mSome (m : Ev) : Eo := fun sl h => (m sl h).bind fun v h1 => match v with
  | .int i => .ok (some i) h1
  | _ => .no
def mSlice (mo : Ev) (ml mh : Eo) : Ev := fun sl h => (mo sl h).bind fun x h1 => (ml sl h1).bind fun l h2 => (mh sl h2).bind fun u h3 => R.of (opSlice x l u h3)
def tDo (K : PySem.W.Frag) (c : Ct) (W : WX) (m : Eo) : TO := fun σ H Q => ∃ ι sl ah, RelH K c ι ah H ∧ RS c ι sl σ ∧ Post K c W σ H ι (fun _ a b => a = b) (m sl ah) Q
abbrev DO (X : Cx) (c : Ct) (W : WX) (e : Option Expr) (m : Eo) : Prop := PO X e (tDo X.K c W m)
theorem Paired.cut {α β : Type} {G : α → β → Prop} {xs : List α} {ys : List β} (p : Paired G xs ys) (n k : Nat) : Paired G ((xs.drop n).take k) ((ys.drop n).take k) := by
  have hd : ∀ {xs : List α} {ys : List β}, Paired G xs ys → ∀ n, Paired G (xs.drop n) (ys.drop n) := by
    intro xs ys p
    induction p with
    | nil => intro n; simp; exact .nil
    | cons r t ih => intro n; cases n with
      | zero => exact .cons r t
      | succ n => exact ih n
  have ht : ∀ {xs : List α} {ys : List β}, Paired G xs ys → ∀ n, Paired G (xs.take n) (ys.take n) := by
    intro xs ys p
    induction p with
    | nil => intro n; simp; exact .nil
    | cons r t ih => intro n; cases n with
      | zero => exact .nil
      | succ n => exact .cons r (ih n)
  exact ht (hd p n) k
section
variable {X : Cx} {c : Ct} {W : WX}
theorem po_imp {X : Cx} {e : Option Expr} {t t' : TO} (h : PO X e t) (k : ∀ σ H Q, t' σ H Q → t σ H Q) : PO X e t' := ⟨by
  obtain ⟨r⟩ := h
  intros
  first
    | exact r _ _ _ _ _ (by assumption) (k _ _ _ (by assumption))
    | exact r _ _ _ _ _ _ (by assumption) (k _ _ _ (by assumption))⟩
theorem do_none : DO X c W none mNo := po_imp po_none fun σ H Q ⟨ι, sl, ah, rh, S, p⟩ => p ι H none (Ext.refl _ _) rh rfl
theorem do_some {e : Expr} {m : Ev} (h : DE X c W e m) : DO X c W (some e) (mSome m) :=
  po_imp (po_some h) fun σ H Q ⟨ι, sl, ah, rh, S, p⟩ => ⟨ι, sl, ah, rh, S, Post.step p fun x H1 ι1 v ah1 e1 r1 rv p1 => by
    split at p1
    · cases rv; exact ⟨_, rfl, p1 ι1 H1 _ (Ext.refl _ _) r1 rfl⟩
    · exact p1.elim⟩
def rSlA (K : PySem.W.Frag) (c : Ct) : V → Option Int → Option Int → Hp → VK → Prop := fun x lo hi H Q => ∃ ι a ah v ah', RelH K c ι ah H ∧ RV c ι a x ∧ opSlice a lo hi ah = some (v, ah') ∧ ∀ ι' H' z, Ext H ι H' ι' → RelH K c ι' ah' H' → RV c ι' v z → Q z H'
theorem sl_all : SlR X (rSlA X.K c) := by
  intro pins s σ H x v vl vu lo hi sl Q I rx hs pl pu h
  obtain ⟨ι, a, ah, w, ah', rh, ra, e, q⟩ := h
  unfold opSlice at e
  split at e
  · rename_i t
    split at e
    · rename_i hl
      cases e; cases ra
      refine sl_str pins s σ H _ v vl vu lo hi sl Q I rx hs pl pu ⟨mkS t, rfl, by rw [mkS_len]; exact le_of_line hl, ?_⟩
      refine q ι H _ (Ext.refl _ _) rh ?_
      show V.str (cutS (mkS t) lo hi) = V.str (mkS (cutA t lo hi))
      unfold cutS cutA
      rw [mkS_len, mkS_cps, cutIx_eq, cutIx_eq]
      rfl
    · cases e
  · split at e
    · rename_i xs hx
      cases e
      obtain ⟨a', vs, rfl, s1, rv⟩ := rdL_ok rh hx ra
      refine sl_list pins s σ H _ v vl vu lo hi sl Q I rx hs pl pu ⟨a', vs, rfl, s1, ?_⟩
      refine lay_lst rh (xs := cutA xs lo hi) ?_ q
      unfold cutA cutV
      rw [← Paired.length rv, cutIx_eq, cutIx_eq]
      exact Paired.cut rv _ _
    · split at e
      · rename_i xs hx
        split at e
        · cases e
        · rename_i hne
          cases e
          obtain ⟨a', vs, rfl, s1, rv⟩ := rdT_ok rh hx ra
          refine sl_tup pins s σ H _ v vl vu lo hi sl Q I rx hs pl pu ⟨a', vs, rfl, s1, ?_, ?_⟩
          · rw [← Paired.length rv, ← cutIx_eq, ← cutIx_eq]; exact hne
          · refine lay_tup rh (xs := cutA xs lo hi) ?_ q
            unfold cutA cutV
            rw [← Paired.length rv, cutIx_eq, cutIx_eq]
            exact Paired.cut rv _ _
      · cases e
theorem de_slice {e : Expr} {lo hi : Option Expr} {p2 pos : Pos} {mo : Ev} {ml mh : Eo} (he : DE X c W e mo) (hl : DO X c W lo ml) (hh : DO X c W hi mh) : DE X c W (.Subscript e (.Slice lo hi none p2) pos) (mSlice mo ml mh) :=
  pe_imp (pe_slice (sl_all (c := c)) he hl hh) fun σ H Q ⟨ι, sl, ah, rh, S, p⟩ => ⟨ι, sl, ah, rh, S, Post.step p fun x H1 ι1 a ah1 e1 r1 ra p1 => ⟨ι1, sl, ah1, r1, S.ext e1, Post.step p1 fun l H2 ι2 l' ah2 e2 r2 el p2 =>
    ⟨ι2, sl, ah2, r2, (S.ext e1).ext e2, Post.step p2 fun u H3 ι3 u' ah3 e3 r3 eu p3 => by
      cases el; cases eu
      cases e : opSlice a l u ah3 with
      | none => rw [e] at p3; exact p3.elim
      | some r =>
        obtain ⟨w, ah4⟩ := r
        rw [e] at p3
        exact ⟨ι3, a, ah3, w, ah4, r3, (ra.ext e2).ext e3, e, fun ι' H' z e1 r1 rz => p3 ι' H' z e1 r1 rz⟩⟩⟩⟩
end

/-! ### in, not in -/
def flatA : AV → Bool
  | .non => true | .bl _ => true | .int _ => true | .str _ => true | _ => false
def eqF : AV → AV → Bool
  | .non, .non => true
  | .bl a, .bl b => a == b
  | .bl a, .int b => (if a then 1 else 0) == b
  | .int a, .bl b => a == (if b then 1 else 0)
  | .int a, .int b => a == b
  | .str a, .str b => a == b
  | _, _ => false
def inB (h : Hh) (x y : AV) : Option Bool := match x, y with
  | .str s, .str t => match s with
    | [ch] => some (decide (ch ∈ t))
    | _ => none
  | .str s, .con k => match k.dic? with
    | some kvs => some (conA kvs s).isSome
    | none => none
  | x, y => match dicOf h y with
    | some kvs => (keyOf x).map fun k => (valA kvs k).isSome
    | none => match rdL h y with
      | some xs => if (flatA x && xs.all flatA) = true then some (xs.any fun z => eqF z x) else match reify 40 h x, mapO (reify 39 h) xs with
        | some d, some ds => if (d.fine && D.fines ds) = true then some (ds.any fun z => D.eqv z d) else none
        | _, _ => none
      | none => match rdT h y with
        | some xs => if (flatA x && xs.all flatA) = true then some (xs.any fun z => eqF z x) else none
        | none => none
def opIn : Op2 := fun x y h => (inB h x y).map fun b => (.bl b, h)
def opNotIn : Op2 := fun x y h => (inB h x y).map fun b => (.bl (!b), h)
section
variable {X : Cx} {c : Ct} {W : WX} {ι : List Addr}
theorem flat_ok {a : AV} {x : V} (r : RV c ι a x) (h : flatA a = true) : flatV x = true := by
  cases a with
  | non => cases r; rfl
  | bl b => cases r; rfl
  | int b => cases r; rfl
  | str b => cases r; rfl
  | _ => cases h
theorem eqF_ok {a b : AV} {x y : V} (r : RV c ι a x) (r' : RV c ι b y) (h : flatA a = true) (h' : flatA b = true) : eqV x y = eqF a b := by
  cases a with
  | non => cases r; cases b with
    | non => cases r'; rfl
    | bl b => cases r'; rfl
    | int b => cases r'; rfl
    | str b => cases r'; rfl
    | _ => cases h'
  | bl a => cases r; cases b with
    | non => cases r'; rfl
    | bl b => cases r'; rfl
    | int b => cases r'; rfl
    | str b => cases r'; rfl
    | _ => cases h'
  | int a => cases r; cases b with
    | non => cases r'; rfl
    | bl b => cases r'; rfl
    | int b => cases r'; rfl
    | str b => cases r'; rfl
    | _ => cases h'
  | str a => cases r; cases b with
    | non => cases r'; rfl
    | bl b => cases r'; rfl
    | int b => cases r'; rfl
    | str b => cases r'; exact mkS_beq a b
    | _ => cases h'
  | _ => cases h
theorem all_flat {xs : List AV} {vs : List V} (r : RVs c ι xs vs) (h : xs.all flatA = true) : vs.all flatV = true := by
  induction r with
  | nil => rfl
  | cons q t ih =>
    rw [List.all_cons, Bool.and_eq_true] at h ⊢
    exact ⟨flat_ok q h.1, ih h.2⟩
theorem any_eqF {xs : List AV} {vs : List V} {a : AV} {x : V} (r : RVs c ι xs vs) (ra : RV c ι a x) (h : xs.all flatA = true) (ha : flatA a = true) : inV x vs = xs.any fun z => eqF z a := by
  unfold inV
  induction r with
  | nil => rfl
  | cons q t ih =>
    rw [List.all_cons, Bool.and_eq_true] at h
    rw [List.any_cons, List.any_cons, eqF_ok q ra h.1 ha, ih h.2]
theorem pys_any (ds : List D) (d : D) : ((D.pys ds).any fun z => PyData.eqv z d.py) = ds.any fun z => D.eqv z d := by
  induction ds with
  | nil => rfl
  | cons x r ih => rw [D.pys, List.any_cons, List.any_cons, py_eqv, ih]
theorem in_any (hu : X.A.units + 65 < cLine) (hw : X.w.params = c.P) {f : Bool → Bool} {op : CmpOp} (h1 : (op = .In ∧ f = id) ∨ (op = .NotIn ∧ f = not)) : DOp X c (compareOp op) (fun x y h => (inB h x y).map fun b => (.bl (f b), h)) := dop fun pins s σ H x y v u Q ι a b ah w ah' I rx ry rh ra rb e q => by
  obtain ⟨k, e1, e2⟩ := Option.map_eq_some_iff.mp e
  cases e2
  have qq := fin_b rh q
  have hu1 : X.A.units + 1 < cLine := by omega
  unfold inB at e1
  split at e1
  · rename_i t z
    split at e1
    · rename_i ch
      cases e1; cases ra; cases rb
      rcases h1 with ⟨rfl, rfl⟩ | ⟨rfl, rfl⟩
      · exact op_in_sign pins s σ H _ _ v u Q I rx ry ⟨ch, _, rfl, rfl, by rw [mkS_cps]; exact qq⟩
      · exact op_notIn_sign pins s σ H _ _ v u Q I rx ry ⟨ch, _, rfl, rfl, by rw [mkS_cps]; exact qq⟩
    · cases e1
  · rename_i t kc
    split at e1
    · rename_i kvs hk
      cases e1
      cases ra
      obtain ⟨rfl, hh⟩ := rb
      obtain ⟨es, n, hl, lit, low, hp⟩ := rh.cok.dic kc kvs hh hk
      have D : KDict X.K X.w (c.con kc) es n := ⟨hl, by rw [hw]; exact lit, low⟩
      obtain ⟨n1, n2⟩ := con_ns hl hp t
      have hn : ∃ r, PySem.W.nsIn X.K (c.con kc) (mkS t) = some r ∧ r.isSome = (conA kvs t).isSome := by
        cases ec : conA kvs t with
        | none => exact ⟨none, n2 ec, rfl⟩
        | some v0 => obtain ⟨u0, x0, h, _⟩ := n1 v0 ec; exact ⟨_, h, rfl⟩
      obtain ⟨r, hr, hs⟩ := hn
      rcases h1 with ⟨rfl, rfl⟩ | ⟨rfl, rfl⟩
      · exact op_in_kd D pins s σ H _ _ v u Q I rx ry ⟨_, r, rfl, rfl, hr, by rw [hs]; exact qq⟩
      · exact op_notIn_kd D pins s σ H _ _ v u Q I rx ry ⟨_, r, rfl, rfl, hr, by rw [hs]; exact qq⟩
    · cases e1
  · split at e1
    · rename_i kvs hd
      obtain ⟨key, hk, e3⟩ := Option.map_eq_some_iff.mp e1
      obtain ⟨n, a', vs, rfl, rfl, ha, hn, rk, hH⟩ := dicOf_ok rh hd rb
      have hy := keyOf_ok hk ra
      subst hy
      have hs : (valV vs (kk key)).isSome = k := by
        rw [← e3]
        cases ec : valA kvs key with
        | none => rw [(valA_ok key rk).2 ec]; rfl
        | some v0 => obtain ⟨x0, h, _⟩ := (valA_ok key rk).1 v0 ec; rw [h]; rfl
      cases ry
      rcases h1 with ⟨rfl, rfl⟩ | ⟨rfl, rfl⟩
      · exact d_in hu1 I (DGet.k (k := kk key) hH) rx fun s' I' => ⟨.bl _, H, I', rfl, by rw [hs]; exact qq⟩
      · exact d_notIn hu1 I (DGet.k (k := kk key) hH) rx fun s' I' => ⟨.bl _, H, I', rfl, by rw [hs]; exact qq⟩
    · split at e1
      · rename_i xs hx
        obtain ⟨a', vs, rfl, s1, rv⟩ := rdL_ok rh hx rb
        split at e1
        · rename_i hf
          rw [Bool.and_eq_true] at hf
          cases e1
          rcases h1 with ⟨rfl, rfl⟩ | ⟨rfl, rfl⟩
          · exact op_in_seq pins s σ H _ _ v u Q I rx ry ⟨a', vs, rfl, .inl s1, flat_ok ra hf.1, all_flat rv hf.2, by rw [any_eqF rv ra hf.2 hf.1]; exact qq⟩
          · exact op_notIn_seq pins s σ H _ _ v u Q I rx ry ⟨a', vs, rfl, .inl s1, flat_ok ra hf.1, all_flat rv hf.2, by rw [any_eqF rv ra hf.2 hf.1]; exact qq⟩
        · split at e1
          · rename_i d ds f1 f2
            split at e1
            · rename_i hf
              rw [Bool.and_eq_true] at hf
              cases e1
              have lst : reify 40 (ah.concat (.lst xs)) (.ref ah.length) = reify 40 (ah.concat (.lst xs)) (.ref ah.length) := rfl
              have hall : ∀ (ys : List AV) (es : List D) (us : List V), mapO (reify 39 ah) ys = some es → RVs c ι ys us → DpAll X.K H us (D.pys es) ∧ PyData.depthAll (D.pys es) ≤ 39 := by
                intro ys
                induction ys with
                | nil => intro es us e r; cases r; rw [mapO_nil e]; exact ⟨.nil, by simp [D.pys, PyData.depthAll]⟩
                | cons y ys ih =>
                  intro es us e r
                  obtain ⟨z, zs, q1, q2, rfl⟩ := mapO_cons e
                  cases r with
                  | cons r1 r2 =>
                    obtain ⟨i1, i2⟩ := ih zs _ q2 r2
                    refine ⟨.cons (reify_dp rh 39 _ _ _ q1 r1) i1, ?_⟩
                    simp only [D.pys, PyData.depthAll]
                    exact Nat.max_le.mpr ⟨reify_depth 39 ah y z q1, i2⟩
              obtain ⟨g1, g2⟩ := hall xs ds vs f2 rv
              have hdp : Dp X.K H (.ref a') (.list (D.pys ds)) := .lst s1 g1
              have hsh : SeqAt.shaped (.list (D.pys ds)) = true := by
                unfold SeqAt.shaped
                rw [Bool.and_eq_true]
                refine ⟨by simp only [PyData.canLay0]; exact pys_lay ds hf.2, decide_eq_true ?_⟩
                simp only [PyData.depth]
                exact Nat.le_trans (Nat.succ_le_succ g2) (by decide)
              rcases h1 with ⟨rfl, rfl⟩ | ⟨rfl, rfl⟩
              · exact op_inD hu pins s σ H _ _ v u Q I rx ry ⟨_, _, reify_dp rh 40 _ _ _ f1 ra, hdp, reify_shaped f1 (by decide) hf.1, hsh, by rw [pys_any]; exact qq⟩
              · exact op_notInD hu pins s σ H _ _ v u Q I rx ry ⟨_, _, reify_dp rh 40 _ _ _ f1 ra, hdp, reify_shaped f1 (by decide) hf.1, hsh, by rw [pys_any]; exact qq⟩
            · cases e1
          · cases e1
      · split at e1
        · rename_i xs hx
          obtain ⟨a', vs, rfl, s1, rv⟩ := rdT_ok rh hx rb
          split at e1
          · rename_i hf
            rw [Bool.and_eq_true] at hf
            cases e1
            rcases h1 with ⟨rfl, rfl⟩ | ⟨rfl, rfl⟩
            · exact op_in_seq pins s σ H _ _ v u Q I rx ry ⟨a', vs, rfl, .inr s1, flat_ok ra hf.1, all_flat rv hf.2, by rw [any_eqF rv ra hf.2 hf.1]; exact qq⟩
            · exact op_notIn_seq pins s σ H _ _ v u Q I rx ry ⟨a', vs, rfl, .inr s1, flat_ok ra hf.1, all_flat rv hf.2, by rw [any_eqF rv ra hf.2 hf.1]; exact qq⟩
          · cases e1
        · cases e1
theorem do_in (hu : X.A.units + 65 < cLine) (hw : X.w.params = c.P) : DOp X c (compareOp .In) opIn := in_any (f := id) hu hw (.inl ⟨rfl, rfl⟩)
theorem do_notIn (hu : X.A.units + 65 < cLine) (hw : X.w.params = c.P) : DOp X c (compareOp .NotIn) opNotIn := in_any (f := not) hu hw (.inr ⟨rfl, rfl⟩)
end
end Det

/-! Det9: stores, built-ins, methods. -/
namespace Det
open PySem PySem.Spec PyProof.Rows L2

/-! ### o[i] = v -/
def opSet (o i v : AV) (h : Hh) : Option Hh := match o with
  | .ref n => match h[n]? with
    | some (.lst xs) => match i with
      | .int k => match L2.ixN xs.length k with
        | some j => some (h.set n (.lst (xs.set j v)))
        | none => none
      | _ => none
    | some (.dic kvs) => match keyOf i with
      | some k => if kvs.length < LINE then some (h.set n (.dic (putA kvs k v))) else none
      | none => none
    | _ => none
  | _ => none
section
variable {X : Cx} {c : Ct} {W : WX} {ι : List Addr}
theorem Paired.set {α β : Type} {G : α → β → Prop} {xs : List α} {ys : List β} {v : α} {w : β} (p : Paired G xs ys) (r : G v w) (j : Nat) : Paired G (xs.set j v) (ys.set j w) := by
  induction p generalizing j with
  | nil => exact .nil
  | cons q t ih => cases j with
    | zero => exact .cons r t
    | succ j => exact .cons q (ih j)
theorem putA_ok {kvs : List (AKey × AV)} {vs : List (Key × V)} {k : AKey} {v : AV} {x : V} (p : RKV c ι kvs vs) (r : RV c ι v x) : RKV c ι (putA kvs k v) (putK vs (kk k) x) := by
  have dec : ∀ {a : AKey × AV} {b : Key × V}, b.1 = kk a.1 → decide (b.1 = kk k) = decide (a.1 = k) := fun {a b} e => by
    by_cases h : a.1 = k
    · rw [decide_eq_true h, decide_eq_true (by rw [e, h])]
    · rw [decide_eq_false h, decide_eq_false fun z => h (kk_inj (e.symm.trans z))]
  have hany : ∀ {kvs : List (AKey × AV)} {vs : List (Key × V)}, RKV c ι kvs vs → (vs.any fun kv => decide (kv.1 = kk k)) = kvs.any fun q => decide (q.1 = k) := by
    intro kvs vs p
    induction p with
    | nil => rfl
    | cons q t ih => rw [List.any_cons, List.any_cons, ih, dec q.1]
  have hmap : ∀ {kvs : List (AKey × AV)} {vs : List (Key × V)}, RKV c ι kvs vs → RKV c ι (kvs.map fun p => if p.1 = k then (p.1, v) else p) (vs.map fun kv => if kv.1 = kk k then (kv.1, x) else kv) := by
    intro kvs vs p
    induction p with
    | nil => exact .nil
    | @cons a b as bs q t ih =>
      rw [List.map_cons, List.map_cons]
      refine .cons ?_ ih
      by_cases h : a.1 = k
      · rw [if_pos h, if_pos (by rw [q.1, h])]; exact ⟨q.1, r⟩
      · rw [if_neg h, if_neg fun z => h (kk_inj (q.1.symm.trans z))]; exact q
  unfold putA putK
  rw [hany p]
  split
  · exact hmap p
  · exact Paired.app p (.cons ⟨rfl, r⟩ .nil)
def rSetA (K : PySem.W.Frag) (c : Ct) : TSet := fun o i v H Q => ∃ ι ao ai av ah ah', RelH K c ι ah H ∧ RV c ι ao o ∧ RV c ι ai i ∧ RV c ι av v ∧ opSet ao ai av ah = some ah' ∧ ∀ ι' H', Ext H ι H' ι' → RelH K c ι' ah' H' → Q H'
theorem set_all (hu : X.A.units + 64 < cLine) : PSet X (rSetA X.K c) := by
  intro pins s σ H o i v ov iv u Q I ro ri rv h
  obtain ⟨ι, ao, ai, av, ah, ah', rh, ra, rb, rc, e, q⟩ := h
  unfold opSet at e
  split at e
  · rename_i n
    split at e
    · rename_i xs hn
      split at e
      · rename_i k
        split at e
        · rename_i j hj
          cases e; cases rb
          obtain ⟨a, rfl, ha, vs, rvs, hH⟩ := rh.at hn ra
          refine set_list pins s σ H _ _ v ov iv u Q I ro ri rv ⟨a, vs, k, j, rfl, rfl, hH, by rw [← Paired.length rvs]; exact hj, ?_⟩
          exact q ι _ (Ext.set ha) (rh.set hn rfl rfl ha ⟨_, Paired.set rvs rc j, upd_same⟩)
        · cases e
      · cases e
    · rename_i kvs hn
      split at e
      · rename_i k hk
        split at e
        · rename_i hl
          cases e
          obtain ⟨a, rfl, ha, vs, rvs, hH⟩ := rh.at hn ra
          have hy := keyOf_ok hk rb
          subst hy
          cases ro
          refine d_setItem (Nat.lt_of_le_of_lt (Nat.add_le_add_left (by decide) _) hu) I (DPut.k (v := v) hH (by rw [← Paired.length rvs, line_eq]; exact hl)) ri rv fun s' I' => ⟨_, I', ?_⟩
          exact q ι _ (Ext.set ha) (rh.set hn rfl rfl ha ⟨_, putA_ok rvs rc, upd_same⟩)
        · cases e
      · cases e
    · cases e
  · cases e
/-- the target o[i] -/
def mGsub (mo mi : Ev) : Eg := fun it sl h => match it with
  | [a] => match mo sl h with
    | .ok o h1 => match mi sl h1 with
      | .ok i h2 => (opSet o i a h2).map fun h3 => (sl, h3)
      | _ => none
    | _ => none
  | _ => none
theorem dg_sub {o i : Expr} {mo mi : Ev} {pos : Pos} {vs : List Nat} (hu : X.A.units + 64 < cLine) (ho : DE X c W o mo) (hi : DE X c W i mi)
    (ha : ∀ v, assign (.Subscript o i pos) X.env v = (do
      let ov ← holding [v] (eval o X.env)
      let iv ← holding [v, ov] (eval i X.env)
      standAt pos
      holding [v, ov, iv] (setItem ov iv v)
      release [v, ov, iv] []) := by intro _; rfl) : DG X c vs (.Subscript o i pos) (mGsub mo mi) :=
  pg_imp (pg_sub ho hi (set_all (c := c) hu) ha) fun v σ H Q ⟨ι, sl, ah, it, sl', ah', rh, S, y, e, q⟩ => by
    unfold mGsub at e
    split at e
    · rename_i a
      split at e
      · rename_i ov h1 e1
        split at e
        · rename_i iv h2 e2
          obtain ⟨h3, e3, e4⟩ := Option.map_eq_some_iff.mp e
          cases e4
          refine ⟨ι, sl, ah, rh, S, ?_⟩
          rw [e1]
          refine fun ι1 H1 ox x1 r1 ro => ⟨ι1, sl, h1, r1, S.ext x1, ?_⟩
          rw [e2]
          refine fun ι2 H2 ix x2 r2 ri => ⟨ι2, ov, iv, a, h2, _, r2, ro.ext x2, ri, (RV.ext y x1).ext x2, e3, fun ι3 H3 x3 r3 => ?_⟩
          have x12 := x1.trans r1 x2
          exact q ι3 H3 σ (x12.trans r2 x3) r3 ((S.ext x12).ext x3) rfl
        · cases e
      · cases e
    · cases e
/-! ### name op= e -/
def DIp (X : Cx) (c : Ct) (op : Operator) (f : Op2) : Prop := PIp X op (rD X.K c f)
def mAug (i : Nat) (f : Op2) (m : Ev) : Es := fun sl h => match sl[i]? with
  | some (some x) => (m sl h).bindS sl fun y h1 => match f x y h1 with
    | some (z, h2) => .nx (sl.set i (some z)) h2
    | none => .no
  | _ => .no
theorem ds_aug {i : Nat} {x : Str} {e : Expr} {m : Ev} {op : Operator} {f : Op2} {pos pos' : Pos} (hN : X.N.Nodup) (hi : X.N[i]? = some x) (hx : Loc X.env.scope x) (he : DE X c W e m) (ho : DIp X c op f) (hf : X.fn x = true ∨ X.env.scope.names.lookup x = some .local := by first | exact .inl rfl | exact .inr rfl | assumption) :
    DS X c W (.AugAssign (.Name x pos') op e pos) (mAug i f m) :=
  ps_imp (ps_aug hN hi hx he ho hf) fun D σ H ⟨ι, sl, ah, rh, S, p⟩ => by
    unfold mAug at p
    split at p
    · rename_i v ev
      obtain ⟨x, hx, rv⟩ := S.get ev
      refine ⟨x, hx, ι, sl, ah, rh, S, PostS.step S p fun y H1 ι1 b ah1 e1 r1 rb S1 p1 => ?_⟩
      cases e : f v b ah1 with
      | none => rw [e] at p1; exact p1.elim
      | some z =>
        obtain ⟨z, h2⟩ := z
        rw [e] at p1
        exact ⟨ι1, v, b, ah1, z, h2, r1, rv.ext e1, rb, e, fun ι' H' w x' r' rz => p1 ι' H' _ x' r' ((S1.ext x').set rz i)⟩
    · exact p.elim
def opIAdd : Op2 := fun x y h => match x, y with
  | .int i, .int j => some (.int (i + j), h)
  | .str s, .str t => if s.length + t.length ≤ LINE then some (.str (s ++ t), h) else none
  | .ref n, .ref k => match h[n]?, h[k]? with
    | some (.lst xs), some (.lst ys) => if xs.length + ys.length ≤ LINE then some (.ref n, h.set n (.lst (xs ++ ys))) else none
    | _, _ => none
  | _, _ => none
theorem di_add : DIp X c .Add opIAdd := fun pins s σ H x y v u Q I rx ry ⟨ι, a, b, ah, w, ah', rh, ra, rb, e, q⟩ => by
  unfold opIAdd at e
  split at e
  · cases e; cases ra; cases rb
    exact iop_add pins s σ H _ _ v u Q I rx ry ⟨_, _, rfl, rfl, q ι H _ (Ext.refl _ _) rh rfl⟩
  · split at e
    · rename_i hl
      cases e; cases ra; cases rb
      exact iop_add_str pins s σ H _ _ v u Q I rx ry ⟨_, _, rfl, rfl, by rw [mkS_len, mkS_len]; exact le_of_line hl, by rw [mkS_app]; exact q ι H _ (Ext.refl _ _) rh rfl⟩
    · cases e
  · split at e
    · rename_i n k xs ys h1 h2
      split at e
      · rename_i hl
        cases e
        obtain ⟨a1, rfl, ha1, vs, rv1, hH1⟩ := rh.at h1 ra
        obtain ⟨a2, rfl, ha2, ws, rv2, hH2⟩ := rh.at h2 rb
        refine iop_ext pins s σ H _ _ v u Q I rx ry ⟨a1, a2, vs, ws, rfl, rfl, hH1, hH2, by rw [← Paired.length rv1, ← Paired.length rv2]; exact le_of_line hl, ?_⟩
        exact q ι _ _ (Ext.set ha1) (rh.set h1 rfl rfl ha1 ⟨_, Paired.app rv1 rv2, upd_same⟩) ⟨a1, ha1, rfl⟩
      · cases e
    · cases e
  · cases e
theorem di_sub : DIp X c .Sub opSub := fun pins s σ H x y v u Q I rx ry ⟨ι, a, b, ah, w, ah', rh, ra, rb, e, q⟩ => by
  unfold opSub at e
  split at e
  · cases e; cases ra; cases rb
    exact iop_sub pins s σ H _ _ v u Q I rx ry ⟨_, _, rfl, rfl, q ι H _ (Ext.refl _ _) rh rfl⟩
  · cases e

/-! ### built-ins by values -/
abbrev OpN := List AV → Hh → Option (AV × Hh)
def rC (K : PySem.W.Frag) (c : Ct) (op : OpN) : List V → Hp → VK → Prop := fun vs H Q => ∃ ι as ah v ah', RelH K c ι ah H ∧ RVs c ι as vs ∧ op as ah = some (v, ah') ∧ ∀ ι' H' z, Ext H ι H' ι' → RelH K c ι' ah' H' → RV c ι' v z → Q z H'
def DCl (X : Cx) (c : Ct) (f : Value) (op : OpN) : Prop := CallR X f (rC X.K c op)
def mB1 (op : OpN) (ma : Ea) : Ev := fun sl h => (ma sl h).bind fun vs h1 => R.of (op vs h1)
theorem b1_imp {K : PySem.W.Frag} {op : OpN} {ma : Ea} {σ : L2.St} {H : Hp} {Q : VK} (h : tD K c W (mB1 op ma) σ H Q) : tCB (rC K c op) (tDa K c W ma) σ H Q := by
  obtain ⟨ι, sl, ah, rh, S, p⟩ := h
  refine ⟨ι, sl, ah, rh, S, Post.step p fun vs H1 ι1 as ah1 e1 r1 ra p1 => ?_⟩
  cases e : op as ah1 with
  | none => rw [e] at p1; exact p1.elim
  | some r =>
    obtain ⟨v, ah2⟩ := r
    rw [e] at p1
    exact ⟨ι1, as, ah1, v, ah2, r1, ra, e, fun ι' H' z x' r' rz => p1 ι' H' z x' r' rz⟩
theorem de_callB {x : Str} {p pos : Pos} {e : Expr} {es : List Expr} {ma : Ea} {id : String} {op : OpN} (hc : DCl X c (.builtin id) op) (hg : Gl X x) (hm : X.mg x = none) (hv : bootBuiltins x = some (.builtin id)) (ha : DA X c W (e :: es) ma) (hn : x ≠ "__name__" := by decide) (hdb : (x == ("__debug__" : Str)) = false := by decide)
    (he : starEach (e :: es) X.env = (false, eval e X.env) :: starEach es X.env := by rfl) (hpl : (backTo pos (starEach es X.env)).any (·.1) = false := by rfl) : DE X c W (.Call (.Name x p) (e :: es) [] pos) (mB1 op ma) :=
  pe_imp (pe_callB hc hg hm hv ha hn hdb he hpl) fun _ _ _ h => b1_imp h
theorem de_callTy {x : Str} {p pos : Pos} {e : Expr} {es : List Expr} {ma : Ea} {T : String} {op : OpN} (hc : DCl X c (.type T) op) (hg : Gl X x) (hm : X.mg x = none) (hv : bootBuiltins x = some (.type T)) (ha : DA X c W (e :: es) ma) (hn : x ≠ "__name__" := by decide) (hdb : (x == ("__debug__" : Str)) = false := by decide)
    (he : starEach (e :: es) X.env = (false, eval e X.env) :: starEach es X.env := by rfl) (hpl : (backTo pos (starEach es X.env)).any (·.1) = false := by rfl) : DE X c W (.Call (.Name x p) (e :: es) [] pos) (mB1 op ma) :=
  pe_imp (pe_callTy hc hg hm hv ha hn hdb he hpl) fun _ _ _ h => b1_imp h
theorem dcl {f : Value} {op : OpN} (h : ∀ (pins : List (Addr × Obj)) (s : Shared) (σ : L2.St) (H : Hp) (xs : List V) (us : List Value) (Q : VK) ι as ah w ah', Inv X pins σ H s → Vals xs us → RelH X.K c ι ah H → RVs c ι as xs → op as ah = some (w, ah') →
    (∀ ι' H' z, Ext H ι H' ι' → RelH X.K c ι' ah' H' → RV c ι' w z → Q z H') → wpAny (model X.prog X.w) X.A (call f us) (EP X pins σ Q) X.xe s) : DCl X c f op :=
  fun pins s σ H xs us Q I r ⟨ι, as, ah, w, ah', rh, ra, e, q⟩ => h pins s σ H xs us Q ι as ah w ah' I r rh ra e q
theorem rvs1 {a : AV} {xs : List V} (r : RVs c ι [a] xs) : ∃ x, xs = [x] ∧ RV c ι a x := by
  cases r with
  | cons r t => cases t; exact ⟨_, rfl, r⟩
theorem rvs2 {a b : AV} {xs : List V} (r : RVs c ι [a, b] xs) : ∃ x y, xs = [x, y] ∧ RV c ι a x ∧ RV c ι b y := by
  cases r with
  | cons r t => cases t with
    | cons r2 t2 => cases t2; exact ⟨_, _, rfl, r, r2⟩
def bLen : OpN := fun as h => match as with
  | [.str s] => if s.length ≤ LINE then some (.int s.length, h) else none
  | [x] => match rdL h x with
    | some xs => some (.int xs.length, h)
    | none => match rdT h x with
      | some xs => some (.int xs.length, h)
      | none => match dicOf h x with
        | some kvs => some (.int kvs.length, h)
        | none => none
  | _ => none
theorem dl_len : DCl X c (.builtin "len") bLen := dcl fun pins s σ H xs us Q ι as ah w ah' I r rh ra e q => by
  unfold bLen at e
  split at e
  · split at e
    · rename_i hl
      cases e
      obtain ⟨x, rfl, rx⟩ := rvs1 ra
      cases rx
      exact call_len_str pins s σ H _ us Q I r ⟨_, rfl, by rw [mkS_len]; exact le_of_line hl, by rw [mkS_len]; exact q ι H _ (Ext.refl _ _) rh rfl⟩
    · cases e
  · obtain ⟨x, rfl, rx⟩ := rvs1 ra
    split at e
    · rename_i ys hy
      cases e
      obtain ⟨a, vs, rfl, s1, rv⟩ := rdL_ok rh hy rx
      exact call_len_seq pins s σ H _ us Q I r ⟨a, vs, rfl, .inl s1, by rw [← Paired.length rv]; exact q ι H _ (Ext.refl _ _) rh rfl⟩
    · split at e
      · rename_i ys hy
        cases e
        obtain ⟨a, vs, rfl, s1, rv⟩ := rdT_ok rh hy rx
        exact call_len_seq pins s σ H _ us Q I r ⟨a, vs, rfl, .inr s1, by rw [← Paired.length rv]; exact q ι H _ (Ext.refl _ _) rh rfl⟩
      · split at e
        · rename_i kvs hd
          cases e
          obtain ⟨n, a, vs, rfl, rfl, ha, hn, rk, hH⟩ := dicOf_ok rh hd rx
          obtain ⟨u, rfl, ru⟩ := vals1 r
          cases ru
          exact d_len I (.inl hH) fun t s' I' => ⟨.int _, H, I', ⟨t, rfl⟩, by rw [← Paired.length rk]; exact q ι H _ (Ext.refl _ _) rh rfl⟩
        · cases e
  · cases e
def bInt : OpN := fun as h => match as with
  | [.int i] => some (.int i, h)
  | [.bl k] => some (.int (if k then 1 else 0), h)
  | _ => none
theorem dl_int : DCl X c (.type "int") bInt := dcl fun pins s σ H xs us Q ι as ah w ah' I r rh ra e q => by
  unfold bInt at e
  split at e
  · cases e
    obtain ⟨x, rfl, rx⟩ := rvs1 ra
    cases rx
    exact call_int1 pins s σ H _ us Q I r (.inl ⟨_, rfl, q ι H _ (Ext.refl _ _) rh rfl⟩)
  · cases e
    obtain ⟨x, rfl, rx⟩ := rvs1 ra
    cases rx
    exact call_int1 pins s σ H _ us Q I r (.inr ⟨_, rfl, q ι H _ (Ext.refl _ _) rh rfl⟩)
  · cases e
def bBool : OpN := fun as h => match as with
  | [.int i] => some (.bl (i != 0), h)
  | [.bl k] => some (.bl k, h)
  | _ => none
theorem dl_bool : DCl X c (.type "bool") bBool := dcl fun pins s σ H xs us Q ι as ah w ah' I r rh ra e q => by
  unfold bBool at e
  split at e
  · cases e
    obtain ⟨x, rfl, rx⟩ := rvs1 ra
    cases rx
    exact call_bool1 pins s σ H _ us Q I r (.inl ⟨_, rfl, q ι H _ (Ext.refl _ _) rh rfl⟩)
  · cases e
    obtain ⟨x, rfl, rx⟩ := rvs1 ra
    cases rx
    exact call_bool1 pins s σ H _ us Q I r (.inr ⟨_, rfl, q ι H _ (Ext.refl _ _) rh rfl⟩)
  · cases e
def bAbs : OpN := fun as h => match as with
  | [.int i] => some (.int (if i < 0 then -i else i), h)
  | _ => none
theorem dl_abs : DCl X c (.builtin "abs") bAbs := dcl fun pins s σ H xs us Q ι as ah w ah' I r rh ra e q => by
  unfold bAbs at e
  split at e
  · cases e
    obtain ⟨x, rfl, rx⟩ := rvs1 ra
    cases rx
    exact call_abs pins s σ H _ us Q I r ⟨_, rfl, q ι H _ (Ext.refl _ _) rh rfl⟩
  · cases e
def intsOf : List AV → Option (List Int)
  | [] => some []
  | .int i :: r => (intsOf r).map fun l => i :: l
  | _ :: _ => none
theorem intsOf_ok : ∀ {xs : List AV} {vs : List V} {ns : List Int}, intsOf xs = some ns → RVs c ι xs vs → vs = ns.map V.int
  | [], _, _, e, .nil => by cases e; rfl
  | .int i :: r, _, ns, e, .cons q t => by
    obtain ⟨l, e1, e2⟩ := Option.map_eq_some_iff.mp e
    subst e2
    cases q
    rw [intsOf_ok e1 t]; rfl
  | .non :: _, _, _, e, _ => by cases e
  | .bl _ :: _, _, _, e, _ => by cases e
  | .str _ :: _, _, _, e, _ => by cases e
  | .ref _ :: _, _, _, e, _ => by cases e
  | .con _ :: _, _, _, e, _ => by cases e
  | .scr _ :: _, _, _, e, _ => by cases e
def maxL : List Int → Int
  | [] => 0
  | [x] => x
  | x :: r => if maxL r > x then maxL r else x
def minL : List Int → Int
  | [] => 0
  | [x] => x
  | x :: r => if minL r < x then minL r else x
theorem maxL_ok : ∀ (ns : List Int) (m : Int), m ∈ ns → (∀ y, y ∈ ns → y ≤ m) → maxL ns = m
  | [], _, h, _ => by cases h
  | [x], m, h, _ => by simp at h; exact h.symm
  | x :: y :: r, m, h, hm => by
    have key : ∀ l : List Int, l ≠ [] → maxL l ∈ l ∧ ∀ z ∈ l, z ≤ maxL l := by
      intro l
      induction l with
      | nil => intro h; exact absurd rfl h
      | cons a l ih =>
        intro _
        cases l with
        | nil => simp [maxL]
        | cons b l =>
          obtain ⟨i1, i2⟩ := ih (by simp)
          simp only [maxL]
          split
          · rename_i hgt
            refine ⟨List.mem_cons_of_mem _ i1, fun z hz => ?_⟩
            rcases List.mem_cons.mp hz with rfl | hz
            · exact Int.le_of_lt hgt
            · exact i2 z hz
          · rename_i hgt
            refine ⟨List.mem_cons_self, fun z hz => ?_⟩
            rcases List.mem_cons.mp hz with rfl | hz
            · exact Int.le_refl _
            · exact Int.le_trans (i2 z hz) (Int.not_lt.mp hgt)
    obtain ⟨k1, k2⟩ := key (x :: y :: r) (by simp)
    exact Int.le_antisymm (hm _ k1) (k2 _ h)
theorem minL_ok : ∀ (ns : List Int) (m : Int), m ∈ ns → (∀ y, y ∈ ns → m ≤ y) → minL ns = m
  | [], _, h, _ => by cases h
  | [x], m, h, _ => by simp at h; exact h.symm
  | x :: y :: r, m, h, hm => by
    have key : ∀ l : List Int, l ≠ [] → minL l ∈ l ∧ ∀ z ∈ l, minL l ≤ z := by
      intro l
      induction l with
      | nil => intro h; exact absurd rfl h
      | cons a l ih =>
        intro _
        cases l with
        | nil => simp [minL]
        | cons b l =>
          obtain ⟨i1, i2⟩ := ih (by simp)
          simp only [minL]
          split
          · rename_i hgt
            refine ⟨List.mem_cons_of_mem _ i1, fun z hz => ?_⟩
            rcases List.mem_cons.mp hz with rfl | hz
            · exact Int.le_of_lt hgt
            · exact i2 z hz
          · rename_i hgt
            refine ⟨List.mem_cons_self, fun z hz => ?_⟩
            rcases List.mem_cons.mp hz with rfl | hz
            · exact Int.le_refl _
            · exact Int.le_trans (Int.not_lt.mp hgt) (i2 z hz)
    obtain ⟨k1, k2⟩ := key (x :: y :: r) (by simp)
    exact Int.le_antisymm (k2 _ h) (hm _ k1)
def bMax : OpN := fun as h => match as with
  | [.int i, .int j] => some (.int (if j > i then j else i), h)
  | [x] => match (rdL h x).bind intsOf with
    | some ns => if ns = [] then none else some (.int (maxL ns), h)
    | none => none
  | _ => none
def bMin : OpN := fun as h => match as with
  | [.int i, .int j] => some (.int (if j < i then j else i), h)
  | [x] => match (rdL h x).bind intsOf with
    | some ns => if ns = [] then none else some (.int (minL ns), h)
    | none => none
  | _ => none
def bSum : OpN := fun as h => match as with
  | [x] => match (rdL h x).bind intsOf with
    | some ns => some (.int ns.sum, h)
    | none => none
  | _ => none
theorem len_pos {ns : List Int} (h : ¬ ns = []) : 0 < ns.length := by cases ns with
  | nil => exact absurd rfl h
  | cons x r => simp
theorem rd_ints {K : PySem.W.Frag} {ah : Hh} {H : Hp} {x : AV} {v : V} {ns : List Int} (rh : RelH K c ι ah H) (e : (rdL ah x).bind intsOf = some ns) (r : RV c ι x v) : ∃ a, v = .ref a ∧ SqL K H a (ns.map V.int) := by
  obtain ⟨xs, e1, e2⟩ := Option.bind_eq_some_iff.mp e
  obtain ⟨a, vs, rfl, s, rv⟩ := rdL_ok rh e1 r
  rw [intsOf_ok e2 rv] at s
  exact ⟨a, rfl, s⟩
theorem dl_max (hc : X.calm = true) : DCl X c (.builtin "max") bMax := dcl fun pins s σ H xs us Q ι as ah w ah' I r rh ra e q => by
  unfold bMax at e
  split at e
  · cases e
    obtain ⟨x, y, rfl, rx, ry⟩ := rvs2 ra
    cases rx; cases ry
    exact call_max2 hc pins s σ H _ us Q I r ⟨_, _, rfl, q ι H _ (Ext.refl _ _) rh rfl⟩
  · obtain ⟨x, rfl, rx⟩ := rvs1 ra
    split at e
    · rename_i ns hn
      split at e
      · cases e
      · rename_i hne
        cases e
        obtain ⟨a, rfl, s1⟩ := rd_ints rh hn rx
        exact cr_max hc pins s σ H _ us Q I r ⟨a, ns, rfl, s1, len_pos hne, fun m h1 h2 => by rw [maxL_ok ns m h1 h2] at q; exact q ι H _ (Ext.refl _ _) rh rfl⟩
    · cases e
  · cases e
theorem dl_min (hc : X.calm = true) : DCl X c (.builtin "min") bMin := dcl fun pins s σ H xs us Q ι as ah w ah' I r rh ra e q => by
  unfold bMin at e
  split at e
  · cases e
    obtain ⟨x, y, rfl, rx, ry⟩ := rvs2 ra
    cases rx; cases ry
    exact call_min2 hc pins s σ H _ us Q I r ⟨_, _, rfl, q ι H _ (Ext.refl _ _) rh rfl⟩
  · obtain ⟨x, rfl, rx⟩ := rvs1 ra
    split at e
    · rename_i ns hn
      split at e
      · cases e
      · rename_i hne
        cases e
        obtain ⟨a, rfl, s1⟩ := rd_ints rh hn rx
        exact cr_min hc pins s σ H _ us Q I r ⟨a, ns, rfl, s1, len_pos hne, fun m h1 h2 => by rw [minL_ok ns m h1 h2] at q; exact q ι H _ (Ext.refl _ _) rh rfl⟩
    · cases e
  · cases e
theorem dl_sum (hc : X.calm = true) : DCl X c (.builtin "sum") bSum := dcl fun pins s σ H xs us Q ι as ah w ah' I r rh ra e q => by
  unfold bSum at e
  split at e
  · obtain ⟨x, rfl, rx⟩ := rvs1 ra
    split at e
    · rename_i ns hn
      cases e
      obtain ⟨a, rfl, s1⟩ := rd_ints rh hn rx
      exact cr_sum hc pins s σ H _ us Q I r ⟨a, ns, rfl, s1, q ι H _ (Ext.refl _ _) rh rfl⟩
    · cases e
  · cases e
def blsOf : List AV → Option (List Bool)
  | [] => some []
  | .bl i :: r => (blsOf r).map fun l => i :: l
  | _ :: _ => none
theorem blsOf_ok : ∀ {xs : List AV} {vs : List V} {ns : List Bool}, blsOf xs = some ns → RVs c ι xs vs → vs = ns.map V.bl
  | [], _, _, e, .nil => by cases e; rfl
  | .bl i :: r, _, ns, e, .cons q t => by
    obtain ⟨l, e1, e2⟩ := Option.map_eq_some_iff.mp e
    subst e2
    cases q
    rw [blsOf_ok e1 t]; rfl
  | .non :: _, _, _, e, _ => by cases e
  | .int _ :: _, _, _, e, _ => by cases e
  | .str _ :: _, _, _, e, _ => by cases e
  | .ref _ :: _, _, _, e, _ => by cases e
  | .con _ :: _, _, _, e, _ => by cases e
  | .scr _ :: _, _, _, e, _ => by cases e
def bAll : OpN := fun as h => match as with
  | [x] => match (rdL h x).bind blsOf with
    | some ns => some (.bl (ns.all id), h)
    | none => none
  | _ => none
def bAny : OpN := fun as h => match as with
  | [x] => match (rdL h x).bind blsOf with
    | some ns => some (.bl (ns.any id), h)
    | none => none
  | _ => none
theorem rd_bls {K : PySem.W.Frag} {ah : Hh} {H : Hp} {x : AV} {v : V} {ns : List Bool} (rh : RelH K c ι ah H) (e : (rdL ah x).bind blsOf = some ns) (r : RV c ι x v) : ∃ a, v = .ref a ∧ SqL K H a (ns.map V.bl) := by
  obtain ⟨xs, e1, e2⟩ := Option.bind_eq_some_iff.mp e
  obtain ⟨a, vs, rfl, s, rv⟩ := rdL_ok rh e1 r
  rw [blsOf_ok e2 rv] at s
  exact ⟨a, rfl, s⟩
theorem dl_all (hc : X.calm = true) : DCl X c (.builtin "all") bAll := dcl fun pins s σ H xs us Q ι as ah w ah' I r rh ra e q => by
  unfold bAll at e
  split at e
  · obtain ⟨x, rfl, rx⟩ := rvs1 ra
    split at e
    · rename_i ns hn
      cases e
      obtain ⟨a, rfl, s1⟩ := rd_bls rh hn rx
      exact cr_all hc pins s σ H _ us Q I r ⟨a, ns, rfl, s1, q ι H _ (Ext.refl _ _) rh rfl⟩
    · cases e
  · cases e
theorem dl_any (hc : X.calm = true) : DCl X c (.builtin "any") bAny := dcl fun pins s σ H xs us Q ι as ah w ah' I r rh ra e q => by
  unfold bAny at e
  split at e
  · obtain ⟨x, rfl, rx⟩ := rvs1 ra
    split at e
    · rename_i ns hn
      cases e
      obtain ⟨a, rfl, s1⟩ := rd_bls rh hn rx
      exact cr_any hc pins s σ H _ us Q I r ⟨a, ns, rfl, s1, q ι H _ (Ext.refl _ _) rh rfl⟩
    · cases e
  · cases e
def bList : OpN := fun as h => match as with
  | [x] => match rdL h x with
    | some xs => some (.ref h.length, h ++ [.lst xs])
    | none => match rdT h x with
      | some xs => some (.ref h.length, h ++ [.lst xs])
      | none => none
  | _ => none
theorem dl_list : DCl X c (.type "list") bList := dcl fun pins s σ H xs us Q ι as ah w ah' I r rh ra e q => by
  unfold bList at e
  split at e
  · obtain ⟨x, rfl, rx⟩ := rvs1 ra
    split at e
    · rename_i ys hy
      cases e
      obtain ⟨a, vs, rfl, s1, rv⟩ := rdL_ok rh hy rx
      exact call_list_of pins s σ H _ us Q I r ⟨a, vs, rfl, .inl s1, lay_lst rh rv q⟩
    · split at e
      · rename_i ys hy
        cases e
        obtain ⟨a, vs, rfl, s1, rv⟩ := rdT_ok rh hy rx
        exact call_list_of pins s σ H _ us Q I r ⟨a, vs, rfl, .inr s1, lay_lst rh rv q⟩
      · cases e
  · cases e
def bTuple : OpN := fun as h => match as with
  | [x] => match rdL h x with
    | some xs => some (.ref h.length, h ++ [.tup xs])
    | none => match rdT h x with
      | some _ => some (x, h)
      | none => none
  | _ => none
theorem dl_tuple : DCl X c (.type "tuple") bTuple := dcl fun pins s σ H xs us Q ι as ah w ah' I r rh ra e q => by
  unfold bTuple at e
  split at e
  · obtain ⟨x, rfl, rx⟩ := rvs1 ra
    split at e
    · rename_i ys hy
      cases e
      obtain ⟨a, vs, rfl, s1, rv⟩ := rdL_ok rh hy rx
      exact call_tuple_of pins s σ H _ us Q I r ⟨a, vs, rfl, .inl ⟨s1, lay_tup rh rv q⟩⟩
    · split at e
      · rename_i ys hy
        cases e
        obtain ⟨a, vs, rfl, s1, rv⟩ := rdT_ok rh hy rx
        exact call_tuple_of pins s σ H _ us Q I r ⟨a, vs, rfl, .inr ⟨s1, q ι H _ (Ext.refl _ _) rh rx⟩⟩
      · cases e
  · cases e

/-! ### methods of built-in types -/
abbrev OpM := AV → List AV → Hh → Option (AV × Hh)
def rM (K : PySem.W.Frag) (c : Ct) (op : OpM) : V → List V → Hp → VK → Prop := fun x vs H Q => ∃ ι a as ah v ah', RelH K c ι ah H ∧ RV c ι a x ∧ RVs c ι as vs ∧ op a as ah = some (v, ah') ∧ ∀ ι' H' z, Ext H ι H' ι' → RelH K c ι' ah' H' → RV c ι' v z → Q z H'
def DMt (X : Cx) (c : Ct) (id : String) (op : OpM) : Prop := MtR X id (rM X.K c op)
def isTy (T : String) (h : Hh) (x : AV) : Bool := match x with
  | .str _ => T == "str"
  | x => (T == "list" && (rdL h x).isSome) || (T == "dict" && (dicOf h x).isSome)
theorem isTy_ok {K : PySem.W.Frag} {T : String} {ah : Hh} {H : Hp} {x : AV} {v : V} (rh : RelH K c ι ah H) (h : isTy T ah x = true) (r : RV c ι x v) : tyV K T v H := by
  unfold isTy at h
  split at h
  · cases r; exact beq_iff_eq.mp h
  · rw [Bool.or_eq_true, Bool.and_eq_true, Bool.and_eq_true, beq_iff_eq, beq_iff_eq] at h
    rcases h with ⟨rfl, h⟩ | ⟨rfl, h⟩
    · obtain ⟨xs, e⟩ := Option.isSome_iff_exists.mp h
      obtain ⟨a, vs, rfl, s, rv⟩ := rdL_ok rh e r
      exact .inl ⟨rfl, vs, s⟩
    · obtain ⟨xs, e⟩ := Option.isSome_iff_exists.mp h
      obtain ⟨n, a, vs, rfl, rfl, ha, hn, rk, hH⟩ := dicOf_ok rh e r
      exact .inr (.inr (.inl ⟨rfl, .inl ⟨vs, hH⟩⟩))
def mMeth (T : String) (op : OpM) (mo : Ev) (ma : Ea) : Ev := fun sl h => (mo sl h).bind fun x h1 => if isTy T h1 x = true then (ma sl h1).bind fun vs h2 => R.of (op x vs h2) else .no
theorem meth_fin {K : PySem.W.Frag} {op : OpM} {a : AV} {as : List AV} {x : V} {vs : List V} {ah : Hh} {σ : L2.St} {H : Hp} {Q : VK} (rh : RelH K c ι ah H) (ra : RV c ι a x) (rs : RVs c ι as vs) (p : Post K c W σ H ι (RV c) (R.of (op a as ah)) Q) : rM K c op x vs H Q := by
  cases e : op a as ah with
  | none => rw [e] at p; exact p.elim
  | some r =>
    obtain ⟨v, ah2⟩ := r
    rw [e] at p
    exact ⟨ι, a, as, ah, v, ah2, rh, ra, rs, e, fun ι' H' z x' r' rz => p ι' H' z x' r' rz⟩
theorem de_meth {o e : Expr} {es : List Expr} {mo : Ev} {ma : Ea} {name : Str} {apos cpos : Pos} {T id : String} {op : OpM} (pa : PlainAttrs T) (slot : Slot T name id) (hty : typeOf (.builtin id) = pure (.type "method_descriptor")) (hm : DMt X c id op) (ho : DE X c W o mo) (ha : DA X c W (e :: es) ma)
    (hbase : attributeBase o name X.env (eval o X.env) = eval o X.env := by rfl)
    (hfew : ((backTo cpos (starEach (e :: es) X.env)).all (fun x => !x.1) && (backToKw cpos (keywordEach [] X.env)).all (fun x => x.1.isSome)
      && decide ((e :: es).length + ([] : List Keyword).length + (if ([] : List Keyword).isEmpty then 0 else 1) < 30)) = true := by rfl)
    (hline : (apos.endLine == cpos.line) = true := by rfl) (hs : starEach (e :: es) X.env = (false, eval e X.env) :: starEach es X.env := by rfl) (hplain : (backTo cpos (starEach es X.env)).any (·.1) = false := by rfl) :
    DE X c W (.Call (.Attribute o name apos) (e :: es) [] cpos) (mMeth T op mo ma) :=
  pe_imp (pe_bm pa slot hty hm ho ha hbase hfew hline hs hplain) fun σ H Q ⟨ι, sl, ah, rh, S, p⟩ => ⟨ι, sl, ah, rh, S, Post.step p fun x H1 ι1 a ah1 e1 r1 ra p1 => by
    split at p1
    · rename_i ht
      exact ⟨isTy_ok r1 ht ra, ι1, sl, ah1, r1, S.ext e1, Post.step p1 fun vs H2 ι2 as ah2 e2 r2 rs p2 => meth_fin r2 (ra.ext e2) rs p2⟩
    · exact p1.elim⟩
theorem de_meth0 {o : Expr} {mo : Ev} {name : Str} {apos cpos : Pos} {T id : String} {op : OpM} (pa : PlainAttrs T) (slot : Slot T name id) (hty : typeOf (.builtin id) = pure (.type "method_descriptor")) (hm : DMt X c id op) (ho : DE X c W o mo)
    (hbase : attributeBase o name X.env (eval o X.env) = eval o X.env := by rfl) (hline : (apos.endLine == cpos.line) = true := by rfl) : DE X c W (.Call (.Attribute o name apos) [] [] cpos) (mMeth T op mo mNil) :=
  pe_imp (pe_bm0 pa slot hty hm ho hbase hline) fun σ H Q ⟨ι, sl, ah, rh, S, p⟩ => ⟨ι, sl, ah, rh, S, Post.step p fun x H1 ι1 a ah1 e1 r1 ra p1 => by
    split at p1
    · rename_i ht
      exact ⟨isTy_ok r1 ht ra, meth_fin r1 ra .nil p1⟩
    · exact p1.elim⟩
theorem dmt {id : String} {op : OpM} (h : ∀ (pins : List (Addr × Obj)) (s : Shared) (σ : L2.St) (H : Hp) (x : V) (xs : List V) (v : Value) (us : List Value) (Q : VK) ι a as ah w ah', Inv X pins σ H s → RelV x v → Vals xs us → RelH X.K c ι ah H → RV c ι a x → RVs c ι as xs → op a as ah = some (w, ah') →
    (∀ ι' H' z, Ext H ι H' ι' → RelH X.K c ι' ah' H' → RV c ι' w z → Q z H') → wpAny (model X.prog X.w) X.A (call (.builtin id) (v :: us)) (EP X pins σ Q) X.xe s) : DMt X c id op :=
  fun pins s σ H x xs v us Q I rx r ⟨ι, a, as, ah, w, ah', rh, ra, rs, e, q⟩ => h pins s σ H x xs v us Q ι a as ah w ah' I rx r rh ra rs e q
/-- a tracked list -/
def lsAt (h : Hh) : AV → Option (Nat × List AV)
  | .ref n => match h[n]? with
    | some (.lst xs) => some (n, xs)
    | _ => none
  | _ => none
theorem lsAt_ok {K : PySem.W.Frag} {ah : Hh} {H : Hp} {x : AV} {v : V} {n : Nat} {xs : List AV} (rh : RelH K c ι ah H) (e : lsAt ah x = some (n, xs)) (r : RV c ι x v) : ∃ a vs, v = .ref a ∧ ι[n]? = some a ∧ ah[n]? = some (.lst xs) ∧ RVs c ι xs vs ∧ H a = some (.lst vs) ∧ x = .ref n := by
  unfold lsAt at e
  split at e
  · split at e
    · rename_i n' _ ys h
      cases e
      obtain ⟨a, rfl, ha, vs, rv, hH⟩ := rh.at h r
      exact ⟨a, vs, rfl, ha, h, rv, hH, rfl⟩
    · cases e
  · cases e
def mAppend : OpM := fun x as h => match lsAt h x, as with
  | some (n, xs), [y] => if xs.length < LINE then some (.non, h.set n (.lst (xs ++ [y]))) else none
  | _, _ => none
theorem dm_append : DMt X c "list.append" mAppend := dmt fun pins s σ H x xs v us Q ι a as ah w ah' I rx r rh ra rs e q => by
  unfold mAppend at e
  split at e
  · rename_i n ys y hl
    split at e
    · rename_i hlt
      cases e
      obtain ⟨a', vs, rfl, ha, hn, rv, hH, rfl⟩ := lsAt_ok rh hl ra
      obtain ⟨z, rfl, rz⟩ := rvs1 rs
      exact mt_append pins s σ H _ _ v us Q I rx r ⟨a', vs, z, rfl, rfl, hH, by rw [← Paired.length rv, line_eq]; exact hlt, q ι _ _ (Ext.set ha) (rh.set hn rfl rfl ha ⟨_, Paired.app rv (.cons rz .nil), upd_same⟩) rfl⟩
    · cases e
  · cases e
def mPop : OpM := fun x as h => match lsAt h x, as with
  | some (n, xs), [] => match xs.getLast? with
    | some y => some (y, h.set n (.lst xs.dropLast))
    | none => none
  | some (n, xs), [.int i] => match L2.ixN xs.length i with
    | some k => match xs[k]? with
      | some y => if -(2 ^ 63) ≤ i ∧ i < 2 ^ 63 then some (y, h.set n (.lst (xs.eraseIdx k))) else none
      | none => none
    | none => none
  | _, _ => none
theorem Paired.dropLast {α β : Type} {G : α → β → Prop} : ∀ {xs : List α} {ys : List β}, Paired G xs ys → Paired G xs.dropLast ys.dropLast
  | _, _, .nil => .nil
  | _, _, .cons _ .nil => .nil
  | _, _, .cons r (.cons q t) => .cons r (Paired.dropLast (.cons q t))
theorem Paired.erase {α β : Type} {G : α → β → Prop} : ∀ {xs : List α} {ys : List β}, Paired G xs ys → ∀ k, Paired G (xs.eraseIdx k) (ys.eraseIdx k)
  | _, _, .nil, _ => .nil
  | _, _, .cons _ t, 0 => t
  | _, _, .cons r t, k + 1 => .cons r (Paired.erase t k)
theorem Paired.rev {α β : Type} {G : α → β → Prop} {xs : List α} {ys : List β} (p : Paired G xs ys) : Paired G xs.reverse ys.reverse := by
  induction p with
  | nil => exact .nil
  | cons r t ih => rw [List.reverse_cons, List.reverse_cons]; exact Paired.app ih (.cons r .nil)
theorem dm_pop : DMt X c "list.pop" mPop := dmt fun pins s σ H x xs v us Q ι a as ah w ah' I rx r rh ra rs e q => by
  unfold mPop at e
  split at e
  · rename_i n ys hl
    split at e
    · rename_i y hy
      cases e
      obtain ⟨a', vs, rfl, ha, hn, rv, hH, rfl⟩ := lsAt_ok rh hl ra
      cases rs
      rw [List.getLast?_eq_getElem?] at hy
      obtain ⟨z, hz, rz⟩ := paired_get rv hy
      exact mt_pop pins s σ H _ _ v us Q I rx r ⟨a', vs, z, rfl, rfl, hH, by rw [← Paired.length rv]; exact hz, q ι _ _ (Ext.set ha) (rh.set hn rfl rfl ha ⟨_, Paired.dropLast rv, upd_same⟩) rz⟩
    · cases e
  · rename_i n ys i hl
    split at e
    · rename_i k hk
      split at e
      · rename_i y hy
        split at e
        · rename_i hb
          cases e
          obtain ⟨a', vs, rfl, ha, hn, rv, hH, rfl⟩ := lsAt_ok rh hl ra
          obtain ⟨zi, rfl, rzi⟩ := rvs1 rs
          cases rzi
          obtain ⟨z, hz, rz⟩ := paired_get rv hy
          exact mt_popAt pins s σ H _ _ v us Q I rx r ⟨a', vs, i, k, z, rfl, rfl, hH, hb.1, hb.2, by rw [← Paired.length rv]; exact (ixN_seq hk).1, hz, q ι _ _ (Ext.set ha) (rh.set hn rfl rfl ha ⟨_, Paired.erase rv k, upd_same⟩) rz⟩
        · cases e
      · cases e
    · cases e
  · cases e
def mExtend : OpM := fun x as h => match lsAt h x, as with
  | some (n, xs), [y] => match lsAt h y with
    | some (_, ys) => if xs.length + ys.length ≤ LINE then some (.non, h.set n (.lst (xs ++ ys))) else none
    | none => none
  | _, _ => none
theorem dm_extend : DMt X c "list.extend" mExtend := dmt fun pins s σ H x xs v us Q ι a as ah w ah' I rx r rh ra rs e q => by
  unfold mExtend at e
  split at e
  · rename_i n ys y hl
    split at e
    · rename_i k zs hl2
      split at e
      · rename_i hlt
        cases e
        obtain ⟨a', vs, rfl, ha, hn, rv, hH, rfl⟩ := lsAt_ok rh hl ra
        obtain ⟨z, rfl, rz⟩ := rvs1 rs
        obtain ⟨a2, ws, rfl, ha2, hn2, rv2, hH2, rfl⟩ := lsAt_ok rh hl2 rz
        exact mt_extend pins s σ H _ _ v us Q I rx r ⟨a', a2, vs, ws, rfl, rfl, hH, hH2, by rw [← Paired.length rv, ← Paired.length rv2]; exact le_of_line hlt, q ι _ _ (Ext.set ha) (rh.set hn rfl rfl ha ⟨_, Paired.app rv rv2, upd_same⟩) rfl⟩
      · cases e
    · cases e
  · cases e
def mReverse : OpM := fun x as h => match lsAt h x, as with
  | some (n, xs), [] => some (.non, h.set n (.lst xs.reverse))
  | _, _ => none
theorem dm_reverse : DMt X c "list.reverse" mReverse := dmt fun pins s σ H x xs v us Q ι a as ah w ah' I rx r rh ra rs e q => by
  unfold mReverse at e
  split at e
  · rename_i n ys hl
    cases e
    obtain ⟨a', vs, rfl, ha, hn, rv, hH, rfl⟩ := lsAt_ok rh hl ra
    cases rs
    exact mt_reverse pins s σ H _ _ v us Q I rx r ⟨a', vs, rfl, rfl, hH, q ι _ _ (Ext.set ha) (rh.set hn rfl rfl ha ⟨_, Paired.rev rv, upd_same⟩) rfl⟩
  · cases e
def mClear : OpM := fun x as h => match lsAt h x, as with
  | some (n, _), [] => some (.non, h.set n (.lst []))
  | _, _ => none
theorem dm_clear : DMt X c "list.clear" mClear := dmt fun pins s σ H x xs v us Q ι a as ah w ah' I rx r rh ra rs e q => by
  unfold mClear at e
  split at e
  · rename_i n ys hl
    cases e
    obtain ⟨a', vs, rfl, ha, hn, rv, hH, rfl⟩ := lsAt_ok rh hl ra
    cases rs
    exact mt_clear pins s σ H _ _ v us Q I rx r ⟨a', vs, rfl, rfl, hH, q ι _ _ (Ext.set ha) (rh.set hn rfl rfl ha ⟨_, .nil, upd_same⟩) rfl⟩
  · cases e
def mInsert : OpM := fun x as h => match lsAt h x, as with
  | some (n, xs), [.int i, y] => if xs.length < LINE ∧ 0 ≤ i ∧ i < 2 ^ 63 then some (.non, h.set n (.lst (xs.take i.toNat ++ [y] ++ xs.drop i.toNat))) else none
  | _, _ => none
theorem Paired.tk {α β : Type} {G : α → β → Prop} : ∀ {xs : List α} {ys : List β}, Paired G xs ys → ∀ k, Paired G (xs.take k) (ys.take k)
  | _, _, .nil, k => by simp; exact .nil
  | _, _, .cons _ _, 0 => .nil
  | _, _, .cons r t, k + 1 => .cons r (Paired.tk t k)
theorem Paired.dp {α β : Type} {G : α → β → Prop} : ∀ {xs : List α} {ys : List β}, Paired G xs ys → ∀ k, Paired G (xs.drop k) (ys.drop k)
  | _, _, .nil, k => by simp; exact .nil
  | _, _, .cons r t, 0 => .cons r t
  | _, _, .cons _ t, k + 1 => Paired.dp t k
theorem dm_insert : DMt X c "list.insert" mInsert := dmt fun pins s σ H x xs v us Q ι a as ah w ah' I rx r rh ra rs e q => by
  unfold mInsert at e
  split at e
  · rename_i n ys i y hl
    split at e
    · rename_i hb
      cases e
      obtain ⟨a', vs, rfl, ha, hn, rv, hH, rfl⟩ := lsAt_ok rh hl ra
      obtain ⟨zi, z, rfl, rzi, rz⟩ := rvs2 rs
      cases rzi
      exact mt_insert pins s σ H _ _ v us Q I rx r ⟨a', vs, i, z, rfl, rfl, hH, by rw [← Paired.length rv, line_eq]; exact hb.1, hb.2.1, hb.2.2, q ι _ _ (Ext.set ha) (rh.set hn rfl rfl ha ⟨_, Paired.app (Paired.app (Paired.tk rv _) (.cons rz .nil)) (Paired.dp rv _), upd_same⟩) rfl⟩
    · cases e
  · cases e
def strsOf : List AV → Option (List (List Nat))
  | [] => some []
  | .str s :: r => (strsOf r).map fun l => s :: l
  | _ :: _ => none
theorem strsOf_ok : ∀ {xs : List AV} {vs : List V} {ns : List (List Nat)}, strsOf xs = some ns → RVs c ι xs vs → vs = (ns.map mkS).map V.str
  | [], _, _, e, .nil => by cases e; rfl
  | .str i :: r, _, ns, e, .cons q t => by
    obtain ⟨l, e1, e2⟩ := Option.map_eq_some_iff.mp e
    subst e2
    cases q
    rw [strsOf_ok e1 t]; rfl
  | .non :: _, _, _, e, _ => by cases e
  | .int _ :: _, _, _, e, _ => by cases e
  | .bl _ :: _, _, _, e, _ => by cases e
  | .ref _ :: _, _, _, e, _ => by cases e
  | .con _ :: _, _, _, e, _ => by cases e
  | .scr _ :: _, _, _, e, _ => by cases e
def joinA (sep : List Nat) : List (List Nat) → List Nat
  | [] => []
  | [x] => x
  | x :: r => x ++ (sep ++ joinA sep r)
def sumLen : List (List Nat) → Nat
  | [] => 0
  | x :: r => x.length + sumLen r
def mJoin : OpM := fun x as h => match x, as with
  | .str sep, [y] => match (rdL h y).bind strsOf with
    | some ss => if sumLen ss + ss.length * sep.length ≤ LINE then some (.str (joinA sep ss), h) else none
    | none => none
  | _, _ => none
theorem joinL_eq (sep : List Nat) : ∀ ss : List (List Nat), TL.joinL sep ss = joinA sep ss
  | [] => rfl
  | [_] => rfl
  | x :: y :: r => by
    have ih := joinL_eq sep (y :: r)
    simp only [TL.joinL, joinA, ih]
theorem join_eq (sep : List Nat) (ss : List (List Nat)) : Txt.join (mkS sep) (ss.map mkS) = mkS (joinA sep ss) := by
  have h1 : Txt.join (mkS sep) (ss.map mkS) = Str.join (mkS sep) (ss.map mkS) := TL.join_eq _ _
  rw [h1]
  apply TL.ext_tl
  rw [TL.tl_join]
  have e1 : TL.tl (mkS sep) = sep := mkS_cps sep
  have e2 : (ss.map mkS).map TL.tl = ss := by
    rw [List.map_map]
    have : (TL.tl ∘ mkS) = id := by funext s; exact mkS_cps s
    rw [this, List.map_id]
  have e3 : TL.tl (mkS (joinA sep ss)) = joinA sep ss := mkS_cps _
  rw [e1, e2, e3]
  exact joinL_eq sep ss
theorem dm_join : DMt X c "str.join" mJoin := dmt fun pins s σ H x xs v us Q ι a as ah w ah' I rx r rh ra rs e q => by
  unfold mJoin at e
  split at e
  · rename_i sep y
    split at e
    · rename_i ss hs
      split at e
      · rename_i hlt
        cases e
        cases ra
        obtain ⟨z, rfl, rz⟩ := rvs1 rs
        obtain ⟨ys, e1, e2⟩ := Option.bind_eq_some_iff.mp hs
        obtain ⟨a', vs, rfl, s1, rv⟩ := rdL_ok rh e1 rz
        rw [strsOf_ok e2 rv] at s1
        refine mt_join pins s σ H _ _ v us Q I rx r ⟨mkS sep, a', ss.map mkS, rfl, rfl, .inl s1, ?_, by rw [join_eq]; exact q ι H _ (Ext.refl _ _) rh rfl⟩
        have e3 : ((ss.map mkS).map (·.length)).sum = sumLen ss := by
          rw [List.map_map]
          clear hlt hs e2 s1 rv q e1
          induction ss with
          | nil => rfl
          | cons x r ih => simp only [List.map_cons, List.sum_cons, sumLen, Function.comp, mkS_len]; exact congrArg _ ih
        rw [e3, List.length_map, mkS_len]
        exact hlt
      · cases e
    · cases e
  · cases e
end
end Det

/-! Det10: isinstance, the law's end. -/
namespace Det
open PySem PySem.Spec PyProof.Rows L2

inductive Ty where | non | bool | int | str | list | tuple | dict
  deriving DecidableEq
def Ty.name : Ty → String
  | .non => "NoneType" | .bool => "bool" | .int => "int" | .str => "str" | .list => "list" | .tuple => "tuple" | .dict => "dict"
def Ty.sub : Ty → Ty → Bool
  | .bool, .int => true
  | a, b => decide (a = b)
theorem sub_kit : ∀ a b : Ty, b ≠ .non → kitB a.name b.name = some (a.sub b) := by
  intro a b hb
  cases b <;> first | exact absurd rfl hb | (cases a <;> decide +kernel)
def tyOf (h : Hh) : AV → Option Ty
  | .non => some .non
  | .bl _ => some .bool
  | .int _ => some .int
  | .str _ => some .str
  | .ref n => match h[n]? with
    | some (.lst _) => some .list
    | some (.rol _) => some .list
    | some (.tup _) => some .tuple
    | some (.dic _) => some .dict
    | _ => none
  | .con k => match k with
    | .empty => some .tuple
    | _ => some .dict
  | .scr _ => some .list
section
variable {X : Cx} {c : Ct} {W : WX} {K : PySem.W.Frag} {ι : List Addr} {ah : Hh} {H : Hp}
theorem tyOf_ok (rh : RelH K c ι ah H) {v : AV} {x : V} {t : Ty} (h : tyOf ah v = some t) (r : RV c ι v x) : TyX K H x (.type t.name) := by
  unfold tyOf at h
  split at h
  · cases h; cases r; exact .base .non
  · cases h; cases r; exact .base (.bl _)
  · cases h; cases r; exact .base (.int _)
  · cases h; cases r; exact .base (.str _)
  · split at h
    · rename_i n _ xs e
      cases h
      obtain ⟨a, rfl, _, vs, _, q⟩ := rh.at e r
      exact .base (.lst q)
    · rename_i n _ xs e
      cases h
      obtain ⟨a, rfl, _, vs, _, q | ⟨o, q⟩⟩ := rh.at e r
      · exact .base (.lst q)
      · exact .base (.frz q)
    · rename_i n _ xs e
      cases h
      obtain ⟨a, rfl, _, vs, _, q | ⟨o, q⟩⟩ := rh.at e r
      · exact .base (.tup q)
      · exact .fTuple q
    · rename_i n _ xs e
      cases h
      obtain ⟨a, rfl, _, vs, _, q⟩ := rh.at e r
      exact .base (.dK q)
    · cases h
  · rename_i k
    obtain ⟨rfl, hk⟩ := r
    have hd : ∀ kvs, k.dic? = some kvs → TyX K H (.ref (c.con k)) (.type "dict") := fun kvs e => by
      obtain ⟨es, n, hl, _⟩ := rh.cok.dic k kvs hk e
      exact .kDict hl rfl
    cases k with
    | empty =>
      cases h
      obtain ⟨vs, _, o, its, n, hl, hc, _⟩ := rh.cok.tup .empty _ hk rfl
      exact .kTuple hl hc
    | closingOf => cases h; exact hd _ rfl
    | letterOf => cases h; exact hd _ rfl
    | nameOf => cases h; exact hd _ rfl
  · cases h
    obtain ⟨rfl, _⟩ := r
    rcases rh.scr with ⟨o, q⟩ | ⟨o, its, n, hl, hc, _⟩
    · exact .base (.frz q)
    · exact .kList hl hc
def mIsi (ts : List Ty) (me : Ev) : Ev := fun sl h => (me sl h).bind fun v h1 => match tyOf h1 v with
  | some t => .ok (.bl (ts.any fun u => t.sub u)) h1
  | none => .no
theorem de_isi {e : Expr} {me : Ev} {T : Str} {n : String} {t : Ty} {p q pos : Pos} (ht : t ≠ .non) (hn : n = t.name) (hg : Gl X "isinstance") (hm : X.mg "isinstance" = none) (he : DE X c W e me) (hT : Gl X T) (hmT : X.mg T = none) (hbT : bootBuiltins T = some (.type n)) (hnn : T ≠ "__name__" := by decide) (hdb : (T == ("__debug__" : Str)) = false := by decide)
    (hs : starEach [e, .Name T q] X.env = (false, eval e X.env) :: starEach [.Name T q] X.env := by rfl) (hs2 : starEach [.Name T q] X.env = (false, eval (.Name T q) X.env) :: starEach [] X.env := by rfl) (hpl : (backTo pos (starEach [.Name T q] X.env)).any (·.1) = false := by rfl) :
    DE X c W (.Call (.Name "isinstance" p) [e, .Name T q] [] pos) (mIsi [t] me) := by
  subst hn
  exact pe_imp (pe_callB call_isi hg hm boot_isinstance (pa_cons he (pa_cons (pe_bltn (v := .ty t.name) hT hmT hbT rfl hnn hdb) pa_nil hs2) hs) (by decide) (by decide) hs hpl) fun σ H Q ⟨ι, sl, ah, rh, S, p⟩ => ⟨ι, sl, ah, rh, S, Post.step p fun x H1 ι1 v ah1 e1 r1 rv p1 => by
    cases et : tyOf ah1 v with
    | none => rw [et] at p1; exact p1.elim
    | some u =>
      rw [et] at p1
      refine ⟨x, .ty t.name, .type u.name, .type t.name, u.sub t, rfl, .ty _, tyOf_ok r1 et rv, kit_ty (sub_kit u t ht), ?_⟩
      have := p1 ι1 H1 (.bl ([t].any fun z => u.sub z)) (Ext.refl _ _) r1 rfl
      simpa using this⟩
theorem any_kit {K : PySem.W.Frag} (u : Ty) : ∀ (ts : List Ty), (∀ t ∈ ts, t ≠ .non) → PySem.W.kitAny K (.type u.name) (ts.map fun t => Value.type t.name) = some (ts.any fun t => u.sub t)
  | [], _ => kitAny_nil
  | t :: ts, h => by
    have ih := any_kit (K := K) u ts fun z hz => h z (List.mem_cons_of_mem _ hz)
    refine kitAny_cons (kit_ty (sub_kit u t (h t List.mem_cons_self))) (fun hb => ?_) (fun hb => ?_)
    · rw [ih, List.any_cons, hb, Bool.false_or]
    · rw [List.any_cons, hb, Bool.true_or]
/-- isinstance(e, (T1, T2)) -/
theorem de_isiT {e : Expr} {me : Ev} {T1 T2 : Str} {n1 n2 : String} {t1 t2 : Ty} {p q1 q2 pos tpos : Pos} {kt : Nat} (ht1 : t1 ≠ .non) (ht2 : t2 ≠ .non) (hn1 : n1 = t1.name) (hn2 : n2 = t2.name) (hg : Gl X "isinstance") (hm : X.mg "isinstance" = none) (he : DE X c W e me) (hT1 : Gl X T1) (hmT1 : X.mg T1 = none) (hbT1 : bootBuiltins T1 = some (.type n1)) (hT2 : Gl X T2) (hmT2 : X.mg T2 = none) (hbT2 : bootBuiltins T2 = some (.type n2))
    (hnn1 : T1 ≠ "__name__" := by decide) (hdb1 : (T1 == ("__debug__" : Str)) = false := by decide) (hnn2 : T2 ≠ "__name__" := by decide) (hdb2 : (T2 == ("__debug__" : Str)) = false := by decide)
    (hs : starEach [e, .Tuple [.Name T1 q1, .Name T2 q2] kt tpos] X.env = (false, eval e X.env) :: starEach [.Tuple [.Name T1 q1, .Name T2 q2] kt tpos] X.env := by rfl) (hs2 : starEach [.Tuple [.Name T1 q1, .Name T2 q2] kt tpos] X.env = (false, eval (.Tuple [.Name T1 q1, .Name T2 q2] kt tpos) X.env) :: starEach [] X.env := by rfl)
    (hs3 : starEach [.Name T1 q1, .Name T2 q2] X.env = (false, eval (.Name T1 q1) X.env) :: starEach [.Name T2 q2] X.env := by rfl) (hs4 : starEach [.Name T2 q2] X.env = (false, eval (.Name T2 q2) X.env) :: starEach [] X.env := by rfl)
    (hpl : (backTo pos (starEach [.Tuple [.Name T1 q1, .Name T2 q2] kt tpos] X.env)).any (·.1) = false := by rfl) :
    DE X c W (.Call (.Name "isinstance" p) [e, .Tuple [.Name T1 q1, .Name T2 q2] kt tpos] [] pos) (mIsi [t1, t2] me) := by
  subst hn1 hn2
  exact pe_imp (pe_callB call_isiT hg hm boot_isinstance (pa_cons he (pa_cons (pe_tup (pa_cons (pe_bltn (v := .ty t1.name) hT1 hmT1 hbT1 rfl hnn1 hdb1) (pa_cons (pe_bltn (v := .ty t2.name) hT2 hmT2 hbT2 rfl hnn2 hdb2) pa_nil hs4) hs3)) pa_nil hs2) hs) (by decide) (by decide) hs hpl) fun σ H Q ⟨ι, sl, ah, rh, S, p⟩ => ⟨ι, sl, ah, rh, S, Post.step p fun x H1 ι1 v ah1 e1 r1 rv p1 => by
    cases et : tyOf ah1 v with
    | none => rw [et] at p1; exact p1.elim
    | some u =>
      rw [et] at p1
      refine ⟨by show 2 ≤ sizeLine; decide, fun T hT => ?_⟩
      have r2 := r1.junk (o := .tup [.ty t1.name, .ty t2.name]) hT
      refine ⟨x, T, [.ty t1.name, .ty t2.name], .type u.name, [.type t1.name, .type t2.name], _, rfl, upd_same, .cons (.ty _) (.cons (.ty _) .nil), tyOf_ok r2 et rv, any_kit (K := X.K) u [t1, t2] (by simp [ht1, ht2]), ?_⟩
      exact p1 ι1 _ _ (Ext.junk hT) r2 rfl⟩
end

/-! ### the law -/
def spLaw (K : PySem.W.Frag) : Sp := fun vs H Q _ => ∃ (a : Addr) (ns : List Int), vs = [.ref a] ∧ ns.length ≤ 63 ∧ Only H ∧ SqL K H a (ns.map V.int) ∧ ∀ H', Q (.bl true) H'
theorem scr_of {K : PySem.W.Frag} {c : Ct} {H : Hp} (hO : Only H) (h : SqL K H c.sa (c.sns.map V.int)) : Scr K c H := by
  rcases h with (h | ⟨o, h⟩) | h
  · rcases hO c.sa with z | ⟨o, xs, z⟩
    · rw [h] at z; cases z
    · rw [h] at z; cases z
  · exact .inl ⟨o, h⟩
  · exact .inr h
theorem law_fn {P : Program} {w : World} {K : PySem.W.Frag} {mg : Str → Option Value} {base : Heap} {k : Nat} {f : Addr} {fd : FuncData} {x : Str} {m : Fn} (mk : Addr → List Int → Ct) (hsa : ∀ a ns, (mk a ns).sa = a ∧ (mk a ns).sns = ns) (hc : ∀ a ns, ns.length ≤ 63 → CtOk K (mk a ns))
    (hF : ∀ a ns, FnOk P w K mg base (L2.CX P w) k f fd [x] (spM K (mk a ns) 1 m)) (hm : ∀ ns : List Int, ns.length ≤ 63 → ∃ h, m [.scr ns] [] = .ok (.bl true) h) : FnOk P w K mg base (L2.CX P w) k f fd [x] (spLaw K) := by
  refine ⟨fun vs H Q E ⟨a, ns, e, _⟩ => by rw [e]; rfl, fun A outer s H args us vs Q E hr e0 hb r hsp => ?_⟩
  obtain ⟨a, ns, rfl, hl, hO, hS, q⟩ := hsp
  obtain ⟨h1, h2⟩ := hsa a ns
  refine (hF a ns).run A outer s H args us [.ref a] Q E hr e0 hb r ⟨[], [.scr ns], [], ⟨hc a ns hl, scr_of hO (by rw [h1, h2]; exact hS), rfl, fun n o e => by simp at e, fun n m a o e => by simp at e⟩, .cons ⟨by rw [h1], h2.symm⟩ .nil, rfl, ?_⟩
  obtain ⟨h', e⟩ := hm ns hl
  rw [e]
  intro ι' H' b e1 r1 rb
  cases rb
  exact q H'
theorem law_end {l : PySem.W.OpenLaw} {q : Program} {loose : List Str} {XP : (Str → Option Value) → Heap → Prop} {YP : World → Heap → Prop} {d : DefRec} {K : Params → PySem.W.Frag} {k : Nat} {x : Str} (hn : l.most = some 63) (hdf : d.params.defaults = []) (hr : Room k callerA)
    (hY : ∀ (w : World) (h : Heap), YP w h → (K w.params).In h)
    (F : ∀ (w : World) (mg : Str → Option Value) (fa : Addr) (h : Heap), (K w.params).In h → h.Ns mainGlobals mg → mg d.name = some (.ref fa) →
      ∃ fd : FuncData, (∀ (s : Shared) (u : Value), BindsTo s fd ⟨[u], []⟩ [(x, u)]) ∧ ∀ base : Heap, (K w.params).In base → base.Ns mainGlobals mg → FnOk l.prog w (K w.params) mg base (L2.CX l.prog w) k fa fd [x] (spLaw (K w.params))) :
    PySem.W.WalkO q loose XP YP l.row.toRowW d [] (fun f vs => PySem.call f vs) :=
  walk_of (K := K) (CX := fun w => L2.CX l.prog w) (sp := fun w => spLaw (K w.params)) hn (by decide) hdf hr hY F (fun w H a ns h1 h2 h3 => ⟨a, ns, rfl, h1, h2, h3, fun _ => rfl⟩) fun w H s e s' h => by
    obtain ⟨_, _, _, _, _, _, _, _, _, _, _, _, z⟩ := h
    exact z.elim
end Det

/-! Det11: what the printer leans on. -/
namespace Det
open PySem PySem.Spec PyProof.Rows L2
section
variable {X : Cx} {c : Ct} {W : WX}
theorem hu64 {A : Around} {k : Nat} (hr : Room k A) : A.units + 64 < cLine := hr.units
theorem hu65 {A : Around} {k : Nat} (hr : Room k A) : A.units + 65 < cLine := by have := hr.un; omega
theorem dt_val {e : Expr} {m : Ev} (h : DE X c W e m) (he : ∀ whole, isTrue e X.env whole = (do let v ← whole; standAt e.pos; holding [v] (truthy v)) := by intro _; rfl) : DT X c W e (mB m) :=
  pt_imp (pt_val h he) fun σ H Q h => tB_imp h
theorem de_gstr {x : Str} {s : List Nat} {pos : Pos} (hg : Gl X x) (hm : ∃ t, X.mg x = some (.str (mkS s) t)) (hd : (x == ("__debug__" : Str)) = false := by decide) : DE X c W (.Name x pos) (mC (.str s)) := by
  obtain ⟨t, e⟩ := hm
  exact de_c (pe_glob (v := .str (mkS s)) hg e ⟨t, rfl⟩ hd) fun _ => rfl
theorem de_gint {x : Str} {s : Int} {pos : Pos} (hg : Gl X x) (hm : ∃ t, X.mg x = some (.int s t)) (hd : (x == ("__debug__" : Str)) = false := by decide) : DE X c W (.Name x pos) (mC (.int s)) := by
  obtain ⟨t, e⟩ := hm
  exact de_c (pe_glob (v := .int s) hg e ⟨t, rfl⟩ hd) fun _ => rfl
theorem de_gcon {x : Str} (k : CK) {pos : Pos} (hg : Gl X x) (hm : X.mg x = some (.ref (c.con k))) (hh : c.has k = true) (hd : (x == ("__debug__" : Str)) = false := by decide) : DE X c W (.Name x pos) (mC (.con k)) :=
  de_c (pe_glob (v := .ref (c.con k)) hg hm rfl hd) fun _ => ⟨rfl, hh⟩
abbrev Op1 := AV → Hh → Option (AV × Hh)
def mUn (f : Op1) (m : Ev) : Ev := fun sl h => (m sl h).bind fun v h1 => R.of (f v h1)
def opNeg : Op1 := fun v h => match v with
  | .int i => some (.int (-i), h)
  | _ => none
theorem de_neg {a : Expr} {m : Ev} {pos : Pos} (ha : DE X c W a m) : DE X c W (.UnaryOp .USub a pos) (mUn opNeg m) :=
  pe_imp (pe_un un_neg ha) fun σ H Q ⟨ι, sl, ah, rh, S, p⟩ => ⟨ι, sl, ah, rh, S, Post.step p fun x H1 ι1 v ah1 e1 r1 rv p1 => by
    cases v with
    | int i => cases rv; exact ⟨i, rfl, p1 ι1 H1 _ (Ext.refl _ _) r1 rfl⟩
    | _ => exact p1.elim⟩
theorem Fun.kbinds {K : PySem.W.Frag} {x qual : Str} {st : Stmt} {f : Addr} {fd : FuncData} {ps ks : List Str} {p : List Nat} {n m : Nat} (F : Fun K x qual st f fd) (h0 : ps ≠ [])
    (h : ∀ (kV doc pm : Value) (an : Option Addr) (cdv ct : Value) (us ws : List Value), us.length = n → ws.length = m → bindArgs (PySem.W.fnOf x qual (defArgs st) (defBody st) (defScope st) .none kV doc pm an cdv ct) ⟨us, ks.zip ws⟩ = pure (ps.zip (perm p n m us ws))) :
    KBinds K fd ps ks (perm p n m) (perm p n m) := by
  obtain ⟨oc, od, kV, doc, pm, an, cdv, ct, osl, rfl, lk, hcd⟩ := F.ex
  exact kbinds_mk h0 (h kV doc pm an cdv ct)
end
end Det

/-! Det12: reckoning with mirrors. -/
namespace Det
open PySem PySem.Spec PyProof.Rows L2

/-! ### what stays -/
def Kp (M : List Nat) (h h' : Hh) : Prop := h.length ≤ h'.length ∧ ∀ m o, m ∉ M → h[m]? = some o → h'[m]? = some o
theorem Kp.rfl' {M : List Nat} {h : Hh} : Kp M h h := ⟨Nat.le_refl _, fun _ _ _ e => e⟩
theorem Kp.app {M : List Nat} {h h' : Hh} (k : Kp M h h') (r : Hh) : Kp M h (h' ++ r) :=
  ⟨by rw [List.length_append]; have := k.1; omega, fun m o hm e => getElem?_pre (k.2 m o hm e)⟩
theorem lt_of_get {h : Hh} {n : Nat} {o : AO} (e : h[n]? = some o) : n < h.length := (List.getElem?_eq_some_iff.mp e).1
theorem Kp.set {M : List Nat} {h h' : Hh} (k : Kp M h h') {n : Nat} (hn : n ∈ M ∨ h.length ≤ n) (o : AO) : Kp M h (h'.set n o) :=
  ⟨by rw [List.length_set]; exact k.1, fun m o' hm e => by
    have : n ≠ m := fun z => by
      subst z
      rcases hn with hn | hn
      · exact hm hn
      · have := lt_of_get e; omega
    rw [List.getElem?_set_ne this]
    exact k.2 m o' hm e⟩
theorem Kp.trans {M M' : List Nat} {h h1 h2 : Hh} (k : Kp M h h1) (k' : Kp M' h1 h2) (hm : ∀ m ∈ M', m ∈ M ∨ h.length ≤ m) : Kp M h h2 :=
  ⟨Nat.le_trans k.1 k'.1, fun m o hn e => k'.2 m o (fun z => by
    rcases hm m z with q | q
    · exact hn q
    · have := lt_of_get e; omega) (k.2 m o hn e)⟩
theorem Kp.trans0 {M : List Nat} {h h1 h2 : Hh} (k : Kp M h h1) (k' : Kp [] h1 h2) : Kp M h h2 := k.trans k' (by simp)
theorem Kp.transM {M : List Nat} {h h1 h2 : Hh} (k : Kp M h h1) (k' : Kp M h1 h2) : Kp M h h2 := k.trans k' fun _ z => .inl z
theorem Kp.get {M : List Nat} {h h' : Hh} (k : Kp M h h') {n : Nat} {o : AO} (e : h[n]? = some o) (hn : n ∉ M) : h'[n]? = some o := k.2 n o hn e
theorem Kp.get0 {h h' : Hh} (k : Kp [] h h') {n : Nat} {o : AO} (e : h[n]? = some o) : h'[n]? = some o := k.2 n o (by simp) e
theorem Kp.mono {M M' : List Nat} {h h' : Hh} (k : Kp M h h') (hm : ∀ m ∈ M, m ∈ M') : Kp M' h h' := ⟨k.1, fun m o hn e => k.2 m o (fun z => hn (hm m z)) e⟩
theorem get_set_eq {h : Hh} {n : Nat} {o o' : AO} (e : h[n]? = some o) : (h.set n o')[n]? = some o' := by
  rw [List.getElem?_set_self (lt_of_get e)]
theorem get_new (h : Hh) (o : AO) : (h ++ [o])[h.length]? = some o := by simp
theorem get_set_ne {h : Hh} {n m : Nat} {o' : AO} (e : n ≠ m) : (h.set n o')[m]? = h[m]? := List.getElem?_set_ne e

/-! ### posts -/
def Wp {α : Type} (r : R α) (Q : α → Hh → Prop) : Prop := match r with
  | .ok a h => Q a h
  | _ => False
def WpO (o : Option (Sl × Hh)) (Q : Sl → Hh → Prop) : Prop := match o with
  | some (s, h) => Q s h
  | none => False
@[simp] theorem wpO_some {s : Sl} {h : Hh} {Q : Sl → Hh → Prop} : WpO (some (s, h)) Q ↔ Q s h := Iff.rfl
@[simp] theorem of_some {α : Type} {a : α} {h : Hh} : R.of (some (a, h)) = .ok a h := rfl
structure En where
  nx : Sl → Hh → Prop
  rt : AV → Hh → Prop := fun _ _ => False
  bk : Sl → Hh → Prop := fun _ _ => False
  ct : Sl → Hh → Prop := fun _ _ => False
def WpS (r : RSt) (D : En) : Prop := match r with
  | .nx s h => D.nx s h
  | .rt v h => D.rt v h
  | .bk s h => D.bk s h
  | .ct s h => D.ct s h
  | _ => False
section
variable {α β : Type} {r : R α} {k : α → Hh → R β} {Q : β → Hh → Prop} {D : En} {sl : Sl} {h : Hh} {m n : Es}
@[simp] theorem wp_ok {a : α} {Q : α → Hh → Prop} : Wp (.ok a h) Q ↔ Q a h := Iff.rfl
@[simp] theorem wp_bind : Wp (r.bind k) Q ↔ Wp r fun a h => Wp (k a h) Q := by cases r <;> exact Iff.rfl
@[simp] theorem wp_bindS {k : α → Hh → RSt} : WpS (r.bindS sl k) D ↔ Wp r fun a h => WpS (k a h) D := by cases r <;> exact Iff.rfl
theorem wp_seq : WpS (mSeq m n sl h) D ↔ WpS (m sl h) { D with nx := fun s h => WpS (n s h) D } := by
  unfold mSeq
  cases m sl h <;> exact Iff.rfl
theorem Wp.mono {Q Q' : α → Hh → Prop} (w : Wp r Q) (k : ∀ a h, Q a h → Q' a h) : Wp r Q' := by
  cases r with
  | ok a h => exact k a h w
  | _ => exact w
theorem Wp.ex {Q : α → Hh → Prop} (w : Wp r Q) : ∃ a h, r = .ok a h ∧ Q a h := by
  cases r with
  | ok a h => exact ⟨a, h, rfl, w⟩
  | _ => exact w.elim
theorem WpS.mono {r : RSt} {D D' : En} (w : WpS r D) (h1 : ∀ s h, D.nx s h → D'.nx s h) (h2 : ∀ v h, D.rt v h → D'.rt v h) (h3 : ∀ s h, D.bk s h → D'.bk s h) (h4 : ∀ s h, D.ct s h → D'.ct s h) : WpS r D' := by
  cases r with
  | nx s h => exact h1 _ _ w
  | rt s h => exact h2 _ _ w
  | bk s h => exact h3 _ _ w
  | ct s h => exact h4 _ _ w
  | _ => exact w.elim
/-- a loop: what holds ahead of each turn of what is left -/
theorem loop_wp {cs : List (Bool × AV × List AV)} {g : Eg} {body : Es} (I : List (List AV) → Sl → Hh → Prop) {D : En} (hc : ∀ its sl h, I its sl h → chkOk cs h = true) (hd : ∀ sl h, I [] sl h → D.nx sl h)
    (hs : ∀ it r sl h, I (it :: r) sl h → ∃ sl1 h1, g it sl h = some (sl1, h1) ∧ WpS (body sl1 h1) { nx := I r, ct := I r, bk := D.nx, rt := D.rt }) :
    ∀ its sl h, I its sl h → WpS (loopF cs g body its sl h) D
  | [], sl, h, i => by unfold loopF; rw [if_pos (hc _ _ _ i)]; exact hd _ _ i
  | it :: r, sl, h, i => by
    obtain ⟨sl1, h1, e, w⟩ := hs it r sl h i
    unfold loopF
    rw [if_pos (hc _ _ _ i), e]
    revert w
    show WpS (body sl1 h1) _ → WpS (match body sl1 h1 with
      | .nx s h => loopF cs g body r s h
      | .ct s h => loopF cs g body r s h
      | .bk s h => .nx s h
      | .rt v h => .rt v h
      | .ex x s h => .ex x s h
      | .no => .no) D
    cases body sl1 h1 with
    | nx s h => exact fun w => loop_wp I hc hd hs r s h w
    | ct s h => exact fun w => loop_wp I hc hd hs r s h w
    | bk s h => exact fun w => w
    | rt v h => exact fun w => w
    | ex x s h => exact fun w => w.elim
    | no => exact fun w => w.elim
/-- a comprehension's loop -/
theorem loopC_wp {cs : List (Bool × AV × List AV)} {slw : Sl} {dn : Nat} {g : Eg} {tt : Et} {te : Ev} (I : List (List AV) → Hh → Prop) {Q : AV → Hh → Prop} (hc : ∀ its h, I its h → chkOk cs h = true) (hd : ∀ h, I [] h → Q (.ref dn) h)
    (hs : ∀ it r h, I (it :: r) h → ∃ sl1 h1, g it slw h = some (sl1, h1) ∧ Wp (tt sl1 h1) fun b h2 => if b = true then Wp (te sl1 h2) fun y h3 => ∃ acc, h3[dn]? = some (.lst acc) ∧ acc.length < LINE ∧ I r (h3.set dn (.lst (acc ++ [y]))) else I r h2) :
    ∀ its h, I its h → Wp (loopC cs slw dn g tt te its h) Q
  | [], h, i => by unfold loopC; rw [if_pos (hc _ _ i)]; exact hd _ i
  | it :: r, h, i => by
    obtain ⟨sl1, h1, e, w⟩ := hs it r h i
    unfold loopC
    rw [if_pos (hc _ _ i), e]
    obtain ⟨b, h2, e2, w2⟩ := w.ex
    show Wp ((tt sl1 h1).only _) Q
    rw [e2]
    show Wp (if b = true then _ else _) Q
    split
    · rename_i hb
      rw [if_pos hb] at w2
      obtain ⟨y, h3, e3, acc, w3, w4, w5⟩ := w2.ex
      rw [e3]
      show Wp (match h3[dn]? with
          | some (.lst acc) => if acc.length < LINE then loopC cs slw dn g tt te r (h3.set dn (.lst (acc ++ [y]))) else .no
          | _ => .no) Q
      rw [w3]
      show Wp (if acc.length < LINE then _ else _) Q
      rw [if_pos w4]
      exact loopC_wp I hc hd hs r _ w5
    · rename_i hb
      rw [if_neg hb] at w2
      exact loopC_wp I hc hd hs r _ w2
end
theorem fn_wp {n : Nat} {b : Es} {as : List AV} {h : Hh} {Q : AV → Hh → Prop} (w : WpS (b (as.map some ++ List.replicate (n - as.length) none) h) { nx := fun _ h => Q .non h, rt := Q }) : Wp (mFn n b as h) Q := by
  unfold mFn
  revert w
  cases b (as.map some ++ List.replicate (n - as.length) none) h with
  | nx s h => exact fun w => w
  | rt s h => exact fun w => w
  | _ => exact fun w => w.elim
section
variable {m n : Es} {me ma mb : Ev} {ea : Ea} {t : Et} {sl : Sl} {h : Hh} {D : En} {Q : AV → Hh → Prop} {Qb : Bool → Hh → Prop}
@[simp] theorem wp_seq' : WpS (mSeq m n sl h) D ↔ WpS (m sl h) { D with nx := fun s h => WpS (n s h) D } := wp_seq
@[simp] theorem wps_nx {s : Sl} : WpS (.nx s h) D ↔ D.nx s h := Iff.rfl
@[simp] theorem wps_rt {v : AV} : WpS (.rt v h) D ↔ D.rt v h := Iff.rfl
@[simp] theorem wps_bk {s : Sl} : WpS (.bk s h) D ↔ D.bk s h := Iff.rfl
@[simp] theorem wps_ct {s : Sl} : WpS (.ct s h) D ↔ D.ct s h := Iff.rfl
@[simp] theorem wp_set {i : Nat} : WpS (mSet i me sl h) D ↔ Wp (me sl h) fun v h => D.nx (sl.set i (some v)) h := by unfold mSet; rw [wp_bindS]; exact Iff.rfl
@[simp] theorem wp_ret : WpS (mRet me sl h) D ↔ Wp (me sl h) D.rt := by unfold mRet; rw [wp_bindS]; exact Iff.rfl
@[simp] theorem wp_expr : WpS (mExpr me sl h) D ↔ Wp (me sl h) fun _ h => D.nx sl h := by unfold mExpr; rw [wp_bindS]; exact Iff.rfl
@[simp] theorem wp_skip : WpS (mSkip sl h) D ↔ D.nx sl h := Iff.rfl
@[simp] theorem wp_break : WpS (mBreak sl h) D ↔ D.bk sl h := Iff.rfl
@[simp] theorem wp_cont : WpS (mCont sl h) D ↔ D.ct sl h := Iff.rfl
@[simp] theorem wp_if : WpS (mIf t m n sl h) D ↔ Wp (t sl h) fun b h => if b = true then WpS (m sl h) D else WpS (n sl h) D := by
  unfold mIf
  rw [wp_bindS]
  cases t sl h with
  | ok b h => cases b <;> exact Iff.rfl
  | _ => exact Iff.rfl
@[simp] theorem wp_par {i j : Nat} : WpS (mPar i j ma mb sl h) D ↔ Wp (ma sl h) fun v h1 => Wp (mb sl h1) fun w h2 => D.nx ((sl.set i (some v)).set j (some w)) h2 := by unfold mPar; rw [wp_bindS]; simp only [wp_bindS]; exact Iff.rfl
@[simp] theorem wp_asg {g : Eg} : WpS (mAsg g me sl h) D ↔ Wp (me sl h) fun v h1 => WpO (g [v] sl h1) D.nx := by
  unfold mAsg
  rw [wp_bindS]
  cases me sl h with
  | ok v h1 =>
    show WpS (match g [v] sl h1 with | some (sl', h2) => .nx sl' h2 | none => .no) D ↔ WpO (g [v] sl h1) D.nx
    cases g [v] sl h1 with
    | none => exact Iff.rfl
    | some z => exact Iff.rfl
  | _ => exact Iff.rfl
@[simp] theorem wp_for {src : Ei} {g : Eg} : WpS (mFor src g m sl h) D ↔ Wp (src sl h) fun s h1 => WpS (loopF s.chks g m s.items sl h1) D := by unfold mFor; rw [wp_bindS]
@[simp] theorem wp_aug {i : Nat} {f : Op2} {x : AV} (e : sl[i]? = some (some x)) : WpS (mAug i f me sl h) D ↔ Wp (me sl h) fun y h1 => Wp (R.of (f x y h1)) fun v h2 => D.nx (sl.set i (some v)) h2 := by
  unfold mAug
  rw [e]
  show WpS ((me sl h).bindS sl _) D ↔ _
  rw [wp_bindS]
  cases me sl h with
  | ok y h1 =>
    show WpS (match f x y h1 with | some (v, h2) => .nx (sl.set i (some v)) h2 | none => .no) D ↔ Wp (R.of (f x y h1)) _
    cases f x y h1 with
    | none => exact Iff.rfl
    | some z => exact Iff.rfl
  | _ => exact Iff.rfl
@[simp] theorem wp_C {v : AV} : Wp (mC v sl h) Q ↔ Q v h := Iff.rfl
@[simp] theorem wp_bin {f : Op2} : Wp (mBin f ma mb sl h) Q ↔ Wp (ma sl h) fun x h1 => Wp (mb sl h1) fun y h2 => Wp (R.of (f x y h2)) Q := by unfold mBin; simp only [wp_bind]
@[simp] theorem wp_un {f : Op1} : Wp (mUn f ma sl h) Q ↔ Wp (ma sl h) fun x h1 => Wp (R.of (f x h1)) Q := by unfold mUn; simp only [wp_bind]
@[simp] theorem wp_b1 {f : OpN} : Wp (mB1 f ea sl h) Q ↔ Wp (ea sl h) fun x h1 => Wp (R.of (f x h1)) Q := by unfold mB1; simp only [wp_bind]
@[simp] theorem wp_nil {Q : List AV → Hh → Prop} : Wp (mNil sl h) Q ↔ Q [] h := Iff.rfl
@[simp] theorem wp_cons {Q : List AV → Hh → Prop} : Wp (mCons me ea sl h) Q ↔ Wp (me sl h) fun v h1 => Wp (ea sl h1) fun vs h2 => Q (v :: vs) h2 := by unfold mCons; simp only [wp_bind, wp_ok]
@[simp] theorem wp_tup : Wp (mTup ea sl h) Q ↔ Wp (ea sl h) fun vs h1 => vs.length ≤ LINE ∧ Q (.ref h1.length) (h1 ++ [.tup vs]) := by
  unfold mTup
  rw [wp_bind]
  cases ea sl h with
  | ok vs h1 =>
    show Wp (if vs.length ≤ LINE then _ else _) Q ↔ (vs.length ≤ LINE ∧ _)
    split
    · rename_i hl; simp [hl]
    · rename_i hl; simp [hl, Wp]
  | _ => exact Iff.rfl
@[simp] theorem wp_lst : Wp (mLst ea sl h) Q ↔ Wp (ea sl h) fun vs h1 => vs.length ≤ LINE ∧ Q (.ref h1.length) (h1 ++ [.lst vs]) := by
  unfold mLst
  rw [wp_bind]
  cases ea sl h with
  | ok vs h1 =>
    show Wp (if vs.length ≤ LINE then _ else _) Q ↔ (vs.length ≤ LINE ∧ _)
    split
    · rename_i hl; simp [hl]
    · rename_i hl; simp [hl, Wp]
  | _ => exact Iff.rfl
@[simp] theorem wp_B : Wp (mB me sl h) Qb ↔ Wp (me sl h) fun v h1 => ∃ b, v = .bl b ∧ Qb b h1 := by
  unfold mB
  rw [wp_bind]
  cases me sl h with
  | ok v h1 => cases v <;> simp [Wp]
  | _ => exact Iff.rfl
@[simp] theorem wp_andV : Wp (mAndV ma mb sl h) Q ↔ Wp (ma sl h) fun v h1 => ∃ b, v = .bl b ∧ if b = true then Wp (mb sl h1) Q else Q (.bl false) h1 := by
  unfold mAndV
  rw [wp_bind]
  cases ma sl h with
  | ok v h1 => cases v with
    | bl b => cases b <;> simp [Wp]
    | _ => simp [Wp]
  | _ => exact Iff.rfl
@[simp] theorem wp_orV : Wp (mOrV ma mb sl h) Q ↔ Wp (ma sl h) fun v h1 => ∃ b, v = .bl b ∧ if b = true then Q (.bl true) h1 else Wp (mb sl h1) Q := by
  unfold mOrV
  rw [wp_bind]
  cases ma sl h with
  | ok v h1 => cases v with
    | bl b => cases b <;> simp [Wp]
    | _ => simp [Wp]
  | _ => exact Iff.rfl
@[simp] theorem wp_notV : Wp (mNotV ma sl h) Q ↔ Wp (ma sl h) fun v h1 => ∃ b, v = .bl b ∧ Q (.bl (!b)) h1 := by
  unfold mNotV
  rw [wp_bind]
  cases ma sl h with
  | ok v h1 => cases v <;> simp [Wp]
  | _ => exact Iff.rfl
variable {ta tb : Et}
@[simp] theorem wp_and : Wp (mAnd ta tb sl h) Qb ↔ Wp (ta sl h) fun b h1 => if b = true then Wp (tb sl h1) Qb else Qb false h1 := by
  unfold mAnd
  rw [wp_bind]
  cases ta sl h with
  | ok b h1 => cases b <;> exact Iff.rfl
  | _ => exact Iff.rfl
@[simp] theorem wp_or : Wp (mOr ta tb sl h) Qb ↔ Wp (ta sl h) fun b h1 => if b = true then Qb true h1 else Wp (tb sl h1) Qb := by
  unfold mOr
  rw [wp_bind]
  cases ta sl h with
  | ok b h1 => cases b <;> exact Iff.rfl
  | _ => exact Iff.rfl
@[simp] theorem wp_not : Wp (mNot ta sl h) Qb ↔ Wp (ta sl h) fun b h1 => Qb (!b) h1 := by unfold mNot; rw [wp_bind]; exact Iff.rfl
@[simp] theorem wp_ifE : Wp (mIfE ta ma mb sl h) Q ↔ Wp (ta sl h) fun b h1 => if b = true then Wp (ma sl h1) Q else Wp (mb sl h1) Q := by
  unfold mIfE
  rw [wp_bind]
  cases ta sl h with
  | ok b h1 => cases b <;> exact Iff.rfl
  | _ => exact Iff.rfl
@[simp] theorem wp_yes : Wp (mYes sl h) Qb ↔ Qb true h := Iff.rfl
@[simp] theorem wp_var0 {v : AV} {r : Sl} : Wp (mVar 0 (some v :: r) h) Q ↔ Q v h := Iff.rfl
@[simp] theorem wp_varS {i : Nat} {v : Option AV} {r : Sl} : Wp (mVar (i + 1) (v :: r) h) Q ↔ Wp (mVar i r h) Q := by unfold mVar; rw [List.getElem?_cons_succ]
theorem wp_var {i : Nat} {v : AV} (e : sl[i]? = some (some v)) : Wp (mVar i sl h) Q ↔ Q v h := by unfold mVar; rw [e]; exact Iff.rfl
@[simp] theorem wp_call {f : Fn} : Wp (mCall f ea sl h) Q ↔ Wp (ea sl h) fun vs h1 => Wp (f vs h1) Q := by unfold mCall; rw [wp_bind]
@[simp] theorem wp_meth {T : String} {op : OpM} : Wp (mMeth T op me ea sl h) Q ↔ Wp (me sl h) fun x h1 => isTy T h1 x = true ∧ Wp (ea sl h1) fun vs h2 => Wp (R.of (op x vs h2)) Q := by
  unfold mMeth
  rw [wp_bind]
  cases me sl h with
  | ok x h1 =>
    show Wp (if isTy T h1 x = true then _ else _) Q ↔ (isTy T h1 x = true ∧ _)
    split
    · rename_i hl; simp [hl]
    · rename_i hl; simp [hl, Wp]
  | _ => exact Iff.rfl
theorem wp_of {o : Option (AV × Hh)} : Wp (R.of o) Q ↔ ∃ v h, o = some (v, h) ∧ Q v h := by
  cases o with
  | none => simp [R.of, Wp]
  | some z => obtain ⟨z1, z2⟩ := z; exact ⟨fun w => ⟨z1, z2, rfl, w⟩, fun ⟨_, _, e, w⟩ => by cases e; exact w⟩
@[simp] theorem wp_iter {Qs : Src → Hh → Prop} : Wp (mIter me sl h) Qs ↔ Wp (me sl h) fun v h1 => ∃ s, srcOf h1 v = some s ∧ Qs s h1 := by
  unfold mIter
  rw [wp_bind]
  cases me sl h with
  | ok v h1 =>
    show Wp (match srcOf h1 v with | some s => R.ok s h1 | none => .no) Qs ↔ ∃ s, srcOf h1 v = some s ∧ Qs s h1
    cases srcOf h1 v <;> simp [Wp]
  | _ => exact Iff.rfl
@[simp] theorem wp_enum {Qs : Src → Hh → Prop} : Wp (mEnum me sl h) Qs ↔ Wp (me sl h) fun v h1 => ∃ s, srcEnum h1 v = some s ∧ Qs s h1 := by
  unfold mEnum
  rw [wp_bind]
  cases me sl h with
  | ok v h1 =>
    show Wp (match srcEnum h1 v with | some s => R.ok s h1 | none => .no) Qs ↔ ∃ s, srcEnum h1 v = some s ∧ Qs s h1
    cases srcEnum h1 v <;> simp [Wp]
  | _ => exact Iff.rfl
@[simp] theorem wp_slice {ml mh : Eo} : Wp (mSlice me ml mh sl h) Q ↔ Wp (me sl h) fun x h1 => Wp (ml sl h1) fun l h2 => Wp (mh sl h2) fun u h3 => Wp (R.of (opSlice x l u h3)) Q := by unfold mSlice; simp only [wp_bind]
@[simp] theorem wp_no {Qo : Option Int → Hh → Prop} : Wp (mNo sl h) Qo ↔ Qo none h := Iff.rfl
@[simp] theorem wp_some {Qo : Option Int → Hh → Prop} : Wp (mSome me sl h) Qo ↔ Wp (me sl h) fun v h1 => ∃ i, v = .int i ∧ Qo (some i) h1 := by
  unfold mSome
  rw [wp_bind]
  cases me sl h with
  | ok v h1 => cases v <;> simp [Wp]
  | _ => exact Iff.rfl
@[simp] theorem wp_isi {ts : List Ty} : Wp (mIsi ts me sl h) Q ↔ Wp (me sl h) fun v h1 => ∃ t, tyOf h1 v = some t ∧ Q (.bl (ts.any fun u => t.sub u)) h1 := by
  unfold mIsi
  rw [wp_bind]
  cases me sl h with
  | ok v h1 =>
    show Wp (match tyOf h1 v with | some t => R.ok _ h1 | none => .no) Q ↔ ∃ t, tyOf h1 v = some t ∧ Q (.bl (ts.any fun u => t.sub u)) h1
    cases tyOf h1 v <;> simp [Wp]
  | _ => exact Iff.rfl
@[simp] theorem wp_lc {src : Ei} {vs : List Nat} {g : Eg} {tt : Et} {te : Ev} : Wp (mLc src vs g tt te sl h) Q ↔ Wp (src sl h) fun s h1 => Wp (loopC s.chks (wipeA sl vs) h1.length g tt te s.items (h1 ++ [.lst []])) Q := by unfold mLc; rw [wp_bind]
@[simp] theorem wp_callK {f : Fn} {pp : List Nat} {a b : Nat} {ek : Ea} : Wp (mCallK f pp a b ea ek sl h) Q ↔ Wp (ea sl h) fun vs h1 => Wp (ek sl h1) fun zs h2 => (perm pp a b vs zs).length = pp.length ∧ Wp (f (perm pp a b vs zs) h2) Q := by
  unfold mCallK
  rw [wp_bind]
  cases ea sl h with
  | ok vs h1 =>
    show Wp ((ek sl h1).bind _) Q ↔ Wp (ek sl h1) _
    rw [wp_bind]
    cases ek sl h1 with
    | ok zs h2 =>
      show Wp (if (perm pp a b vs zs).length = pp.length then _ else _) Q ↔ _
      split
      · rename_i hl; simp [hl]
      · rename_i hl; simp [hl, Wp]
    | _ => exact Iff.rfl
  | _ => exact Iff.rfl
@[simp] theorem wp_range1 {Qs : Src → Hh → Prop} : Wp (mRange1 me sl h) Qs ↔ Wp (me sl h) fun v h1 => ∃ j, v = .int j ∧ small60 j = true ∧ Qs ⟨rangeIt 0 j.toNat, []⟩ h1 := by
  unfold mRange1
  rw [wp_bind]
  cases me sl h with
  | ok v h1 => cases v with
    | int j =>
      show Wp (if small60 j = true then R.ok _ h1 else .no) Qs ↔ ∃ j', AV.int j = .int j' ∧ small60 j' = true ∧ Qs ⟨rangeIt 0 j'.toNat, []⟩ h1
      split
      · rename_i hs; simp [Wp, hs]
      · rename_i hs
        simp [Wp]
        intro q; exact absurd q hs
    | _ => simp [Wp]
  | _ => exact Iff.rfl
end
end Det

/-! Det13: operators at known values. -/
namespace Det
open PySem PySem.Spec PyProof.Rows L2
section
variable {h : Hh} {i j : Int} {s t : List Nat} {a b : Bool} {n k : Nat} {v : AV}
@[simp] theorem var0 {r : Sl} : mVar 0 (some v :: r) h = .ok v h := rfl
@[simp] theorem varS {o : Option AV} {r : Sl} : mVar (n + 1) (o :: r) h = mVar n r h := by unfold mVar; rw [List.getElem?_cons_succ]
@[simp] theorem evC {sl : Sl} : mC v sl h = .ok v h := rfl
@[simp] theorem add_ii : opAdd (.int i) (.int j) h = some (.int (i + j), h) := rfl
@[simp] theorem add_ss : opAdd (.str s) (.str t) h = if s.length + t.length ≤ LINE then some (.str (s ++ t), h) else none := rfl
@[simp] theorem iadd_ii : opIAdd (.int i) (.int j) h = some (.int (i + j), h) := rfl
@[simp] theorem iadd_ss : opIAdd (.str s) (.str t) h = if s.length + t.length ≤ LINE then some (.str (s ++ t), h) else none := rfl
@[simp] theorem sub_ii : opSub (.int i) (.int j) h = some (.int (i - j), h) := rfl
@[simp] theorem mul_ii : opMul (.int i) (.int j) h = if (fits i && fits j) = true then some (.int (i * j), h) else none := rfl
@[simp] theorem div_ii : opDiv (.int i) (.int j) h = if 0 < j ∧ fits j = true then some (.int (i / j), h) else none := rfl
@[simp] theorem mod_ii : opMod (.int i) (.int j) h = if 0 < j then some (.int (i % j), h) else none := rfl
@[simp] theorem pow_ii : opPow (.int i) (.int j) h = if 0 ≤ j ∧ j ≤ 1000 ∧ fits i = true then some (.int (i ^ j.toNat), h) else none := rfl
@[simp] theorem neg_i : opNeg (.int i) h = some (.int (-i), h) := rfl
@[simp] theorem eq_ii : opEq (.int i) (.int j) h = some (.bl (i == j), h) := rfl
@[simp] theorem eq_ss : opEq (.str s) (.str t) h = some (.bl (s == t), h) := rfl
@[simp] theorem eq_bb : opEq (.bl a) (.bl b) h = some (.bl (a == b), h) := rfl
@[simp] theorem ne_ii : opNe (.int i) (.int j) h = some (.bl (!(i == j)), h) := rfl
@[simp] theorem ne_ss : opNe (.str s) (.str t) h = some (.bl (!(s == t)), h) := rfl
@[simp] theorem ne_bb : opNe (.bl a) (.bl b) h = some (.bl (!(a == b)), h) := rfl
@[simp] theorem lt_ii : opLt (.int i) (.int j) h = some (.bl (decide (i < j)), h) := rfl
@[simp] theorem le_ii : opLe (.int i) (.int j) h = some (.bl (decide (i ≤ j)), h) := rfl
@[simp] theorem gt_ii : opGt (.int i) (.int j) h = some (.bl (decide (j < i)), h) := rfl
@[simp] theorem ge_ii : opGe (.int i) (.int j) h = some (.bl (decide (j ≤ i)), h) := rfl
@[simp] theorem is_non : opIs v .non h = some (.bl (decide (v = .non)), h) := rfl
@[simp] theorem isNot_non : opIsNot v .non h = some (.bl (!decide (v = .non)), h) := rfl
@[simp] theorem ix_s : opIx (.str s) (.int i) h = if s.length ≤ LINE then (atA s i).map fun ch => (.str [ch], h) else none := rfl
@[simp] theorem ix_con {k : CK} : opIx (.con k) (.str s) h = match k.dic? with
    | some kvs => (conA kvs s).map fun v => (v, h)
    | none => none := rfl
def ixO (o : Option AO) (i : Int) (h : Hh) : Option (AV × Hh) := match o with
  | some (.dic kvs) => (valA kvs (.inl i)).map fun v => (v, h)
  | some (.lst xs) => (atA xs i).map fun v => (v, h)
  | some (.rol xs) => (atA xs i).map fun v => (v, h)
  | some (.tup xs) => (atA xs i).map fun v => (v, h)
  | _ => none
@[simp] theorem ix_ref : opIx (.ref n) (.int i) h = ixO h[n]? i h := by
  unfold opIx ixO dicOf rdL rdT
  simp only [keyOf]
  cases h[n]? with
  | none => rfl
  | some o => cases o <;> rfl
@[simp] theorem ixO_lst {xs : List AV} : ixO (some (.lst xs)) i h = (atA xs i).map fun v => (v, h) := rfl
@[simp] theorem ixO_tup {xs : List AV} : ixO (some (.tup xs)) i h = (atA xs i).map fun v => (v, h) := rfl
@[simp] theorem ixO_rol {xs : List AV} : ixO (some (.rol xs)) i h = (atA xs i).map fun v => (v, h) := rfl
theorem atA_nat {α : Type} {xs : List α} {m : Nat} {x : α} (e : xs[m]? = some x) : atA xs (m : Int) = some x := by
  unfold atA
  rw [if_pos (by omega)]
  simpa using e
theorem atA_int {α : Type} {xs : List α} {i : Int} {x : α} (h0 : 0 ≤ i) (e : xs[i.toNat]? = some x) : atA xs i = some x := by
  unfold atA
  rw [if_pos h0]
  exact e
theorem atA_lt {α : Type} {xs : List α} {i : Int} (h0 : 0 ≤ i) (h1 : i < xs.length) : ∃ x, atA xs i = some x ∧ x ∈ xs := by
  have hl : i.toNat < xs.length := by omega
  exact ⟨xs[i.toNat], atA_int h0 (List.getElem?_eq_getElem hl), List.getElem_mem hl⟩
@[simp] theorem at0 {α : Type} {x : α} {r : List α} : atA (x :: r) 0 = some x := rfl
@[simp] theorem at1 {α : Type} {x y : α} {r : List α} : atA (x :: y :: r) 1 = some y := rfl
@[simp] theorem at2 {α : Type} {x y z : α} {r : List α} : atA (x :: y :: z :: r) 2 = some z := rfl
@[simp] theorem len_s : bLen [.str s] h = if s.length ≤ LINE then some (.int s.length, h) else none := rfl
def lenO (o : Option AO) (h : Hh) : Option (AV × Hh) := match o with
  | some (.lst xs) => some (.int xs.length, h)
  | some (.rol xs) => some (.int xs.length, h)
  | some (.tup xs) => some (.int xs.length, h)
  | some (.dic xs) => some (.int xs.length, h)
  | _ => none
@[simp] theorem len_scr {ns : List Int} : bLen [.scr ns] h = some (.int ns.length, h) := by
  show some (AV.int ((ns.map AV.int).length : Nat), h) = _
  simp
@[simp] theorem rdL_ref : rdL h (.ref n) = match h[n]? with
    | some (.lst xs) => some xs
    | some (.rol xs) => some xs
    | _ => none := rfl
@[simp] theorem rdT_ref : rdT h (.ref n) = match h[n]? with
    | some (.tup xs) => some xs
    | _ => none := rfl
@[simp] theorem rdL_scr {ns : List Int} : rdL h (.scr ns) = some (ns.map .int) := rfl
@[simp] theorem lsAt_ref : lsAt h (.ref n) = match h[n]? with
    | some (.lst xs) => some (n, xs)
    | _ => none := rfl
@[simp] theorem ty_ref : isTy "list" h (.ref n) = (rdL h (.ref n)).isSome := by simp [isTy]
@[simp] theorem ty_str : isTy "str" h (.str s) = true := rfl
@[simp] theorem tyOf_s : tyOf h (.str s) = some .str := rfl
@[simp] theorem tyOf_i : tyOf h (.int i) = some .int := rfl
@[simp] theorem tyOf_b : tyOf h (.bl a) = some .bool := rfl
@[simp] theorem tyOf_n : tyOf h .non = some .non := rfl
@[simp] theorem tyOf_ref : tyOf h (.ref n) = match h[n]? with
    | some (.lst _) => some .list
    | some (.rol _) => some .list
    | some (.tup _) => some .tuple
    | some (.dic _) => some .dict
    | _ => none := rfl
@[simp] theorem append_at {xs : List AV} (e : h[n]? = some (.lst xs)) : mAppend (.ref n) [v] h = if xs.length < LINE then some (.non, h.set n (.lst (xs ++ [v]))) else none := by
  unfold mAppend; simp only [lsAt_ref, e]
theorem pop_at {xs : List AV} (e : h[n]? = some (.lst (xs ++ [v]))) : mPop (.ref n) [] h = some (v, h.set n (.lst xs)) := by
  unfold mPop; simp [lsAt_ref, e]
@[simp] theorem in_ss {ch : Nat} : opIn (.str [ch]) (.str t) h = some (.bl (decide (ch ∈ t)), h) := rfl
@[simp] theorem notIn_ss {ch : Nat} : opNotIn (.str [ch]) (.str t) h = some (.bl (!decide (ch ∈ t)), h) := rfl
@[simp] theorem in_con {k : CK} : opIn (.str s) (.con k) h = (match k.dic? with
    | some kvs => some (conA kvs s).isSome
    | none => none).map fun b => (.bl b, h) := by
  unfold opIn inB
  cases s with
  | nil => rfl
  | cons x r => cases r <;> rfl
@[simp] theorem notIn_con {k : CK} : opNotIn (.str s) (.con k) h = (match k.dic? with
    | some kvs => some (conA kvs s).isSome
    | none => none).map fun b => (.bl (!b), h) := by
  unfold opNotIn inB
  cases s with
  | nil => rfl
  | cons x r => cases r <;> rfl
theorem reify_strs (h : Hh) (f : Nat) : ∀ {ss : List (List Nat)}, mapO (reify (f + 1) h) (ss.map AV.str) = some (ss.map D.str)
  | [] => rfl
  | s :: r => by
    have ih := reify_strs h f (ss := r)
    rw [List.map_cons]
    unfold mapO
    rw [ih]
    rfl
theorem fine_strs : ∀ {ss : List (List Nat)}, (∀ s ∈ ss, ∀ c ∈ s, c < 1114112) → D.fines (ss.map D.str) = true
  | [], _ => rfl
  | s :: r, hs => by
    show (D.fine (.str s) && D.fines (r.map D.str)) = true
    rw [fine_strs fun x hx => hs x (List.mem_cons_of_mem _ hx), Bool.and_true]
    unfold D.fine
    rw [List.all_eq_true]
    exact fun c hc => decide_eq_true (hs s List.mem_cons_self c hc)
theorem eq_empty {ss : List (List Nat)} (ex : h[n]? = some (.lst (ss.map .str))) (ey : h[k]? = some (.lst [])) (hl : ∀ s ∈ ss, ∀ c ∈ s, c < 1114112) : opEq (.ref n) (.ref k) h = some (.bl (decide (ss = [])), h) := by
  have e1 : reify 40 h (.ref n) = some (.lst (ss.map D.str)) := by
    show (match h[n]? with
      | some (.lst xs) => (mapO (reify 39 h) xs).map D.lst
      | some (.rol xs) => (mapO (reify 39 h) xs).map D.lst
      | some (.tup xs) => (mapO (reify 39 h) xs).map D.tup
      | _ => none) = _
    rw [ex]
    simp only [reify_strs]
    rfl
  have e2 : reify 40 h (.ref k) = some (.lst []) := by
    show (match h[k]? with
      | some (.lst xs) => (mapO (reify 39 h) xs).map D.lst
      | some (.rol xs) => (mapO (reify 39 h) xs).map D.lst
      | some (.tup xs) => (mapO (reify 39 h) xs).map D.tup
      | _ => none) = _
    rw [ey]
    rfl
  have f1 : D.fine (.lst (ss.map D.str)) = true := by
    unfold D.fine
    exact fine_strs hl
  have f2 : D.fine (.lst []) = true := by decide
  show (match reify 40 h (.ref n), reify 40 h (.ref k) with
      | some d, some e => if (d.fine && e.fine) = true then some (D.eqv d e) else none
      | _, _ => none).map (fun b => (AV.bl b, h)) = _
  rw [e1, e2]
  simp only [f1, f2]
  cases ss <;> rfl
@[simp] theorem cut_s {lo hi : Option Int} : opSlice (.str s) lo hi h = if s.length ≤ LINE then some (.str (cutA s lo hi), h) else none := rfl
@[simp] theorem cut_scr {ns : List Int} {lo hi : Option Int} : opSlice (.scr ns) lo hi h = some (.ref h.length, h ++ [.lst (cutA (ns.map .int) lo hi)]) := rfl
@[simp] theorem cut_ref {lo hi : Option Int} : opSlice (.ref n) lo hi h = match rdL h (.ref n) with
    | some xs => some (.ref h.length, h ++ [.lst (cutA xs lo hi)])
    | none => match rdT h (.ref n) with
      | some xs => if cutIx xs.length 0 lo = 0 ∧ cutIx xs.length xs.length hi = xs.length then none else some (.ref h.length, h ++ [.tup (cutA xs lo hi)])
      | none => none := rfl
theorem cutA_to {α : Type} (xs : List α) (m : Nat) : cutA xs none (some (m : Int)) = xs.take m := by
  unfold cutA
  have e : cutIx xs.length 0 none = 0 := rfl
  have e2 : cutIx xs.length xs.length (some (m : Int)) = min m xs.length := by rw [cutIx_eq]; exact HT.sIx_nat _ _ _
  rw [e, e2]
  simp
theorem cutA_from {α : Type} (xs : List α) (m : Nat) : cutA xs (some (m : Int)) none = xs.drop m := by
  unfold cutA
  have e : cutIx xs.length xs.length none = xs.length := rfl
  have e2 : cutIx xs.length 0 (some (m : Int)) = min m xs.length := by rw [cutIx_eq]; exact HT.sIx_nat _ _ _
  rw [e, e2]
  by_cases hm : m ≤ xs.length
  · rw [Nat.min_eq_left hm]
    apply List.take_of_length_le
    simp
  · rw [Nat.min_eq_right (by omega)]
    simp
    omega
@[simp] theorem src_s : srcOf h (.str s) = some ⟨s.map fun ch => [.str [ch]], []⟩ := rfl
@[simp] theorem src_ref : srcOf h (.ref n) = match h[n]? with
    | some (.lst xs) => some ⟨one xs, [(true, .ref n, xs)]⟩
    | some (.rol xs) => some ⟨one xs, [(true, .ref n, xs)]⟩
    | some (.tup xs) => some ⟨one xs, [(false, .ref n, xs)]⟩
    | _ => none := by
  unfold srcOf
  simp only [rdL_ref, rdT_ref]
  cases h[n]? with
  | none => rfl
  | some o => cases o <;> rfl
@[simp] theorem enum_s : srcEnum h (.str s) = some ⟨pairsFrom 0 (s.map fun ch => .str [ch]), []⟩ := rfl
@[simp] theorem enum_ref : srcEnum h (.ref n) = match h[n]? with
    | some (.lst xs) => some ⟨pairsFrom 0 xs, [(true, .ref n, xs)]⟩
    | some (.rol xs) => some ⟨pairsFrom 0 xs, [(true, .ref n, xs)]⟩
    | _ => none := by
  unfold srcEnum
  simp only [rdL_ref]
  cases h[n]? with
  | none => rfl
  | some o => cases o <;> rfl
@[simp] theorem chk_nil : chkOk [] h = true := rfl
theorem chk_lst {xs : List AV} (e : h[n]? = some (.lst xs)) : chkOk [(true, .ref n, xs)] h = true := by simp [chkOk, rdB, e]
theorem chk_tup {xs : List AV} (e : h[n]? = some (.tup xs)) : chkOk [(false, .ref n, xs)] h = true := by simp [chkOk, rdB, e]
theorem chk_scr {ns : List Int} : chkOk [(true, .scr ns, ns.map .int)] h = true := by simp [chkOk, rdB]
@[simp] theorem gn {sl : Sl} : mGn n [v] sl h = some (sl.set n (some v), h) := rfl
@[simp] theorem gt2 {gs : List Eg} {x y : AV} {sl : Sl} : mGt gs [x, y] sl h = mGs gs [x, y] sl h := rfl
@[simp] theorem gt1 {gs : List Eg} {x : AV} {sl : Sl} : mGt gs [x] sl h = match rdT h x with
    | some xs => mGs gs xs sl h
    | none => none := rfl
@[simp] theorem gs_nil {sl : Sl} : mGs [] [] sl h = some (sl, h) := rfl
@[simp] theorem gs_cons {g : Eg} {gs : List Eg} {vs : List AV} {sl : Sl} : mGs (g :: gs) (v :: vs) sl h = match g [v] sl h with
    | some (sl1, h1) => mGs gs vs sl1 h1
    | none => none := rfl
@[simp] theorem gsub {mo mi : Ev} {sl : Sl} : mGsub mo mi [v] sl h = match mo sl h with
    | .ok o h1 => match mi sl h1 with
      | .ok i h2 => (opSet o i v h2).map fun h3 => (sl, h3)
      | _ => none
    | _ => none := rfl
theorem set_lst {xs : List AV} {m : Nat} (e : h[n]? = some (.lst xs)) (hm : m < xs.length) : opSet (.ref n) (.int (m : Int)) v h = some (h.set n (.lst (xs.set m v))) := by
  have : L2.ixN xs.length (m : Int) = some m := by unfold L2.ixN; rw [if_pos (by omega), if_pos (by omega)]; simp
  simp only [opSet, e, this]
@[simp] theorem max_ii : bMax [.int i, .int j] h = some (.int (if j > i then j else i), h) := rfl
@[simp] theorem min_ii : bMin [.int i, .int j] h = some (.int (if j < i then j else i), h) := rfl
@[simp] theorem int_b : bInt [.bl a] h = some (.int (if a then 1 else 0), h) := rfl
@[simp] theorem int_i : bInt [.int i] h = some (.int i, h) := rfl
theorem wp_chain {f g : Op2} {ma mb mc : Ev} {sl : Sl} {Q : AV → Hh → Prop} : Wp (mChain f g ma mb mc sl h) Q ↔ Wp (ma sl h) fun x h1 => Wp (mb sl h1) fun y h2 => Wp (R.of (f x y h2)) fun r h3 => ∃ b, r = .bl b ∧ if b = true then Wp (mc sl h3) fun z h4 => Wp (R.of (g y z h4)) Q else Q (.bl false) h3 := by
  unfold mChain
  simp only [wp_bind]
  cases ma sl h with
  | ok x h1 =>
    show Wp (mb sl h1) _ ↔ Wp (mb sl h1) _
    cases mb sl h1 with
    | ok y h2 =>
      show Wp (R.of (f x y h2)) _ ↔ Wp (R.of (f x y h2)) _
      cases R.of (f x y h2) with
      | ok r h3 => cases r with
        | bl b => cases b with
          | false => simp [Wp]
          | true =>
            show Wp ((mc sl h3).bind fun z h4 => R.of (g y z h4)) Q ↔ ∃ b, AV.bl true = .bl b ∧ if b = true then Wp (mc sl h3) (fun z h4 => Wp (R.of (g y z h4)) Q) else Q (.bl false) h3
            simp
        | _ => simp [Wp]
      | _ => exact Iff.rfl
    | _ => exact Iff.rfl
  | _ => exact Iff.rfl
end
end Det

/-! Det14: values as data. -/
namespace Det
open PySem PySem.Spec PyProof.Rows L2
mutual
def Rp (h : Hh) : D → AV → Prop
  | .non, v => v = .non
  | .bl b, v => v = .bl b
  | .int i, v => v = .int i
  | .str s, v => v = .str s
  | .lst ds, v => ∃ n xs, v = .ref n ∧ h[n]? = some (.lst xs) ∧ RpL h ds xs
  | .tup ds, v => ∃ n xs, v = .ref n ∧ h[n]? = some (.tup xs) ∧ RpL h ds xs
def RpL (h : Hh) : List D → List AV → Prop
  | [], xs => xs = []
  | d :: ds, xs => ∃ y ys, xs = y :: ys ∧ Rp h d y ∧ RpL h ds ys
end
mutual
theorem Rp.kp {h h' : Hh} (k : Kp [] h h') : ∀ {d : D} {v : AV}, Rp h d v → Rp h' d v
  | .non, _, r => r
  | .bl _, _, r => r
  | .int _, _, r => r
  | .str _, _, r => r
  | .lst ds, _, r => by
    obtain ⟨n, xs, rfl, e, rs⟩ := (by simpa only [Rp] using r : ∃ n xs, _ ∧ _ ∧ _)
    show Rp h' (.lst ds) (.ref n)
    simp only [Rp]
    exact ⟨n, xs, rfl, k.get0 e, RpL.kp k rs⟩
  | .tup ds, _, r => by
    obtain ⟨n, xs, rfl, e, rs⟩ := (by simpa only [Rp] using r : ∃ n xs, _ ∧ _ ∧ _)
    show Rp h' (.tup ds) (.ref n)
    simp only [Rp]
    exact ⟨n, xs, rfl, k.get0 e, RpL.kp k rs⟩
theorem RpL.kp {h h' : Hh} (k : Kp [] h h') : ∀ {ds : List D} {vs : List AV}, RpL h ds vs → RpL h' ds vs
  | [], _, r => r
  | d :: ds, _, r => by
    obtain ⟨y, ys, rfl, r1, r2⟩ := (by simpa only [RpL] using r : ∃ y ys, _ ∧ _ ∧ _)
    simp only [RpL]
    exact ⟨y, ys, rfl, Rp.kp k r1, RpL.kp k r2⟩
end
section
variable {h h' : Hh} {n : Nat} {ds : List D} {xs : List AV} {v : AV}
theorem Rp.int {i : Int} : Rp h (.int i) (.int i) := by simp [Rp]
theorem Rp.str {i : List Nat} : Rp h (.str i) (.str i) := by simp [Rp]
theorem Rp.bl {i : Bool} : Rp h (.bl i) (.bl i) := by simp [Rp]
theorem Rp.non : Rp h .non .non := by simp [Rp]
theorem Rp.lst (e : h[n]? = some (.lst xs)) (r : RpL h ds xs) : Rp h (.lst ds) (.ref n) := by
  simp only [Rp]
  exact ⟨n, xs, rfl, e, r⟩
theorem Rp.tup (e : h[n]? = some (.tup xs)) (r : RpL h ds xs) : Rp h (.tup ds) (.ref n) := by
  simp only [Rp]
  exact ⟨n, xs, rfl, e, r⟩
theorem Rp.lst_inv (r : Rp h (.lst ds) v) : ∃ n xs, v = .ref n ∧ h[n]? = some (.lst xs) ∧ RpL h ds xs := by simpa only [Rp] using r
theorem Rp.tup_inv (r : Rp h (.tup ds) v) : ∃ n xs, v = .ref n ∧ h[n]? = some (.tup xs) ∧ RpL h ds xs := by simpa only [Rp] using r
theorem RpL.nil : RpL h [] [] := by simp [RpL]
theorem RpL.cons {d : D} {x : AV} (r : Rp h d x) (rs : RpL h ds xs) : RpL h (d :: ds) (x :: xs) := by
  simp only [RpL]
  exact ⟨x, xs, rfl, r, rs⟩
theorem RpL.cons_inv {d : D} (r : RpL h (d :: ds) xs) : ∃ y ys, xs = y :: ys ∧ Rp h d y ∧ RpL h ds ys := by simpa only [RpL] using r
theorem RpL.nil_inv (r : RpL h [] xs) : xs = [] := by simpa only [RpL] using r
theorem RpL.len : ∀ {ds : List D} {xs : List AV}, RpL h ds xs → xs.length = ds.length
  | [], _, r => by rw [r.nil_inv]; rfl
  | d :: ds, _, r => by
    obtain ⟨y, ys, rfl, _, rs⟩ := r.cons_inv
    rw [List.length_cons, List.length_cons, RpL.len rs]
theorem RpL.app : ∀ {ds es : List D} {xs ys : List AV}, RpL h ds xs → RpL h es ys → RpL h (ds ++ es) (xs ++ ys)
  | [], es, _, ys, r, r2 => by rw [r.nil_inv]; exact r2
  | d :: ds, es, _, ys, r, r2 => by
    obtain ⟨y, zs, rfl, q, rs⟩ := r.cons_inv
    exact RpL.cons q (RpL.app rs r2)
theorem RpL.get : ∀ {ds : List D} {xs : List AV} {i : Nat} {d : D}, RpL h ds xs → ds[i]? = some d → ∃ x, xs[i]? = some x ∧ Rp h d x
  | [], _, _, _, r, e => by simp at e
  | d :: ds, _, 0, _, r, e => by
    obtain ⟨y, zs, rfl, q, rs⟩ := r.cons_inv
    cases e
    exact ⟨y, rfl, q⟩
  | d :: ds, _, i + 1, _, r, e => by
    obtain ⟨y, zs, rfl, q, rs⟩ := r.cons_inv
    exact RpL.get (ds := ds) (xs := zs) (i := i) rs (by simpa using e)
end
mutual
def D.dep : D → Nat
  | .lst xs => D.deps xs + 1
  | .tup xs => D.deps xs + 1
  | _ => 0
def D.deps : List D → Nat
  | [] => 0
  | x :: xs => max (D.dep x) (D.deps xs)
end
mutual
theorem Rp.reify {h : Hh} : ∀ {d : D} {v : AV} {f : Nat}, Rp h d v → d.dep < f → reify f h v = some d
  | .non, _, f + 1, r, _ => by rw [show _ = AV.non from r]; rfl
  | .bl _, _, f + 1, r, _ => by rw [show _ = AV.bl _ from r]; rfl
  | .int _, _, f + 1, r, _ => by rw [show _ = AV.int _ from r]; rfl
  | .str _, _, f + 1, r, _ => by rw [show _ = AV.str _ from r]; rfl
  | .lst ds, _, f + 1, r, hf => by
    obtain ⟨n, xs, rfl, e, rs⟩ := r.lst_inv
    have hd : D.deps ds < f := by simp only [D.dep] at hf; omega
    show (match h[n]? with
      | some (.lst xs) => (mapO (Det.reify f h) xs).map D.lst
      | some (.rol xs) => (mapO (Det.reify f h) xs).map D.lst
      | some (.tup xs) => (mapO (Det.reify f h) xs).map D.tup
      | _ => none) = _
    rw [e]
    simp only [RpL.reify rs hd]
    rfl
  | .tup ds, _, f + 1, r, hf => by
    obtain ⟨n, xs, rfl, e, rs⟩ := r.tup_inv
    have hd : D.deps ds < f := by simp only [D.dep] at hf; omega
    show (match h[n]? with
      | some (.lst xs) => (mapO (Det.reify f h) xs).map D.lst
      | some (.rol xs) => (mapO (Det.reify f h) xs).map D.lst
      | some (.tup xs) => (mapO (Det.reify f h) xs).map D.tup
      | _ => none) = _
    rw [e]
    simp only [RpL.reify rs hd]
    rfl
theorem RpL.reify {h : Hh} : ∀ {ds : List D} {vs : List AV} {f : Nat}, RpL h ds vs → D.deps ds < f → mapO (reify f h) vs = some ds
  | [], _, _, r, _ => by rw [r.nil_inv]; rfl
  | d :: ds, _, f, r, hf => by
    obtain ⟨y, ys, rfl, r1, r2⟩ := r.cons_inv
    have h1 : d.dep < f := by simp only [D.deps] at hf; omega
    have h2 : D.deps ds < f := by simp only [D.deps] at hf; omega
    unfold mapO
    rw [Rp.reify r1 h1, RpL.reify r2 h2]
end
/-- == of data -/
theorem eqH_D {h : Hh} {d e : D} {v u : AV} (r1 : Rp h d v) (r2 : Rp h e u) (d1 : d.dep < 40) (d2 : e.dep < 40) (f1 : d.fine = true) (f2 : e.fine = true) (hs : (∃ n, v = .ref n) ∨ (∃ n, u = .ref n)) : eqH h v u = some (D.eqv d e) := by
  have key : (match Det.reify 40 h v, Det.reify 40 h u with
      | some d, some e => if (d.fine && e.fine) = true then some (D.eqv d e) else none
      | _, _ => none) = some (D.eqv d e) := by
    rw [r1.reify d1, r2.reify d2]
    simp only [f1, f2]
    rfl
  rcases hs with ⟨n, rfl⟩ | ⟨n, rfl⟩
  · exact key
  · cases v <;> exact key
mutual
theorem D.eqv_refl : ∀ d : D, D.eqv d d = true
  | .non => rfl
  | .bl b => by show (b == b) = true; simp
  | .int b => by show (b == b) = true; simp
  | .str b => by show (b == b) = true; simp
  | .lst xs => D.eqvs_refl xs
  | .tup xs => D.eqvs_refl xs
theorem D.eqvs_refl : ∀ d : List D, D.eqvs d d = true
  | [] => rfl
  | x :: xs => by
    show (D.eqv x x && D.eqvs xs xs) = true
    rw [D.eqv_refl x, D.eqvs_refl xs]
    rfl
end
def D.ty : D → Ty
  | .non => .non | .bl _ => .bool | .int _ => .int | .str _ => .str | .lst _ => .list | .tup _ => .tuple
theorem isTyD {h : Hh} : ∀ {d : D} {v : AV}, Rp h d v → tyOf h v = some d.ty
  | .non, v, r => by have e : v = AV.non := by simpa only [Rp] using r
                     subst e; rfl
  | .bl b, v, r => by have e : v = AV.bl b := by simpa only [Rp] using r
                      subst e; rfl
  | .int b, v, r => by have e : v = AV.int b := by simpa only [Rp] using r
                       subst e; rfl
  | .str b, v, r => by have e : v = AV.str b := by simpa only [Rp] using r
                       subst e; rfl
  | .lst ds, v, r => by obtain ⟨n, xs, rfl, e, _⟩ := r.lst_inv; simp [e, D.ty]
  | .tup ds, v, r => by obtain ⟨n, xs, rfl, e, _⟩ := r.tup_inv; simp [e, D.ty]
end Det

/-! Det15: more built-ins, methods, stores. -/
namespace Det
open PySem PySem.Spec PyProof.Rows L2
section
variable {X : Cx} {c : Ct} {W : WX} {ι : List Addr}
theorem calm_hh (hc : X.calm = true) : True := trivial
/-- list(..) of a list, a tuple or a text -/
def bListA : OpN := fun as h => match as with
  | [.str s] => if s.length ≤ LINE then some (.ref h.length, h ++ [.lst (s.map fun ch => .str [ch])]) else none
  | as => bList as h
theorem vals_signs {x : Str} {acc : Array Value} (h : ItemsOf (SignAt x) acc x.cps.size) : Vals ((x.cps.toList.map fun ch => V.str (mkS [ch]))) acc.toList := by
  have key : ∀ (cs : List Nat) (vs : List Value), vs.length = cs.length → (∀ (j : Nat) (v : Value), vs[j]? = some v → ∃ ch u, cs[j]? = some ch ∧ v = .str ⟨#[ch]⟩ u) → Vals (cs.map fun ch => V.str (mkS [ch])) vs := by
    intro cs
    induction cs with
    | nil =>
      intro vs hl _
      have : vs = [] := List.eq_nil_of_length_eq_zero hl
      subst this
      exact .nil
    | cons a r ih =>
      intro vs hl hj
      cases vs with
      | nil => cases hl
      | cons v vs =>
        refine .cons ?_ (ih vs (by simpa using hl) fun j w hw => by simpa using hj (j + 1) w (by simpa using hw))
        obtain ⟨ch, u, e1, rfl⟩ := hj 0 v rfl
        cases e1
        exact ⟨u, rfl⟩
  refine key _ _ (by simp [h.1]) fun j v hv => ?_
  obtain ⟨ch, u, e1, e2⟩ := h.2 j v (by simpa using hv)
  exact ⟨ch, u, by simpa using e1, e2⟩
theorem rvs_signs : ∀ s : List Nat, RVs c ι (s.map fun ch => AV.str [ch]) (s.map fun ch => V.str (mkS [ch]))
  | [] => .nil
  | a :: r => .cons rfl (rvs_signs r)
theorem dl_listA (hh : X.A.handled = none) : DCl X c (.type "list") bListA := dcl fun pins s σ H xs us Q ι as ah w ah' I r rh ra e q => by
  unfold bListA at e
  split at e
  · rename_i t
    split at e
    · rename_i hl
      cases e
      obtain ⟨x, rfl, rx⟩ := rvs1 ra
      cases rx
      obtain ⟨u, rfl, tk, rfl⟩ := vals1 r
      refine call_list_str hh (mkS t) tk (fun h' tk' acc' c' hk hS hacc => ?_) (by rw [size_mkS, line_eq]; exact hl)
      have hv := vals_signs hacc
      have et : (mkS t).cps.toList = t := mkS_cps t
      rw [et] at hv
      have hsz : ((t.map fun ch => V.str (mkS [ch]))).length ≤ sizeLine := by rw [List.length_map, line_eq]; exact hl
      refine ⟨.ref s.heap.objs.size, _, I.laid (t' := tk') hk (Nat.le_refl _) (show ObjOk X.prog X.w _ h' _ (.lst (t.map fun ch => V.str (mkS [ch]))) from ⟨hsz, acc'.toList, c', hv, by simpa using hS⟩), rfl, ?_⟩
      exact lay_lst rh (rvs_signs t) q _ (I.hok.fresh (Nat.le_refl _))
    · cases e
  · exact dl_list pins s σ H xs us Q I r ⟨ι, as, ah, w, ah', rh, ra, e, q⟩
end
@[simp] theorem listA_s {s : List Nat} {h : Hh} : bListA [.str s] h = if s.length ≤ LINE then some (.ref h.length, h ++ [.lst (s.map fun ch => .str [ch])]) else none := rfl
@[simp] theorem listA_ref {n : Nat} {h : Hh} : bListA [.ref n] h = match h[n]? with
    | some (.lst xs) => some (.ref h.length, h ++ [.lst xs])
    | some (.rol xs) => some (.ref h.length, h ++ [.lst xs])
    | some (.tup xs) => some (.ref h.length, h ++ [.lst xs])
    | _ => none := by
  show bList [.ref n] h = _
  unfold bList
  simp only [rdL_ref, rdT_ref]
  cases h[n]? with
  | none => rfl
  | some o => cases o <;> rfl
end Det

/-! Det16: while loops, data that stays. -/
namespace Det
open PySem PySem.Spec PyProof.Rows L2
theorem while_wp {t : Et} {body : Es} (I : Nat → Sl → Hh → Prop) {D : En}
    (hs : ∀ k sl h, I k sl h → Wp (t sl h) fun b h1 => if b = true then WpS (body sl h1) { nx := fun s h => ∃ k', k' < k ∧ I k' s h, ct := fun s h => ∃ k', k' < k ∧ I k' s h, bk := D.nx, rt := D.rt } else D.nx sl h1) :
    ∀ n k sl h, k < n → I k sl h → WpS (mWhile t body n sl h) D
  | 0, k, sl, h, hk, i => by omega
  | n + 1, k, sl, h, hk, i => by
    have w := hs k sl h i
    show WpS ((t sl h).bindS sl fun b h1 => if b = true then match body sl h1 with
      | .nx s h => mWhile t body n s h
      | .ct s h => mWhile t body n s h
      | .bk s h => .nx s h
      | .rt v h => .rt v h
      | .ex x s h => .ex x s h
      | .no => .no
    else .nx sl h1) D
    rw [wp_bindS]
    refine w.mono fun b h1 q => ?_
    cases b with
    | false => exact q
    | true =>
      rw [if_pos rfl] at q ⊢
      revert q
      cases body sl h1 with
      | nx s h => exact fun ⟨k', hk', i'⟩ => while_wp I hs n k' s h (by omega) i'
      | ct s h => exact fun ⟨k', hk', i'⟩ => while_wp I hs n k' s h (by omega) i'
      | bk s h => exact fun q => q
      | rt v h => exact fun q => q
      | ex x s h => exact fun q => q.elim
      | no => exact fun q => q.elim
@[simp] theorem wp_while {t : Et} {body : Es} {n : Nat} {sl : Sl} {h : Hh} {D : En} : WpS (mWhile t body n sl h) D ↔ WpS (mWhile t body n sl h) D := Iff.rfl
mutual
/-- no lists in it -/
def D.noL : D → Bool
  | .lst _ => false
  | .tup xs => D.noLs xs
  | _ => true
def D.noLs : List D → Bool
  | [] => true
  | x :: xs => D.noL x && D.noLs xs
end
def KpT (h h' : Hh) : Prop := ∀ (m : Nat) (xs : List AV), h[m]? = some (.tup xs) → h'[m]? = some (.tup xs)
mutual
theorem Rp.kpT {h h' : Hh} (k : KpT h h') : ∀ {d : D} {v : AV}, d.noL = true → Rp h d v → Rp h' d v
  | .non, _, _, r => r
  | .bl _, _, _, r => r
  | .int _, _, _, r => r
  | .str _, _, _, r => r
  | .lst ds, _, hn, r => by cases hn
  | .tup ds, _, hn, r => by
    obtain ⟨n, xs, rfl, e, rs⟩ := r.tup_inv
    exact Rp.tup (k _ _ e) (RpL.kpT k hn rs)
theorem RpL.kpT {h h' : Hh} (k : KpT h h') : ∀ {ds : List D} {vs : List AV}, D.noLs ds = true → RpL h ds vs → RpL h' ds vs
  | [], _, _, r => r
  | d :: ds, _, hn, r => by
    obtain ⟨y, ys, rfl, r1, r2⟩ := r.cons_inv
    have hn' : (d.noL && D.noLs ds) = true := hn
    rw [Bool.and_eq_true] at hn'
    exact RpL.cons (Rp.kpT k hn'.1 r1) (RpL.kpT k hn'.2 r2)
end
theorem KpT.of {h h' : Hh} (k : Kp [] h h') : KpT h h' := fun m xs e => k.get0 e
theorem KpT.trans {h h1 h2 : Hh} (a : KpT h h1) (b : KpT h1 h2) : KpT h h2 := fun m xs e => b m xs (a m xs e)
theorem KpT.set {h : Hh} {n : Nat} {xs : List AV} {o : AO} (e : h[n]? = some (.lst xs)) : KpT h (h.set n o) := fun m ys em => by
  have : n ≠ m := fun z => by subst z; rw [e] at em; cases em
  rw [get_set_ne this]
  exact em
/-- a kept heap, but for one list -/
theorem KpT.of1 {h h' : Hh} {b : Nat} {xs : List AV} (k : Kp [b] h h') (e : h[b]? = some (.lst xs)) : KpT h h' := fun m ys em => by
  refine k.get em fun z => ?_
  simp only [List.mem_cons, List.not_mem_nil, or_false] at z
  subst z
  rw [e] at em
  cases em
theorem noLs_app : ∀ {a b : List D}, D.noLs a = true → D.noLs b = true → D.noLs (a ++ b) = true
  | [], _, _, h => h
  | x :: a, b, h, h2 => by
    have h' : (x.noL && D.noLs a) = true := h
    rw [Bool.and_eq_true] at h'
    show (x.noL && D.noLs (a ++ b)) = true
    rw [h'.1, noLs_app h'.2 h2]
    rfl
/-- a pair of ints -/
def pD (p : Nat × Nat) : D := .tup [.int (p.1 : Nat), .int (p.2 : Nat)]
theorem noL_pD : ∀ l : List (Nat × Nat), D.noLs (l.map pD) = true
  | [] => rfl
  | p :: l => by
    show ((pD p).noL && D.noLs (l.map pD)) = true
    rw [noL_pD l]
    rfl
end Det
namespace Det
open PySem PySem.Spec PyProof.Rows L2
mutual
/-- no list longer than a million -/
def D.lim : D → Bool
  | .lst xs => decide (xs.length ≤ 1000000) && D.lims xs
  | .tup xs => decide (xs.length ≤ 1000000) && D.lims xs
  | _ => true
def D.lims : List D → Bool
  | [] => true
  | x :: xs => D.lim x && D.lims xs
end
theorem lim_lst {xs : List D} (h : D.lim (.lst xs) = true) : xs.length ≤ 1000000 ∧ D.lims xs = true := by
  have h' : (decide (xs.length ≤ 1000000) && D.lims xs) = true := h
  rw [Bool.and_eq_true, decide_eq_true_eq] at h'
  exact h'
theorem lim_tup {xs : List D} (h : D.lim (.tup xs) = true) : xs.length ≤ 1000000 ∧ D.lims xs = true := by
  have h' : (decide (xs.length ≤ 1000000) && D.lims xs) = true := h
  rw [Bool.and_eq_true, decide_eq_true_eq] at h'
  exact h'
theorem lims_cons {x : D} {xs : List D} (h : D.lims (x :: xs) = true) : D.lim x = true ∧ D.lims xs = true := by
  have h' : (D.lim x && D.lims xs) = true := h
  rw [Bool.and_eq_true] at h'
  exact h'
theorem lims_mk : ∀ {xs : List D}, (∀ x ∈ xs, D.lim x = true) → D.lims xs = true
  | [], _ => rfl
  | x :: xs, h => by
    show (D.lim x && D.lims xs) = true
    rw [h x List.mem_cons_self, lims_mk fun y hy => h y (List.mem_cons_of_mem _ hy)]
    rfl
theorem deps_mk {n : Nat} : ∀ {xs : List D}, (∀ x ∈ xs, x.dep ≤ n) → D.deps xs ≤ n
  | [], _ => Nat.zero_le _
  | x :: xs, h => by
    show max x.dep (D.deps xs) ≤ n
    have h1 := h x List.mem_cons_self
    have h2 := deps_mk (xs := xs) fun y hy => h y (List.mem_cons_of_mem _ hy)
    omega
theorem fines_mk : ∀ {xs : List D}, (∀ x ∈ xs, x.fine = true) → D.fines xs = true
  | [], _ => rfl
  | x :: xs, h => by
    show (D.fine x && D.fines xs) = true
    rw [h x List.mem_cons_self, fines_mk fun y hy => h y (List.mem_cons_of_mem _ hy)]
    rfl
theorem blsOf_true (k : Nat) : blsOf (List.replicate k (.bl true)) = some (List.replicate k true) := by
  induction k with
  | zero => rfl
  | succ k ih =>
    rw [List.replicate_succ, List.replicate_succ]
    show (blsOf (List.replicate k (.bl true))).map (fun l => true :: l) = _
    rw [ih]
    rfl
theorem all_true {h : Hh} {n k : Nat} (e : h[n]? = some (.lst (List.replicate k (.bl true)))) : bAll [.ref n] h = some (.bl true, h) := by
  show (match (rdL h (.ref n)).bind blsOf with
    | some ns => some (AV.bl (ns.all id), h)
    | none => none) = _
  simp only [rdL_ref, e, Option.bind_some, blsOf_true]
  simp
/-- zip's pairs of two lists of the same data -/
theorem zip_loop {h0 : Hh} {slw : Sl} {iv jv : Nat} {f : Fn} {cs : List (Bool × AV × List AV)} {ds : List D} (hl : ds.length ≤ 1000000)
    (hcs : ∀ h, Kp [] h0 h → chkOk cs h = true)
    (hi : ∀ v u, (((slw.set iv (some v)).set jv u)[iv]?) = some (some v)) (hj : ∀ v u, (((slw.set iv v).set jv (some u))[jv]?) = some (some u))
    (hf : ∀ d ∈ ds, ∀ h v u, Kp [] h0 h → Rp h d v → Rp h d u → Wp (f [v, u] h) fun r h' => r = .bl true ∧ Kp [] h h') :
    ∀ {xs ys : List AV}, RpL h0 ds xs → RpL h0 ds ys → Wp (loopC cs slw h0.length (mGt [mGn iv, mGn jv]) mYes (mCall f (mCons (mVar iv) (mCons (mVar jv) mNil))) (zipIt xs ys) (h0 ++ [.lst []])) fun v h' => v = .ref h0.length ∧ h'[h0.length]? = some (.lst (List.replicate ds.length (.bl true))) ∧ Kp [] h0 h' := by
  intro xs ys rx ry
  refine loopC_wp (fun its h => ∃ (k : Nat) (rest : List D) (xs ys : List AV), its = zipIt xs ys ∧ RpL h0 rest xs ∧ RpL h0 rest ys ∧ k + rest.length = ds.length ∧ (∀ d ∈ rest, d ∈ ds) ∧ h[h0.length]? = some (.lst (List.replicate k (.bl true))) ∧ Kp [] h0 h) ?_ ?_ ?_ _ _ ⟨0, ds, xs, ys, rfl, rx, ry, by omega, fun d h => h, get_new _ _, Kp.rfl'.app _⟩
  · rintro its h ⟨_, _, _, _, _, _, _, _, _, _, kp⟩
    exact hcs h kp
  · rintro h ⟨k, rest, xs, ys, hit, r1, r2, hk, _, e, kp⟩
    cases rest with
    | nil =>
      simp at hk
      rw [hk] at e
      exact ⟨rfl, e, kp⟩
    | cons d rest =>
      obtain ⟨x, xs, rfl, _, _⟩ := r1.cons_inv
      obtain ⟨y, ys, rfl, _, _⟩ := r2.cons_inv
      cases hit
  · rintro it r h ⟨k, rest, xs, ys, hit, r1, r2, hk, hm, e, kp⟩
    cases rest with
    | nil =>
      have := r1.nil_inv
      subst this
      cases ys <;> cases hit
    | cons d rest =>
      obtain ⟨x, xs, rfl, q1, r1⟩ := r1.cons_inv
      obtain ⟨y, ys, rfl, q2, r2⟩ := r2.cons_inv
      have hit' : it :: r = [x, y] :: zipIt xs ys := hit
      obtain ⟨rfl, rfl⟩ := List.cons.inj hit'
      rw [List.length_cons] at hk
      refine ⟨_, _, rfl, ?_⟩
      rw [wp_yes, if_pos rfl, wp_call, wp_cons, wp_var (hi _ _), wp_cons, wp_var (hj _ _), wp_nil]
      refine (hf d (hm d List.mem_cons_self) h x y kp (q1.kp kp) (q2.kp kp)).mono fun v h2 ⟨ev, kp2⟩ => ?_
      subst ev
      have e2 := kp2.get0 e
      refine ⟨_, e2, by rw [List.length_replicate]; exact Nat.lt_of_le_of_lt (show k ≤ 1000000 by omega) (by decide), k + 1, rest, xs, ys, rfl, r1, r2, by omega, fun d hd => hm d (List.mem_cons_of_mem _ hd), ?_, (kp.trans0 kp2).set (.inr (Nat.le_refl _)) _⟩
      rw [get_set_eq e2, ← List.replicate_succ']
end Det

/-! Det17: index of a sign, turned lists, stores with an operator into an item, sorted ints. -/
namespace Det
open PySem PySem.Spec PyProof.Rows L2
section
variable {X : Cx} {c : Ct} {W : WX} {ι : List Addr}
/-- text.index(sign) -/
def mSIndex : OpM := fun x as h => match x, as with
  | .str s, [.str [ch]] => match s.findIdx? (fun d => d == ch) with
    | some i => some (.int (i : Nat), h)
    | none => none
  | _, _ => none
theorem at_one {s : List Nat} {ch i : Nat} : StrLaws.At (mkS s) (mkS [ch]) (mkS s).length i ↔ s[i]? = some ch := by
  unfold StrLaws.At Builtin.Str.subAt
  rw [mkS_len, mkS_len]
  simp only [mkS, List.length_cons, List.length_nil, Nat.zero_add, beq_iff_eq]
  constructor
  · rintro ⟨h1, h2⟩
    have h3 := congrArg Array.toList h2
    simp only [Array.toList_extract, List.extract_eq_drop_take] at h3
    have h4 := congrArg (fun l : List Nat => l[0]?) h3
    simpa [List.getElem?_take, List.getElem?_drop] using h4
  · intro h
    have hi := (List.getElem?_eq_some_iff.mp h).1
    refine ⟨by omega, ?_⟩
    apply Array.toList_inj.mp
    simp only [Array.toList_extract, List.extract_eq_drop_take]
    have e := (List.getElem?_eq_some_iff.mp h).2
    rw [show i + 1 - i = 1 by omega, List.drop_eq_getElem_cons hi, e]
    rfl
theorem index_occ {s : List Nat} {ch i : Nat} (h : s.findIdx? (fun d => d == ch) = some i) : ∃ rest, Builtin.Str.occurrences (mkS s) (mkS [ch]) 0 (mkS s).length 1 = i :: rest := by
  rw [List.findIdx?_eq_some_iff_getElem] at h
  obtain ⟨hi, e, hn⟩ := h
  have e' : s[i]? = some ch := by
    rw [List.getElem?_eq_getElem hi]
    simpa using e
  rcases StrLaws.occ_head (mkS s) (mkS [ch]) 1 (Nat.le_refl _) with ⟨_, h2⟩ | ⟨j, r, h1, h2, h3⟩
  · exact absurd (at_one.mpr e') (h2 i)
  · have hj := at_one.mp h2
    have : j = i := by
      rcases Nat.lt_trichotomy i j with q | q | q
      · exact absurd (at_one.mpr e') (h3 i q)
      · exact q.symm
      · have := hn j q
        have hjl := (List.getElem?_eq_some_iff.mp hj)
        obtain ⟨hjl, ej⟩ := hjl
        rw [ej] at this
        simp at this
    subst this
    exact ⟨r, h1⟩
theorem dm_sindex : DMt X c "str.index" mSIndex := dmt fun pins s σ H x xs v us Q ι a as ah w ah' I rx r rh ra rs e q => by
  unfold mSIndex at e
  split at e
  · rename_i t ch
    split at e
    · rename_i i hi
      cases e
      cases ra
      obtain ⟨y, rfl, ry⟩ := rvs1 rs
      cases ry
      obtain ⟨rest, ho⟩ := index_occ hi
      exact mt_sindex pins s σ H _ _ v us Q I rx r ⟨mkS t, mkS [ch], i, rest, rfl, rfl, ho, q ι H _ (Ext.refl _ _) rh rfl⟩
    · cases e
  · cases e
/-- xs[::-1] -/
def mRevL (m : Ev) : Ev := fun sl h => (m sl h).bind fun x h1 => match rdL h1 x with
  | some xs => .ok (.ref h1.length) (h1 ++ [.lst xs.reverse])
  | none => .no
theorem de_revL {e : Expr} {m : Ev} {k : Nat} {p1 p2 p3 pos : Pos} (he : DE X c W e m) : DE X c W (.Subscript e (.Slice none none (some (.UnaryOp .USub (.Constant (.int 1) k p1) p2)) p3) pos) (mRevL m) :=
  pe_imp (pe_revL he) fun σ H Q ⟨ι, sl, ah, rh, S, p⟩ => ⟨ι, sl, ah, rh, S, Post.step p fun x H1 ι1 v ah1 e1 r1 rv p1 => by
    split at p1
    · rename_i xs hx
      obtain ⟨a, vs, rfl, s1, rl⟩ := rdL_ok r1 hx rv
      exact ⟨a, vs, rfl, s1, lay_lst r1 (Paired.rev rl) p1⟩
    · exact p1.elim⟩
/-- o[i] op= e -/
def mAugS (fo : Op2) (mo mi me : Ev) : Es := fun sl h => (mo sl h).bindS sl fun o h1 => (mi sl h1).bindS sl fun i h2 => (R.of (opIx o i h2)).bindS sl fun x h3 => (me sl h3).bindS sl fun y h4 => (R.of (fo x y h4)).bindS sl fun z h5 => match opSet o i z h5 with
  | some h6 => .nx sl h6
  | none => .no
end
@[simp] theorem sindex_at {s : List Nat} {ch : Nat} {h : Hh} : mSIndex (.str s) [.str [ch]] h = match s.findIdx? (fun d => d == ch) with
    | some i => some (.int (i : Nat), h)
    | none => none := rfl
end Det

/-! Det18: dict displays, the empty state. -/
namespace Det
open PySem PySem.Spec PyProof.Rows L2
def mDict0 : Ev := fun _ h => .ok (.ref h.length) (h ++ [.dic []])
def mPairs : List (Ev × Ev) → Sl → Hh → R (List (AV × AV))
  | [], _, h => .ok [] h
  | (mk, mv) :: r, sl, h => (mk sl h).bind fun x h1 => (mv sl h1).bind fun y h2 => (mPairs r sl h2).bind fun ps h3 => .ok ((x, y) :: ps) h3
def keyed (p : AV × AV) : Option (AKey × AV) := (keyOf p.1).map fun k => (k, p.2)
def mergeA (l : List (AKey × AV)) : List (AKey × AV) := l.foldl (fun a p => putA a p.1 p.2) []
def mDisp (ps : List (Ev × Ev)) : Ev := fun sl h => (mPairs ps sl (h ++ [.dic []])).bind fun kvs h1 => match mapO keyed kvs with
  | some l => if l.length ≤ 15 ∧ h1[h.length]? = some (.dic []) then .ok (.ref h.length) (h1.set h.length (.dic (mergeA l))) else .no
  | none => .no
section
variable {X : Cx} {c : Ct} {W : WX} {K : PySem.W.Frag}
theorem de_dict0 {pos : Pos} : DE X c W (.Dict [] [] pos) mDict0 := pe_imp pe_dnewK fun σ H Q ⟨ι, sl, ah, rh, S, p⟩ => fun a ha =>
  p (ι ++ [a]) _ (.ref a) (Ext.lay ha) (rh.lay ha ⟨[], .nil, upd_same⟩) ⟨a, by rw [← rh.len]; simp, rfl⟩
def RPr (c : Ct) (ι : List Addr) : List (AV × AV) → List (V × V) → Prop := Paired fun p q => RV c ι p.1 q.1 ∧ RV c ι p.2 q.2
def tDp (K : PySem.W.Frag) (c : Ct) (W : WX) (m : Sl → Hh → R (List (AV × AV))) : L2.St → Hp → (List (V × V) → Hp → Prop) → Prop := fun σ H Q => ∃ ι sl ah, RelH K c ι ah H ∧ RS c ι sl σ ∧ Post K c W σ H ι (RPr c) (m sl ah) Q
theorem pairs_imp {X : Cx} {c : Ct} {W : WX} : ∀ {ms : List (Ev × Ev)} {σ : L2.St} {H : Hp} {Q : List (V × V) → Hp → Prop}, tDp X.K c W (mPairs ms) σ H Q → tPairs (ms.map fun m => (tD X.K c W m.1, tD X.K c W m.2)) σ H Q
  | [], σ, H, Q, ⟨ι, sl, ah, rh, S, p⟩ => p ι H [] (Ext.refl _ _) rh .nil
  | (mk, mv) :: r, σ, H, Q, ⟨ι, sl, ah, rh, S, p⟩ => by
    refine ⟨ι, sl, ah, rh, S, Post.step (show Post X.K c W σ H ι (RPr c) ((mk sl ah).bind _) Q from p) fun x H1 ι1 a ah1 e1 r1 ra p1 => ?_⟩
    refine ⟨ι1, sl, ah1, r1, S.ext e1, Post.step p1 fun y H2 ι2 b ah2 e2 r2 rb p2 => ?_⟩
    refine pairs_imp (ms := r) ⟨ι2, sl, ah2, r2, (S.ext e1).ext e2, Post.step p2 fun ps H3 ι3 qs ah3 e3 r3 rs p3 => ?_⟩
    exact p3 ι3 H3 _ (Ext.refl _ _) r3 (.cons ⟨(ra.ext e2).ext e3, rb.ext e3⟩ rs)
theorem keyed_ok {c : Ct} {ι : List Addr} : ∀ {kvs : List (AV × AV)} {ps : List (V × V)} {l : List (AKey × AV)}, mapO keyed kvs = some l → RPr c ι kvs ps → ∃ vs : List (Key × V), ps = vs.map (fun kv => (kV kv.1, kv.2)) ∧ RKV c ι l vs
  | [], _, _, e, .nil => by cases e; exact ⟨[], rfl, .nil⟩
  | (a, b) :: r, (x, y) :: ps, l, e, .cons ⟨ra, rb⟩ t => by
    unfold mapO at e
    split at e
    · rename_i k ks e1 e2
      cases e
      obtain ⟨vs, rfl, rv⟩ := keyed_ok e2 t
      unfold keyed at e1
      obtain ⟨q, hq, rfl⟩ := Option.map_eq_some_iff.mp e1
      have := keyOf_ok hq ra
      subst this
      exact ⟨(kk q, y) :: vs, rfl, .cons ⟨rfl, rb⟩ rv⟩
    · cases e
theorem merge_ok {c : Ct} {ι : List Addr} {l : List (AKey × AV)} {vs : List (Key × V)} (r : RKV c ι l vs) : RKV c ι (mergeA l) (mergeK [] vs) := by
  unfold mergeA mergeK
  have : ∀ {l : List (AKey × AV)} {vs : List (Key × V)}, RKV c ι l vs → ∀ {a : List (AKey × AV)} {b : List (Key × V)}, RKV c ι a b → RKV c ι (l.foldl (fun a p => putA a p.1 p.2) a) (vs.foldl (fun acc kv => putK acc kv.1 kv.2) b) := by
    intro l vs r
    induction r with
    | nil => intro a b q; exact q
    | @cons p q ps qs h t ih =>
      intro a b r0
      have := putA_ok (k := p.1) r0 h.2
      rw [← h.1] at this
      exact ih this
  exact this r .nil
theorem disp_imp {ms : List (Ev × Ev)} {σ : L2.St} {H : Hp} {Q : VK} (h : tD X.K c W (mDisp ms) σ H Q) : tDisp (ms.map fun m => (tD X.K c W m.1, tD X.K c W m.2)) σ H Q := by
  obtain ⟨ι, sl, ah, rh, S, p⟩ := h
  intro a ha
  have r2 : RelH X.K c (ι ++ [a]) (ah ++ [.dic []]) (upd H a (.dK [])) := rh.lay ha ⟨[], .nil, upd_same⟩
  have p2 := Post.shift (show Post X.K c W σ H ι (RV c) ((mPairs ms sl (ah ++ [.dic []])).bind _) Q from p) (Ext.lay (u := .dK []) ha) r2
  refine pairs_imp ⟨ι ++ [a], sl, _, r2, S.ext (Ext.lay (u := .dK []) ha), Post.step p2 fun ps H2 ι2 kvs ah2 e2 r3 rp p3 => ?_⟩
  split at p3
  · rename_i l hl
    split at p3
    · rename_i hc
      obtain ⟨vs, rfl, rv⟩ := keyed_ok hl rp
      have han : (ι ++ [a])[ah.length]? = some a := by rw [← rh.len]; simp
      have ha2 : ι2[ah.length]? = some a := by
        obtain ⟨r, e⟩ := e2.pre'
        rw [e]; exact getElem?_pre han
      obtain ⟨b, hb, ws, rw', hw⟩ := r3.obj _ _ hc.2
      rw [ha2] at hb
      cases hb
      have hws : ws = [] := by cases rw'; rfl
      subst hws
      refine ⟨hw, vs, rfl, by rw [← Paired.length rv]; exact hc.1, ?_⟩
      have rset : RelH X.K c ι2 (ah2.set ah.length (.dic (mergeA l))) (upd H2 a (.dK (mergeK [] vs))) := r3.set hc.2 rfl rfl ha2 ⟨_, merge_ok rv, upd_same⟩
      exact p3 ι2 _ (.ref a) (Ext.set ha2) rset ⟨a, ha2, rfl⟩
    · exact p3.elim
  · exact p3.elim
/-- the pairs of a display -/
def DPs (X : Cx) (c : Ct) (W : WX) (pos : Pos) (keys : List (Option Expr)) (values : List Expr) (ms : List (Ev × Ev)) : Prop := PPs X pos keys values (ms.map fun m => (tD X.K c W m.1, tD X.K c W m.2))
theorem dps_nil {pos : Pos} : DPs X c W pos [] [] [] := pps_nil
theorem dps_cons {pos : Pos} {k v : Expr} {ks : List (Option Expr)} {vs : List Expr} {mk mv : Ev} {ms : List (Ev × Ev)} (hk : DE X c W k mk) (hv : DE X c W v mv) (hr : DPs X c W pos ks vs ms) : DPs X c W pos (some k :: ks) (v :: vs) ((mk, mv) :: ms) := pps_cons hk hv hr
theorem de_disp {pos : Pos} {keys : List (Option Expr)} {values : List Expr} {ms : List (Ev × Ev)} (h : DPs X c W pos keys values ms) (hall : keys.all (·.isSome) = true := by rfl) (hl : keys.length = values.length := by rfl) (h0 : keys ≠ [] := by exact List.cons_ne_nil _ _) (h15 : keys.length ≤ 15 := by decide) : DE X c W (.Dict keys values pos) (mDisp ms) :=
  pe_imp (pe_disp h hall hl h0 h15) fun _ _ _ q => disp_imp q
end
/-- == with the module's empty state -/
theorem eq_emp {h : Hh} {d : D} {n : Nat} (r : Rp h d (.ref n)) (d1 : d.dep < 40) (f1 : d.fine = true) : eqH h (.ref n) (.con .empty) = some (D.eqv d (.tup [.str [], .int 0])) := by
  have e1 : Det.reify 40 h (.con .empty) = some (.tup [.str [], .int 0]) := rfl
  show (match Det.reify 40 h (.ref n), Det.reify 40 h (.con .empty) with
      | some d, some e => if (d.fine && e.fine) = true then some (D.eqv d e) else none
      | _, _ => none) = _
  rw [r.reify d1, e1]
  have f2 : D.fine (.tup [.str [], .int 0]) = true := rfl
  simp only [f1, f2]
  rfl
/-! ### a, b, c = x, constant, constant -/
section
variable {X : Cx} {c : Ct} {W : WX}
def mPar3 (i j l : Nat) (ma mb mc : Ev) : Es := fun sl h => (ma sl h).bindS sl fun v h1 => (mb sl h1).bindS sl fun w h2 => (mc sl h2).bindS sl fun u h3 => .nx (((sl.set i (some v)).set j (some w)).set l (some u)) h3
theorem ds_par3 {i j l : Nat} {x y z : Str} {a b d : Expr} {ma mb mc : Ev} {px py pz pt : Pos} {kt k2 pt2} {pos : Pos} (hc : X.calm = true) (hN : X.N.Nodup) (hi : X.N[i]? = some x) (hj : X.N[j]? = some y) (hl : X.N[l]? = some z) (hij : i ≠ j) (hil : i ≠ l) (hjl : j ≠ l)
    (hx : X.env.scope.names.lookup x = some .local) (hy : X.env.scope.names.lookup y = some .local) (hz : X.env.scope.names.lookup z = some .local) (ha : DE X c W a ma) (hb : DE X c W b mb) (hd : DE X c W d mc)
    (hw : swappedStores [.Tuple [.Name x px, .Name y py, .Name z pz] kt pt] (.Tuple [a, b, d] k2 pt2) X.env = pure (some [x, y, z]))
    (hs : swapsWithSole [.Tuple [.Name x px, .Name y py, .Name z pz] kt pt] (.Tuple [a, b, d] k2 pt2) pos.line X.env = pure false := by rfl)
    (hs1 : starEach [a, b, d] X.env = (false, eval a X.env) :: starEach [b, d] X.env := by rfl) (hs2 : starEach [b, d] X.env = (false, eval b X.env) :: starEach [d] X.env := by rfl) (hs3 : starEach [d] X.env = (false, eval d X.env) :: starEach [] X.env := by rfl) :
    DS X c W (.Assign [.Tuple [.Name x px, .Name y py, .Name z pz] kt pt] (.Tuple [a, b, d] k2 pt2) pos) (mPar3 i j l ma mb mc) :=
  ps_imp (ps_par3 hc hN hi hj hl hij hil hjl hx hy hz (pa_cons ha (pa_cons hb (pa_cons hd pa_nil hs3) hs2) hs1) hw hs) fun D σ H ⟨ι, sl, ah, rh, S, p⟩ => ⟨ι, sl, ah, rh, S, PostS.step S p fun x H1 ι1 a ah1 e1 r1 ra S1 p1 =>
    ⟨ι1, sl, ah1, r1, S1, PostS.step S1 p1 fun y H2 ι2 b ah2 e2 r2 rb S2 p2 => ⟨ι2, sl, ah2, r2, S2, PostS.step S2 p2 fun z H3 ι3 d ah3 e3 r3 rd S3 p3 => ⟨_, _, _, rfl, p3.nx r3 (((S3.set ((ra.ext e2).ext e3) i).set (rb.ext e3) j).set rd l)⟩⟩⟩⟩
theorem par3c {i j l : Nat} {ma : Ev} {u v : AV} : mPar3 i j l ma (mC u) (mC v) = mSeq (mSet i ma) (mSeq (mSet j (mC u)) (mSet l (mC v))) := by
  funext sl h
  unfold mPar3 mSeq mSet
  cases ma sl h <;> rfl
theorem ds_par3c {i j l : Nat} {x y z : Str} {a b d : Expr} {ma : Ev} {u v : AV} {px py pz pt : Pos} {kt k2 pt2} {pos : Pos} (hc : X.calm = true) (hN : X.N.Nodup) (hi : X.N[i]? = some x) (hj : X.N[j]? = some y) (hl : X.N[l]? = some z) (hij : i ≠ j) (hil : i ≠ l) (hjl : j ≠ l)
    (hx : X.env.scope.names.lookup x = some .local) (hy : X.env.scope.names.lookup y = some .local) (hz : X.env.scope.names.lookup z = some .local) (ha : DE X c W a ma) (hb : DE X c W b (mC u)) (hd : DE X c W d (mC v))
    (hw : swappedStores [.Tuple [.Name x px, .Name y py, .Name z pz] kt pt] (.Tuple [a, b, d] k2 pt2) X.env = pure (some [x, y, z]))
    (hs : swapsWithSole [.Tuple [.Name x px, .Name y py, .Name z pz] kt pt] (.Tuple [a, b, d] k2 pt2) pos.line X.env = pure false := by rfl)
    (hs1 : starEach [a, b, d] X.env = (false, eval a X.env) :: starEach [b, d] X.env := by rfl) (hs2 : starEach [b, d] X.env = (false, eval b X.env) :: starEach [d] X.env := by rfl) (hs3 : starEach [d] X.env = (false, eval d X.env) :: starEach [] X.env := by rfl) :
    DS X c W (.Assign [.Tuple [.Name x px, .Name y py, .Name z pz] kt pt] (.Tuple [a, b, d] k2 pt2) pos) (mSeq (mSet i ma) (mSeq (mSet j (mC u)) (mSet l (mC v)))) := par3c ▸ ds_par3 hc hN hi hj hl hij hil hjl hx hy hz ha hb hd hw hs hs1 hs2 hs3
end
end Det

/-! Det19: replace of written texts (a token is out when a def's body begins). -/
namespace Det
open PySem PySem.Spec PyProof.Rows L2
abbrev DET (X : Cx) (c : Ct) (W : WX) (e : Expr) (m : Ev) : Prop := PET X e (tD X.K c W m)
abbrev DAT (X : Cx) (c : Ct) (W : WX) (es : List Expr) (m : Ea) : Prop := PAT X es (tDa X.K c W m)
abbrev DST (X : Cx) (c : Ct) (W : WX) (st : Stmt) (m : Es) : Prop := PST X st (tDs X.K c W m)
abbrev DSsT (X : Cx) (c : Ct) (W : WX) (st : List Stmt) (m : Es) : Prop := PSsT X st (tDs X.K c W m)
theorem pet_imp {X : Cx} {e : Expr} {t t' : TE} (h : PET X e t) (k : ∀ σ H Q, t' σ H Q → t σ H Q) : PET X e t' := fun pins s σ H Q h0 I q => h pins s σ H Q h0 I (k σ H Q q)
theorem pat_imp {X : Cx} {e : List Expr} {t t' : TA} (h : PAT X e t) (k : ∀ σ H Q, t' σ H Q → t σ H Q) : PAT X e t' := fun po pins s σ H Q h0 I q => h po pins s σ H Q h0 I (k σ H Q q)
theorem pst_imp {X : Cx} {e : Stmt} {t t' : TS} (h : PST X e t) (k : ∀ D σ H, t' D σ H → t D σ H) : PST X e t' := fun pins s σ H D h0 I q => h pins s σ H D h0 I (k D σ H q)
theorem psst_imp {X : Cx} {e : List Stmt} {t t' : TS} (h : PSsT X e t) (k : ∀ D σ H, t' D σ H → t D σ H) : PSsT X e t' := fun pins s σ H D h0 I q => h pins s σ H D h0 I (k D σ H q)
/-- x.replace(y, z), y and z written -/
def opRepl (y z : List Nat) : Op1 := fun v h => match v with
  | .str s => if s.length ≤ 1000000 ∧ z.length ≤ 10 then some (.str (StrLaws.replL y z s), h) else none
  | _ => none
section
variable {X : Cx} {c : Ct} {W : WX} {o e : Expr} {es : List Expr} {mo me ma : Ev} {mr : Ea} {j k : Nat} {c0 c1 apos pos : Pos}
theorem det_of (h : DE X c W e me) : DET X c W e me := CwR.PET.of h
theorem dat_of (h : DA X c W es mr) : DAT X c W es mr := fun pos pins s σ H Q _ I q => h.run pos pins s σ H Q I q
theorem repl_mk {s : List Nat} {ys zs : Str} (hy : ys.cps.toList ≠ []) : Txt.replace (mkS s) ys zs = mkS (StrLaws.replL ys.cps.toList zs.cps.toList s) := by
  have hl : 1 ≤ ys.length := by
    have : ys.cps.toList.length = ys.length := by simp [Str.length]
    have h2 := List.length_pos_iff.mpr hy
    omega
  have := StrLaws.replace_list (x := mkS s) (y := ys) (z := zs) hl
  rw [← mkS_tl (Txt.replace (mkS s) ys zs), this]
  simp [mkS]
theorem det_repl (y z : List Nat) {ys zs : Str} (ho : DE X c W o mo) (hy : ys.cps.toList = y := by decide +kernel) (hz : zs.cps.toList = z := by decide +kernel) (hne : y ≠ [] := by decide) (hyz : (ys == zs) = false := by decide)
    (hst : starEach [.Constant (.str ys) j c0, .Constant (.str zs) k c1] X.env = [(false, eval (.Constant (.str ys) j c0) X.env), (false, eval (.Constant (.str zs) k c1) X.env)] := by rfl)
    (hbase : attributeBase o "replace" X.env (eval o X.env) = eval o X.env := by rfl) (hline : (apos.endLine == pos.line) = true := by rfl) :
    DET X c W (.Call (.Attribute o "replace" apos) [.Constant (.str ys) j c0, .Constant (.str zs) k c1] [] pos) (mUn (opRepl y z) mo) :=
  pet_imp (CwR.pet_replC ho hyz hst hbase hline) fun σ H Q ⟨ι, sl, ah, rh, S, p⟩ => ⟨ι, sl, ah, rh, S, Post.step p fun x H1 ι1 v ah1 e1 r1 rv p1 => by
    subst hy hz
    cases v with
    | str s =>
      cases rv
      by_cases hl : s.length ≤ 1000000 ∧ zs.cps.toList.length ≤ 10
      · have e : opRepl ys.cps.toList zs.cps.toList (.str s) ah1 = some (.str (StrLaws.replL ys.cps.toList zs.cps.toList s), ah1) := if_pos hl
        rw [e] at p1
        have hzl : zs.length = zs.cps.toList.length := by simp [Str.length]
        refine ⟨mkS s, rfl, ?_, ?_⟩
        · rw [mkS_len, hzl]
          have h2 : (s.length + 1) * zs.cps.toList.length ≤ (1000000 + 1) * 10 := Nat.mul_le_mul (by omega) hl.2
          omega
        · rw [repl_mk hne]
          exact p1 ι1 H1 _ (Ext.refl _ _) r1 rfl
      · have e : opRepl ys.cps.toList zs.cps.toList (.str s) ah1 = none := if_neg hl
        rw [e] at p1
        exact p1.elim
    | _ => exact p1.elim⟩
theorem dat_cons (ha : DET X c W e ma) (hr : DAT X c W es mr) (hs : starEach (e :: es) X.env = (false, eval e X.env) :: starEach es X.env := by rfl) : DAT X c W (e :: es) (mCons ma mr) :=
  pat_imp (pat_cons ha hr hs) fun σ H Q ⟨ι, sl, ah, rh, S, p⟩ => ⟨ι, sl, ah, rh, S, Post.step p fun x H1 ι1 a ah1 e1 r1 ra p1 =>
    ⟨ι1, sl, ah1, r1, S.ext e1, Post.step p1 fun xs H2 ι2 as ah2 e2 r2 rs p2 => p2 ι2 H2 _ (Ext.refl _ _) r2 (.cons (ra.ext e2) rs)⟩⟩
theorem pet_tup {x1} {t : TA} (h : PAT X es t) : PET X (.Tuple es x1 pos) (tTup t) := by
  intro pins s σ H Q h0 I hq
  refine wpAny_Tuple_spliced (thn (h pos pins s σ H _ h0 I hq) fun us s1 ⟨xs, H1, I1, r, z, q⟩ => ⟨by rw [← r.length]; exact z, ?_⟩)
  have hf : H1 s1.heap.objs.size = none := I1.hok.fresh (Nat.le_refl _)
  refine ⟨.ref s1.heap.objs.size, upd H1 s1.heap.objs.size (.tup xs), I1.laid (t' := s1.toks) (fun b u e => Heap.get?_push_of_some _ e) (Nat.le_refl _) ?_, rfl, q _ hf⟩
  exact ⟨z, us, r, ⟨_, Heap.get?_push_size _ rfl, rfl, _, rfl⟩⟩
theorem det_tup {x1} (h : DAT X c W es mr) : DET X c W (.Tuple es x1 pos) (mTup mr) :=
  pet_imp (pet_tup h) fun σ H Q ⟨ι, sl, ah, rh, S, p⟩ => ⟨ι, sl, ah, rh, S, Post.step p fun xs H1 ι1 as ah1 e1 r1 ra p1 => by
    split at p1
    · rename_i hl
      refine ⟨by rw [← Paired.length ra]; exact le_of_line hl, lay_tup r1 ra p1⟩
    · exact p1.elim⟩
theorem dst_ret (he : DET X c W e me) : DST X c W (.Return (some e) pos) (mRet me) :=
  pst_imp (CwR.pst_ret he) fun D σ H ⟨ι, sl, ah, rh, S, p⟩ => ⟨ι, sl, ah, rh, S, PostS.step S p fun x H1 ι1 a ah1 e1 r1 ra S1 p1 => p1 ι1 H1 x (Ext.refl _ _) r1 ra⟩
theorem dsst_one {st : Stmt} {m : Es} (h1 : DST X c W st m) : DSsT X c W [st] m := fun pins s σ H D h0 I q => psst_imp (CwR.psst_one h1) (fun D σ H q => by
    first
    | exact q
    | (unfold tSeq; exact q)) pins s σ H D h0 I q
end
section
variable {P : Program} {w : World} {K : PySem.W.Frag} {mg : Str → Option Value} {base : Heap} {c : Ct}
/-- the rule for a def whose body gives out a token -/
theorem fnDT {x qual : Str} {st : Stmt} {f : Addr} {fd : FuncData} {N ps : List Str} {k : Nat} {m : Es} (F : Fun K x qual st f fd) (S : FnScope N ps (defScope st)) (hnc : ∀ y ∈ (defScope st).names, y.2 ≠ .cell) (hps : 1 ≤ ps.length)
    (hb : ∀ (cdv : Value) (A : Around) (outer : List Env) (s : Shared) (H : Hp) (E : XK), Room k (A.deeper (envOfC qual (defScope st) s.heap.objs.size f cdv)) →
      DSsT (cxOf (L2.CX P w) P w K mg base N qual (defScope st) f cdv A outer s H E) c (fun cls d _ H => E cls d H) (defBody st) m) : FnOk P w K mg base (L2.CX P w) (k + 1) f fd ps (spM K c ps.length (mFn N.length m)) := by
  obtain ⟨oc, od, kV, doc, pm, an, cdv, ct, osl, rfl, lk, hcd⟩ := F.ex
  refine fn_ofT lk hcd S hnc hps spM_len fun A outer s H vs Q E hr h => ⟨_, hb cdv A outer s H E hr, ?_⟩
  obtain ⟨ι, as, ah, rh, rv, hl, p⟩ := h
  refine ⟨ι, as.map some ++ List.replicate (N.length - as.length) none, ah, rh, ?_, ?_⟩
  · unfold L2.start
    rw [← Paired.length rv]
    exact rs_start rv _
  · unfold mFn at p
    revert p
    cases m (as.map some ++ List.replicate (N.length - as.length) none) ah with
    | nx s h => exact fun q ι' H' σ' e r _ => q ι' H' .non e r rfl
    | rt v h => exact fun q ι' H' x e r rx => q ι' H' x e r rx
    | ex x s h => exact fun q ι' H' σ' cls d e r _ rx => q ι' H' cls d e r rx
    | bk s h => exact fun q => q.elim
    | ct s h => exact fun q => q.elim
    | no => exact fun q => q.elim
end
/-! ### range with a step that goes up -/
def upN (i j k : Int) : Nat := (if i < j then (j - i - 1) / k + 1 else 0).toNat
def mRange3p (ma mb mc : Ev) : Ei := fun sl h => (ma sl h).bind fun v h1 => (mb sl h1).bind fun u h2 => (mc sl h2).bind fun t h3 => match v, u, t with
  | .int i, .int j, .int k => if (small60 i && small60 j && decide (0 < k ∧ k ≤ 1000000)) = true then .ok ⟨(List.range (upN i j k)).map fun (m : Nat) => [.int (i + (m : Int) * k)], []⟩ h3 else .no
  | _, _, _ => .no
theorem RgC_pos {i j k : Int} (ha : -(2 ^ 60) ≤ i) (ha' : i < 2 ^ 60) (hb : -(2 ^ 60) ≤ j) (hb' : j < 2 ^ 60) (hk : 0 < k) (hk2 : k ≤ 1000000) : RgC i j k (upN i j k) := by
  have h1 : i < j → 0 ≤ (j - i - 1) / k ∧ (j - i - 1) / k ≤ j - i - 1 := fun h => ⟨Int.ediv_nonneg (by omega) (by omega), Int.ediv_le_self _ (by omega)⟩
  have e : Builtin.Range.rangeSize i j k = if i < j then (j - i - 1) / k + 1 else 0 := by
    unfold Builtin.Range.rangeSize
    rw [if_pos (by omega)]
  refine ⟨by omega, by omega, ?_, ?_⟩
  · unfold Builtin.Range.small
    rw [e]
    simp only [Builtin.Range.rangeFitsLong, Bool.and_eq_true, Bool.or_eq_true, decide_eq_true_eq, beq_iff_eq, if_pos (show k > 0 by omega)]
    split
    · rename_i h
      have := h1 h
      omega
    · omega
  · rw [e]
    unfold upN
    split
    · rename_i h
      have := h1 h
      omega
    · rfl
section
variable {X : Cx} {c : Ct} {W : WX} {K : PySem.W.Frag} {ι : List Addr}
theorem jr_rangeU {lo k : Int} {n : Nat} : JRel K c ι ⟨(List.range n).map fun (m : Nat) => [.int (lo + (m : Int) * k)], []⟩ (Itc lo k n) := fun ι' H' ah' hp rh ck => by
  refine ⟨by show n ≤ _; simp, fun i it hi => ?_⟩
  simp only [List.getElem?_map, Option.map_eq_some_iff] at hi
  obtain ⟨x, hx, rfl⟩ := hi
  have hl : i < n := by have := (List.getElem?_eq_some_iff.mp hx).1; simpa using this
  rw [List.getElem?_range hl] at hx
  cases hx
  exact ⟨hl, fun z H2 hz => by obtain ⟨rfl, rfl⟩ := hz; exact ⟨rfl, .inl rfl⟩⟩
theorem di_range3p {tg e d f : Expr} {m n o : Ev} {p pos : Pos} (hg : Gl X "range") (hm : X.mg "range" = none) (h : DE X c W e m) (h' : DE X c W d n) (h'' : DE X c W f o)
    (hr : ∀ {ta : TA}, PA X [e, d, f] ta → PI X tg (.Call (.Name "range" p) [e, d, f] [] pos) (iRng3 ta)) (hs : starEach [e, d, f] X.env = (false, eval e X.env) :: starEach [d, f] X.env := by rfl) (hs2 : starEach [d, f] X.env = (false, eval d X.env) :: starEach [f] X.env := by rfl) (hs3 : starEach [f] X.env = (false, eval f X.env) :: starEach [] X.env := by rfl) :
    DI X c W tg (.Call (.Name "range" p) [e, d, f] [] pos) (mRange3p m n o) :=
  pi_imp (hr (pa_cons h (pa_cons h' (pa_cons h'' pa_nil hs3) hs2) hs)) fun σ H Q ⟨ι, sl, ah, rh, S, p⟩ => ⟨ι, sl, ah, rh, S, Post.step p fun x H1 ι1 v ah1 e1 r1 rv p1 => ⟨ι1, sl, ah1, r1, S.ext e1, Post.step p1 fun y H2 ι2 u ah2 e2 r2 ru p2 => ⟨ι2, sl, ah2, r2, (S.ext e1).ext e2, Post.step p2 fun z H3 ι3 t ah3 e3 r3 rt p3 => by
    split at p3
    · rename_i i j k
      split at p3
      · rename_i hj
        rw [Bool.and_eq_true, Bool.and_eq_true, decide_eq_true_eq] at hj
        obtain ⟨⟨hj1, hj2⟩, hk1, hk2⟩ := hj
        obtain ⟨h1, h2⟩ := small60_iff hj1
        obtain ⟨h3, h4⟩ := small60_iff hj2
        cases rv; cases ru; cases rt
        exact ⟨i, j, k, _, rfl, RgC_pos (by omega) (by omega) (by omega) (by omega) hk1 hk2, p3 ι3 H3 _ (Ext.refl _ _) r3 jr_rangeU⟩
      · exact p3.elim
    · exact p3.elim⟩⟩⟩
end
end Det

/-! Det20: sorted ints; three stores of which the last is fresh. -/
namespace Det
open PySem PySem.Spec PyProof.Rows L2
def insZ (x : Int) : List Int → List Int
  | [] => [x]
  | y :: r => if x ≤ y then x :: y :: r else y :: insZ x r
def sortZ : List Int → List Int
  | [] => []
  | x :: r => insZ x (sortZ r)
theorem insZ_perm (x : Int) : ∀ l : List Int, (insZ x l).Perm (x :: l)
  | [] => .refl _
  | y :: r => by
    unfold insZ
    split
    · exact .refl _
    · exact ((insZ_perm x r).cons y).trans (.swap x y r)
theorem sortZ_perm : ∀ l : List Int, (sortZ l).Perm l
  | [] => .refl _
  | x :: r => (insZ_perm x (sortZ r)).trans ((sortZ_perm r).cons x)
theorem insZ_srt (x : Int) : ∀ l : List Int, l.Pairwise (· ≤ ·) → (insZ x l).Pairwise (· ≤ ·)
  | [], _ => by simp [insZ]
  | y :: r, h => by
    unfold insZ
    have h2 := List.pairwise_cons.mp h
    split
    · rename_i hxy
      refine List.pairwise_cons.mpr ⟨fun z hz => ?_, h⟩
      rcases List.mem_cons.mp hz with rfl | hz
      · exact hxy
      · exact Int.le_trans hxy (h2.1 z hz)
    · rename_i hxy
      refine List.pairwise_cons.mpr ⟨fun z hz => ?_, insZ_srt x r h2.2⟩
      rcases List.mem_cons.mp ((insZ_perm x r).mem_iff.mp hz) with rfl | hz
      · omega
      · exact h2.1 z hz
theorem sortZ_srt : ∀ l : List Int, (sortZ l).Pairwise (· ≤ ·)
  | [] => List.Pairwise.nil
  | x :: r => insZ_srt x _ (sortZ_srt r)
theorem sortZ_eq {l m : List Int} (h : m.Perm l) (hs : m.Pairwise (· ≤ ·)) : m = sortZ l :=
  List.Perm.eq_of_pairwise (fun a b _ _ h1 h2 => Int.le_antisymm h1 h2) hs (sortZ_srt l) (h.trans (sortZ_perm l).symm)
/-- sorted(xs), ints -/
def bSorted : OpN := fun as h => match as with
  | [x] => match (rdL h x).bind intsOf with
    | some ns => some (.ref h.length, h ++ [.lst ((sortZ ns).map .int)])
    | none => none
  | _ => none
theorem rvs_ints {c : Ct} {ι : List Addr} : ∀ ns : List Int, RVs c ι (ns.map .int) (ns.map V.int)
  | [] => .nil
  | n :: r => .cons rfl (rvs_ints r)
section
variable {X : Cx} {c : Ct} {W : WX}
theorem dl_sorted : DCl X c (.builtin "sorted") bSorted := dcl fun pins s σ H xs us Q ι as ah w ah' I r rh ra e q => by
  unfold bSorted at e
  split at e
  · obtain ⟨x, rfl, rx⟩ := rvs1 ra
    split at e
    · rename_i ns hn
      cases e
      obtain ⟨a, rfl, s1⟩ := rd_ints rh hn rx
      refine cr_sortedI pins s σ H _ us Q I r ⟨a, ns, rfl, s1, fun ns' p hp hs hf => ?_⟩
      rw [sortZ_eq hp hs]
      exact lay_lst rh (rvs_ints _) (fun ι' H' z => q ι' H' z) p hf
    · cases e
  · cases e
theorem par3s {i j l : Nat} {ma mb mc : Ev} (h : ∀ sl u v h, mc ((List.set sl i u).set j v) h = mc sl h) (hx : ∀ sl h x h', mc sl h ≠ .ex x h') : mPar3 i j l ma mb mc = mSeq (mPar i j ma mb) (mSet l mc) := by
  funext sl h0
  unfold mPar3 mSeq mPar mSet
  cases ma sl h0 with
  | ok v h1 =>
    show (mb sl h1).bindS sl _ = (match (mb sl h1).bindS sl _ with | .nx sl' h' => _ | .rt v h => _ | .bk sl h => _ | .ct sl h => _ | .ex x sl h => _ | .no => _)
    cases mb sl h1 with
    | ok u h2 =>
      show (mc sl h2).bindS sl _ = (mc _ h2).bindS _ _
      rw [h]
      cases e : mc sl h2 with
      | ok z h3 => rfl
      | ex x h3 => exact absurd e (hx _ _ _ _)
      | no => rfl
    | ex x h2 => rfl
    | no => rfl
  | ex x h1 => rfl
  | no => rfl
theorem ds_par3s {i j l : Nat} {x y z : Str} {a b d : Expr} {ma mb mc : Ev} {px py pz pt : Pos} {kt k2 pt2} {pos : Pos} (h : ∀ sl u v h, mc ((List.set sl i u).set j v) h = mc sl h) (hx' : ∀ sl h x h', mc sl h ≠ .ex x h') (hc : X.calm = true) (hN : X.N.Nodup) (hi : X.N[i]? = some x) (hj : X.N[j]? = some y) (hl : X.N[l]? = some z) (hij : i ≠ j) (hil : i ≠ l) (hjl : j ≠ l)
    (hx : X.env.scope.names.lookup x = some .local) (hy : X.env.scope.names.lookup y = some .local) (hz : X.env.scope.names.lookup z = some .local) (ha : DE X c W a ma) (hb : DE X c W b mb) (hd : DE X c W d mc)
    (hw : swappedStores [.Tuple [.Name x px, .Name y py, .Name z pz] kt pt] (.Tuple [a, b, d] k2 pt2) X.env = pure (some [x, y, z]))
    (hs : swapsWithSole [.Tuple [.Name x px, .Name y py, .Name z pz] kt pt] (.Tuple [a, b, d] k2 pt2) pos.line X.env = pure false := by rfl)
    (hs1 : starEach [a, b, d] X.env = (false, eval a X.env) :: starEach [b, d] X.env := by rfl) (hs2 : starEach [b, d] X.env = (false, eval b X.env) :: starEach [d] X.env := by rfl) (hs3 : starEach [d] X.env = (false, eval d X.env) :: starEach [] X.env := by rfl) :
    DS X c W (.Assign [.Tuple [.Name x px, .Name y py, .Name z pz] kt pt] (.Tuple [a, b, d] k2 pt2) pos) (mSeq (mPar i j ma mb) (mSet l mc)) := par3s h hx' ▸ ds_par3 hc hN hi hj hl hij hil hjl hx hy hz ha hb hd hw hs hs1 hs2 hs3
end
end Det

/-! Det21: d.get(k, x); a text turned. -/
namespace Det
open PySem PySem.Spec PyProof.Rows L2
def mGet : OpM := fun x as h => match as with
  | [y, d] => match dicOf h x with
    | some kvs => match keyOf y with
      | some k => some ((valA kvs k).getD d, h)
      | none => none
    | none => none
  | _ => none
section
variable {X : Cx} {c : Ct} {W : WX}
theorem dm_get (hu : X.A.units + 64 < cLine) : DMt X c "dict.get" mGet := dmt fun pins s σ H x xs v us Q ι a as ah w ah' I rx r rh ra rs e q => by
  unfold mGet at e
  split at e
  · rename_i y d
    split at e
    · rename_i kvs hd
      split at e
      · rename_i k hk
        cases e
        obtain ⟨n, a', vs, rfl, rfl, ha, hn, rk, hH⟩ := dicOf_ok rh hd ra
        obtain ⟨y', d', rfl, ry, rd⟩ := rvs2 rs
        obtain ⟨u1, u2, rfl, ru1, ru2⟩ := vals2 r
        have hy := keyOf_ok hk ry
        subst hy
        cases rx
        have g : DGet H a' (kV (kk k)) (valV vs (kk k)) := DGet.k hH
        refine d_get2 (Nat.lt_of_le_of_lt (Nat.add_le_add_left (by decide) _) hu) I g ru1 ru2 fun w' s' I' rw' => ⟨_, H, I', rw', q ι H _ (Ext.refl _ _) rh ?_⟩
        obtain ⟨k1, k2⟩ := valA_ok k rk
        cases e : valA kvs k with
        | none => rw [k2 e]; exact rd
        | some z =>
          obtain ⟨z', hz, rz⟩ := k1 z e
          rw [hz]
          exact rz
      · cases e
    · cases e
  · cases e
/-- s[::-1] -/
def opRevS : Op1 := fun v h => match v with
  | .str s => if s.length ≤ LINE then some (.str s.reverse, h) else none
  | _ => none
theorem rev_mk (s : List Nat) (u : Tok) : Txt.sliceBy (mkS s) none none (-1, u) = mkS s.reverse := by
  rw [← mkS_tl (Txt.sliceBy (mkS s) none none (-1, u)), step_rev_list]
  congr 1
  have hl := mkS_len s
  apply List.ext_getElem?
  intro i
  by_cases hi : i < s.length
  · rw [List.getElem?_map, List.getElem?_range (by omega), List.getElem?_reverse hi]
    show some ((mkS s).cps.getD ((mkS s).length - 1 - i) 0) = _
    rw [hl]
    have : s.length - 1 - i < s.length := by omega
    rw [List.getElem?_eq_getElem this]
    simp [mkS, Array.getD, this]
  · rw [List.getElem?_eq_none (by simp; omega), List.getElem?_eq_none (by simp; omega)]
def tRevS (te : TE) : TE := fun σ H Q => te σ H fun x H1 => ∃ s : List Nat, x = .str (mkS s) ∧ s.length ≤ sizeLine ∧ Q (.str (mkS s.reverse)) H1
theorem pe_revS {e : Expr} {te : TE} {k : Nat} {p1 p2 p3 pos : Pos} (he : PE X e te) : PE X (.Subscript e (.Slice none none (some (.UnaryOp .USub (.Constant (.int 1) k p1) p2)) p3) pos) (tRevS te) := by
  refine ⟨fun pins s σ H Q I h => ?_⟩
  refine Subscript_ (thn (he.run pins s σ H _ I h) fun v s1 ⟨x, H1, I1, r1, q1⟩ => ?_)
  obtain ⟨z, ex, hz, q⟩ := q1
  subst ex
  obtain ⟨t, rfl⟩ := r1
  have hst : PO X (some (.UnaryOp .USub (.Constant (.int 1) k p1) p2)) (tPart (tUn (rU fun i => .int (-i)) (tC (.int 1)))) := po_some (pe_un un_neg pe_int)
  refine wpAny_Slice (thn (po_none.run pins s1 σ H1 (fun o H2 => o = none ∧ H2 = H1) I1 ⟨rfl, rfl⟩) fun vl s2 ⟨l, H2, I2, pl, el, e2⟩ => ?_)
  subst el e2
  refine thn (po_none.run pins s2 σ H2 (fun o H3 => o = none ∧ H3 = H2) I2 ⟨rfl, rfl⟩) fun vu s3 ⟨u, H3, I3, pu, eu, e3⟩ => ?_
  subst eu e3
  refine thn (hst.run pins s3 σ H3 (fun o H4 => o = some (-1) ∧ H4 = H3) I3 ⟨1, rfl, -1, rfl, rfl, rfl⟩) fun vs s4 ⟨o, H4, I4, ps, eo, e4⟩ => ?_
  subst eo e4
  cases pl
  cases pu
  obtain ⟨tk, rfl⟩ : ∃ tk, vs = .int (-1) tk := by cases ps; exact ⟨_, rfl⟩
  have I5 : Inv X pins σ H4 { s4 with heap := s4.heap.push { cls := .type "slice", data := .fields #[.none, .none, .int (-1) tk] } } := I4.kept (t' := s4.toks) fun b ob q => Heap.get?_push_of_some _ q
  show wpAny (model X.prog X.w) X.A (subscriptTail e (.Slice none none (some (.UnaryOp .USub (.Constant (.int 1) k p1) p2)) p3) (.str (mkS z) t) (.ref s4.heap.objs.size)) (EP X pins σ Q) X.xe { s4 with heap := s4.heap.push { cls := .type "slice", data := .fields #[.none, .none, .int (-1) tk] } }
  have e5 : Txt.sliceBy (mkS z) none none (-1, tk) = mkS z.reverse := rev_mk z tk
  have hsz : (Txt.sliceBy (mkS z) none none (-1, tk)).length ≤ sizeLine := by rw [e5, mkS_len, List.length_reverse]; exact hz
  refine tail_any (typeIs_str _ _ _) PySem.F.slot_str_getitem.lookup ?_ (by with_unfolding_all rfl)
  refine wpAny_getItem_str_slice (l := none) (u := none) (st := some (-1, tk)) ⟨_, Heap.get?_push_size _ rfl, rfl, rfl⟩ rfl ?_
  refine post_val_or_str ⟨hsz, fun t' c => ?_⟩
  exact ⟨.str (mkS z.reverse), H4, I5.tok c, ⟨t', by rw [← e5]; rfl⟩, q⟩
theorem de_revS {e : Expr} {m : Ev} {k : Nat} {p1 p2 p3 pos : Pos} (he : DE X c W e m) : DE X c W (.Subscript e (.Slice none none (some (.UnaryOp .USub (.Constant (.int 1) k p1) p2)) p3) pos) (mUn opRevS m) :=
  pe_imp (pe_revS he) fun σ H Q ⟨ι, sl, ah, rh, S, p⟩ => ⟨ι, sl, ah, rh, S, Post.step p fun x H1 ι1 v ah1 e1 r1 rv p1 => by
    cases v with
    | str s =>
      cases rv
      by_cases hl : s.length ≤ LINE
      · have e : opRevS (.str s) ah1 = some (.str s.reverse, ah1) := if_pos hl
        rw [e] at p1
        exact ⟨s, rfl, le_of_line hl, p1 ι1 H1 _ (Ext.refl _ _) r1 rfl⟩
      · have e : opRevS (.str s) ah1 = none := if_neg hl
        rw [e] at p1
        exact p1.elim
    | _ => exact p1.elim⟩
end
end Det

/-! Det22: s.split(sign). -/
namespace Det
open PySem PySem.Spec PyProof.Rows L2
/-- s cut at each c -/
def splC (c : Nat) : List Nat → List Nat → List (List Nat)
  | acc, [] => [acc]
  | acc, d :: r => if d = c then acc :: splC c [] r else splC c (acc ++ [d]) r
theorem spl_C (c : Nat) : ∀ (s acc : List Nat), TL.spl [c] 0 acc s = splC c acc s
  | [], acc => rfl
  | d :: r, acc => by
    unfold TL.spl splC
    have e : TL.pre [c] (d :: r) = decide (d = c) := by
      unfold TL.pre
      show ((d :: r).take 1 == [c]) = _
      by_cases h : d = c <;> simp [h]
    rw [e]
    by_cases h : d = c
    · rw [if_pos (decide_eq_true h), if_pos h]
      show acc :: TL.spl [c] 0 [] r = _
      rw [spl_C c r []]
    · rw [if_neg (by simpa using h), if_neg h, spl_C c r]
def mSplit : OpM := fun x as h => match x, as with
  | .str s, [.str [ch]] => if s.length ≤ 10000000 ∧ ch < 256 then some (.ref h.length, h ++ [.lst ((splC ch [] s).map .str)]) else none
  | _, _ => none
section
variable {X : Cx} {c : Ct} {W : WX}
theorem rvs_strs {ι : List Addr} : ∀ ss : List (List Nat), RVs c ι (ss.map .str) ((ss.map mkS).map V.str)
  | [] => .nil
  | n :: r => .cons rfl (rvs_strs r)
theorem dm_split : DMt X c "str.split" mSplit := dmt fun pins s σ H x xs v us Q ι a as ah w ah' I rx r rh ra rs e q => by
  unfold mSplit at e
  split at e
  · rename_i t ch
    split at e
    · rename_i hl
      cases e
      cases ra
      obtain ⟨y, rfl, ry⟩ := rvs1 rs
      cases ry
      have hsp : Txt.split (mkS t) (mkS [ch]) = (splC ch [] t).map mkS := by
        have := SX.split_S (a := t) (b := [ch]) (by simp) (by simp [hl.2])
        rw [spl_C] at this
        exact this
      refine mt_split pins s σ H _ _ v us Q I rx r ⟨mkS t, mkS [ch], rfl, rfl, rfl, ?_, fun p hf => ?_⟩
      · rw [mkS_len, PySem.sizeLine_eq]
        omega
      · rw [hsp]
        exact lay_lst rh (rvs_strs _) (fun ι' H' z => q ι' H' z) p hf
    · cases e
  · cases e
end
end Det

/-! Det23: loops whose body wants a token; three stores of parts. -/
namespace Det
open PySem PySem.Spec PyProof.Rows L2
theorem thnT {α : Type} {M : Model} {A : Around} {t : Sem α} {Q R : α → Shared → Prop} {E : Value → Shared → Prop} {s : Shared} (h0 : 1 ≤ s.toks) (h : wpAny M A t Q E s) (k : ∀ v s', 1 ≤ s'.toks → Q v s' → R v s') : wpAny M A t R E s :=
  wpAny_mono (PySem.wpAny_toks_of h0 h) (fun v s' q => k v s' q.1 q.2) fun _ _ z => z.2
section
variable {X : Cx} {c : Ct} {W : WX}
/-- for, a token out when its body begins -/
theorem pst_forT {tg iter : Expr} {body : List Stmt} {wi : TI} {g : TG} {tb : TS} {pos : Pos} (hp : PassesOwn (model X.prog X.w) X.A X.env X.xe) (hc : X.calm = true) (hi : PI X tg iter wi) (hg : PG X tg g) (hb : PSsT X body tb)
    (hs : ∀ x, foldedSetIterable iter X.env x = pure x := by intro _; rfl) : PST X (.For tg iter body [] pos) (tFor wi g tb) := by
  intro pins s σ H D h0 I h
  refine wpAny_For (thnT h0 (hi.run pins s σ H _ I h) fun v s1 t1 h1 => thnT t1 h1 fun itv s2 t2 h2 => ?_) hs
  obtain ⟨it, fp, tn, J, H2, e, I2, T, st2, f2, W, ⟨m0, w0⟩, turn⟩ := h2
  subst e
  have free : ∀ {H' : Hp}, (∀ b ∈ fp, H' b = none) → ∀ b ∈ fp, FpOk X pins H' b := fun hn b hb => ⟨hn b hb, (f2 b hb).2⟩
  refine codeAny_forLoop_any (fun n s' => 1 ≤ s'.toks ∧ ∃ i σ' H', Inv X pins σ' H' s' ∧ tn i s'.heap ∧ (∀ b ∈ fp, H' b = none) ∧ W i n σ' H') ?_ m0 ⟨t2, 0, σ, H2, I2, st2, fun b hb => (f2 b hb).1, w0⟩
  rintro n s3 ⟨t3, i, σ3, H3, I3, st3, fr3, w3⟩
  rcases turn i n σ3 H3 w3 with ⟨stop, qn⟩ | ⟨go, N, hN, step⟩
  · refine wpAny_passesOwn hp (thn (T.done X rfl rfl rfl hc i pins s3 σ3 H3 X.xe I3 (free fr3) st3 stop) fun r s4 ⟨hr, I4⟩ => ?_)
    subst hr
    exact wpAny_execs_nil ⟨σ3, H3, I4, qn⟩
  · refine wpAny_passesOwn hp (thnT t3 (T.item X rfl rfl rfl hc i pins s3 σ3 H3 X.xe I3 (free fr3) st3 go) fun r s4 t4 ⟨u, hr, h4⟩ => ?_)
    subst hr
    refine wpAny_passesOwn hp (thnT t4 h4 fun _ s5 t5 ⟨x, H5, I5, r5, y5, st5, fr5⟩ => ?_)
    have I5' := I5.pinned (free fr5) (T.obj _ _ st5)
    refine wpAny_passesOwn hp (thnT t5 (hg.run _ s5 σ3 H5 x u _ I5' r5 (step x H5 y5)) fun _ s6 t6 ⟨σ6, H6, I6, q6⟩ => ?_)
    refine wpAny_passesOwn hp (thnT t6 (hb _ s6 σ6 H6 _ t6 I6 q6) fun f s7 t7 q7 => ?_)
    have again : ∀ {σ7 : L2.St} {H7 : Hp}, Inv X (pins ++ pinsAt fp s5.heap) σ7 H7 s7 → N σ7 H7 → ∃ m, m < n ∧ (1 ≤ s7.toks ∧ ∃ i σ' H', Inv X pins σ' H' s7 ∧ tn i s7.heap ∧ (∀ b ∈ fp, H' b = none) ∧ W i m σ' H') := fun {σ7 H7} I7 n7 => by
      obtain ⟨m', hm, w7⟩ := hN σ7 H7 n7
      refine ⟨m', hm, t7, i + 1, σ7, H7, I7.unpinned, T.keep _ _ _ st5 fun b hb o e => (I7.pin (b, o) (List.mem_append_right _ (List.mem_append_right _ (mem_pinsAt hb e)))).1, fun b hb => ?_, w7⟩
      obtain ⟨o, e, d⟩ := T.obj _ _ st5 b hb
      exact (I7.pin (b, o) (List.mem_append_right _ (List.mem_append_right _ (mem_pinsAt hb e)))).2.1
    cases f with
    | next => obtain ⟨σ7, H7, I7, n7⟩ := q7; exact again I7 n7
    | cont => obtain ⟨σ7, H7, I7, n7⟩ := q7; exact again I7 n7
    | brk => obtain ⟨σ7, H7, I7, q7⟩ := q7; exact ⟨σ7, H7, I7.unpinned, q7⟩
    | ret v => obtain ⟨x7, σ7, H7, I7, r7, q7⟩ := q7; exact ⟨x7, σ7, H7, I7.unpinned, r7, q7⟩
theorem dst_for {tg iter : Expr} {body : List Stmt} {mi : Ei} {g : Eg} {mb : Es} {vs : List Nat} {pos : Pos} (hp : PassesOwn (model X.prog X.w) X.A X.env X.xe) (hc : X.calm = true) (hi : DI X c W tg iter mi) (hg : DG X c vs tg g) (hb : DSsT X c W body mb)
    (hs : ∀ x, foldedSetIterable iter X.env x = pure x := by intro _; rfl)   : DST X c W (.For tg iter body [] pos) (mFor mi g mb) :=
  pst_imp (pst_forT hp hc hi hg hb hs) fun D σ H ⟨ι, sl, ah, rh, S, p⟩ => ⟨ι, sl, ah, rh, S, PostS.step S p fun J H1 ι1 s ah1 e1 r1 jr S1 p1 => by
    refine ⟨fun i m σ H => m = s.items.length - i ∧ i ≤ s.items.length ∧ ∃ ι sl ah, (∃ r, ι = ι1 ++ r) ∧ RelH X.K c ι ah H ∧ RS c ι sl σ ∧ PostS X.K c W H ι (loopF s.chks g mb (s.items.drop i) sl ah) D,
      ⟨_, rfl, Nat.zero_le _, ι1, sl, ah1, ⟨[], by simp⟩, r1, S1, by simpa using p1⟩, ?_⟩
    rintro i m σ H ⟨rfl, hi, ι, sl, ah, hpre, rh, S, p⟩
    by_cases hlt : i < s.items.length
    · rw [List.drop_eq_getElem_cons hlt] at p
      unfold loopF at p
      split at p
      · rename_i hck
        obtain ⟨_, j2⟩ := jr ι H ah hpre rh hck
        obtain ⟨jgo, jy⟩ := j2 i _ (List.getElem?_eq_getElem hlt)
        split at p
        · rename_i sl1 h1 eg
          refine .inr ⟨jgo, fun σ' H' => ∃ ι sl ah, (∃ r, ι = ι1 ++ r) ∧ RelH X.K c ι ah H' ∧ RS c ι sl σ' ∧ PostS X.K c W H' ι (loopF s.chks g mb (s.items.drop (i + 1)) sl ah) D, fun σ' H' q => ⟨_, by omega, rfl, hlt, q⟩, fun x H' hy => ?_⟩
          obtain ⟨yv, hH⟩ := jy x H' hy
          have rh' : RelH X.K c ι ah H' := by
            rcases hH with rfl | ⟨T, u, hT, rfl⟩
            · exact rh
            · exact rh.junk hT
          have ex' : Ext H ι H' ι := by
            rcases hH with rfl | ⟨T, u, hT, rfl⟩
            · exact Ext.refl _ _
            · exact Ext.junk hT
          refine ⟨ι, sl, ah, _, sl1, h1, rh', S, yv, eg, fun ι2 H2 σ2 x2 r2 S2 _ => ⟨ι2, sl1, h1, r2, S2, ?_⟩⟩
          have p' := PostS.shift p (ex'.trans rh' x2) r2
          have pre2 : ∃ r, ι2 = ι1 ++ r := by
            obtain ⟨ra, e1⟩ := hpre
            obtain ⟨rb, e2⟩ := x2.pre'
            exact ⟨ra ++ rb, by rw [e2, e1, List.append_assoc]⟩
          have nxt : ∀ {ι3 : List Addr} {sl3 : Sl} {h3 : Hh} {H3 : Hp} {σ3 : L2.St}, PostS X.K c W H2 ι2 (loopF s.chks g mb (s.items.drop (i + 1)) sl3 h3) D → Ext H2 ι2 H3 ι3 → RelH X.K c ι3 h3 H3 → RS c ι3 sl3 σ3 →
              ∃ ι sl ah, (∃ r, ι = ι1 ++ r) ∧ RelH X.K c ι ah H3 ∧ RS c ι sl σ3 ∧ PostS X.K c W H3 ι (loopF s.chks g mb (s.items.drop (i + 1)) sl ah) D := fun {ι3 sl3 h3 H3 σ3} q x3 r3 S3 => by
            refine ⟨ι3, sl3, h3, ?_, r3, S3, PostS.shift q x3 r3⟩
            obtain ⟨ra, e1⟩ := pre2
            obtain ⟨rb, e2⟩ := x3.pre'
            exact ⟨ra ++ rb, by rw [e2, e1, List.append_assoc]⟩
          revert p'
          cases mb sl1 h1 with
          | nx s3 h3 => exact fun q ι3 H3 σ3 x3 r3 S3 => nxt q x3 r3 S3
          | ct s3 h3 => exact fun q ι3 H3 σ3 x3 r3 S3 => nxt q x3 r3 S3
          | bk s3 h3 => exact fun q => q
          | rt v h3 => exact fun q => q
          | ex x s3 h3 => exact fun q => q
          | no => exact fun q => q
        · exact p.elim
      · exact p.elim
    · have e : i = s.items.length := by omega
      subst e
      rw [List.drop_length] at p
      unfold loopF at p
      split at p
      · rename_i hck
        obtain ⟨j1, _⟩ := jr ι H ah hpre rh hck
        exact .inl ⟨j1, p.nx rh S⟩
      · exact p.elim⟩
theorem det_replT (y z : List Nat) {ys zs : Str} {o : Expr} {mo : Ev} {j k : Nat} {c0 c1 apos pos : Pos} (ho : DET X c W o mo) (hy : ys.cps.toList = y := by decide +kernel) (hz : zs.cps.toList = z := by decide +kernel) (hne : y ≠ [] := by decide) (hyz : (ys == zs) = false := by decide)
    (hst : starEach [.Constant (.str ys) j c0, .Constant (.str zs) k c1] X.env = [(false, eval (.Constant (.str ys) j c0) X.env), (false, eval (.Constant (.str zs) k c1) X.env)] := by rfl)
    (hbase : attributeBase o "replace" X.env (eval o X.env) = eval o X.env := by rfl) (hline : (apos.endLine == pos.line) = true := by rfl) :
    DET X c W (.Call (.Attribute o "replace" apos) [.Constant (.str ys) j c0, .Constant (.str zs) k c1] [] pos) (mUn (opRepl y z) mo) :=
  pet_imp (CwR.pet_replT ho hyz hst hbase hline) fun σ H Q ⟨ι, sl, ah, rh, S, p⟩ => ⟨ι, sl, ah, rh, S, Post.step p fun x H1 ι1 v ah1 e1 r1 rv p1 => by
    subst hy hz
    cases v with
    | str s =>
      cases rv
      by_cases hl : s.length ≤ 1000000 ∧ zs.cps.toList.length ≤ 10
      · have e : opRepl ys.cps.toList zs.cps.toList (.str s) ah1 = some (.str (StrLaws.replL ys.cps.toList zs.cps.toList s), ah1) := if_pos hl
        rw [e] at p1
        have hzl : zs.length = zs.cps.toList.length := by simp [Str.length]
        refine ⟨mkS s, rfl, ?_, ?_⟩
        · rw [mkS_len, hzl]
          have h2 : (s.length + 1) * zs.cps.toList.length ≤ (1000000 + 1) * 10 := Nat.mul_le_mul (by omega) hl.2
          omega
        · rw [repl_mk hne]
          exact p1 ι1 H1 _ (Ext.refl _ _) r1 rfl
      · have e : opRepl ys.cps.toList zs.cps.toList (.str s) ah1 = none := if_neg hl
        rw [e] at p1
        exact p1.elim
    | _ => exact p1.elim⟩
theorem dst_of {st : Stmt} {m : Es} (h : DS X c W st m) : DST X c W st m := PST.of h
theorem dsst_of {st : List Stmt} {m : Es} (h : DSs X c W st m) : DSsT X c W st m := PSsT.of h
theorem dsst_cons {st : Stmt} {rest : List Stmt} {m n : Es} (h1 : DST X c W st m) (h2 : DSsT X c W rest n) : DSsT X c W (st :: rest) (mSeq m n) :=
  psst_imp (psst_cons h1 h2) fun D σ H ⟨ι, sl, ah, rh, S, p⟩ => ⟨ι, sl, ah, rh, S, seq_post p⟩
theorem pst_set {i : Nat} {x : Str} {e : Expr} {te : TE} {pos' pos : Pos} (hN : X.N.Nodup) (hi : X.N[i]? = some x) (hx : Loc X.env.scope x) (he : PET X e te) (hs : swapsWith e (some (.Name x pos')) pos.line X.env = pure false := by rfl) (hf : X.fn x = true ∨ X.env.scope.names.lookup x = some .local := by first | exact .inl rfl | exact .inr rfl | assumption) :
    PST X (.Assign [.Name x pos'] e pos) (tAsg te (gName i)) := by
  intro pins s σ H D h0 I h
  refine wpAny_Assign_Name (thn (he pins s σ H _ h0 I h) fun v s1 ⟨y, H1, I1, r1, q1⟩ => ?_) hs
  exact store_ok I1 hN hi hx r1 (fun s2 I2 => ⟨_, H1, I2, q1⟩) hf
theorem dst_set {i : Nat} {x : Str} {e : Expr} {me : Ev} {pos' pos : Pos} (hN : X.N.Nodup) (hi : X.N[i]? = some x) (hx : Loc X.env.scope x) (he : DET X c W e me) (hs : swapsWith e (some (.Name x pos')) pos.line X.env = pure false := by rfl) (hf : X.fn x = true ∨ X.env.scope.names.lookup x = some .local := by first | exact .inl rfl | exact .inr rfl | assumption) :
    DST X c W (.Assign [.Name x pos'] e pos) (mSet i me) :=
  pst_imp (pst_set hN hi hx he hs hf) fun D σ H ⟨ι, sl, ah, rh, S, p⟩ => ⟨ι, sl, ah, rh, S, PostS.step S p fun x H1 ι1 a ah1 e1 r1 ra S1 p1 => p1.nx r1 (S1.set ra i)⟩
end
end Det
namespace Det
open PySem PySem.Spec PyProof.Rows L2
/-- a reading that neither looks at a slot nor raises -/
structure Calm (i : Nat) (m : Ev) : Prop where
  nd : ∀ (sl : Sl) (u : Option AV) (h : Hh), m (List.set sl i u) h = m sl h
  nx : ∀ (sl : Sl) (h : Hh) (x : AX) (h' : Hh), m sl h ≠ .ex x h'
structure CalmO (i : Nat) (m : Eo) : Prop where
  nd : ∀ (sl : Sl) (u : Option AV) (h : Hh), m (List.set sl i u) h = m sl h
  nx : ∀ (sl : Sl) (h : Hh) (x : AX) (h' : Hh), m sl h ≠ .ex x h'
theorem calm_var {i k : Nat} (hk : i ≠ k) : Calm i (mVar k) := ⟨fun sl u h => by unfold mVar; rw [List.getElem?_set_ne hk], fun sl h x h' e => by
  unfold mVar at e
  split at e <;> cases e⟩
theorem calmo_no {i : Nat} : CalmO i mNo := ⟨fun _ _ _ => rfl, fun _ _ _ _ e => nomatch e⟩
theorem calmo_some {i : Nat} {m : Ev} (hm : Calm i m) : CalmO i (mSome m) := ⟨fun sl u h => by unfold mSome; rw [hm.nd], fun sl h x h' e => by
  unfold mSome at e
  cases q : m sl h with
  | ok v h1 =>
    rw [q] at e
    cases v <;> cases e
  | ex y h1 => exact hm.nx _ _ _ _ q
  | no => rw [q] at e; cases e⟩
theorem calm_slice {i : Nat} {m : Ev} {a b : Eo} (hm : Calm i m) (ha : CalmO i a) (hb : CalmO i b) : Calm i (mSlice m a b) := ⟨fun sl u h => by unfold mSlice; simp only [hm.nd, ha.nd, hb.nd], fun sl h x h' e => by
  unfold mSlice at e
  cases q : m sl h with
  | ok v h1 =>
    rw [q] at e
    have e : ((a sl h1).bind fun l h2 => (b sl h2).bind fun u h3 => R.of (opSlice v l u h3)) = .ex x h' := e
    cases q2 : a sl h1 with
    | ok l h2 =>
      rw [q2] at e
      have e : ((b sl h2).bind fun u h3 => R.of (opSlice v l u h3)) = .ex x h' := e
      cases q3 : b sl h2 with
      | ok u h3 =>
        rw [q3] at e
        have e : R.of (opSlice v l u h3) = .ex x h' := e
        cases q4 : opSlice v l u h3 with
        | none => rw [q4] at e; cases e
        | some z => rw [q4] at e; cases e
      | ex y h3 => exact hb.nx _ _ _ _ q3
      | no => rw [q3] at e; cases e
    | ex y h2 => exact ha.nx _ _ _ _ q2
    | no => rw [q2] at e; cases e
  | ex y h1 => exact hm.nx _ _ _ _ q
  | no => rw [q] at e; cases e⟩
theorem calm2 {i j : Nat} {m : Ev} (hi : Calm i m) (hj : Calm j m) (sl : Sl) (u v : Option AV) (h : Hh) : m ((List.set sl i u).set j v) h = m sl h := by rw [hj.nd, hi.nd]
end Det

/-! Det24: defs that are entered under no guard; repr(v). -/
namespace Det
open PySem PySem.Spec PyProof.Rows L2

/-! ### a def's promise where no guard is about -/
structure FnG (P : Program) (w : World) (K : PySem.W.Frag) (mg : Str → Option Value) (base : Heap) (CX : CXT) (k : Nat) (f : Addr) (fd : FuncData) (ps : List Str) (sp : Sp) : Prop where
  len : ∀ vs H Q E, sp vs H Q E → vs.length = ps.length
  run : ∀ (A : Around) (outer : List Env) (s : Shared) (H : Hp) (args : Args) (us : List Value) (vs : List V) (Q : VK) (E : XK), A.guards = some [] → Room k A → Env0 P w K mg base A outer s H → BindsTo s fd args (ps.zip us) → Vals vs us → sp vs H Q E →
    codeAny (model P w) A (.call (.ref f) args) (CR CX outer P w H s Q E) s
theorem gd_deeper {A : Around} {env : Env} (h : A.guards = some []) : (A.deeper env).guards = some [] := h
section
variable {P : Program} {w : World} {K : PySem.W.Frag} {mg : Str → Option Value} {base : Heap} {c : Ct} {CX : CXT}
theorem fnG_of {x qual : Str} {st : Stmt} {f : Addr} {fd : FuncData} {N ps : List Str} {k : Nat} {sp : Sp} (F : Fun K x qual st f fd) (S : FnScope N ps (defScope st)) (len : ∀ vs H Q E, sp vs H Q E → vs.length = ps.length)
    (hbody : ∀ (cdv : Value) (A : Around) (outer : List Env) (s : Shared) (H : Hp) (vs : List V) (Q : VK) (E : XK), (A.deeper (envOfC qual (defScope st) s.heap.objs.size f cdv)).guards = some [] → Room k (A.deeper (envOfC qual (defScope st) s.heap.objs.size f cdv)) → sp vs H Q E →
      ∃ t, PSs (cxOf CX P w K mg base N qual (defScope st) f cdv A outer s H E) (defBody st) t ∧ t { nx := fun _ H' => Q .non H', rt := Q } (start N vs) H) : FnG P w K mg base CX (k + 1) f fd ps sp := by
  obtain ⟨oc, od, kV, doc, pm, an, cdv, ct, osl, rfl, lk, hcd⟩ := F.ex
  refine ⟨len, fun A outer s H args us vs Q E gd hr e0 hb r hsp => ?_⟩
  obtain ⟨t, ht, hq⟩ := hbody cdv A outer s H vs Q E (gd_deeper gd) (hr.deeper _) hsp
  have KX : K.In s.heap := e0.mod.kin.keeps fun b o e => (e0.bs b o e).1
  have lim : s.heap.NoLimit := e0.mod.nolimit.keeps fun b o e => (e0.bs b o e).1
  refine codeAny_call_function hr.depth (KX _ _ lk) rfl S.co S.gen rfl (PySem.W.codeRec_of KX hcd) (hb _ _ _ _ (wpAny_newFunctionEnv_cells S.kind (fun ⟨n, v⟩ hy => ?_) fun env he s1 x => ?_))
  · exact (S.par n (List.of_mem_zip hy).1).imp id fun q => ⟨q, PySem.W.cellsFrom_some _ _ _ (.inl q)⟩
  · subst he
    refine ⟨lim.keeps x.toInCall.keep, codeAny_func (wpAny_mono (ht.run [] s1 (start N vs) H _ (inv_start S hr.hd e0 (len _ _ _ _ hsp) r x) hq) (fun fl s' hs => ?_) fun e s' hs => hs)⟩
    cases fl with
    | ret u =>
      obtain ⟨v, σ', H', J, rv, q⟩ := hs
      exact ⟨v, H', J.os, J.bare, J.base, J.hok, rv, q⟩
    | next =>
      obtain ⟨σ', H', J, q⟩ := hs
      exact ⟨V.non, H', J.os, J.bare, J.base, J.hok, rfl, q⟩
    | brk =>
      obtain ⟨_, _, _, q⟩ := hs
      exact q.elim
    | cont =>
      obtain ⟨_, _, _, q⟩ := hs
      exact q.elim
/-- the rule for a def -/
theorem fnDG {x qual : Str} {st : Stmt} {f : Addr} {fd : FuncData} {N ps : List Str} {k : Nat} {m : Es} (F : Fun K x qual st f fd) (S : FnScope N ps (defScope st))
    (hb : ∀ (cdv : Value) (A : Around) (outer : List Env) (s : Shared) (H : Hp) (E : XK), (A.deeper (envOfC qual (defScope st) s.heap.objs.size f cdv)).guards = some [] → Room k (A.deeper (envOfC qual (defScope st) s.heap.objs.size f cdv)) →
      DSs (cxOf (L2.CX P w) P w K mg base N qual (defScope st) f cdv A outer s H E) c (fun cls d _ H => E cls d H) (defBody st) m) : FnG P w K mg base (L2.CX P w) (k + 1) f fd ps (spM K c ps.length (mFn N.length m)) := by
  refine fnG_of F S spM_len fun cdv A outer s H vs Q E gd hr h => ⟨_, hb cdv A outer s H E gd hr, ?_⟩
  obtain ⟨ι, as, ah, rh, rv, hl, p⟩ := h
  refine ⟨ι, as.map some ++ List.replicate (N.length - as.length) none, ah, rh, ?_, ?_⟩
  · unfold L2.start
    rw [← Paired.length rv]
    exact rs_start rv _
  · unfold mFn at p
    revert p
    cases m (as.map some ++ List.replicate (N.length - as.length) none) ah with
    | nx s h => exact fun q ι' H' σ' e r _ => q ι' H' .non e r rfl
    | rt v h => exact fun q ι' H' x e r rx => q ι' H' x e r rx
    | ex x s h => exact fun q ι' H' σ' cls d e r _ rx => q ι' H' cls d e r rx
    | bk s h => exact fun q => q.elim
    | ct s h => exact fun q => q.elim
    | no => exact fun q => q.elim
end
section
variable {X : Cx} {CX : CXT} {c : Ct} {W : WX} {k np : Nat} {f : Addr} {fd : FuncData} {ps : List Str} {m : Fn} {sp : Sp} {E : L2.St → XK} {x : Str} {p pos : Pos} {e : Expr} {es : List Expr} {ma : Ea} {t : TA}
theorem pe_callG (F : FnG X.prog X.w X.K X.mg X.base CX k f fd ps sp) (gd : X.A.guards = some []) (hr : Room k X.A) (hg : Gl X x) (hm : X.mg x = some (.ref f)) (hk : PySem.W.keepIn X.K (.ref f) = true) (hb : Binds X.K fd ps []) (hx : ∀ σ, PassesAt CX X σ (E σ))
    (ha : PA X (e :: es) t) (hdb : (x == ("__debug__" : Str)) = false := by decide) (he : starEach (e :: es) X.env = (false, eval e X.env) :: starEach es X.env := by rfl) (hpl : (backTo pos (starEach es X.env)).any (·.1) = false := by rfl) :
    PE X (.Call (.Name x p) (e :: es) [] pos) (tCallS sp E t) := by
  refine ⟨fun pins s σ H Q I h => wpAny_Call_Name_kw (ld_glob I hg hm (PySem.W.callWith_K (h₀ := X.base) I.ok.mod.kin hk (thn (ha.run pos pins s σ H _ I h) fun us s1 ⟨vs, H1, I1, r, q⟩ => ⟨I1.kIn, ?_⟩) he hpl) hdb)⟩
  have hl : us.length = ps.length := by rw [← r.length]; exact F.len _ _ _ _ q
  have b := hb s1 us I1.kIn (by rw [List.append_nil]; exact hl)
  rw [List.append_nil] at b
  refine wpAny_call (codeAny_mono (F.run X.A X.stack s1 H1 ⟨us, []⟩ us vs Q (E σ) gd hr I1.env0 b r q) fun r s' hq => ?_)
  match r, hq with
  | .error e, hq => exact hx σ pins H1 s1 e s' I1 hq
  | .ok (.ret u), hq => exact I1.after hq
  | .ok .next, hq => exact hq.elim
  | .ok .brk, hq => exact hq.elim
  | .ok .cont, hq => exact hq.elim
theorem de_callG (F : FnG X.prog X.w X.K X.mg X.base (L2.CX X.prog X.w) k f fd ps (spM X.K c np m)) (gd : X.A.guards = some []) (hr : Room k X.A) (hg : Gl X x) (hm : X.mg x = some (.ref f)) (hk : PySem.W.keepIn X.K (.ref f) = true) (hb : Binds X.K fd ps []) (tk : Takes X W)
    (ha : DA X c W (e :: es) ma) (hl : ALen np ma) (hdb : (x == ("__debug__" : Str)) = false := by decide) (he : starEach (e :: es) X.env = (false, eval e X.env) :: starEach es X.env := by rfl) (hpl : (backTo pos (starEach es X.env)).any (·.1) = false := by rfl) :
    DE X c W (.Call (.Name x p) (e :: es) [] pos) (mCall m ma) :=
  pe_imp (pe_callG F gd hr hg hm hk hb (fun σ => passAt tk σ) ha hdb he hpl) fun σ H Q h => call_imp hl h
end

/-! ### the law -/
section
variable {P : Program} {w : World} {K : PySem.W.Frag} {mg mb : Str → Option Value} {CX : CXT} {k : Nat} {fa a : Addr} {fd : FuncData} {x : Str} {sp : Sp} {s₁ : Shared} {vs : List Value} {ns : List Int}
theorem law_callG (KX : K.In s₁.heap) (hns : s₁.heap.Ns mainGlobals mg) (hb : s₁.heap.Ns builtinsNs mb) (hbb : ∀ x : Str, x ≠ "__name__" → mb x = bootBuiltins x) (hlim : s₁.heap.NoLimit) (hg : s₁.gens = #[])
    (ha : s₁.heap.get? a = some { cls := .type "list", data := .seq vs.toArray }) (hi : IntsAre vs ns) (hl : ns.length ≤ sizeLine) (hr : Room k callerA)
    (F : ∀ base : Heap, K.In base → base.Ns mainGlobals mg → FnG P w K mg base CX k fa fd [x] sp) (hbind : ∀ (s : Shared) (u : Value), BindsTo s fd ⟨[u], []⟩ [(x, u)])
    (hsp : ∀ H : Hp, Only H → SqL K H a (ns.map V.int) → sp [.ref a] H (fun v _ => v = .bl true) fun _ _ _ => False)
    (hCX : ∀ H e s', CX [] H s₁ (fun _ _ _ => False) e s' → False) :
    codeAny (model P w) callerA (.call (.ref fa) ⟨[.ref a], []⟩) (fun r s' => r = .ok (.ret (.bool true)) ∧ OldK s₁.heap s'.heap ∧ s'.os = s₁.os ∧ AllBare s'.gens) s₁ := by
  have rv := vals_ints hi
  have core : ∀ H : Hp, Only H → SqL K H a (ns.map V.int) → HOk P w H s₁.heap → (∀ b, b ≠ a → H b = none) → (H a ≠ none → K.lookup a = none) →
      codeAny (model P w) callerA (.call (.ref fa) ⟨[.ref a], []⟩) (fun r s' => r = .ok (.ret (.bool true)) ∧ OldK s₁.heap s'.heap ∧ s'.os = s₁.os ∧ AllBare s'.gens) s₁ := by
    intro H hO hS hok hA hK
    -- what is not the script's own object is not tracked
    have dict0 : ∀ {b : Addr} {m : Str → Option Value}, s₁.heap.Ns b m → (hidT s₁.heap H).Ns b m := fun {b m} ⟨o, es, ep, e, d, r⟩ => by
      have hba : b ≠ a := fun z => by subst z; rw [ha] at e; cases e; exact Data.noConfusion d
      exact ⟨o, es, ep, hidT_get e (hA b hba), d, r⟩
    have K0 : K.In (hidT s₁.heap H) := fun b o e => hidT_get (KX b o e) (Classical.byContradiction fun z => by
      have hba : b = a := Classical.byContradiction fun y => z (hA b y)
      subst hba
      rw [hK z] at e
      cases e)
    have hM : Mod K mg (hidT s₁.heap H) := ⟨K0, dict0 hns, ⟨mb, dict0 hb, hbb⟩, let ⟨mc, h1, h2⟩ := hlim; ⟨mc, dict0 h1, h2⟩⟩
    have e0 : Env0 P w K mg (hidT s₁.heap H) callerA [] s₁ H := ⟨rfl, hM, fun b o e => of_hidT e, Nat.le_of_eq (hidT_size _ _), trivial, fun b hb => absurd (show b ∈ ([] : List Addr) from hb) (by simp), hok, .of_eq hg⟩
    refine codeAny_mono ((F _ K0 (dict0 hns)).run callerA [] s₁ H ⟨[.ref a], []⟩ [.ref a] [.ref a] _ _ rfl hr e0 (hbind s₁ (.ref a)) (.cons rfl .nil) (hsp H hO hS)) fun r s' h => ?_
    match r, h with
    | .error e, h => exact (hCX H e s' h).elim
    | .ok .next, h => exact h.elim
    | .ok .brk, h => exact h.elim
    | .ok .cont, h => exact h.elim
    | .ok (.ret u), h =>
      obtain ⟨v, H', os, bare, un, hok', r', q⟩ := h
      obtain rfl : v = .bl true := q
      obtain rfl : u = Value.bool true := r'
      refine ⟨rfl, OldK.of_keep fun b o e => ?_, os, bare⟩
      rcases hO b with q | ⟨ob, xs, q⟩
      · exact un.keep b o e q (fun z => absurd (show b ∈ ([] : List Addr) from z) (by simp)) (by simp)
      · obtain ⟨e1, _⟩ := hok b _ q
        obtain ⟨e2, _⟩ := hok' b _ (un.frzs b ob _ q)
        rw [e] at e1
        cases e1
        exact e2
  have lv : vs.toArray.size ≤ sizeLine := by rw [List.size_toArray, hi.length]; exact hl
  cases hk : K.lookup a with
  | some o =>
    have e := (KX a o hk).symm.trans ha
    cases e
    exact core (fun _ => none) (fun _ => .inl rfl) (.inr ⟨_, vs.toArray, _, hk, rfl, rfl, rfl, lv, by simpa using rv⟩) (fun b u z => by have z' : (none : Option HO) = some u := z; cases z') (fun _ _ => rfl) fun z => absurd rfl z
  | none =>
    refine core (fun b => if b = a then some (.frz { cls := .type "list", data := .seq vs.toArray } (.lst (ns.map V.int))) else none) (fun b => ?_) (.inl (.inr ⟨_, if_pos rfl⟩)) (fun b u z => ?_) (fun b z => if_neg z) fun _ => hk
    · by_cases hb : b = a
      · exact .inr ⟨_, _, if_pos hb⟩
      · exact .inl (if_neg hb)
    · by_cases hb : b = a
      · have z' := (if_pos hb).symm.trans z
        cases z'
        subst hb
        exact ⟨ha, by rw [List.length_map]; exact hl, vs, _, rv, ha⟩
      · have z' := (if_neg hb).symm.trans z
        cases z'
end
theorem law_fnG {P : Program} {w : World} {K : PySem.W.Frag} {mg : Str → Option Value} {base : Heap} {k : Nat} {f : Addr} {fd : FuncData} {x : Str} {m : Fn} (mk : Addr → List Int → Ct) (hsa : ∀ a ns, (mk a ns).sa = a ∧ (mk a ns).sns = ns) (hc : ∀ a ns, ns.length ≤ 63 → CtOk K (mk a ns))
    (hF : ∀ a ns, FnG P w K mg base (L2.CX P w) k f fd [x] (spM K (mk a ns) 1 m)) (hm : ∀ ns : List Int, ns.length ≤ 63 → ∃ h, m [.scr ns] [] = .ok (.bl true) h) : FnG P w K mg base (L2.CX P w) k f fd [x] (spLaw K) := by
  refine ⟨fun vs H Q E ⟨a, ns, e, _⟩ => by rw [e]; rfl, fun A outer s H args us vs Q E gd hr e0 hb r hsp => ?_⟩
  obtain ⟨a, ns, rfl, hl, hO, hS, q⟩ := hsp
  obtain ⟨h1, h2⟩ := hsa a ns
  refine (hF a ns).run A outer s H args us [.ref a] Q E gd hr e0 hb r ⟨[], [.scr ns], [], ⟨hc a ns hl, scr_of hO (by rw [h1, h2]; exact hS), rfl, fun n o e => by simp at e, fun n m a o e => by simp at e⟩, .cons ⟨by rw [h1], h2.symm⟩ .nil, rfl, ?_⟩
  obtain ⟨h', e⟩ := hm ns hl
  rw [e]
  intro ι' H' b e1 r1 rb
  cases rb
  exact q H'
theorem law_endG {l : PySem.W.OpenLaw} {q : Program} {loose : List Str} {XP : (Str → Option Value) → Heap → Prop} {YP : World → Heap → Prop} {d : DefRec} {K : Params → PySem.W.Frag} {k : Nat} {x : Str} (hn : l.most = some 63) (hdf : d.params.defaults = []) (hr : Room k callerA)
    (hY : ∀ (w : World) (h : Heap), YP w h → (K w.params).In h)
    (F : ∀ (w : World) (mg : Str → Option Value) (fa : Addr) (h : Heap), (K w.params).In h → h.Ns mainGlobals mg → mg d.name = some (.ref fa) →
      ∃ fd : FuncData, (∀ (s : Shared) (u : Value), BindsTo s fd ⟨[u], []⟩ [(x, u)]) ∧ ∀ base : Heap, (K w.params).In base → base.Ns mainGlobals mg → FnG l.prog w (K w.params) mg base (L2.CX l.prog w) k fa fd [x] (spLaw (K w.params))) :
    PySem.W.WalkO q loose XP YP l.row.toRowW d [] (fun f vs => PySem.call f vs) := by
  refine Att.attach_call hn hdf fun w s₀ s₁ mg mb fa o pm cd doc a vs ns G Y ho hd hcd hmg hobj hints hlen hg => ?_
  have KX := hY w _ Y
  obtain ⟨fd, hb, hF⟩ := F w mg fa _ KX G.T.g hmg
  exact law_callG KX G.T.g G.T.b G.T.builtins G.T.nolimit hg hobj hints (Nat.le_trans hlen (by decide)) hr hF hb (fun H hO hS => ⟨a, ns, rfl, hlen, hO, hS, fun _ => rfl⟩) fun H e s' h => by
    obtain ⟨_, _, _, _, _, _, _, _, _, _, _, _, z⟩ := h
    exact z.elim
end Det

/-! Det25: repr(v) of data. -/
namespace Det
open PySem PySem.Spec PyProof.Rows L2

mutual
def hasL : PyData → Bool
  | .list _ => true
  | .tuple xs => hasLs xs
  | _ => false
def hasLs : List PyData → Bool
  | [] => false
  | x :: xs => hasL x || hasLs xs
end
def shP : Nat → Hh → AV → Option PyData
  | 0, _, _ => none
  | f + 1, h, v => match v with
    | .non => some .none
    | .bl b => some (.bool b)
    | .int i => some (.int i)
    | .str s => some (.str (mkS s))
    | .ref n => match h[n]? with
      | some (.lst xs) => (mapO (shP f h) xs).map .list
      | some (.tup xs) => (mapO (shP f h) xs).map .tuple
      | some (.dic []) => some (.dict [])
      | _ => none
    | .con k => match k.tup? with
      | some xs => (mapO (shP f h) xs).map .tuple
      | none => none
    | .scr _ => none
theorem shP_depth : ∀ (f : Nat) (h : Hh) (v : AV) (d : PyData), shP f h v = some d → d.depth ≤ f := by
  intro f
  induction f with
  | zero => intro h v d e; simp [shP] at e
  | succ f ih =>
    intro h v d e
    have all : ∀ (xs : List AV) (ds : List PyData), mapO (shP f h) xs = some ds → PyData.depthAll ds ≤ f := by
      intro xs
      induction xs with
      | nil => intro ds e; rw [mapO_nil e]; simp [PyData.depthAll]
      | cons x r ihr =>
        intro ds e
        obtain ⟨y, ys, e1, e2, rfl⟩ := mapO_cons e
        simp only [PyData.depthAll]
        exact Nat.max_le.mpr ⟨ih h x y e1, ihr ys e2⟩
    unfold shP at e
    split at e
    · cases e; simp [PyData.depth]
    · cases e; simp [PyData.depth]
    · cases e; simp [PyData.depth]
    · cases e; simp [PyData.depth]
    · split at e
      · obtain ⟨ds, e1, rfl⟩ := Option.map_eq_some_iff.mp e
        simp only [PyData.depth]; exact Nat.succ_le_succ (all _ _ e1)
      · obtain ⟨ds, e1, rfl⟩ := Option.map_eq_some_iff.mp e
        simp only [PyData.depth]; exact Nat.succ_le_succ (all _ _ e1)
      · cases e; simp [PyData.depth, PyData.depthKv]
      · cases e
    · split at e
      · obtain ⟨ds, e1, rfl⟩ := Option.map_eq_some_iff.mp e
        simp only [PyData.depth]; exact Nat.succ_le_succ (all _ _ e1)
      · cases e
    · cases e
section
variable {P : Program} {w : World} {K : PySem.W.Frag} {c : Ct} {ι : List Addr} {ah : Hh} {H : Hp} {h : Heap}
/-- the addresses of a datum without lists are no module table -/
def Ssm (p : PyData) (as : List Addr) : Prop := hasL p = false → sysModules ∉ as
theorem shP_reads (rh : RelH K c ι ah H) (hok : HOk P w H h) (KX : K.In h) : ∀ (f : Nat) (v : AV) (p : PyData), shP f ah v = some p → ∀ (ι0 : List Addr) (x : V) (u : Value), (ι0 = ι ∨ ι0 = []) → RV c ι0 v x → RelV x u → ∃ as, Reads h u p as ∧ Ssm p as := by
  intro f
  induction f with
  | zero => intro v p e; simp [shP] at e
  | succ f ih =>
    intro v p e ι0 x u hι r ru
    have all : ∀ (xs : List AV) (ds : List PyData), mapO (shP f ah) xs = some ds → ∀ (ι0 : List Addr) (vs : List V) (us : List Value), (ι0 = ι ∨ ι0 = []) → RVs c ι0 xs vs → Vals vs us → ∃ as, ReadsAll h us ds as ∧ (hasLs ds = false → sysModules ∉ as) := by
      intro xs
      induction xs with
      | nil =>
        intro ds e ι0 vs us hι r ru
        rw [mapO_nil e]
        cases r
        cases ru
        exact ⟨[], .nil, fun _ z => by simp at z⟩
      | cons x r ihr =>
        intro ds e ι0 vs us hι r ru
        obtain ⟨y, ys, e1, e2, rfl⟩ := mapO_cons e
        cases r with
        | cons ra rb =>
          cases ru with
          | cons r1 r2 =>
            obtain ⟨as, q1, q2⟩ := ih x y e1 ι0 _ _ hι ra r1
            obtain ⟨bs, q3, q4⟩ := ihr ys e2 ι0 _ _ hι rb r2
            refine ⟨as ++ bs, .cons q1 q3, fun z => ?_⟩
            unfold hasLs at z
            rw [Bool.or_eq_false_iff] at z
            rw [List.mem_append]
            exact fun y => y.elim (q2 z.1) (q4 z.2)
    have atR : ∀ {n : Nat} {o : AO}, ah[n]? = some o → RV c ι0 (.ref n) x → ∃ a, x = .ref a ∧ RO c ι H a o := fun {n o} e2 r2 => by
      rcases hι with rfl | rfl
      · obtain ⟨a, q1, _, q2⟩ := rh.at e2 r2
        exact ⟨a, q1, q2⟩
      · obtain ⟨a, q1, _⟩ := r2
        simp at q1
    unfold shP at e
    split at e
    · cases e; cases r; cases ru; exact ⟨[], .none, fun _ z => by simp at z⟩
    · cases e; cases r; cases ru; exact ⟨[], .bool _, fun _ z => by simp at z⟩
    · cases e; cases r; obtain ⟨t, rfl⟩ := ru; exact ⟨[], .int _ _, fun _ z => by simp at z⟩
    · cases e; cases r; obtain ⟨t, rfl⟩ := ru; exact ⟨[], .str _ _, fun _ z => by simp at z⟩
    · split at e
      · rename_i n _ xs en
        obtain ⟨ds, e1, rfl⟩ := Option.map_eq_some_iff.mp e
        obtain ⟨a, rfl, vs, rv, hH⟩ := atR en r
        cases ru
        obtain ⟨_, its, m, rv2, hg⟩ := hok a _ hH
        obtain ⟨as, q1, _⟩ := all xs ds e1 ι vs its (.inl rfl) rv rv2
        exact ⟨a :: as, .list hg rfl rfl q1, fun z => by simp [hasL] at z⟩
      · rename_i n _ xs en
        obtain ⟨ds, e1, rfl⟩ := Option.map_eq_some_iff.mp e
        obtain ⟨a, rfl, vs, rv, hH⟩ := atR en r
        cases ru
        obtain ⟨_, its, rv2, o, hg, hc, m, hd⟩ := Rd.ok hH hok
        obtain ⟨as, q1, q2⟩ := all xs ds e1 ι vs its (.inl rfl) rv rv2
        exact ⟨as, .tuple hg hc hd q1, fun z => q2 (by simpa [hasL] using z)⟩
      · rename_i n _ en
        cases e
        obtain ⟨a, rfl, vs, rv, hH⟩ := atR en r
        cases rv
        cases ru
        obtain ⟨_, hs, vs', kv, o, es, ep, hg, hx, hd, _, he, _⟩ := dk_of hok hH
        have hes : es.toList = [] := by
          cases kv
          generalize es.toList = l at he
          cases he
          rfl
        refine ⟨a :: [] ++ [], .dict hg hx.1 hd ?_ ?_, fun _ z => ?_⟩
        · rw [hes]; exact .nil
        · rw [hes]; exact .nil
        · have z' : sysModules = a := by simpa using z
          subst z'
          simp at hs
      · cases e
    · rename_i k
      split at e
      · rename_i xs ek
        obtain ⟨ds, e1, rfl⟩ := Option.map_eq_some_iff.mp e
        obtain ⟨rfl, hk⟩ := r
        cases ru
        obtain ⟨vs, rv, o, its, m, hl, hc, hd, _, rv2⟩ := rh.cok.tup k xs hk ek
        obtain ⟨as, q1, q2⟩ := all xs ds e1 [] vs its.toList (.inr rfl) rv rv2
        exact ⟨as, .tuple (KX _ _ hl) hc hd q1, fun z => q2 (by simpa [hasL] using z)⟩
      · cases e
    · cases e
end
def shOk (p : PyData) : Bool := p.showable && (!p.hasDict || !hasL p) && decide (p.shown.length ≤ LINE)
def shS (p : PyData) : List Nat := p.shown.cps.toList
def bRepr : OpN := fun as h => match as with
  | [v] => match shP 40 h v with
    | some p => if shOk p = true then some (.str (shS p), h) else none
    | none => none
  | _ => none
section
variable {X : Cx} {c : Ct} {W : WX}
theorem dl_repr (gd : X.A.guards = some []) (hu : X.A.units + 64 < cLine) : DCl X c (.builtin "repr") bRepr := dcl fun pins s σ H xs us Q ι as ah w ah' I r rh ra e q => by
  unfold bRepr at e
  split at e
  · rename_i v
    split at e
    · rename_i p hp
      split at e
      · rename_i hk
        cases e
        unfold shOk at hk
        rw [Bool.and_eq_true, Bool.and_eq_true, decide_eq_true_eq] at hk
        obtain ⟨⟨k1, k2⟩, k3⟩ := hk
        obtain ⟨x, rfl, rx⟩ := rvs1 ra
        obtain ⟨u, rfl, ru⟩ := vals1 r
        have hz := le_of_line k3
        obtain ⟨as, hr, hs⟩ := shP_reads rh I.hok I.kIn 40 v p hp ι x u (.inl rfl) rx ru
        have hd := shP_depth 40 ah v p hp
        have hsm : p.hasDict = true → sysModules ∉ as := fun z => hs (by rw [z] at k2; simpa using k2)
        have fin : ∀ (h' : Heap) (tk : Nat) (t : Tok), (∀ b o, s.heap.get? b = some o → h'.get? b = some o) → EP X pins σ Q (.str p.shown t) { s with heap := h', toks := tk } := fun h' tk t k =>
          ⟨.str (mkS (shS p)), H, I.kept k, ⟨t, by unfold shS; rw [mkS_tl]⟩, q ι H _ (Ext.refl _ _) rh rfl⟩
        have fin0 : ∀ (t : Tok) (tk : Nat), EP X pins σ Q (.str p.shown t) { s with toks := tk } := fun t tk => fin s.heap tk t fun _ _ e => e
        cases hr with
        | none => exact PySem.P.repr_of_none (fin0 _ _)
        | bool b => exact PySem.P.repr_of_bool (fin0 _ _)
        | int i t => exact PySem.P.repr_of_int (by simpa [PyData.showable] using k1) (fin0 _ _)
        | str y t => exact PySem.P.repr_of_str (fin0 _ _) hz
        | list h1 h2 h3 h4 => exact repr_of_reads' (.list h1 h2 h3 h4) k1 hsm gd (by omega) (fun _ _ e => e) (fun h' u tk k => fin h' tk u k) hz
        | tuple h1 h2 h3 h4 => exact repr_of_reads' (.tuple h1 h2 h3 h4) k1 hsm gd (by omega) (fun _ _ e => e) (fun h' u tk k => fin h' tk u k) hz
        | dict h1 h2 h3 h4 h5 => exact repr_of_reads' (.dict h1 h2 h3 h4 h5) k1 hsm gd (by omega) (fun _ _ e => e) (fun h' u tk k => fin h' tk u k) hz
      · cases e
    · cases e
  · cases e
end

/-! ### the signs of a shown text -/
def cpOk (x : Str) : Prop := ∀ ch ∈ x.cps.toList, ch < 1114112
theorem cpOk_app {x y : Str} (h1 : cpOk x) (h2 : cpOk y) : cpOk (x ++ y) := fun ch hc => by
  have e : (x ++ y).cps.toList = x.cps.toList ++ y.cps.toList := by
    show (Str.append x y).cps.toList = _
    simp [Str.append]
  rw [e, List.mem_append] at hc
  exact hc.elim (h1 ch) (h2 ch)
theorem cpOk_join {sep : Str} (hs : cpOk sep) : ∀ l : List Str, (∀ x ∈ l, cpOk x) → cpOk (Str.join sep l)
  | [], _ => fun ch hc => by simp [Str.join, Str.empty] at hc
  | [x], h => h x (by simp)
  | x :: y :: r, h => cpOk_app (cpOk_app (h x (by simp)) hs) (cpOk_join hs (y :: r) fun z hz => h z (List.mem_cons_of_mem _ hz))
theorem cpOk_from : ∀ (l : List Str) (k : Nat) (acc : Str), cpOk acc → (∀ x ∈ l, cpOk x) → cpOk (textFrom k acc l)
  | [], _, acc, h, _ => h
  | t :: ts, k, acc, h, hl => by
    refine cpOk_from ts (k + 1) _ (cpOk_app (cpOk_app h ?_) (hl t (by simp))) fun x hx => hl x (List.mem_cons_of_mem _ hx)
    split
    · exact (by decide +kernel : ∀ ch ∈ ((", " : String) : Str).cps.toList, ch < 1114112)
    · exact (by decide +kernel : ∀ ch ∈ (("" : String) : Str).cps.toList, ch < 1114112)
theorem chr_lt (ch : Char) : ch.toNat < 1114112 := by
  have h := ch.valid
  unfold UInt32.isValidChar Nat.isValidChar at h
  show ch.val.toNat < _
  omega
theorem reprChar_ok {q ch : Nat} (hq : q < 1114112) (h : ch < 1114112) : ∀ d ∈ Builtin.Str.reprChar q ch, d < 1114112 := by
  have hx : ∀ (n : Nat) (a b : Nat), a < 1114112 → b < 1114112 → ∀ d ∈ [a, b] ++ (List.replicate n 48 ++ (Nat.toDigits 16 ch).map Char.toNat), d < 1114112 := fun n a b ha hb d hd => by
    rw [List.mem_append, List.mem_append] at hd
    rcases hd with hd | hd | hd
    · simp only [List.mem_cons, List.not_mem_nil, or_false] at hd
      rcases hd with rfl | rfl
      · exact ha
      · exact hb
    · rw [(List.mem_replicate.mp hd).2]; decide
    · obtain ⟨z, _, rfl⟩ := List.mem_map.mp hd
      exact chr_lt z
  have h2 : ∀ a b : Nat, a < 1114112 → b < 1114112 → ∀ d ∈ [a, b], d < 1114112 := fun a b ha hb d hd => by
    simp only [List.mem_cons, List.not_mem_nil, or_false] at hd
    rcases hd with rfl | rfl
    · exact ha
    · exact hb
  intro d
  unfold Builtin.Str.reprChar
  dsimp only
  split
  · exact h2 _ _ (by decide) h d
  split
  · exact h2 _ _ (by decide) (by decide) d
  split
  · exact h2 _ _ (by decide) (by decide) d
  split
  · exact h2 _ _ (by decide) (by decide) d
  split
  · intro hd
    have : d = ch := by simpa using hd
    rw [this]; exact h
  split
  · exact hx _ _ _ (by decide) (by decide) d
  split
  · exact hx _ _ _ (by decide) (by decide) d
  · exact hx _ _ _ (by decide) (by decide) d
theorem foldl_ok {q : Nat} (hq : q < 1114112) : ∀ (l : List Nat) (acc : Array Nat), (∀ d ∈ acc.toList, d < 1114112) → (∀ d ∈ l, d < 1114112) → ∀ d ∈ (l.foldl (fun out c => out ++ (Builtin.Str.reprChar q c).toArray) acc).toList, d < 1114112
  | [], acc, h, _ => h
  | ch :: r, acc, h, hl => by
    rw [List.foldl_cons]
    refine foldl_ok hq r _ (fun d hd => ?_) fun d hd => hl d (List.mem_cons_of_mem _ hd)
    rw [Array.toList_append, List.mem_append] at hd
    exact hd.elim (h d) (fun z => reprChar_ok hq (hl ch (by simp)) d (by simpa using z))
theorem reprText_ok {x : Str} (h : cpOk x) : cpOk (reprText x) := fun ch hc => by
  have hq : reprQuote x < 1114112 := by unfold reprQuote; split <;> decide
  unfold reprText at hc
  rw [Array.toList_push, List.mem_append] at hc
  rcases hc with hc | hc
  · rw [← Array.foldl_toList] at hc
    exact foldl_ok hq x.cps.toList #[reprQuote x] (fun d hd => by
      have : d = reprQuote x := by simpa using hd
      rw [this]; exact hq) h ch hc
  · have : ch = reprQuote x := by simpa using hc
    rw [this]; exact hq
mutual
def pOk : PyData → Bool
  | .str x => x.cps.toList.all (· < 1114112)
  | .list xs => pOks xs
  | .tuple xs => pOks xs
  | .dict kvs => kvs.isEmpty
  | _ => true
def pOks : List PyData → Bool
  | [] => true
  | x :: xs => pOk x && pOks xs
end
mutual
theorem shown_ok : ∀ d : PyData, pOk d = true → cpOk d.shown
  | .none, _ => (by decide +kernel : ∀ ch ∈ (PyData.shown .none).cps.toList, ch < 1114112)
  | .bool true, _ => (by decide +kernel : ∀ ch ∈ (PyData.shown (.bool true)).cps.toList, ch < 1114112)
  | .bool false, _ => (by decide +kernel : ∀ ch ∈ (PyData.shown (.bool false)).cps.toList, ch < 1114112)
  | .int i, _ => fun ch hc => Classical.byContradiction fun z => int_text_free' ch ⟨by omega, by omega⟩ i (by simpa only [PyData.shown] using hc)
  | .str x, h => by
    simp only [PyData.shown]
    refine reprText_ok fun ch hc => ?_
    simp only [pOk, List.all_eq_true, decide_eq_true_eq] at h
    exact h ch hc
  | .list xs, h => by
    simp only [PyData.shown]
    exact cpOk_app (cpOk_from _ _ _ (by decide +kernel : ∀ ch ∈ (("[" : String) : Str).cps.toList, ch < 1114112) (shownAll_ok xs (by simpa [pOk] using h))) (by decide +kernel : ∀ ch ∈ (("]" : String) : Str).cps.toList, ch < 1114112)
  | .tuple xs, h => by
    simp only [PyData.shown, tupleText]
    refine cpOk_app (cpOk_app (by decide +kernel : ∀ ch ∈ (("(" : String) : Str).cps.toList, ch < 1114112) (cpOk_join (by decide +kernel : ∀ ch ∈ ((", " : String) : Str).cps.toList, ch < 1114112) _ (shownAll_ok xs (by simpa [pOk] using h)))) ?_
    split
    · exact (by decide +kernel : ∀ ch ∈ ((",)" : String) : Str).cps.toList, ch < 1114112)
    · exact (by decide +kernel : ∀ ch ∈ ((")" : String) : Str).cps.toList, ch < 1114112)
  | .dict [], _ => (by decide +kernel : ∀ ch ∈ (PyData.shown (.dict [])).cps.toList, ch < 1114112)
  | .dict (_ :: _), h => by simp [pOk] at h
theorem shownAll_ok : ∀ ds : List PyData, pOks ds = true → ∀ x ∈ PyData.shownAll ds, cpOk x
  | [], _ => fun x hx => by simp [PyData.shownAll] at hx
  | d :: ds, h => fun x hx => by
    simp only [pOks, Bool.and_eq_true] at h
    simp only [PyData.shownAll, List.mem_cons] at hx
    rcases hx with rfl | hx
    · exact shown_ok d h.1
    · exact shownAll_ok ds h.2 x hx
end
end Det

/-! Det26: tuple(text). -/
namespace Det
open PySem PySem.Spec PyProof.Rows L2
def bTupleA : OpN := fun as h => match as with
  | [.str s] => if s.length ≤ LINE then some (.ref h.length, h ++ [.tup (s.map fun ch => .str [ch])]) else none
  | as => bTuple as h
section
variable {X : Cx} {c : Ct} {W : WX}
theorem dl_tupleA (hh : X.A.handled = none) : DCl X c (.type "tuple") bTupleA := dcl fun pins s σ H xs us Q ι as ah w ah' I r rh ra e q => by
  unfold bTupleA at e
  split at e
  · rename_i t
    split at e
    · rename_i hl
      cases e
      obtain ⟨x, rfl, rx⟩ := rvs1 ra
      cases rx
      obtain ⟨u, rfl, tk, rfl⟩ := vals1 r
      refine call_tuple_str hh (mkS t) tk (fun h' tk' acc' hk hacc => ?_) (by rw [size_mkS, line_eq]; exact hl)
      have hv := vals_signs hacc
      have et : (mkS t).cps.toList = t := mkS_cps t
      rw [et] at hv
      have hsz : ((t.map fun ch => V.str (mkS [ch]))).length ≤ sizeLine := by rw [List.length_map, line_eq]; exact hl
      have I1 : Inv X pins σ H { s with heap := h', toks := tk' } := I.kept hk
      refine ⟨.ref h'.objs.size, _, I1.laid (t' := tk') (a := h'.objs.size) (h' := h'.push { cls := .type "tuple", data := .seq acc' }) (fun b o e => Heap.get?_push_of_some _ e) (Nat.le_refl _) (show ObjOk X.prog X.w _ _ _ (.tup (t.map fun ch => V.str (mkS [ch]))) from ⟨hsz, acc'.toList, hv, IsTup.new _ _⟩), rfl, ?_⟩
      exact lay_tup rh (rvs_signs t) q _ (I1.hok.fresh (Nat.le_refl _))
    · cases e
  · exact dl_tuple pins s σ H xs us Q I r ⟨ι, as, ah, w, ah', rh, ra, e, q⟩
end
theorem tupleA_s {s : List Nat} {h : Hh} : bTupleA [.str s] h = if s.length ≤ LINE then some (.ref h.length, h ++ [.tup (s.map fun ch => .str [ch])]) else none := rfl
end Det

/-! Val0: values as trees, what stands for them in a heap. -/
namespace Det
open PySem PySem.Spec PyProof.Rows L2

inductive PV where
  | non | bl (b : Bool) | int (i : Int) | str (s : List Nat) | lst (xs : List PV) | tup (xs : List PV)
  | dic (ks : List AKey) (vs : List PV) | obj (k : Nat) (ns : List Str) (vs : List PV) | tok | scr (ns : List Int) | cdc (k : CK)
def okS (s : List Nat) : Bool := s.all (· < 1114112)
mutual
/-- d stands in the heap at v; F: the names of what may be changed in it -/
def Rf (h : Hh) : PV → AV → List Nat → Prop
  | .non, v, F => v = .non ∧ F = []
  | .bl b, v, F => v = .bl b ∧ F = []
  | .int i, v, F => v = .int i ∧ F = []
  | .str s, v, F => v = .str s ∧ okS s = true ∧ F = []
  | .lst ds, v, F => ∃ n xs G, v = .ref n ∧ h[n]? = some (.lst xs) ∧ RfL h ds xs G ∧ F = n :: G
  | .scr ns, v, F => v = .scr ns ∧ F = []
  | .tup ds, v, F => ∃ xs, rdT h v = some xs ∧ RfL h ds xs F
  | .cdc k, v, F => v = .con k ∧ k.dic?.isSome = true ∧ F = []
  | .dic ks ds, v, F => ∃ n kvs G, v = .ref n ∧ h[n]? = some (.dic kvs) ∧ ks = kvs.map (·.1) ∧ RfL h ds (kvs.map (·.2)) G ∧ F = n :: G
  | .obj k ns ds, v, F => ∃ n fs G, v = .ref n ∧ h[n]? = some (.ins k fs) ∧ ns = fs.map (·.1) ∧ RfL h ds (fs.map (·.2)) G ∧ F = n :: G
  | .tok, _, _ => False
def RfL (h : Hh) : List PV → List AV → List Nat → Prop
  | [], xs, F => xs = [] ∧ F = []
  | d :: ds, xs, F => ∃ y ys G1 G2, xs = y :: ys ∧ Rf h d y G1 ∧ RfL h ds ys G2 ∧ F = G1 ++ G2
end
/-- the heap is kept but for the names M, and tuples are kept whatever -/
def Kq (M : List Nat) (h h' : Hh) : Prop := h.length ≤ h'.length ∧ ∀ (m : Nat) (o : AO), h[m]? = some o → (m ∉ M ∨ ∃ xs, o = .tup xs) → h'[m]? = some o
section
variable {M M' N : List Nat} {h h' h1 h2 : Hh}
theorem Kq.rfl' : Kq M h h := ⟨Nat.le_refl _, fun _ _ e _ => e⟩
theorem Kq.app (k : Kq M h h') (r : Hh) : Kq M h (h' ++ r) := ⟨by rw [List.length_append]; have := k.1; omega, fun m o e z => getElem?_pre (k.2 m o e z)⟩
theorem Kq.mono (k : Kq M h h') (hm : ∀ m ∈ M, m ∈ M' ∨ h.length ≤ m) : Kq M' h h' := ⟨k.1, fun m o e z => k.2 m o e (by
  rcases z with z | z
  · refine .inl fun q => ?_
    rcases hm m q with q | q
    · exact z q
    · have := lt_of_get e; omega
  · exact .inr z)⟩
theorem Kq.nil (k : Kq [] h h') : Kq M h h' := k.mono (by simp)
theorem Kq.trans (k : Kq M h h1) (k' : Kq M' h1 h2) (hm : ∀ m ∈ M', m ∈ M ∨ h.length ≤ m) : Kq M h h2 :=
  ⟨Nat.le_trans k.1 k'.1, fun m o e z => k'.2 m o (k.2 m o e z) (by
    rcases z with z | z
    · refine .inl fun q => ?_
      rcases hm m q with q | q
      · exact z q
      · have := lt_of_get e; omega
    · exact .inr z)⟩
theorem Kq.transM (k : Kq M h h1) (k' : Kq M h1 h2) : Kq M h h2 := k.trans k' fun _ z => .inl z
theorem Kq.set {n : Nat} {o o' : AO} (e : h[n]? = some o) (ho : ∀ xs, o ≠ .tup xs) (hn : n ∈ M) : Kq M h (h.set n o') := ⟨by rw [List.length_set]; exact Nat.le_refl _, fun m q eq z => by
  have : n ≠ m := fun z2 => by
    subst z2
    rw [e] at eq
    cases eq
    rcases z with z | ⟨xs, z⟩
    · exact z hn
    · exact ho xs z
  rw [List.getElem?_set_ne this]
  exact eq⟩
theorem Kq.get (k : Kq M h h') {n : Nat} {o : AO} (e : h[n]? = some o) (hn : n ∉ M) : h'[n]? = some o := k.2 n o e (.inl hn)
/-- a Kp over lists -/
theorem Kq.ofKp (k : Kp M h h') (hl : ∀ m ∈ M, ∀ xs, h[m]? ≠ some (.tup xs)) : Kq M h h' := ⟨k.1, fun m o e z => k.2 m o (by
  rcases z with z | ⟨xs, rfl⟩
  · exact z
  · exact fun q => hl m q xs e) e⟩
theorem rdT_kq (k : Kq M h h') {v : AV} {xs : List AV} (e : rdT h v = some xs) : rdT h' v = some xs := by
  unfold rdT at e ⊢
  split at e
  · rename_i n
    split at e
    · rename_i _ ys q
      cases e
      simp only [k.2 _ _ q (.inr ⟨_, rfl⟩)]
    · cases e
  · exact e
  · cases e
mutual
theorem Rf.kq {h h' : Hh} {M : List Nat} (k : Kq M h h') : ∀ {d : PV} {v : AV} {F : List Nat}, Rf h d v F → (∀ n ∈ F, n ∉ M) → Rf h' d v F
  | .non, _, _, r, _ => r
  | .bl _, _, _, r, _ => r
  | .int _, _, _, r, _ => r
  | .str _, _, _, r, _ => r
  | .tok, _, _, r, _ => r
  | .lst ds, v, F, r, hF => by
    obtain ⟨n, xs, G, rfl, e, rs, rfl⟩ := (by simpa only [Rf] using r : ∃ n xs G, _ ∧ _ ∧ _ ∧ _)
    simp only [Rf]; exact ⟨n, xs, G, rfl, k.get e (hF n (by simp)), RfL.kq k rs fun m hm => hF m (by simp [hm]), rfl⟩
  | .scr _, _, _, r, _ => r
  | .tup ds, v, F, r, hF => by
    obtain ⟨xs, e, rs⟩ := (by simpa only [Rf] using r : ∃ xs, _ ∧ _)
    simp only [Rf]; exact ⟨xs, rdT_kq k e, RfL.kq k rs hF⟩
  | .dic ks ds, v, F, r, hF => by
    obtain ⟨n, kvs, G, rfl, e, ek, rs, rfl⟩ := (by simpa only [Rf] using r : ∃ n kvs G, _ ∧ _ ∧ _ ∧ _ ∧ _)
    simp only [Rf]; exact ⟨n, kvs, G, rfl, k.get e (hF n (by simp)), ek, RfL.kq k rs fun m hm => hF m (by simp [hm]), rfl⟩
  | .cdc _, _, _, r, _ => r
  | .obj c ns ds, v, F, r, hF => by
    obtain ⟨n, fs, G, rfl, e, ek, rs, rfl⟩ := (by simpa only [Rf] using r : ∃ n fs G, _ ∧ _ ∧ _ ∧ _ ∧ _)
    simp only [Rf]; exact ⟨n, fs, G, rfl, k.get e (hF n (by simp)), ek, RfL.kq k rs fun m hm => hF m (by simp [hm]), rfl⟩
theorem RfL.kq {h h' : Hh} {M : List Nat} (k : Kq M h h') : ∀ {ds : List PV} {vs : List AV} {F : List Nat}, RfL h ds vs F → (∀ n ∈ F, n ∉ M) → RfL h' ds vs F
  | [], _, _, r, _ => r
  | d :: ds, _, _, r, hF => by
    obtain ⟨y, ys, G1, G2, rfl, r1, r2, rfl⟩ := (by simpa only [RfL] using r : ∃ y ys G1 G2, _ ∧ _ ∧ _ ∧ _)
    simp only [RfL]
    exact ⟨y, ys, G1, G2, rfl, Rf.kq k r1 fun n hn => hF n (by simp [hn]), RfL.kq k r2 fun n hn => hF n (by simp [hn]), rfl⟩
end
end
section
variable {h : Hh} {d : PV} {ds es : List PV} {v : AV} {xs ys : List AV} {F G : List Nat}
theorem Rf.int {i : Int} : Rf h (.int i) (.int i) [] := by simp [Rf]
theorem Rf.bl {i : Bool} : Rf h (.bl i) (.bl i) [] := by simp [Rf]
theorem Rf.non : Rf h .non .non [] := by simp [Rf]
theorem Rf.str {s : List Nat} (hs : okS s = true) : Rf h (.str s) (.str s) [] := by simp [Rf, hs]
theorem Rf.lst {n : Nat} (e : h[n]? = some (.lst xs)) (r : RfL h ds xs G) : Rf h (.lst ds) (.ref n) (n :: G) := by
  simp only [Rf]; exact ⟨n, xs, G, rfl, e, r, rfl⟩
theorem Rf.tup {n : Nat} (e : h[n]? = some (.tup xs)) (r : RfL h ds xs G) : Rf h (.tup ds) (.ref n) G := by
  simp only [Rf]; exact ⟨xs, by simp [rdT, e], r⟩
theorem Rf.int_inv {i : Int} (r : Rf h (.int i) v F) : v = .int i ∧ F = [] := by simpa [Rf] using r
theorem Rf.bl_inv {i : Bool} (r : Rf h (.bl i) v F) : v = .bl i ∧ F = [] := by simpa [Rf] using r
theorem Rf.non_inv (r : Rf h .non v F) : v = .non ∧ F = [] := by simpa [Rf] using r
theorem Rf.str_inv {s : List Nat} (r : Rf h (.str s) v F) : v = .str s ∧ okS s = true ∧ F = [] := by simpa [Rf] using r
theorem Rf.lst_inv (r : Rf h (.lst ds) v F) : ∃ n xs G, v = .ref n ∧ h[n]? = some (.lst xs) ∧ RfL h ds xs G ∧ F = n :: G := by simpa only [Rf] using r
theorem Rf.scr {ns : List Int} : Rf h (.scr ns) (.scr ns) [] := by simp [Rf]
theorem Rf.scr_inv {ns : List Int} (r : Rf h (.scr ns) v F) : v = .scr ns ∧ F = [] := by simpa [Rf] using r
theorem Rf.cdc_inv {k : CK} (r : Rf h (.cdc k) v F) : v = .con k ∧ k.dic?.isSome = true ∧ F = [] := by simpa [Rf] using r
theorem Rf.tup_inv (r : Rf h (.tup ds) v F) : ∃ xs, rdT h v = some xs ∧ RfL h ds xs F := by simpa only [Rf] using r
theorem RfL.nil : RfL h [] [] [] := by simp [RfL]
theorem RfL.cons (r : Rf h d v F) (rs : RfL h ds xs G) : RfL h (d :: ds) (v :: xs) (F ++ G) := by
  simp only [RfL]; exact ⟨v, xs, F, G, rfl, r, rs, rfl⟩
theorem RfL.cons_inv (r : RfL h (d :: ds) xs F) : ∃ y ys G1 G2, xs = y :: ys ∧ Rf h d y G1 ∧ RfL h ds ys G2 ∧ F = G1 ++ G2 := by simpa only [RfL] using r
theorem RfL.nil_inv (r : RfL h [] xs F) : xs = [] ∧ F = [] := by simpa [RfL] using r
theorem RfL.len : ∀ {ds : List PV} {xs : List AV} {F : List Nat}, RfL h ds xs F → ds.length = xs.length
  | [], _, _, r => by rw [r.nil_inv.1]; rfl
  | d :: ds, _, _, r => by
    obtain ⟨y, ys, G1, G2, rfl, _, rs, _⟩ := r.cons_inv
    rw [List.length_cons, List.length_cons, RfL.len rs]
theorem RfL.app : ∀ {ds es : List PV} {xs ys : List AV} {F G : List Nat}, RfL h ds xs F → RfL h es ys G → RfL h (ds ++ es) (xs ++ ys) (F ++ G)
  | [], es, _, ys, _, _, r, r2 => by rw [r.nil_inv.1, r.nil_inv.2]; exact r2
  | d :: ds, es, _, ys, _, _, r, r2 => by
    obtain ⟨y, zs, G1, G2, rfl, q, rs, rfl⟩ := r.cons_inv
    rw [List.append_assoc]
    exact RfL.cons q (RfL.app rs r2)
theorem RfL.get : ∀ {ds : List PV} {xs : List AV} {F : List Nat} {i : Nat} {d : PV}, RfL h ds xs F → ds[i]? = some d → ∃ x G, xs[i]? = some x ∧ Rf h d x G ∧ G.Sublist F
  | [], _, _, _, _, r, e => by simp at e
  | d :: ds, _, _, 0, _, r, e => by
    obtain ⟨y, zs, G1, G2, rfl, q, rs, rfl⟩ := r.cons_inv
    cases e
    exact ⟨y, G1, rfl, q, List.sublist_append_left _ _⟩
  | d :: ds, _, _, i + 1, _, r, e => by
    obtain ⟨y, zs, G1, G2, rfl, q, rs, rfl⟩ := r.cons_inv
    obtain ⟨x, G, e1, e2, e3⟩ := RfL.get (ds := ds) (xs := zs) (i := i) rs (by simpa using e)
    exact ⟨x, G, by simpa using e1, e2, e3.trans (List.sublist_append_right _ _)⟩
theorem RfL.ints : ∀ {ns : List Int}, RfL h (ns.map .int) (ns.map .int) []
  | [] => .nil
  | n :: r => RfL.cons Rf.int RfL.ints
theorem RfL.ints_inv : ∀ {ns : List Int} {xs : List AV} {F : List Nat}, RfL h (ns.map .int) xs F → xs = ns.map .int ∧ F = []
  | [], _, _, r => r.nil_inv
  | n :: ns, _, _, r => by
    obtain ⟨y, ys, G1, G2, rfl, q, rs, rfl⟩ := RfL.cons_inv (d := .int n) r
    obtain ⟨rfl, rfl⟩ := q.int_inv
    obtain ⟨rfl, rfl⟩ := RfL.ints_inv rs
    exact ⟨rfl, rfl⟩
theorem RfL.ints_inv2 : ∀ {ns : List Int} {ds : List PV} {F : List Nat}, RfL h ds (ns.map .int) F → ds = ns.map .int ∧ F = []
  | [], [], _, r => ⟨rfl, r.nil_inv.2⟩
  | [], d :: ds, _, r => by obtain ⟨y, ys, G1, G2, e, _⟩ := r.cons_inv; cases e
  | n :: ns, [], _, r => by cases r.nil_inv.1
  | n :: ns, d :: ds, _, r => by
    obtain ⟨y, ys, G1, G2, e, q, rs, rfl⟩ := r.cons_inv
    obtain ⟨rfl, rfl⟩ := List.cons.inj e
    obtain ⟨rfl, rfl⟩ := RfL.ints_inv2 rs
    cases d with
    | int i => obtain ⟨e2, rfl⟩ := q.int_inv; cases e2; exact ⟨rfl, rfl⟩
    | non => cases q.non_inv.1
    | bl b => cases q.bl_inv.1
    | str b => cases q.str_inv.1
    | lst b => obtain ⟨_, _, _, e, _⟩ := q.lst_inv; cases e
    | scr b => cases q.scr_inv.1
    | tup b => obtain ⟨_, e, _⟩ := q.tup_inv; cases e
    | dic ks vs => obtain ⟨_, _, _, e, _⟩ := (by simpa only [Rf] using q : ∃ n kvs G, _ ∧ _ ∧ _ ∧ _ ∧ _); cases e
    | cdc k => cases q.cdc_inv.1
    | obj k ns vs => obtain ⟨_, _, _, e, _⟩ := (by simpa only [Rf] using q : ∃ n fs G, _ ∧ _ ∧ _ ∧ _ ∧ _); cases e
    | tok => exact absurd q (by simp [Rf])
end
mutual
def PV.noL : PV → Bool
  | .non => true | .bl _ => true | .int _ => true | .str _ => true | .scr _ => true | .cdc _ => true | .tup xs => PV.noLs xs | _ => false
def PV.noLs : List PV → Bool
  | [] => true
  | x :: xs => PV.noL x && PV.noLs xs
end
theorem noLs_all : ∀ xs : List PV, PV.noLs xs = xs.all PV.noL
  | [] => rfl
  | x :: xs => by show (PV.noL x && PV.noLs xs) = _; rw [noLs_all xs]; rfl
mutual
theorem noL_nil {h : Hh} : ∀ {d : PV} {v : AV} {F : List Nat}, d.noL = true → Rf h d v F → F = []
  | .non, _, _, _, r => r.non_inv.2
  | .bl _, _, _, _, r => r.bl_inv.2
  | .int _, _, _, _, r => r.int_inv.2
  | .str _, _, _, _, r => r.str_inv.2.2
  | .tup ds, _, _, hn, r => by obtain ⟨xs, _, rs⟩ := r.tup_inv; exact noLs_nil hn rs
  | .scr _, _, _, _, r => r.scr_inv.2
  | .cdc _, _, _, _, r => r.cdc_inv.2.2
  | .lst _, _, _, hn, _ => by cases hn
  | .dic _ _, _, _, hn, _ => by cases hn
  | .obj _ _ _, _, _, hn, _ => by cases hn
  | .tok, _, _, hn, _ => by cases hn
theorem noLs_nil {h : Hh} : ∀ {ds : List PV} {vs : List AV} {F : List Nat}, PV.noLs ds = true → RfL h ds vs F → F = []
  | [], _, _, _, r => r.nil_inv.2
  | d :: ds, _, _, hn, r => by
    obtain ⟨y, ys, G1, G2, rfl, q, rs, rfl⟩ := r.cons_inv
    have hn' : (d.noL && PV.noLs ds) = true := hn
    rw [Bool.and_eq_true] at hn'
    rw [noL_nil hn'.1 q, noLs_nil hn'.2 rs]
    rfl
end
/-! ### the hidden list of ints -/
abbrev Pool := Option (List Int)
def PL (B : List Nat) (h : Hh) : Pool → Prop
  | none => B = []
  | some xs => ∃ b, B = [b] ∧ h[b]? = some (.lst (xs.map .int))
theorem PL.lt {B : List Nat} {h : Hh} {o : Pool} (p : PL B h o) : ∀ b ∈ B, b < h.length := by
  cases o with
  | none => have e : B = [] := p; subst e; simp
  | some xs => obtain ⟨b, rfl, e⟩ := p; intro c hc; have : c = b := by simpa using hc
               subst this; exact lt_of_get e
theorem PL.kq {B M : List Nat} {h h' : Hh} {o : Pool} (p : PL B h o) (k : Kq M h h') (hM : ∀ b ∈ B, b ∉ M) : PL B h' o := by
  cases o with
  | none => exact p
  | some xs => obtain ⟨b, rfl, e⟩ := p; exact ⟨b, rfl, k.get e (hM b (by simp))⟩
/-- a value in a slot, or handed over: the token stands for the hidden list -/
def Rs (B : List Nat) (h : Hh) (d : PV) (v : AV) (F : List Nat) : Prop := match d with
  | .tok => (∃ b, B = [b] ∧ v = .ref b) ∧ F = []
  | d => Rf h d v F
theorem Rs.of {B : List Nat} {h : Hh} {d : PV} {v : AV} {F : List Nat} (r : Rf h d v F) : Rs B h d v F := by
  cases d <;> first | exact r | exact absurd r (by simp [Rf])
theorem Rs.kq {B M : List Nat} {h h' : Hh} (k : Kq M h h') {d : PV} {v : AV} {F : List Nat} (r : Rs B h d v F) (hF : ∀ n ∈ F, n ∉ M) : Rs B h' d v F := by
  cases d <;> first | exact r | exact Rf.kq k r hF
theorem Rs.noL {B : List Nat} {h : Hh} {d : PV} {v : AV} {F : List Nat} (hn : d.noL = true) (r : Rs B h d v F) : F = [] := by
  cases d <;> first | exact noL_nil hn (show Rf h _ v F from r) | cases hn
def isTok : PV → Bool
  | .tok => true | _ => false
theorem Rs.nt {B : List Nat} {h : Hh} {d : PV} {v : AV} {F : List Nat} (hn : isTok d = false) (r : Rs B h d v F) : Rf h d v F := by
  cases d <;> first | exact r | cases hn
section
variable {B : List Nat} {h : Hh} {v : AV} {F : List Nat}
theorem Rs.int_inv {i : Int} (r : Rs B h (.int i) v F) : v = .int i ∧ F = [] := Rf.int_inv (h := h) r
theorem Rs.bl_inv {i : Bool} (r : Rs B h (.bl i) v F) : v = .bl i ∧ F = [] := Rf.bl_inv (h := h) r
theorem Rs.non_inv (r : Rs B h .non v F) : v = .non ∧ F = [] := Rf.non_inv (h := h) r
theorem Rs.str_inv {s : List Nat} (r : Rs B h (.str s) v F) : v = .str s ∧ okS s = true ∧ F = [] := Rf.str_inv (h := h) r
theorem Rs.lst_inv {ds : List PV} (r : Rs B h (.lst ds) v F) : ∃ n xs G, v = .ref n ∧ h[n]? = some (.lst xs) ∧ RfL h ds xs G ∧ F = n :: G := Rf.lst_inv (h := h) r
theorem Rs.scr_inv {ns : List Int} (r : Rs B h (.scr ns) v F) : v = .scr ns ∧ F = [] := Rf.scr_inv (h := h) r
theorem Rs.cdc_inv {k : CK} (r : Rs B h (.cdc k) v F) : v = .con k ∧ k.dic?.isSome = true ∧ F = [] := Rf.cdc_inv (h := h) r
theorem Rs.tup_inv {ds : List PV} (r : Rs B h (.tup ds) v F) : ∃ xs, rdT h v = some xs ∧ RfL h ds xs F := Rf.tup_inv (h := h) r
theorem Rs.tok_inv (r : Rs B h .tok v F) : (∃ b, B = [b] ∧ v = .ref b) ∧ F = [] := r
theorem Rf.dic_inv {ks : List AKey} {ds : List PV} (r : Rf h (.dic ks ds) v F) : ∃ n kvs G, v = .ref n ∧ h[n]? = some (.dic kvs) ∧ ks = kvs.map (·.1) ∧ RfL h ds (kvs.map (·.2)) G ∧ F = n :: G := by simpa only [Rf] using r
theorem Rf.obj_inv {k : Nat} {ns : List Str} {ds : List PV} (r : Rf h (.obj k ns ds) v F) : ∃ n fs G, v = .ref n ∧ h[n]? = some (.ins k fs) ∧ ns = fs.map (·.1) ∧ RfL h ds (fs.map (·.2)) G ∧ F = n :: G := by simpa only [Rf] using r
theorem Rs.dic_inv {ks : List AKey} {ds : List PV} (r : Rs B h (.dic ks ds) v F) : ∃ n kvs G, v = .ref n ∧ h[n]? = some (.dic kvs) ∧ ks = kvs.map (·.1) ∧ RfL h ds (kvs.map (·.2)) G ∧ F = n :: G := Rf.dic_inv (h := h) r
theorem Rs.obj_inv {k : Nat} {ns : List Str} {ds : List PV} (r : Rs B h (.obj k ns ds) v F) : ∃ n fs G, v = .ref n ∧ h[n]? = some (.ins k fs) ∧ ns = fs.map (·.1) ∧ RfL h ds (fs.map (·.2)) G ∧ F = n :: G := Rf.obj_inv (h := h) r
end
end Det

/-! Val1: readings without a heap, and what they say of the mirrors. -/
namespace Det
open PySem PySem.Spec PyProof.Rows L2

inductive PR (α : Type) where
  | ok (a : α) (o : Pool) | ex (k : Nat) (ns : List Str) (ds : List PV) (o : Pool) | no
def PR.bind {α β : Type} (r : PR α) (k : α → Pool → PR β) : PR β := match r with
  | .ok a o => k a o | .ex x ns ds o => .ex x ns ds o | .no => .no
def PR.of {α : Type} (o : Pool) : Option α → PR α
  | some a => .ok a o | none => .no
abbrev Ps := List (Option PV)
abbrev Pe := Ps → Pool → PR PV
abbrev Pt := Ps → Pool → PR Bool
abbrev Pa := Ps → Pool → PR (List PV)
def RX' (h : Hh) (k : Nat) (ns : List Str) (ds : List PV) (x : AX) : Prop := x.cls = k ∧ match x.d with
  | none => ns = [] ∧ ds = []
  | some n => ∃ fs, h[n]? = some (.xd fs) ∧ ns = fs.map (·.1) ∧ RfL h ds (fs.map (·.2)) []
def Sd {α β : Type} (B : List Nat) (h : Hh) (Q : Hh → α → β → Prop) (p : PR α) (r : R β) : Prop := match p with
  | .no => True
  | .ok a o => ∃ b h', r = .ok b h' ∧ Kq B h h' ∧ PL B h' o ∧ Q h' a b
  | .ex k ns ds o => ∃ x h', r = .ex x h' ∧ Kq B h h' ∧ PL B h' o ∧ RX' h' k ns ds x
section
variable {α β γ δ : Type} {B : List Nat} {h h1 : Hh}
theorem Sd.bind {Q : Hh → α → β → Prop} {Q' : Hh → γ → δ → Prop} {p : PR α} {r : R β} {k : α → Pool → PR γ} {k' : β → Hh → R δ} (s : Sd B h Q p r)
    (hk : ∀ a b o h', Kq B h h' → PL B h' o → Q h' a b → Sd B h' Q' (k a o) (k' b h')) : Sd B h Q' (p.bind k) (r.bind k') := by
  cases p with
  | no => trivial
  | ok a o =>
    obtain ⟨b, h', rfl, k1, k2, q⟩ := s
    have s2 := hk a b o h' k1 k2 q
    show Sd B h Q' (k a o) (k' b h')
    revert s2
    cases k a o with
    | no => exact fun s => trivial
    | ok c o => exact fun ⟨d, h2, e, l1, l2, q2⟩ => ⟨d, h2, e, k1.transM l1, l2, q2⟩
    | ex c ns ds o => exact fun ⟨d, h2, e, l1, l2, q2⟩ => ⟨d, h2, e, k1.transM l1, l2, q2⟩
  | ex x ns ds o =>
    obtain ⟨b, h', rfl, k1, k2, q⟩ := s
    exact ⟨b, h', rfl, k1, k2, q⟩
theorem Sd.mono {Q Q' : Hh → α → β → Prop} {p : PR α} {r : R β} (s : Sd B h Q p r) (hq : ∀ a b h', Kq B h h' → Q h' a b → Q' h' a b) : Sd B h Q' p r := by
  cases p with
  | no => trivial
  | ok a o =>
    obtain ⟨b, h', e, k1, k2, q⟩ := s
    exact ⟨b, h', e, k1, k2, hq _ _ _ k1 q⟩
  | ex x ns ds o => exact s
end

structure SR (T : Bool) (h0 : Hh) (B O : List Nat) (φ : Nat → List Nat) (ps : Ps) (o : Pool) (sl : Sl) (h : Hh) : Prop where
  kq : Kq B h0 h
  pl : PL B h o
  own : T = true → ∀ b ∈ B, h0.length ≤ b
  len : ps.length = sl.length
  rel : ∀ (i : Nat) (d : PV), ps[i]? = some (some d) → ∃ v, sl[i]? = some (some v) ∧ Rs B h d v (φ i)
  nb : ∀ i n, n ∈ φ i → n ∉ B
  ow : ∀ i ∈ O, (φ i).Nodup ∧ ∀ n ∈ φ i, h0.length ≤ n
  dj : ∀ i ∈ O, ∀ j, i ≠ j → ∀ n ∈ φ i, n ∉ φ j
  lt : ∀ i n, n ∈ φ i → n < h.length
theorem SR.kqB {T : Bool} {h0 h h' : Hh} {B O : List Nat} {φ : Nat → List Nat} {ps : Ps} {o o' : Pool} {sl : Sl} (s : SR T h0 B O φ ps o sl h) (k : Kq B h h') (p : PL B h' o') : SR T h0 B O φ ps o' sl h' where
  kq := s.kq.transM k
  pl := p
  own := s.own
  len := s.len
  rel := fun i d e => by
    obtain ⟨v, e1, r⟩ := s.rel i d e
    exact ⟨v, e1, r.kq k (s.nb i)⟩
  nb := s.nb
  ow := s.ow
  dj := s.dj
  lt := fun i n hn => Nat.lt_of_lt_of_le (s.lt i n hn) k.1
/-- where the names of a value come from -/
structure Lc (B O U : List Nat) (φ : Nat → List Nat) (h h' : Hh) (F : List Nat) : Prop where
  nb : ∀ n ∈ F, n ∉ B
  loc : ∀ n ∈ F, (h.length ≤ n ∧ n < h'.length) ∨ ∃ i ∈ U, n ∈ φ i
  nd : U.Nodup → (∀ i ∈ U, i ∈ O) → F.Nodup
theorem Lc.nil {B O U : List Nat} {φ : Nat → List Nat} {h h' : Hh} : Lc B O U φ h h' [] := ⟨by simp, by simp, fun _ _ => List.nodup_nil⟩
theorem Lc.len {B O U : List Nat} {φ : Nat → List Nat} {h h' h2 : Hh} {F : List Nat} (l : Lc B O U φ h h' F) (hl : h'.length ≤ h2.length) : Lc B O U φ h h2 F := ⟨l.nb, fun n hn => (l.loc n hn).imp (fun q => ⟨q.1, by omega⟩) id, l.nd⟩
theorem Lc.back {B O U : List Nat} {φ : Nat → List Nat} {h h1 h' : Hh} {F : List Nat} (l : Lc B O U φ h1 h' F) (hl : h.length ≤ h1.length) : Lc B O U φ h h' F := ⟨l.nb, fun n hn => (l.loc n hn).imp (fun q => ⟨by omega, q.2⟩) id, l.nd⟩
def QE (B O U : List Nat) (φ : Nat → List Nat) (h : Hh) : Hh → PV → AV → Prop := fun h' d v => ∃ F, Rs B h' d v F ∧ Lc B O U φ h h' F
def QA (B O U : List Nat) (φ : Nat → List Nat) (h : Hh) : Hh → List PV → List AV → Prop := fun h' ds vs => ∃ F, RfL h' ds vs F ∧ Lc B O U φ h h' F
def SE (O U : List Nat) (m : Ev) (p : Pe) : Prop := ∀ ⦃T : Bool⦄ ⦃h0 : Hh⦄ ⦃B : List Nat⦄ ⦃φ : Nat → List Nat⦄ ⦃ps : Ps⦄ ⦃o : Pool⦄ ⦃sl : Sl⦄ ⦃h : Hh⦄, SR T h0 B O φ ps o sl h → Sd B h (QE B O U φ h) (p ps o) (m sl h)
def SA (O U : List Nat) (m : Ea) (p : Pa) : Prop := ∀ ⦃T : Bool⦄ ⦃h0 : Hh⦄ ⦃B : List Nat⦄ ⦃φ : Nat → List Nat⦄ ⦃ps : Ps⦄ ⦃o : Pool⦄ ⦃sl : Sl⦄ ⦃h : Hh⦄, SR T h0 B O φ ps o sl h → Sd B h (QA B O U φ h) (p ps o) (m sl h)
def ST (O : List Nat) (m : Et) (p : Pt) : Prop := ∀ ⦃T : Bool⦄ ⦃h0 : Hh⦄ ⦃B : List Nat⦄ ⦃φ : Nat → List Nat⦄ ⦃ps : Ps⦄ ⦃o : Pool⦄ ⦃sl : Sl⦄ ⦃h : Hh⦄, SR T h0 B O φ ps o sl h → Sd B h (fun _ a b => a = b) (p ps o) (m sl h)

/-! ### names, constants -/
def pVar (i : Nat) : Pe := fun ps o => match ps[i]? with
  | some (some d) => .ok d o
  | _ => .no
def pC (d : PV) : Pe := fun _ o => .ok d o
def pN (p : Pe) : Pe := fun ps o => (p ps o).bind fun d o1 => if d.noL = true then .ok d o1 else .no
section
variable {O U U' : List Nat}
theorem se_var (i : Nat) : SE O [i] (mVar i) (pVar i) := fun T h0 B φ ps o sl h s => by
  unfold pVar
  split
  · rename_i d e
    obtain ⟨v, e1, r⟩ := s.rel i d e
    refine ⟨v, h, by unfold mVar; rw [e1], Kq.rfl', s.pl, φ i, r, s.nb i, fun n hn => .inr ⟨i, by simp, hn⟩, fun _ hO => (s.ow i (hO i (by simp))).1⟩
  · trivial
theorem se_n {m : Ev} {p : Pe} (a : SE O U' m p) : SE O U m (pN p) := fun T h0 B φ ps o sl h s => by
  have := a s
  unfold pN
  revert this
  cases p ps o with
  | no => exact fun _ => trivial
  | ex k ns ds o => exact fun q => q
  | ok d o1 =>
    rintro ⟨v, h', e, k, pl, F, r, l⟩
    show Sd B h _ (if d.noL = true then .ok d o1 else .no) _
    split
    · rename_i hn
      have := Rs.noL hn r
      subst this
      exact ⟨v, h', e, k, pl, [], r, Lc.nil⟩
    · trivial
theorem se_weak {m : Ev} {p : Pe} (a : SE O [] m p) : SE O U m p := fun T h0 B φ ps o sl h s => (a s).mono fun d v h' k ⟨F, r, l⟩ => ⟨F, r, l.nb, fun n hn => (l.loc n hn).imp id (fun ⟨i, hi, _⟩ => nomatch hi), fun _ _ => l.nd List.nodup_nil (by simp)⟩
theorem se_c {v : AV} {d : PV} (r : ∀ h, Rf h d v []) : SE O U (mC v) (pC d) := fun T h0 B φ ps o sl h s => ⟨v, h, rfl, Kq.rfl', s.pl, [], Rs.of (r h), Lc.nil⟩
theorem se_int {i : Int} : SE O U (mC (.int i)) (pC (.int i)) := se_c fun _ => Rf.int
theorem se_bl {i : Bool} : SE O U (mC (.bl i)) (pC (.bl i)) := se_c fun _ => Rf.bl
theorem se_non : SE O U (mC .non) (pC .non) := se_c fun _ => Rf.non
theorem se_str {s : List Nat} (hs : okS s = true := by decide +kernel) : SE O U (mC (.str s)) (pC (.str s)) := se_c fun _ => Rf.str hs
theorem se_emp : SE O U (mC (.con .empty)) (pC (.tup [.str [], .int 0])) := se_c fun _ => by
  have : Rf (h := []) (.str []) (.str []) [] := Rf.str rfl
  simp only [Rf]
  exact ⟨[.str [], .int 0], rfl, RfL.cons (Rf.str rfl) (RfL.cons Rf.int RfL.nil)⟩
theorem se_con {k : CK} (hk : k.dic?.isSome = true := by rfl) : SE O U (mC (.con k)) (pC (.cdc k)) := se_c fun h => by simp [Rf, hk]
/-! ### operators -/
abbrev Vo2 := PV → PV → Option PV
/-- a new value, or one without anything that may be changed -/
def SO (f : Op2) (g : Vo2) : Prop := ∀ ⦃B : List Nat⦄ ⦃h : Hh⦄ ⦃d e : PV⦄ ⦃v u : AV⦄ ⦃F G : List Nat⦄ ⦃r : PV⦄, (∀ b ∈ B, b < h.length) → Rs B h d v F → Rs B h e u G → g d e = some r → ∃ w h', f v u h = some (w, h') ∧ Kq [] h h' ∧ ∃ F', Rf h' r w F' ∧ F'.Nodup ∧ ∀ n ∈ F', h.length ≤ n ∧ n < h'.length
/-- a value, or a part of the first -/
def SOb (f : Op2) (g : Vo2) : Prop := ∀ ⦃B : List Nat⦄ ⦃h : Hh⦄ ⦃d e : PV⦄ ⦃v u : AV⦄ ⦃F G : List Nat⦄ ⦃r : PV⦄, (∀ b ∈ B, b < h.length) → Rs B h d v F → Rs B h e u G → g d e = some r → ∃ w, f v u h = some (w, h) ∧ ∃ F', Rf h r w F' ∧ F'.Sublist F
def pBin (g : Vo2) (pa pb : Pe) : Pe := fun ps o => (pa ps o).bind fun d o1 => (pb ps o1).bind fun e o2 => PR.of o2 (g d e)
variable {ma mb mc : Ev} {pa pb pc : Pe} {U1 U2 U3 : List Nat}
theorem PL.kq0 {B : List Nat} {h h' : Hh} {o : Pool} (p : PL B h o) (k : Kq [] h h') : PL B h' o := p.kq k (by simp)
theorem sd_of {B : List Nat} {h h1 h' : Hh} {O U : List Nat} {φ : Nat → List Nat} {d : PV} {w : AV} {F : List Nat} {o : Pool} (pl : PL B h o) (k : Kq [] h h') (r : Rf h' d w F) (nd : F.Nodup) (hf : ∀ n ∈ F, h.length ≤ n ∧ n < h'.length) (hl : h1.length ≤ h.length) : Sd B h (QE B O U φ h1) (.ok d o) (.ok w h') :=
  ⟨w, h', rfl, k.nil, pl.kq0 k, F, Rs.of r, fun n hn hb => by have := pl.lt n hb; have := hf n hn; omega, fun n hn => .inl ⟨by have := hf n hn; omega, (hf n hn).2⟩, fun _ _ => nd⟩
theorem se_bin {f : Op2} {g : Vo2} (hs : SO f g) (a : SE O U1 ma pa) (b : SE O U2 mb pb) : SE O U (mBin f ma mb) (pBin g pa pb) := fun T h0 B φ ps o sl h s =>
  (a s).bind fun d v o1 h1 k1 p1 ⟨F, rd, lF⟩ => (b (s.kqB k1 p1)).bind fun e u o2 h2 k2 p2 ⟨G, re, lG⟩ => by
    cases q : g d e with
    | none => trivial
    | some r =>
      obtain ⟨w, h', e1, k3, F', rr, nd, hf⟩ := hs p2.lt (rd.kq k2 lF.nb) re q
      show Sd B h2 _ (.ok r o2) (R.of (f v u h2))
      rw [e1]
      exact sd_of p2 k3 rr nd hf (Nat.le_trans k1.1 k2.1)
/-- a part of the first -/
theorem Lc.sub {B O U : List Nat} {φ : Nat → List Nat} {h h' : Hh} {F F' : List Nat} (l : Lc B O U φ h h' F) (hs : F'.Sublist F) : Lc B O U φ h h' F' := ⟨fun n hn => l.nb n (hs.subset hn), fun n hn => l.loc n (hs.subset hn), fun a b => (l.nd a b).sublist hs⟩
theorem se_binb {f : Op2} {g : Vo2} (hs : SOb f g) (a : SE O U1 ma pa) (b : SE O U2 mb pb) : SE O U1 (mBin f ma mb) (pBin g pa pb) := fun T h0 B φ ps o sl h s =>
  (a s).bind fun d v o1 h1 k1 p1 ⟨F, rd, lF⟩ => (b (s.kqB k1 p1)).bind fun e u o2 h2 k2 p2 ⟨G, re, lG⟩ => by
    cases q : g d e with
    | none => trivial
    | some r =>
      obtain ⟨w, e1, F', rr, hf⟩ := hs p2.lt (rd.kq k2 lF.nb) re q
      show Sd B h2 _ (.ok r o2) (R.of (f v u h2))
      rw [e1]
      exact ⟨w, h2, rfl, Kq.rfl', p2, F', Rs.of rr, (lF.len k2.1).sub hf⟩
end
end Det

/-! Val2: expressions. -/
namespace Det
open PySem PySem.Spec PyProof.Rows L2
variable {O U U1 U2 U3 : List Nat} {ma mb mc : Ev} {pa pb pc : Pe} {ta tb : Et} {qa qb : Pt}
def pChain (f g : Vo2) (pa pb pc : Pe) : Pe := fun ps o => (pa ps o).bind fun d o1 => (pb ps o1).bind fun e o2 => (PR.of o2 (f d e)).bind fun r o3 => match r with
  | .bl true => (pc ps o3).bind fun z o4 => PR.of o4 (g e z)
  | .bl false => .ok (.bl false) o3
  | _ => .no
theorem sd_op {B : List Nat} {h h1 : Hh} {O U : List Nat} {φ : Nat → List Nat} {f : Op2} {g : Vo2} {d e : PV} {v u : AV} {F G : List Nat} {o : Pool} (hs : SO f g) (pl : PL B h o) (r1 : Rs B h d v F) (r2 : Rs B h e u G) (hl : h1.length ≤ h.length) : Sd B h (QE B O U φ h1) (PR.of o (g d e)) (R.of (f v u h)) := by
  cases q : g d e with
  | none => trivial
  | some r =>
    obtain ⟨w, h', e1, k3, F', rr, nd, hf⟩ := hs pl.lt r1 r2 q
    rw [e1]
    exact sd_of pl k3 rr nd hf hl
theorem se_chain {f g : Op2} {f' g' : Vo2} (hf : SO f f') (hg : SO g g') (a : SE O U1 ma pa) (b : SE O U2 mb pb) (c : SE O U3 mc pc) : SE O U (mChain f g ma mb mc) (pChain f' g' pa pb pc) := fun T h0 B φ ps o sl h s =>
  (a s).bind fun d v o1 h1 k1 p1 ⟨F, rd, lF⟩ => (b (s.kqB k1 p1)).bind fun e u o2 h2 k2 p2 ⟨G, re, lG⟩ =>
    (sd_op (O := O) (U := U) (φ := φ) hf p2 (rd.kq k2 lF.nb) re (Nat.le_refl _)).bind fun r w o3 h3 k3 p3 ⟨F3, rr, l3⟩ => by
      split
      · obtain ⟨rfl, rfl⟩ := rr.bl_inv
        exact (c ((s.kqB k1 p1).kqB (k2.transM k3) p3)).bind fun z x o4 h4 k4 p4 ⟨F4, rz, l4⟩ => sd_op hg p4 (re.kq (k3.transM k4) lG.nb) rz (Nat.le_trans k1.1 (Nat.le_trans k2.1 (Nat.le_trans k3.1 k4.1)))
      · obtain ⟨rfl, rfl⟩ := rr.bl_inv
        exact ⟨.bl false, h3, rfl, Kq.rfl', p3, [], Rs.of Rf.bl, Lc.nil⟩
      · trivial
def pB (p : Pe) : Pt := fun ps o => (p ps o).bind fun d o1 => match d with
  | .bl b => .ok b o1
  | _ => .no
theorem st_B (a : SE O U1 ma pa) : ST O (mB ma) (pB pa) := fun T h0 B φ ps o sl h s =>
  (a s).bind fun d v o1 h1 k1 p1 ⟨F, rd, lF⟩ => by
    split
    · obtain ⟨rfl, rfl⟩ := rd.bl_inv
      exact ⟨_, h1, rfl, Kq.rfl', p1, rfl⟩
    · trivial
def pAndV (pa pb : Pe) : Pe := fun ps o => (pa ps o).bind fun d o1 => match d with
  | .bl true => pb ps o1
  | .bl false => .ok (.bl false) o1
  | _ => .no
def pOrV (pa pb : Pe) : Pe := fun ps o => (pa ps o).bind fun d o1 => match d with
  | .bl true => .ok (.bl true) o1
  | .bl false => pb ps o1
  | _ => .no
def pNotV (pa : Pe) : Pe := fun ps o => (pa ps o).bind fun d o1 => match d with
  | .bl b => .ok (.bl (!b)) o1
  | _ => .no
theorem QE.back {B : List Nat} {φ : Nat → List Nat} {h h1 h' : Hh} {d : PV} {v : AV} (hl : h.length ≤ h1.length) (q : QE B O U φ h1 h' d v) : QE B O U φ h h' d v := by
  obtain ⟨F, r, l⟩ := q
  exact ⟨F, r, l.back hl⟩
theorem Lc.up {B : List Nat} {φ : Nat → List Nat} {h h' : Hh} {F : List Nat} (l : Lc B O [] φ h h' F) : Lc B O U φ h h' F := ⟨l.nb, fun n hn => (l.loc n hn).imp id (fun ⟨i, hi, _⟩ => nomatch hi), fun _ _ => l.nd List.nodup_nil (by simp)⟩
theorem se_and (a : SE O U1 ma pa) (b : SE O U mb pb) : SE O U (mAndV ma mb) (pAndV pa pb) := fun T h0 B φ ps o sl h s =>
  (a s).bind fun d v o1 h1 k1 p1 ⟨F, rd, lF⟩ => by
    split
    · obtain ⟨rfl, rfl⟩ := rd.bl_inv
      exact (b (s.kqB k1 p1)).mono fun _ _ _ _ q => q.back k1.1
    · obtain ⟨rfl, rfl⟩ := rd.bl_inv
      exact ⟨_, h1, rfl, Kq.rfl', p1, [], Rs.of Rf.bl, Lc.nil⟩
    · trivial
theorem se_or (a : SE O U1 ma pa) (b : SE O U mb pb) : SE O U (mOrV ma mb) (pOrV pa pb) := fun T h0 B φ ps o sl h s =>
  (a s).bind fun d v o1 h1 k1 p1 ⟨F, rd, lF⟩ => by
    split
    · obtain ⟨rfl, rfl⟩ := rd.bl_inv
      exact ⟨_, h1, rfl, Kq.rfl', p1, [], Rs.of Rf.bl, Lc.nil⟩
    · obtain ⟨rfl, rfl⟩ := rd.bl_inv
      exact (b (s.kqB k1 p1)).mono fun _ _ _ _ q => q.back k1.1
    · trivial
theorem se_not (a : SE O U1 ma pa) : SE O U (mNotV ma) (pNotV pa) := fun T h0 B φ ps o sl h s =>
  (a s).bind fun d v o1 h1 k1 p1 ⟨F, rd, lF⟩ => by
    split
    · obtain ⟨rfl, rfl⟩ := rd.bl_inv
      exact ⟨_, h1, rfl, Kq.rfl', p1, [], Rs.of Rf.bl, Lc.nil⟩
    · trivial
def pAnd (a b : Pt) : Pt := fun ps o => (a ps o).bind fun x o1 => if x = true then b ps o1 else .ok false o1
def pOr (a b : Pt) : Pt := fun ps o => (a ps o).bind fun x o1 => if x = true then .ok true o1 else b ps o1
def pNot (a : Pt) : Pt := fun ps o => (a ps o).bind fun x o1 => .ok (!x) o1
def pIfE (t : Pt) (a b : Pe) : Pe := fun ps o => (t ps o).bind fun x o1 => if x = true then a ps o1 else b ps o1
def pYes : Pt := fun _ o => .ok true o
theorem st_yes : ST O mYes pYes := fun T h0 B φ ps o sl h s => ⟨true, h, rfl, Kq.rfl', s.pl, rfl⟩
theorem st_and (a : ST O ta qa) (b : ST O tb qb) : ST O (mAnd ta tb) (pAnd qa qb) := fun T h0 B φ ps o sl h s =>
  (a s).bind fun d v o1 h1 k1 p1 q => by
    subst q
    cases d with
    | true => exact b (s.kqB k1 p1)
    | false => exact ⟨false, h1, rfl, Kq.rfl', p1, rfl⟩
theorem st_or (a : ST O ta qa) (b : ST O tb qb) : ST O (mOr ta tb) (pOr qa qb) := fun T h0 B φ ps o sl h s =>
  (a s).bind fun d v o1 h1 k1 p1 q => by
    subst q
    cases d with
    | false => exact b (s.kqB k1 p1)
    | true => exact ⟨true, h1, rfl, Kq.rfl', p1, rfl⟩
theorem st_not (a : ST O ta qa) : ST O (mNot ta) (pNot qa) := fun T h0 B φ ps o sl h s =>
  (a s).bind fun d v o1 h1 k1 p1 q => by
    subst q
    exact ⟨!d, h1, rfl, Kq.rfl', p1, rfl⟩
theorem se_if (t : ST O ta qa) (a : SE O U ma pa) (b : SE O U mb pb) : SE O U (mIfE ta ma mb) (pIfE qa pa pb) := fun T h0 B φ ps o sl h s =>
  (t s).bind fun d v o1 h1 k1 p1 q => by
    subst q
    cases d with
    | true => exact (a (s.kqB k1 p1)).mono fun _ _ _ _ q => q.back k1.1
    | false => exact (b (s.kqB k1 p1)).mono fun _ _ _ _ q => q.back k1.1

/-! ### argument lists, displays -/
def pNil : Pa := fun _ o => .ok [] o
def pCons (a : Pe) (r : Pa) : Pa := fun ps o => (a ps o).bind fun d o1 => (r ps o1).bind fun ds o2 => .ok (d :: ds) o2
/-- arguments of a call: a token may be among them -/
inductive RsL (B : List Nat) (h : Hh) : List PV → List AV → Prop where
  | nil : RsL B h [] []
  | cons {d : PV} {v : AV} {ds : List PV} {vs : List AV} {F : List Nat} (r : Rs B h d v F) (hb : ∀ n ∈ F, n ∉ B) (hl : ∀ n ∈ F, n < h.length) (t : RsL B h ds vs) : RsL B h (d :: ds) (v :: vs)
theorem RsL.kq {B : List Nat} {h h' : Hh} (k : Kq B h h') {ds : List PV} {vs : List AV} (r : RsL B h ds vs) : RsL B h' ds vs := by
  induction r with
  | nil => exact .nil
  | cons r hb hl t ih => exact .cons (r.kq k hb) hb (fun n hn => Nat.lt_of_lt_of_le (hl n hn) k.1) ih
def SAr (O : List Nat) (m : Ea) (p : Pa) : Prop := ∀ ⦃T : Bool⦄ ⦃h0 : Hh⦄ ⦃B : List Nat⦄ ⦃φ : Nat → List Nat⦄ ⦃ps : Ps⦄ ⦃o : Pool⦄ ⦃sl : Sl⦄ ⦃h : Hh⦄, SR T h0 B O φ ps o sl h → Sd B h (fun h' ds vs => RsL B h' ds vs) (p ps o) (m sl h)
theorem SR.lc {T : Bool} {h0 : Hh} {B : List Nat} {φ : Nat → List Nat} {ps : Ps} {o : Pool} {sl : Sl} {h h' : Hh} {F : List Nat} (s : SR T h0 B O φ ps o sl h) (l : Lc B O U φ h h' F) (hl : h.length ≤ h'.length) : ∀ n ∈ F, n < h'.length := fun n hn => by
  rcases l.loc n hn with q | ⟨i, _, q⟩
  · exact q.2
  · have := s.lt i n q; omega
theorem sr_nil : SAr O mNil pNil := fun T h0 B φ ps o sl h s => ⟨[], h, rfl, Kq.rfl', s.pl, .nil⟩
variable {ea : Ea} {ra : Pa} {me : Ev} {pe : Pe}
theorem sr_cons (a : SE O U1 me pe) (r : SAr O ea ra) : SAr O (mCons me ea) (pCons pe ra) := fun T h0 B φ ps o sl h s =>
  (a s).bind fun d v o1 h1 k1 p1 ⟨F, rd, lF⟩ => (r (s.kqB k1 p1)).bind fun ds vs o2 h2 k2 p2 q => ⟨v :: vs, h2, rfl, Kq.rfl', p2, .cons (rd.kq k2 lF.nb) lF.nb (fun n hn => Nat.lt_of_lt_of_le (s.lc lF k1.1 n hn) k2.1) q⟩
theorem Rs.rf {B : List Nat} {h : Hh} {d : PV} {v : AV} {F : List Nat} (r : Rs B h d v F) (hn : isTok d = false) : Rf h d v F := Rs.nt hn r
/-- items of a display -/
def pConsD (a : Pe) (r : Pa) : Pa := fun ps o => (a ps o).bind fun d o1 => (r ps o1).bind fun ds o2 => if isTok d = true then .no else .ok (d :: ds) o2
theorem sa_nil : SA O [] mNil pNil := fun T h0 B φ ps o sl h s => ⟨[], h, rfl, Kq.rfl', s.pl, [], RfL.nil, Lc.nil⟩
theorem Lc.app {T : Bool} {h0 : Hh} {B : List Nat} {φ : Nat → List Nat} {ps : Ps} {o : Pool} {sl : Sl} {h h1 h2 : Hh} {F G : List Nat} (s : SR T h0 B O φ ps o sl h) (hl : h.length ≤ h1.length) (hl2 : h1.length ≤ h2.length) (l : Lc B O U1 φ h h1 F) (l2 : Lc B O U2 φ h1 h2 G) : Lc B O (U1 ++ U2) φ h h2 (F ++ G) where
  nb := fun n hn => (List.mem_append.mp hn).elim (l.nb n) (l2.nb n)
  loc := fun n hn => by
    rcases List.mem_append.mp hn with q | q
    · rcases l.loc n q with z | ⟨i, hi, z⟩
      · exact .inl ⟨z.1, by omega⟩
      · exact .inr ⟨i, by simp [hi], z⟩
    · rcases l2.loc n q with z | ⟨i, hi, z⟩
      · exact .inl ⟨by omega, z.2⟩
      · exact .inr ⟨i, by simp [hi], z⟩
  nd := fun hu ho => by
    obtain ⟨u1, u2, u3⟩ := List.nodup_append.mp hu
    refine List.nodup_append.mpr ⟨l.nd u1 fun i hi => ho i (by simp [hi]), l2.nd u2 fun i hi => ho i (by simp [hi]), fun n hn m hm e => ?_⟩
    subst e
    rcases l.loc n hn with z | ⟨i, hi, z⟩ <;> rcases l2.loc n hm with z2 | ⟨j, hj, z2⟩
    · omega
    · have := s.lt j n z2; omega
    · have := s.lt i n z; omega
    · exact s.dj i (ho i (by simp [hi])) j (u3 i hi j hj) n z z2
theorem sa_cons (a : SE O U1 me pe) (r : SA O U2 ea ra) : SA O (U1 ++ U2) (mCons me ea) (pConsD pe ra) := fun T h0 B φ ps o sl h s =>
  (a s).bind fun d v o1 h1 k1 p1 ⟨F, rd, lF⟩ => (r (s.kqB k1 p1)).bind fun ds vs o2 h2 k2 p2 ⟨G, q, lG⟩ => by
    split
    · trivial
    · rename_i hn
      have hn' : isTok d = false := by simpa using hn
      exact ⟨v :: vs, h2, rfl, Kq.rfl', p2, F ++ G, RfL.cons ((rd.rf hn').kq k2 lF.nb) q, Lc.app s k1.1 k2.1 lF lG⟩
def pTup (r : Pa) : Pe := fun ps o => (r ps o).bind fun ds o1 => if ds.length ≤ LINE then .ok (.tup ds) o1 else .no
def pLst (r : Pa) : Pe := fun ps o => (r ps o).bind fun ds o1 => if ds.length ≤ LINE then .ok (.lst ds) o1 else .no
theorem kq_new {h : Hh} {M : List Nat} {o : AO} : Kq M h (h ++ [o]) := Kq.rfl'.app _
theorem PL.app {B : List Nat} {h : Hh} {o : Pool} (p : PL B h o) (r : Hh) : PL B (h ++ r) o := p.kq0 (Kq.rfl'.app r)
theorem se_tup (a : SA O U ea ra) : SE O U (mTup ea) (pTup ra) := fun T h0 B φ ps o sl h s =>
  (a s).bind fun ds vs o1 h1 k1 p1 ⟨F, rd, lF⟩ => by
    split
    · rename_i hl
      rw [rd.len] at hl
      rw [if_pos hl]
      exact ⟨.ref h1.length, _, rfl, kq_new, p1.app _, F, Rs.of (Rf.tup (get_new _ _) (rd.kq (M := []) kq_new (by simp))), lF.len (by simp)⟩
    · trivial
theorem se_lst (a : SA O U ea ra) : SE O U (mLst ea) (pLst ra) := fun T h0 B φ ps o sl h s =>
  (a s).bind fun ds vs o1 h1 k1 p1 ⟨F, rd, lF⟩ => by
    split
    · rename_i hl
      rw [rd.len] at hl
      rw [if_pos hl]
      refine ⟨.ref h1.length, _, rfl, kq_new, p1.app _, h1.length :: F, Rs.of (Rf.lst (get_new _ _) (rd.kq (M := []) kq_new (by simp))), ?_, ?_, ?_⟩
      · intro n hn
        rcases List.mem_cons.mp hn with rfl | hn
        · exact fun z => by have := p1.lt _ z; omega
        · exact lF.nb n hn
      · intro n hn
        rcases List.mem_cons.mp hn with rfl | hn
        · exact .inl ⟨k1.1, by simp⟩
        · exact (lF.len (by simp)).loc n hn
      · intro hu ho
        refine List.nodup_cons.mpr ⟨fun z => ?_, lF.nd hu ho⟩
        have := s.lc lF k1.1 _ z
        omega
    · trivial

/-! ### calls -/
abbrev Pf := List PV → Pool → PR PV
/-- a def, as its callers see it -/
def SF (m : Fn) (p : Pf) : Prop := ∀ ⦃B : List Nat⦄ ⦃o : Pool⦄ ⦃h : Hh⦄ ⦃ds : List PV⦄ ⦃as : List AV⦄, RsL B h ds as → PL B h o → Sd B h (fun h' d v => ∃ F, Rf h' d v F ∧ F.Nodup ∧ ∀ n ∈ F, h.length ≤ n ∧ n < h'.length) (p ds o) (m as h)
def pCall (f : Pf) (a : Pa) : Pe := fun ps o => (a ps o).bind f
theorem se_call {m : Fn} {f : Pf} (hs : SF m f) (a : SAr O ea ra) : SE O U (mCall m ea) (pCall f ra) := fun T h0 B φ ps o sl h s =>
  (a s).bind fun ds vs o1 h1 k1 p1 q => (hs q p1).mono fun d v h2 k2 ⟨F, r, nd, hf⟩ => ⟨F, Rs.of r, fun n hn z => by have := p1.lt n z; have := hf n hn; omega, fun n hn => .inl ⟨by have := hf n hn; have := k1.1; omega, (hf n hn).2⟩, fun _ _ => nd⟩
def pCallK (f : Pf) (pp : List Nat) (n k : Nat) (a kw : Pa) : Pe := fun ps o => (a ps o).bind fun ds o1 => (kw ps o1).bind fun es o2 => if (perm pp n k ds es).length = pp.length then f (perm pp n k ds es) o2 else .no
theorem RsL.get {B : List Nat} {h : Hh} {ds : List PV} {vs : List AV} (r : RsL B h ds vs) : ∀ {i : Nat} {d : PV}, ds[i]? = some d → ∃ v F, vs[i]? = some v ∧ Rs B h d v F ∧ (∀ n ∈ F, n ∉ B) ∧ ∀ n ∈ F, n < h.length := by
  induction r with
  | nil => intro i d e; simp at e
  | cons r hb hl t ih =>
    intro i d e
    cases i with
    | zero => cases e; exact ⟨_, _, rfl, r, hb, hl⟩
    | succ i => simpa using ih (by simpa using e)
theorem RsL.len {B : List Nat} {h : Hh} {ds : List PV} {vs : List AV} (r : RsL B h ds vs) : ds.length = vs.length := by
  induction r with
  | nil => rfl
  | cons r hb hl t ih => simp [ih]
theorem RsL.app {B : List Nat} {h : Hh} {ds es : List PV} {vs us : List AV} (r : RsL B h ds vs) (q : RsL B h es us) : RsL B h (ds ++ es) (vs ++ us) := by
  induction r with
  | nil => exact q
  | cons r hb hl t ih => exact .cons r hb hl ih
theorem RsL.perm {B : List Nat} {h : Hh} {ds es : List PV} {vs us : List AV} (pp : List Nat) (n k : Nat) (r : RsL B h ds vs) (q : RsL B h es us) : RsL B h (perm pp n k ds es) (perm pp n k vs us) := by
  unfold Det.perm
  rw [r.len, q.len]
  split
  · have hA := r.app q
    induction pp with
    | nil => exact .nil
    | cons i pp ih =>
      rw [List.filterMap_cons, List.filterMap_cons]
      cases e : (ds ++ es)[i]? with
      | none =>
        have : (vs ++ us)[i]? = none := by
          rw [List.getElem?_eq_none_iff] at e ⊢
          rw [← hA.len]; exact e
        rw [this]; exact ih
      | some d =>
        obtain ⟨v, F, ev, rv, hb, hl⟩ := hA.get e
        rw [ev]
        exact .cons rv hb hl ih
  · exact .nil
theorem se_callK {m : Fn} {f : Pf} {pp : List Nat} {n k : Nat} {ea2 : Ea} {ra2 : Pa} (hs : SF m f) (a : SAr O ea ra) (b : SAr O ea2 ra2) : SE O U (mCallK m pp n k ea ea2) (pCallK f pp n k ra ra2) := fun T h0 B φ ps o sl h s =>
  (a s).bind fun ds vs o1 h1 k1 p1 q => (b (s.kqB k1 p1)).bind fun es us o2 h2 k2 p2 q2 => by
    have hp := RsL.perm pp n k (q.kq k2) q2
    split
    · rename_i hl
      rw [hp.len] at hl
      rw [if_pos hl]
      exact (hs hp p2).mono fun d v h3 k3 ⟨F, r, nd, hf⟩ => ⟨F, Rs.of r, fun n hn z => by have := p2.lt n z; have := hf n hn; omega, fun n hn => .inl ⟨by have := hf n hn; have := k1.1; have := k2.1; omega, (hf n hn).2⟩, fun _ _ => nd⟩
    · trivial

/-! ### built-ins and methods that give new values -/
def SOn (f : OpN) (g : List PV → Option PV) : Prop := ∀ ⦃B : List Nat⦄ ⦃h : Hh⦄ ⦃ds : List PV⦄ ⦃vs : List AV⦄ ⦃r : PV⦄, (∀ b ∈ B, b < h.length) → RsL B h ds vs → g ds = some r → ∃ w h', f vs h = some (w, h') ∧ Kq [] h h' ∧ ∃ F', Rf h' r w F' ∧ F'.Nodup ∧ ∀ n ∈ F', h.length ≤ n ∧ n < h'.length
def pB1 (g : List PV → Option PV) (a : Pa) : Pe := fun ps o => (a ps o).bind fun ds o1 => PR.of o1 (g ds)
theorem se_b1 {f : OpN} {g : List PV → Option PV} (hs : SOn f g) (a : SAr O ea ra) : SE O U (mB1 f ea) (pB1 g ra) := fun T h0 B φ ps o sl h s =>
  (a s).bind fun ds vs o1 h1 k1 p1 q => by
    cases e : g ds with
    | none => trivial
    | some r =>
      obtain ⟨w, h', e1, k3, F', rr, nd, hf⟩ := hs p1.lt q e
      show Sd B h1 _ (.ok r o1) (R.of (f vs h1))
      rw [e1]
      exact sd_of p1 k3 rr nd hf k1.1
def SOm (f : OpM) (g : PV → List PV → Option PV) : Prop := ∀ ⦃B : List Nat⦄ ⦃h : Hh⦄ ⦃d : PV⦄ ⦃ds : List PV⦄ ⦃v : AV⦄ ⦃vs : List AV⦄ ⦃r : PV⦄ ⦃F : List Nat⦄, (∀ b ∈ B, b < h.length) → Rs B h d v F → RsL B h ds vs → g d ds = some r → ∃ w h', f v vs h = some (w, h') ∧ Kq [] h h' ∧ ∃ F', Rf h' r w F' ∧ F'.Nodup ∧ ∀ n ∈ F', h.length ≤ n ∧ n < h'.length
def isPT (T : String) (d : PV) : Bool := match d with
  | .str _ => T == "str" | .lst _ => T == "list" | .scr _ => T == "list" | _ => false
def pMeth (T : String) (g : PV → List PV → Option PV) (pa : Pe) (ra : Pa) : Pe := fun ps o => (pa ps o).bind fun d o1 => if isPT T d = true then (ra ps o1).bind fun ds o2 => PR.of o2 (g d ds) else .no
theorem isPT_ok {B : List Nat} {T : String} {h : Hh} {d : PV} {v : AV} {F : List Nat} (r : Rs B h d v F) (e : isPT T d = true) : isTy T h v = true := by
  unfold isPT at e
  split at e
  · have e := beq_iff_eq.mp e
    subst e
    obtain ⟨rfl, _⟩ := r.str_inv
    rfl
  · have e := beq_iff_eq.mp e
    subst e
    obtain ⟨n, xs, G, rfl, q, _⟩ := r.lst_inv
    simp [isTy, q]
  · have e := beq_iff_eq.mp e
    subst e
    obtain ⟨rfl, _⟩ := r.scr_inv
    rfl
  · cases e
theorem se_meth {T : String} {f : OpM} {g : PV → List PV → Option PV} (hs : SOm f g) (b : SE O U1 me pe) (a : SAr O ea ra) : SE O U (mMeth T f me ea) (pMeth T g pe ra) := fun T' h0 B φ ps o sl h s =>
  (b s).bind fun d v o1 h1 k1 p1 ⟨F, rd, lF⟩ => by
    split
    · rename_i ht
      rw [if_pos (isPT_ok rd ht)]
      exact (a (s.kqB k1 p1)).bind fun ds vs o2 h2 k2 p2 q => by
        cases e : g d ds with
        | none => trivial
        | some r =>
          obtain ⟨w, h', e1, k3, F', rr, nd, hf⟩ := hs p2.lt (rd.kq k2 lF.nb) q e
          show Sd B h2 _ (.ok r o2) (R.of (f v vs h2))
          rw [e1]
          exact sd_of p2 k3 rr nd hf (Nat.le_trans k1.1 k2.1)
    · trivial
/-- one value in, a new one out -/
def SO1 (f : Op1) (g : PV → Option PV) : Prop := ∀ ⦃B : List Nat⦄ ⦃h : Hh⦄ ⦃d : PV⦄ ⦃v : AV⦄ ⦃r : PV⦄ ⦃F : List Nat⦄, (∀ b ∈ B, b < h.length) → Rs B h d v F → g d = some r → ∃ w h', f v h = some (w, h') ∧ Kq [] h h' ∧ ∃ F', Rf h' r w F' ∧ F'.Nodup ∧ ∀ n ∈ F', h.length ≤ n ∧ n < h'.length
def pUn (g : PV → Option PV) (pa : Pe) : Pe := fun ps o => (pa ps o).bind fun d o1 => PR.of o1 (g d)
theorem sd_1 {B : List Nat} {h h1 : Hh} {φ : Nat → List Nat} {f : Op1} {g : PV → Option PV} {d : PV} {v : AV} {F : List Nat} {o : Pool} (hs : SO1 f g) (pl : PL B h o) (r1 : Rs B h d v F) (hl : h1.length ≤ h.length) : Sd B h (QE B O U φ h1) (PR.of o (g d)) (R.of (f v h)) := by
  cases q : g d with
  | none => trivial
  | some r =>
    obtain ⟨w, h', e1, k3, F', rr, nd, hf⟩ := hs pl.lt r1 q
    rw [e1]
    exact sd_of pl k3 rr nd hf hl
theorem se_un {f : Op1} {g : PV → Option PV} (hs : SO1 f g) (a : SE O U1 ma pa) : SE O U (mUn f ma) (pUn g pa) := fun T h0 B φ ps o sl h s =>
  (a s).bind fun d v o1 h1 k1 p1 ⟨F, rd, lF⟩ => sd_1 hs p1 rd k1.1
end Det

/-! Val3: operators by values. -/
namespace Det
open PySem PySem.Spec PyProof.Rows L2

/-! ### data and == -/
mutual
def PV.toD : PV → D
  | .non => .non | .bl b => .bl b | .int i => .int i | .str s => .str s
  | .lst xs => .lst (PV.toDs xs) | .tup xs => .tup (PV.toDs xs)
  | .dic _ _ => .non | .obj _ _ _ => .non | .tok => .non | .cdc _ => .non | .scr ns => .lst (ns.map .int)
def PV.toDs : List PV → List D
  | [] => []
  | x :: xs => PV.toD x :: PV.toDs xs
end
theorem toDs_map : ∀ xs : List PV, PV.toDs xs = xs.map PV.toD
  | [] => rfl
  | x :: xs => by show PV.toD x :: PV.toDs xs = _; rw [toDs_map xs]; rfl
def PV.eqv (x y : PV) : Bool := D.eqv x.toD y.toD
/-- data of a depth -/
def okd : Nat → PV → Bool
  | 0, _ => false
  | n + 1, d => match d with
    | .lst xs => xs.all (okd n)
    | .tup xs => xs.all (okd n)
    | .dic _ _ => false | .obj _ _ _ => false | .tok => false | .cdc _ => false
    | _ => true
theorem fine_of {s : List Nat} (h : okS s = true) : D.fine (.str s) = true := h
theorem reify_succ (f : Nat) (h : Hh) (v : AV) : reify (f + 1) h v = (match v with
      | .non => some .non
      | .bl b => some (.bl b)
      | .int i => some (.int i)
      | .str s => some (.str s)
      | .ref n => match h[n]? with
        | some (.lst xs) => (mapO (reify f h) xs).map .lst
        | some (.rol xs) => (mapO (reify f h) xs).map .lst
        | some (.tup xs) => (mapO (reify f h) xs).map .tup
        | _ => none
      | .con k => match k.tup? with
        | some xs => (mapO (reify f h) xs).map .tup
        | none => none
      | .scr ns => some (.lst (ns.map .int))) := rfl
theorem rfl_reify {h : Hh} : ∀ (f : Nat) {d : PV} {v : AV} {F : List Nat}, okd f d = true → Rf h d v F → reify f h v = some d.toD ∧ d.toD.fine = true
  | 0, _, _, _, hk, _ => by cases hk
  | f + 1, d, v, F, hk, r => by
    have all : ∀ {ds : List PV} {xs : List AV} {F : List Nat}, ds.all (okd f) = true → RfL h ds xs F → mapO (reify f h) xs = some (PV.toDs ds) ∧ D.fines (PV.toDs ds) = true := by
      intro ds
      induction ds with
      | nil => intro xs F _ r; rw [r.nil_inv.1]; exact ⟨rfl, rfl⟩
      | cons d ds ih =>
        intro xs F hk r
        obtain ⟨y, ys, G1, G2, rfl, q, rs, rfl⟩ := r.cons_inv
        rw [List.all_cons, Bool.and_eq_true] at hk
        obtain ⟨a1, a2⟩ := rfl_reify f hk.1 q
        obtain ⟨b1, b2⟩ := ih hk.2 rs
        refine ⟨?_, ?_⟩
        · unfold mapO; rw [a1, b1]; rfl
        · show (D.fine d.toD && D.fines (PV.toDs ds)) = true
          rw [a2, b2]; rfl
    have key := reify_succ f h v
    cases d with
    | non => obtain ⟨rfl, _⟩ := r.non_inv; exact ⟨rfl, rfl⟩
    | bl b => obtain ⟨rfl, _⟩ := r.bl_inv; exact ⟨rfl, rfl⟩
    | int b => obtain ⟨rfl, _⟩ := r.int_inv; exact ⟨rfl, rfl⟩
    | str b => obtain ⟨rfl, hs, _⟩ := r.str_inv; exact ⟨rfl, hs⟩
    | lst ds =>
      obtain ⟨n, xs, G, rfl, e, rs, _⟩ := r.lst_inv
      obtain ⟨b1, b2⟩ := all hk rs
      refine ⟨?_, b2⟩
      rw [key]
      simp only [e, b1]
      rfl
    | scr ns =>
      obtain ⟨rfl, _⟩ := r.scr_inv
      refine ⟨rfl, ?_⟩
      show D.fines (ns.map D.int) = true
      exact fines_mk fun x hx => by obtain ⟨i, _, rfl⟩ := List.mem_map.mp hx; rfl
    | tup ds =>
      obtain ⟨xs, e, rs⟩ := r.tup_inv
      obtain ⟨b1, b2⟩ := all hk rs
      refine ⟨?_, b2⟩
      rw [key]
      unfold rdT at e
      split at e
      · split at e
        · rename_i q
          cases e
          simp only [q, b1]
          rfl
        · cases e
      · simp only [e, b1]
        rfl
      · cases e
    | dic _ _ => cases hk
    | cdc _ => cases hk
    | obj _ _ _ => cases hk
    | tok => cases hk
def vEqB (x y : PV) : Option Bool := match x, y with
  | .str s, .str t => some (s == t)
  | .int i, .int j => some (i == j)
  | .bl a, .bl b => some (a == b)
  | x, y => if (okd 38 x && okd 38 y) = true then some (PV.eqv x y) else none
theorem okd_up : ∀ {n : Nat} {d : PV}, okd n d = true → okd (n + 1) d = true
  | 0, _, h => by cases h
  | n + 1, d, h => by
    have all : ∀ {xs : List PV}, xs.all (okd n) = true → xs.all (okd (n + 1)) = true := fun {xs} h => by
      rw [List.all_eq_true] at h ⊢
      exact fun x hx => okd_up (h x hx)
    cases d <;> first | exact h | exact all h
theorem okd_tok {n : Nat} {d : PV} (h : okd n d = true) : isTok d = false := by
  cases n with
  | zero => cases h
  | succ n => cases d <;> first | rfl | cases h
section
variable {B : List Nat} {h : Hh} {d e : PV} {v u : AV} {F G : List Nat}
theorem vEq_ok {k : Bool} (r1 : Rs B h d v F) (r2 : Rs B h e u G) (hq : vEqB d e = some k) : eqH h v u = some k := by
  unfold vEqB at hq
  split at hq
  · cases hq
    obtain ⟨rfl, _⟩ := r1.str_inv; obtain ⟨rfl, _⟩ := r2.str_inv; rfl
  · cases hq
    obtain ⟨rfl, _⟩ := r1.int_inv; obtain ⟨rfl, _⟩ := r2.int_inv; rfl
  · cases hq
    obtain ⟨rfl, _⟩ := r1.bl_inv; obtain ⟨rfl, _⟩ := r2.bl_inv; rfl
  · rename_i _ _ n1 n2 n3
    split at hq
    · rename_i hk
      rw [Bool.and_eq_true] at hk
      cases hq
      obtain ⟨a1, a2⟩ := rfl_reify 40 (okd_up (okd_up hk.1)) (r1.nt (okd_tok hk.1))
      obtain ⟨b1, b2⟩ := rfl_reify 40 (okd_up (okd_up hk.2)) (r2.nt (okd_tok hk.2))
      have key : (match reify 40 h v, reify 40 h u with
          | some d, some e => if (d.fine && e.fine) = true then some (D.eqv d e) else none
          | _, _ => none) = some (PV.eqv d e) := by
        rw [a1, b1]
        simp only [a2, b2]
        rfl
      unfold eqH
      split
      · rename_i s t
        obtain ⟨q1, _⟩ := Prod.mk.inj (Option.some.inj (rfl : some ((), ()) = some ((), ())))
        have e1 : d.toD = .str s := by rw [show reify 40 h (.str s) = some (.str s) from rfl] at a1; exact (Option.some.inj a1).symm
        have e2 : e.toD = .str t := by rw [show reify 40 h (.str t) = some (.str t) from rfl] at b1; exact (Option.some.inj b1).symm
        unfold PV.eqv; rw [e1, e2]; rfl
      · rename_i s t
        have e1 : d.toD = .int s := by rw [show reify 40 h (.int s) = some (.int s) from rfl] at a1; exact (Option.some.inj a1).symm
        have e2 : e.toD = .int t := by rw [show reify 40 h (.int t) = some (.int t) from rfl] at b1; exact (Option.some.inj b1).symm
        unfold PV.eqv; rw [e1, e2]; rfl
      · rename_i s t
        have e1 : d.toD = .bl s := by rw [show reify 40 h (.bl s) = some (.bl s) from rfl] at a1; exact (Option.some.inj a1).symm
        have e2 : e.toD = .bl t := by rw [show reify 40 h (.bl t) = some (.bl t) from rfl] at b1; exact (Option.some.inj b1).symm
        unfold PV.eqv; rw [e1, e2]; rfl
      · exact key
    · cases hq
end
/-- an answer that is a plain value, in the same heap -/
theorem so_flat {f : Op2} {g : Vo2} (hs : ∀ {B : List Nat} {h : Hh} {d e : PV} {v u : AV} {F G : List Nat} {r : PV}, Rs B h d v F → Rs B h e u G → g d e = some r → ∃ w, f v u h = some (w, h) ∧ Rf h r w []) : SO f g := fun _ _ _ _ _ _ _ _ _ hB r1 r2 e => by
  obtain ⟨w, e1, r⟩ := hs r1 r2 e
  exact ⟨w, _, e1, Kq.rfl', [], r, List.nodup_nil, by simp⟩
def vEq : Vo2 := fun x y => (vEqB x y).map .bl
def vNe : Vo2 := fun x y => (vEqB x y).map fun b => .bl (!b)
theorem so_eq : SO opEq vEq := so_flat fun r1 r2 e => by
  obtain ⟨k, e1, rfl⟩ := Option.map_eq_some_iff.mp e
  exact ⟨.bl k, by unfold opEq; rw [vEq_ok r1 r2 e1]; rfl, Rf.bl⟩
theorem so_ne : SO opNe vNe := so_flat fun r1 r2 e => by
  obtain ⟨k, e1, rfl⟩ := Option.map_eq_some_iff.mp e
  exact ⟨.bl (!k), by unfold opNe; rw [vEq_ok r1 r2 e1]; rfl, Rf.bl⟩
def vLt : Vo2 := fun x y => match x, y with
  | .int i, .int j => some (.bl (decide (i < j)))
  | .str s, .str t => some (.bl (decide (s < t)))
  | _, _ => none
def vLe : Vo2 := fun x y => match x, y with
  | .int i, .int j => some (.bl (decide (i ≤ j)))
  | .str s, .str t => some (.bl (!decide (t < s)))
  | _, _ => none
def vGt : Vo2 := fun x y => match x, y with
  | .int i, .int j => some (.bl (decide (j < i)))
  | .str s, .str t => some (.bl (decide (t < s)))
  | _, _ => none
def vGe : Vo2 := fun x y => match x, y with
  | .int i, .int j => some (.bl (decide (j ≤ i)))
  | .str s, .str t => some (.bl (!decide (s < t)))
  | _, _ => none
theorem so_lt : SO opLt vLt := so_flat fun r1 r2 e => by
  unfold vLt at e
  split at e
  · cases e; obtain ⟨rfl, _⟩ := r1.int_inv; obtain ⟨rfl, _⟩ := r2.int_inv; exact ⟨_, rfl, Rf.bl⟩
  · cases e; obtain ⟨rfl, _⟩ := r1.str_inv; obtain ⟨rfl, _⟩ := r2.str_inv; exact ⟨_, rfl, Rf.bl⟩
  · cases e
theorem so_le : SO opLe vLe := so_flat fun r1 r2 e => by
  unfold vLe at e
  split at e
  · cases e; obtain ⟨rfl, _⟩ := r1.int_inv; obtain ⟨rfl, _⟩ := r2.int_inv; exact ⟨_, rfl, Rf.bl⟩
  · cases e; obtain ⟨rfl, _⟩ := r1.str_inv; obtain ⟨rfl, _⟩ := r2.str_inv; exact ⟨_, rfl, Rf.bl⟩
  · cases e
theorem so_gt : SO opGt vGt := so_flat fun r1 r2 e => by
  unfold vGt at e
  split at e
  · cases e; obtain ⟨rfl, _⟩ := r1.int_inv; obtain ⟨rfl, _⟩ := r2.int_inv; exact ⟨_, rfl, Rf.bl⟩
  · cases e; obtain ⟨rfl, _⟩ := r1.str_inv; obtain ⟨rfl, _⟩ := r2.str_inv; exact ⟨_, rfl, Rf.bl⟩
  · cases e
theorem so_ge : SO opGe vGe := so_flat fun r1 r2 e => by
  unfold vGe at e
  split at e
  · cases e; obtain ⟨rfl, _⟩ := r1.int_inv; obtain ⟨rfl, _⟩ := r2.int_inv; exact ⟨_, rfl, Rf.bl⟩
  · cases e; obtain ⟨rfl, _⟩ := r1.str_inv; obtain ⟨rfl, _⟩ := r2.str_inv; exact ⟨_, rfl, Rf.bl⟩
  · cases e
def isNon : PV → Bool
  | .non => true | _ => false
theorem isNon_ok {B : List Nat} {h : Hh} {d : PV} {v : AV} {F : List Nat} (r : Rs B h d v F) : decide (v = .non) = isNon d := by
  cases d with
  | non => obtain ⟨rfl, _⟩ := r.non_inv; rfl
  | bl b => obtain ⟨rfl, _⟩ := r.bl_inv; rfl
  | int b => obtain ⟨rfl, _⟩ := r.int_inv; rfl
  | str b => obtain ⟨rfl, _⟩ := r.str_inv; rfl
  | lst ds => obtain ⟨n, xs, G, rfl, _⟩ := r.lst_inv; rfl
  | scr ds => obtain ⟨rfl, _⟩ := r.scr_inv; rfl
  | tup ds =>
    obtain ⟨xs, e, _⟩ := r.tup_inv
    unfold rdT at e
    split at e
    · rfl
    · rfl
    · cases e
  | dic ks ds => obtain ⟨n, xs, G, rfl, _⟩ := r.dic_inv; rfl
  | cdc k => obtain ⟨rfl, _⟩ := r.cdc_inv; rfl
  | obj k ns ds => obtain ⟨n, fs, G, rfl, _⟩ := r.obj_inv; rfl
  | tok => obtain ⟨⟨b, _, rfl⟩, _⟩ := r.tok_inv; rfl
def vIs : Vo2 := fun x y => match x, y with
  | x, .non => some (.bl (isNon x))
  | .bl a, .bl b => some (.bl (decide (a = b)))
  | _, _ => none
def vIsNot : Vo2 := fun x y => match x, y with
  | x, .non => some (.bl (!isNon x))
  | .bl a, .bl b => some (.bl (!decide (a = b)))
  | _, _ => none
theorem so_is : SO opIs vIs := so_flat fun {B h d e v u F G r} r1 r2 q => by
  unfold vIs at q
  split at q
  · cases q; obtain ⟨rfl, _⟩ := r2.non_inv
    exact ⟨_, by show some (AV.bl (decide (v = .non)), h) = _; rw [isNon_ok r1], Rf.bl⟩
  · cases q; obtain ⟨rfl, _⟩ := r1.bl_inv; obtain ⟨rfl, _⟩ := r2.bl_inv; exact ⟨_, rfl, Rf.bl⟩
  · cases q
theorem so_isNot : SO opIsNot vIsNot := so_flat fun {B h d e v u F G r} r1 r2 q => by
  unfold vIsNot at q
  split at q
  · cases q; obtain ⟨rfl, _⟩ := r2.non_inv
    exact ⟨_, by show some (AV.bl (!decide (v = .non)), h) = _; rw [isNon_ok r1], Rf.bl⟩
  · cases q; obtain ⟨rfl, _⟩ := r1.bl_inv; obtain ⟨rfl, _⟩ := r2.bl_inv; exact ⟨_, rfl, Rf.bl⟩
  · cases q

/-! ### arithmetic, put together -/
theorem okS_app {s t : List Nat} (h1 : okS s = true) (h2 : okS t = true) : okS (s ++ t) = true := by
  unfold okS at *
  rw [List.all_append, h1, h2]; rfl
theorem okS_sub {s t : List Nat} (h1 : okS s = true) (hs : ∀ c ∈ t, c ∈ s) : okS t = true := by
  unfold okS at *
  rw [List.all_eq_true] at h1 ⊢
  exact fun c hc => h1 c (hs c hc)
theorem rf_new {h : Hh} {ds : List PV} {xs : List AV} (r : RfL h ds xs []) : Rf (h ++ [.lst xs]) (.lst ds) (.ref h.length) [h.length] := Rf.lst (get_new _ _) (r.kq (M := []) kq_new (by simp))
/-- what a list holds -/
def pls : PV → Option (List PV)
  | .lst xs => some xs
  | .scr ns => some (ns.map .int)
  | _ => none
theorem rs_rdL {B : List Nat} {h : Hh} {d : PV} {ds : List PV} {v : AV} {F : List Nat} (r : Rs B h d v F) (e : pls d = some ds) : ∃ xs G, rdL h v = some xs ∧ RfL h ds xs G ∧ G.Sublist F := by
  unfold pls at e
  split at e
  · cases e
    obtain ⟨n, xs, G, rfl, e, rs, rfl⟩ := r.lst_inv
    exact ⟨xs, G, by simp [e], rs, List.sublist_cons_self _ _⟩
  · cases e
    obtain ⟨rfl, rfl⟩ := r.scr_inv
    exact ⟨_, [], rfl, RfL.ints, List.Sublist.refl _⟩
  · cases e
def vAdd : Vo2 := fun x y => match x, y with
  | .int i, .int j => some (.int (i + j))
  | .str s, .str t => if s.length + t.length ≤ LINE then some (.str (s ++ t)) else none
  | x, y => match pls x, pls y with
    | some xs, some ys => if xs.length + ys.length ≤ LINE ∧ PV.noLs xs = true ∧ PV.noLs ys = true then some (.lst (xs ++ ys)) else none
    | _, _ => none
theorem add_lists {h : Hh} {v u : AV} {xs ys : List AV} (e1 : rdL h v = some xs) (e2 : rdL h u = some ys) : opAdd v u h = if xs.length + ys.length ≤ LINE then some (.ref h.length, h ++ [.lst (xs ++ ys)]) else none := by
  unfold opAdd
  split
  · cases e1
  · cases e1
  · rw [e1, e2]
theorem so_add : SO opAdd vAdd := fun B h d e v u F G r hB r1 r2 q => by
  unfold vAdd at q
  split at q
  · cases q; obtain ⟨rfl, _⟩ := r1.int_inv; obtain ⟨rfl, _⟩ := r2.int_inv; exact ⟨_, h, rfl, Kq.rfl', [], Rf.int, List.nodup_nil, by simp⟩
  · split at q
    · rename_i hl
      cases q; obtain ⟨rfl, o1, _⟩ := r1.str_inv; obtain ⟨rfl, o2, _⟩ := r2.str_inv
      exact ⟨_, h, if_pos hl, Kq.rfl', [], Rf.str (okS_app o1 o2), List.nodup_nil, by simp⟩
    · cases q
  · split at q
    · rename_i p1 p2
      split at q
      · rename_i hl
        obtain ⟨hl, n1, n2⟩ := hl
        cases q
        obtain ⟨xs, G1, e1, q1, _⟩ := rs_rdL r1 p1
        obtain ⟨ys, G2, e2, q2, _⟩ := rs_rdL r2 p2
        have z1 := noLs_nil n1 q1
        have z2 := noLs_nil n2 q2
        subst z1 z2
        exact ⟨_, _, by rw [add_lists e1 e2, if_pos (by rw [← q1.len, ← q2.len]; exact hl)], kq_new, _, rf_new (by have := q1.app q2; simpa using this), by simp, by simp⟩
      · cases q
    · cases q
def vIAdd : Vo2 := fun x y => match x, y with
  | .int i, .int j => some (.int (i + j))
  | .str s, .str t => if s.length + t.length ≤ LINE then some (.str (s ++ t)) else none
  | _, _ => none
theorem so_iadd : SO opIAdd vIAdd := so_flat fun r1 r2 q => by
  unfold vIAdd at q
  split at q
  · cases q; obtain ⟨rfl, _⟩ := r1.int_inv; obtain ⟨rfl, _⟩ := r2.int_inv; exact ⟨_, rfl, Rf.int⟩
  · split at q
    · rename_i hl
      cases q; obtain ⟨rfl, o1, _⟩ := r1.str_inv; obtain ⟨rfl, o2, _⟩ := r2.str_inv
      exact ⟨_, if_pos hl, Rf.str (okS_app o1 o2)⟩
    · cases q
  · cases q
def vSub : Vo2 := fun x y => match x, y with
  | .int i, .int j => some (.int (i - j))
  | _, _ => none
theorem so_sub : SO opSub vSub := so_flat fun r1 r2 q => by
  unfold vSub at q
  split at q
  · cases q; obtain ⟨rfl, _⟩ := r1.int_inv; obtain ⟨rfl, _⟩ := r2.int_inv; exact ⟨_, rfl, Rf.int⟩
  · cases q
def vMul : Vo2 := fun x y => match x, y with
  | .int i, .int j => if (fits i && fits j) = true then some (.int (i * j)) else none
  | .str s, .int n => if n ≤ 1048576 ∧ -1048576 ≤ n ∧ s.length * n.toNat ≤ LINE then some (.str (List.replicate n.toNat s).flatten) else none
  | .lst xs, .int n => if n ≤ 1048576 ∧ -1048576 ≤ n ∧ xs.length * n.toNat ≤ LINE ∧ PV.noLs xs = true then some (.lst (List.replicate n.toNat xs).flatten) else none
  | _, _ => none
theorem okS_rep {s : List Nat} (h : okS s = true) (n : Nat) : okS (List.replicate n s).flatten = true := okS_sub h fun c hc => by
  obtain ⟨t, ht, hc⟩ := List.mem_flatten.mp hc
  rw [List.eq_of_mem_replicate ht] at hc
  exact hc
theorem RfL.rep {h : Hh} {ds : List PV} {xs : List AV} (r : RfL h ds xs []) : ∀ n : Nat, RfL h (List.replicate n ds).flatten (List.replicate n xs).flatten []
  | 0 => RfL.nil
  | n + 1 => by rw [List.replicate_succ, List.replicate_succ]; exact RfL.app (F := []) r (RfL.rep r n)
theorem so_mul : SO opMul vMul := fun B h d e v u F G r hB r1 r2 q => by
  unfold vMul at q
  split at q
  · split at q
    · rename_i hl
      cases q; obtain ⟨rfl, _⟩ := r1.int_inv; obtain ⟨rfl, _⟩ := r2.int_inv; exact ⟨_, h, if_pos hl, Kq.rfl', [], Rf.int, List.nodup_nil, by simp⟩
    · cases q
  · split at q
    · rename_i hl
      cases q; obtain ⟨rfl, o1, _⟩ := r1.str_inv; obtain ⟨rfl, _⟩ := r2.int_inv; exact ⟨_, h, if_pos hl, Kq.rfl', [], Rf.str (okS_rep o1 _), List.nodup_nil, by simp⟩
    · cases q
  · rename_i ds n
    split at q
    · rename_i hl
      obtain ⟨h1, h2, h3, h4⟩ := hl
      cases q; obtain ⟨rfl, _⟩ := r2.int_inv
      obtain ⟨m, xs, G', rfl, e, rs, _⟩ := r1.lst_inv
      have z := noLs_nil h4 rs
      subst z
      refine ⟨.ref h.length, h ++ [AO.lst (List.replicate n.toNat xs).flatten], ?_, kq_new, _, rf_new (rs.rep _), by simp, by simp⟩
      show (match h[m]? with
          | some (.lst xs) => if n ≤ 1048576 ∧ -1048576 ≤ n ∧ xs.length * n.toNat ≤ LINE then some (AV.ref h.length, h ++ [AO.lst (List.replicate n.toNat xs).flatten]) else none
          | _ => none) = _
      rw [e]
      simp only
      rw [if_pos ⟨h1, h2, by rw [← rs.len]; exact h3⟩]
    · cases q
  · cases q
def vDiv : Vo2 := fun x y => match x, y with
  | .int i, .int j => if 0 < j ∧ fits j = true then some (.int (i / j)) else none
  | _, _ => none
def vMod : Vo2 := fun x y => match x, y with
  | .int i, .int j => if 0 < j then some (.int (i % j)) else none
  | _, _ => none
def vPow : Vo2 := fun x y => match x, y with
  | .int i, .int j => if 0 ≤ j ∧ j ≤ 1000 ∧ fits i = true then some (.int (i ^ j.toNat)) else none
  | _, _ => none
theorem so_div : SO opDiv vDiv := so_flat fun r1 r2 q => by
  unfold vDiv at q
  split at q
  · split at q
    · rename_i hl
      cases q; obtain ⟨rfl, _⟩ := r1.int_inv; obtain ⟨rfl, _⟩ := r2.int_inv; exact ⟨_, if_pos hl, Rf.int⟩
    · cases q
  · cases q
theorem so_mod : SO opMod vMod := so_flat fun r1 r2 q => by
  unfold vMod at q
  split at q
  · split at q
    · rename_i hl
      cases q; obtain ⟨rfl, _⟩ := r1.int_inv; obtain ⟨rfl, _⟩ := r2.int_inv; exact ⟨_, if_pos hl, Rf.int⟩
    · cases q
  · cases q
theorem so_pow : SO opPow vPow := so_flat fun r1 r2 q => by
  unfold vPow at q
  split at q
  · split at q
    · rename_i hl
      cases q; obtain ⟨rfl, _⟩ := r1.int_inv; obtain ⟨rfl, _⟩ := r2.int_inv; exact ⟨_, if_pos hl, Rf.int⟩
    · cases q
  · cases q
def vNeg : PV → Option PV
  | .int i => some (.int (-i))
  | _ => none
theorem so_neg : SO1 opNeg vNeg := fun B h d v r F hB r1 q => by
  unfold vNeg at q
  split at q
  · cases q; obtain ⟨rfl, _⟩ := r1.int_inv; exact ⟨_, h, rfl, Kq.rfl', [], Rf.int, List.nodup_nil, by simp⟩
  · cases q
end Det

/-! Val4: subscripts, membership, built-ins, methods. -/
namespace Det
open PySem PySem.Spec PyProof.Rows L2

/-! ### o[i] -/
def keyP : PV → Option AKey
  | .int i => some (.inl i)
  | .str s => some (.inr s)
  | _ => none
def valP : List AKey → List PV → AKey → Option PV
  | a :: ks, v :: vs, k => if a = k then some v else valP ks vs k
  | _, _, _ => none
/-- what a list or a tuple holds -/
def pseq : PV → Option (List PV)
  | .lst xs => some xs
  | .scr ns => some (ns.map .int)
  | .tup xs => some xs
  | _ => none
def vIx : Vo2 := fun x y => match x, y with
  | .str s, .int i => if s.length ≤ LINE then (atA s i).map fun ch => .str [ch] else none
  | .dic ks vs, y => match keyP y with
    | some k => valP ks vs k
    | none => none
  | .cdc k, .str s => match k.dic? with
    | some kvs => match conA kvs s with
      | some (.str t) => if okS t = true then some (.str t) else none
      | _ => none
    | none => none
  | x, .int i => match pseq x with
    | some xs => atA xs i
    | none => none
  | _, _ => none
section
variable {B : List Nat} {h : Hh} {d e r : PV} {v u : AV} {F G : List Nat} {ds : List PV}
theorem atA_rf {xs : List AV} {i : Int} (rs : RfL h ds xs F) (e : atA ds i = some d) : ∃ x G, atA xs i = some x ∧ Rf h d x G ∧ G.Sublist F := by
  unfold atA at e ⊢
  rw [← rs.len]
  split at e
  · rename_i h0; rw [if_pos h0]; exact rs.get e
  · rename_i h0; rw [if_neg h0]
    split at e
    · rename_i h1; rw [if_pos h1]; exact rs.get e
    · cases e
theorem atA_mem {α : Type} {xs : List α} {i : Int} {x : α} (e : atA xs i = some x) : x ∈ xs := by
  unfold atA at e
  split at e
  · exact List.mem_of_getElem? e
  · split at e
    · exact List.mem_of_getElem? e
    · cases e
theorem valP_dic : ∀ {kvs : List (AKey × AV)} {ds : List PV} {F : List Nat} {k : AKey} {d : PV}, RfL h ds (kvs.map (·.2)) F → valP (kvs.map (·.1)) ds k = some d → ∃ x G, valA kvs k = some x ∧ Rf h d x G ∧ G.Sublist F
  | [], ds, _, k, d, r, e => by cases ds <;> simp [valP] at e
  | (a, b) :: kvs, [], _, k, d, r, e => by simp [valP] at e
  | (a, b) :: kvs, c :: ds, _, k, d, r, e => by
    obtain ⟨y, ys, G1, G2, e1, q, rs, rfl⟩ := r.cons_inv
    obtain ⟨rfl, rfl⟩ := List.cons.inj e1
    simp only [List.map_cons, valP] at e
    by_cases hk : a = k
    · rw [if_pos hk] at e
      cases e
      exact ⟨b, G1, by simp [valA, List.find?_cons, hk], q, List.sublist_append_left _ _⟩
    · rw [if_neg hk] at e
      obtain ⟨x, G, e2, q2, hs⟩ := valP_dic rs e
      exact ⟨x, G, by simpa [valA, List.find?_cons, hk] using e2, q2, hs.trans (List.sublist_append_right _ _)⟩
theorem keyP_ok {k : AKey} (r1 : Rs B h d v F) (e : keyP d = some k) : keyOf v = some k ∧ ((∃ i, k = .inl i ∧ v = .int i) ∨ ∃ s, k = .inr s ∧ v = .str s) := by
  unfold keyP at e
  split at e
  · cases e; obtain ⟨rfl, _⟩ := r1.int_inv; exact ⟨rfl, .inl ⟨_, rfl, rfl⟩⟩
  · cases e; obtain ⟨rfl, _⟩ := r1.str_inv; exact ⟨rfl, .inr ⟨_, rfl, rfl⟩⟩
  · cases e
/-- a list or a tuple of the heap -/
theorem rs_seq (r1 : Rs B h d v F) (e : pseq d = some ds) : ∃ xs G, ((rdL h v = some xs) ∨ (rdL h v = none ∧ rdT h v = some xs)) ∧ RfL h ds xs G ∧ G.Sublist F ∧ dicOf h v = none ∧ (∀ s, v ≠ .str s) := by
  cases d with
  | lst ys =>
    cases e
    obtain ⟨n, xs, G, rfl, q, rs, rfl⟩ := r1.lst_inv
    exact ⟨xs, G, .inl (by simp [q]), rs, List.sublist_cons_self _ _, by simp [dicOf, q], by simp⟩
  | scr ns => cases e; obtain ⟨rfl, rfl⟩ := r1.scr_inv; exact ⟨_, [], .inl rfl, RfL.ints, List.Sublist.refl _, rfl, by simp⟩
  | tup ys =>
    cases e
    obtain ⟨xs, q, rs⟩ := r1.tup_inv
    have q0 := q
    unfold rdT at q
    split at q
    · split at q
      · rename_i q2
        cases q
        exact ⟨xs, F, .inr ⟨by simp [q2], q0⟩, rs, List.Sublist.refl _, by simp [dicOf, q2], by simp⟩
      · cases q
    · exact ⟨xs, F, .inr ⟨rfl, q0⟩, rs, List.Sublist.refl _, rfl, by simp⟩
    · cases q
  | _ => cases e
theorem okS_one {s : List Nat} {c : Nat} (h1 : okS s = true) (hc : c ∈ s) : okS [c] = true := okS_sub h1 (by simpa using hc)
theorem sob_ix : SOb opIx vIx := fun B h d e v u F G r hB r1 r2 q => by
  unfold vIx at q
  split at q
  · rename_i s i
    obtain ⟨rfl, o1, rfl⟩ := r1.str_inv
    obtain ⟨rfl, _⟩ := r2.int_inv
    split at q
    · rename_i hl
      obtain ⟨ch, e1, rfl⟩ := Option.map_eq_some_iff.mp q
      exact ⟨.str [ch], by rw [ix_s, if_pos hl, e1]; rfl, [], Rf.str (okS_one o1 (atA_mem e1)), List.Sublist.refl _⟩
    · cases q
  · split at q
    · rename_i ks vs k hk
      obtain ⟨k1, k2⟩ := keyP_ok r2 hk
      obtain ⟨n, kvs, G', rfl, en, rfl, rs, rfl⟩ := r1.dic_inv
      obtain ⟨x, G2, e2, q2, hs⟩ := valP_dic rs q
      refine ⟨x, ?_, G2, q2, hs.trans (List.sublist_cons_self _ _)⟩
      unfold opIx
      split
      · rename_i e1; cases e1
      · rename_i e1; cases e1
      · have e5 : dicOf h (.ref n) = some kvs := by simp [dicOf, en]
        rw [e5]
        simp only [k1, e2]
        rfl
    · cases q
  · obtain ⟨rfl, _, rfl⟩ := r1.cdc_inv
    obtain ⟨rfl, _⟩ := r2.str_inv
    split at q
    · rename_i kvs ek
      split at q
      · rename_i t et
        split at q
        · rename_i ho
          cases q
          exact ⟨.str t, by rw [ix_con, ek]; simp [et], [], Rf.str ho, List.Sublist.refl _⟩
        · cases q
      · cases q
    · cases q
  · rename_i i n1 n2 n3
    obtain ⟨rfl, _⟩ := r2.int_inv
    split at q
    · rename_i xs hx
      obtain ⟨ys, G', hr, rs, hs, hd, hn⟩ := rs_seq r1 hx
      obtain ⟨x, G2, e2, q2, hs2⟩ := atA_rf rs q
      refine ⟨x, ?_, G2, q2, hs2.trans hs⟩
      unfold opIx
      split
      · exact absurd rfl (hn _)
      · rename_i e1; cases e1
      · simp only [hd]
        rcases hr with hr | ⟨hr, ht⟩
        · simp only [hr, e2]; rfl
        · simp only [hr, ht, e2]; rfl
    · cases q
  · cases q
/-! ### in -/
def pflat : PV → Bool
  | .non => true | .bl _ => true | .int _ => true | .str _ => true | _ => false
def avOf : PV → AV
  | .bl b => .bl b | .int i => .int i | .str s => .str s | _ => .non
theorem flat_rf (hk : pflat d = true) (r1 : Rs B h d v F) : v = avOf d := by
  cases d with
  | non => exact r1.non_inv.1
  | bl b => exact r1.bl_inv.1
  | int b => exact r1.int_inv.1
  | str b => exact r1.str_inv.1
  | _ => cases hk
theorem flat_all : ∀ {ds : List PV} {xs : List AV} {F : List Nat}, ds.all pflat = true → RfL h ds xs F → xs = ds.map avOf
  | [], _, _, _, r => r.nil_inv.1
  | d :: ds, _, _, hk, r => by
    obtain ⟨y, ys, G1, G2, rfl, q, rs, rfl⟩ := r.cons_inv
    rw [List.all_cons, Bool.and_eq_true] at hk
    rw [flat_rf (B := []) hk.1 (Rs.of q), flat_all hk.2 rs]
    rfl
theorem flat_eq {x y : PV} (hx : pflat x = true) (hy : pflat y = true) : eqF (avOf x) (avOf y) = PV.eqv x y := by
  cases x <;> cases y <;> first | rfl | exact absurd hx Bool.false_ne_true | exact absurd hy Bool.false_ne_true
theorem flat_av {x : PV} (hx : pflat x = true) : flatA (avOf x) = true := by cases x <;> first | rfl | cases hx
theorem flat_any {x : PV} (hx : pflat x = true) : ∀ {ds : List PV}, ds.all pflat = true → ((ds.map avOf).any fun z => eqF z (avOf x)) = ds.any fun z => PV.eqv z x
  | [], _ => rfl
  | d :: ds, hk => by
    rw [List.all_cons, Bool.and_eq_true] at hk
    rw [List.map_cons, List.any_cons, List.any_cons, flat_eq hk.1 hx, flat_any hx hk.2]
theorem flat_avs : ∀ {ds : List PV}, ds.all pflat = true → (ds.map avOf).all flatA = true
  | [], _ => rfl
  | d :: ds, hk => by
    rw [List.all_cons, Bool.and_eq_true] at hk
    rw [List.map_cons, List.all_cons, flat_av hk.1, flat_avs hk.2]; rfl
theorem flat_of (r1 : Rs B h d v F) (hv : flatA v = true) : pflat d = true := by
  cases d with
  | non => rfl
  | bl b => rfl
  | int b => rfl
  | str b => rfl
  | lst ds => obtain ⟨n, xs, G, rfl, _⟩ := r1.lst_inv; cases hv
  | scr ns => obtain ⟨rfl, _⟩ := r1.scr_inv; cases hv
  | tup ds =>
    obtain ⟨xs, e, _⟩ := r1.tup_inv
    unfold rdT at e
    split at e
    · cases hv
    · cases hv
    · cases e
  | dic ks ds => obtain ⟨n, xs, G, rfl, _⟩ := r1.dic_inv; cases hv
  | cdc k => obtain ⟨rfl, _⟩ := r1.cdc_inv; cases hv
  | obj k ns ds => obtain ⟨n, fs, G, rfl, _⟩ := r1.obj_inv; cases hv
  | tok => obtain ⟨⟨b, _, rfl⟩, _⟩ := r1.tok_inv; cases hv
theorem flat_ofs : ∀ {ds : List PV} {xs : List AV} {F : List Nat}, RfL h ds xs F → xs.all flatA = true → ds.all pflat = true
  | [], _, _, _, _ => rfl
  | d :: ds, _, _, r, hk => by
    obtain ⟨y, ys, G1, G2, rfl, q, rs, rfl⟩ := r.cons_inv
    rw [List.all_cons, Bool.and_eq_true] at hk
    rw [List.all_cons, flat_of (B := []) (Rs.of q) hk.1, flat_ofs rs hk.2]; rfl
theorem reifies : ∀ (f : Nat) {ds : List PV} {xs : List AV} {F : List Nat}, ds.all (okd f) = true → RfL h ds xs F → mapO (reify f h) xs = some (PV.toDs ds) ∧ D.fines (PV.toDs ds) = true := by
  intro f ds
  induction ds with
  | nil => intro xs F _ r; rw [r.nil_inv.1]; exact ⟨rfl, rfl⟩
  | cons d ds ih =>
    intro xs F hk r
    obtain ⟨y, ys, G1, G2, rfl, q, rs, rfl⟩ := r.cons_inv
    rw [List.all_cons, Bool.and_eq_true] at hk
    obtain ⟨a1, a2⟩ := rfl_reify f hk.1 q
    obtain ⟨b1, b2⟩ := ih hk.2 rs
    refine ⟨?_, ?_⟩
    · unfold mapO; rw [a1, b1]; rfl
    · show (D.fine d.toD && D.fines (PV.toDs ds)) = true
      rw [a2, b2]; rfl
theorem okd_all_up {n : Nat} {xs : List PV} (h : xs.all (okd n) = true) : xs.all (okd (n + 1)) = true := by
  rw [List.all_eq_true] at h ⊢
  exact fun x hx => okd_up (h x hx)
theorem anyD (x : PV) : ∀ ds : List PV, ((PV.toDs ds).any fun z => D.eqv z x.toD) = ds.any fun z => PV.eqv z x
  | [] => rfl
  | d :: ds => by show (D.eqv d.toD x.toD || (PV.toDs ds).any _) = _; rw [anyD x ds]; rfl
def vInB : PV → PV → Option Bool := fun x y => match x, y with
  | .str s, .str t => match s with
    | [ch] => some (decide (ch ∈ t))
    | _ => none
  | x, .dic ks vs => match keyP x with
    | some k => if ks.length = vs.length then some (valP ks vs k).isSome else none
    | none => none
  | .str s, .cdc k => match k.dic? with
    | some kvs => some (conA kvs s).isSome
    | none => none
  | x, .tup ys => if (pflat x && ys.all pflat) = true ∧ ys.length ≠ 2 then some (ys.any fun z => PV.eqv z x) else none
  | x, y => match pls y with
    | some ys => if (okd 38 x && ys.all (okd 38)) = true then some (ys.any fun z => PV.eqv z x) else none
    | none => none
theorem valP_none_dic : ∀ {kvs : List (AKey × AV)} {ds : List PV} {k : AKey}, ds.length = kvs.length → (valP (kvs.map (·.1)) ds k).isSome = (valA kvs k).isSome
  | [], ds, k, _ => by cases ds <;> rfl
  | (a, b) :: kvs, [], k, e => by cases e
  | (a, b) :: kvs, c :: ds, k, e => by
    simp only [List.map_cons, valP]
    by_cases hk : a = k
    · simp [hk, valA, List.find?_cons]
    · have := valP_none_dic (kvs := kvs) (ds := ds) (k := k) (by simpa using e)
      simpa [hk, valA, List.find?_cons] using this
theorem vIn_ok {k : Bool} (r1 : Rs B h d v F) (r2 : Rs B h e u G) (q : vInB d e = some k) : inB h v u = some k := by
  unfold vInB at q
  split at q
  · rename_i s t
    obtain ⟨rfl, _⟩ := r1.str_inv
    obtain ⟨rfl, _⟩ := r2.str_inv
    split at q
    · cases q; rfl
    · cases q
  · rename_i ks vs
    split at q
    · rename_i key hk
      obtain ⟨k1, k2⟩ := keyP_ok r1 hk
      split at q
      · rename_i hl
        cases q
        obtain ⟨n, kvs, G', rfl, en, rfl, rs, rfl⟩ := r2.dic_inv
        have e5 : dicOf h (.ref n) = some kvs := by simp [dicOf, en]
        have e6 : inB h v (.ref n) = (keyOf v).map fun k => (valA kvs k).isSome := by
          unfold inB
          split
          · rename_i e1; cases e1
          · rename_i e1; cases e1
          · rw [e5]
        rw [e6, k1, valP_none_dic (by have := rs.len; simpa using this)]
        rfl
      · cases q
    · cases q
  · rename_i t kc
    obtain ⟨rfl, _⟩ := r1.str_inv
    obtain ⟨rfl, _⟩ := r2.cdc_inv
    split at q
    · rename_i kvs ek
      cases q
      have e9 : inB h (.str t) (.con kc) = (match kc.dic? with
        | some kvs => some (conA kvs t).isSome
        | none => none) := by unfold inB; rfl
      rw [e9, ek]
    · cases q
  · rename_i ys
    split at q
    · rename_i hc
      obtain ⟨hc, hlen⟩ := hc
      rw [Bool.and_eq_true] at hc
      cases q
      obtain ⟨xs, G', hr, rs, hs, hd, hn⟩ := rs_seq r2 (show pseq (.tup ys) = some ys from rfl)
      have ex := flat_all hc.2 rs
      have ev := flat_rf hc.1 r1
      have hr' : rdL h u = none ∧ rdT h u = some xs := by
        rcases hr with hr | hr
        · obtain ⟨zs, z1, _⟩ := r2.tup_inv
          unfold rdT at z1
          split at z1
          · split at z1
            · rename_i q3; simp [q3] at hr
            · cases z1
          · cases hr
          · cases z1
        · exact hr
      unfold inB
      split
      · exact absurd rfl (hn _)
      · rename_i kc
        obtain ⟨zs, z1, z2⟩ := r2.tup_inv
        exfalso
        cases kc with
        | empty =>
          cases z1
          have := z2.len
          exact hlen this
        | _ => cases z1
      · rw [hd]
        simp only [hr'.1, hr'.2]
        rw [ex, ev, flat_av hc.1, flat_avs hc.2, if_pos (by rfl), flat_any hc.1 hc.2]
    · cases q
  · rename_i n1 n2 n3 n4
    split at q
    · rename_i ys hy
      split at q
      · rename_i hc
        rw [Bool.and_eq_true] at hc
        cases q
        obtain ⟨xs, G', hr, rs, hs⟩ := rs_rdL r2 hy
        have hu1 : dicOf h u = none ∧ (∀ s, u ≠ .str s) ∧ ∀ k, u ≠ .con k := by
          cases e with
          | lst zs => obtain ⟨n, _, _, rfl, q3, _⟩ := r2.lst_inv; exact ⟨by simp [dicOf, q3], by simp, by simp⟩
          | scr ns => obtain ⟨rfl, _⟩ := r2.scr_inv; exact ⟨rfl, by simp, by simp⟩
          | _ => cases hy
        unfold inB
        split
        · exact absurd rfl (hu1.2.1 _)
        · exact absurd rfl (hu1.2.2 _)
        · rw [hu1.1]
          simp only [hr]
          split
          · rename_i hf
            rw [Bool.and_eq_true] at hf
            have p1 := flat_of r1 hf.1
            have p2 := flat_ofs rs hf.2
            rw [flat_all p2 rs, flat_rf p1 r1, flat_any p1 p2]
          · obtain ⟨a1, a2⟩ := rfl_reify 40 (okd_up (okd_up hc.1)) (r1.nt (okd_tok hc.1))
            obtain ⟨b1, b2⟩ := reifies 39 (okd_all_up hc.2) rs
            rw [a1, b1]
            simp only [a2, b2, anyD]
            rfl
      · cases q
    · cases q
end
def vIn : Vo2 := fun x y => (vInB x y).map .bl
def vNotIn : Vo2 := fun x y => (vInB x y).map fun b => .bl (!b)
theorem so_in : SO opIn vIn := so_flat fun r1 r2 e => by
  obtain ⟨k, e1, rfl⟩ := Option.map_eq_some_iff.mp e
  exact ⟨.bl k, by unfold opIn; rw [vIn_ok r1 r2 e1]; rfl, Rf.bl⟩
theorem so_notIn : SO opNotIn vNotIn := so_flat fun r1 r2 e => by
  obtain ⟨k, e1, rfl⟩ := Option.map_eq_some_iff.mp e
  exact ⟨.bl (!k), by unfold opNotIn; rw [vIn_ok r1 r2 e1]; rfl, Rf.bl⟩

/-! ### slices -/
variable {O U U1 U2 U3 : List Nat} {ma mb mc : Ev} {pa pb pc : Pe}
abbrev Po := Ps → Pool → PR (Option Int)
def SOo (O : List Nat) (m : Eo) (p : Po) : Prop := ∀ ⦃T : Bool⦄ ⦃h0 : Hh⦄ ⦃B : List Nat⦄ ⦃φ : Nat → List Nat⦄ ⦃ps : Ps⦄ ⦃o : Pool⦄ ⦃sl : Sl⦄ ⦃h : Hh⦄, SR T h0 B O φ ps o sl h → Sd B h (fun _ a b => a = b) (p ps o) (m sl h)
def pNo : Po := fun _ o => .ok none o
def pSome (p : Pe) : Po := fun ps o => (p ps o).bind fun d o1 => match d with
  | .int i => .ok (some i) o1
  | _ => .no
theorem so_no : SOo O mNo pNo := fun T h0 B φ ps o sl h s => ⟨none, h, rfl, Kq.rfl', s.pl, rfl⟩
theorem so_some (a : SE O U1 ma pa) : SOo O (mSome ma) (pSome pa) := fun T h0 B φ ps o sl h s =>
  (a s).bind fun d v o1 h1 k1 p1 ⟨F, rd, lF⟩ => by
    split
    · obtain ⟨rfl, _⟩ := rd.int_inv
      exact ⟨_, h1, rfl, Kq.rfl', p1, rfl⟩
    · trivial
def vSlice (x : PV) (lo hi : Option Int) : Option PV := match x with
  | .str s => if s.length ≤ LINE then some (.str (cutA s lo hi)) else none
  | .tup xs => if PV.noLs xs = true ∧ ¬(cutIx xs.length 0 lo = 0 ∧ cutIx xs.length xs.length hi = xs.length) then some (.tup (cutA xs lo hi)) else none
  | x => match pls x with
    | some xs => if PV.noLs xs = true then some (.lst (cutA xs lo hi)) else none
    | none => none
theorem cutA_sub {α : Type} {xs : List α} {lo hi : Option Int} : ∀ c ∈ cutA xs lo hi, c ∈ xs := fun c hc => List.mem_of_mem_drop (List.mem_of_mem_take hc)
theorem RfL.cut {h : Hh} : ∀ {ds : List PV} {xs : List AV} (n k : Nat), RfL h ds xs [] → RfL h ((ds.drop n).take k) ((xs.drop n).take k) []
  | [], xs, n, k, r => by obtain ⟨rfl, _⟩ := r.nil_inv; simp [RfL]
  | d :: ds, xs, n + 1, k, r => by
    obtain ⟨y, ys, G1, G2, rfl, q, rs, e⟩ := r.cons_inv
    obtain ⟨rfl, rfl⟩ := List.append_eq_nil_iff.mp e.symm
    exact RfL.cut n k rs
  | d :: ds, xs, 0, 0, r => by simp [RfL]
  | d :: ds, xs, 0, k + 1, r => by
    obtain ⟨y, ys, G1, G2, rfl, q, rs, e⟩ := r.cons_inv
    obtain ⟨rfl, rfl⟩ := List.append_eq_nil_iff.mp e.symm
    exact RfL.cons (F := []) (G := []) q (RfL.cut 0 k rs)
def pSlice (pa : Pe) (pl ph : Po) : Pe := fun ps o => (pa ps o).bind fun x o1 => (pl ps o1).bind fun l o2 => (ph ps o2).bind fun u o3 => PR.of o3 (vSlice x l u)
theorem se_slice {ml mh : Eo} {pl ph : Po} (a : SE O U1 ma pa) (l : SOo O ml pl) (u : SOo O mh ph) : SE O U (mSlice ma ml mh) (pSlice pa pl ph) := fun T h0 B φ ps o sl h s =>
  (a s).bind fun d v o1 h1 k1 p1 ⟨F, rd, lF⟩ => (l (s.kqB k1 p1)).bind fun i i' o2 h2 k2 p2 e1 => (u ((s.kqB k1 p1).kqB k2 p2)).bind fun j j' o3 h3 k3 p3 e2 => by
    subst e1 e2
    have rd3 := rd.kq (k2.transM k3) lF.nb
    have hl : h.length ≤ h3.length := Nat.le_trans k1.1 (Nat.le_trans k2.1 k3.1)
    cases q : vSlice d i j with
    | none => trivial
    | some r =>
      unfold vSlice at q
      split at q
      · split at q
        · rename_i hL
          cases q
          obtain ⟨rfl, o1, _⟩ := rd3.str_inv
          show Sd B h3 _ (.ok _ o3) (R.of (opSlice _ i j h3))
          rw [cut_s, if_pos hL]
          exact sd_of p3 Kq.rfl' (Rf.str (okS_sub o1 cutA_sub)) List.nodup_nil (by simp) hl
        · cases q
      · split at q
        · rename_i xs hn
          cases q
          obtain ⟨ys, e1, rs⟩ := rd3.tup_inv
          have z := noLs_nil hn.1 rs
          subst z
          have e3 : rdL h3 v = none := by
            cases v with
            | ref n =>
              show (match h3[n]? with | some (.lst xs) => some xs | some (.rol xs) => some xs | _ => none) = none
              have e4 : (match h3[n]? with | some (.tup xs) => some xs | _ => none) = some ys := e1
              cases e5 : h3[n]? with
              | none => rfl
              | some x =>
                rw [e5] at e4
                cases x <;> first | rfl | cases e4
            | scr ns => cases e1
            | _ => rfl
          show Sd B h3 _ (.ok _ o3) (R.of (opSlice v i j h3))
          have e2 : opSlice v i j h3 = some (.ref h3.length, h3 ++ [.tup (cutA ys i j)]) := by
            unfold opSlice
            split
            · cases e1
            · rw [e3]
              simp only
              rw [e1]
              simp only
              rw [← rs.len, if_neg hn.2]
          rw [e2]
          refine sd_of p3 kq_new (Rf.tup (get_new _ _) ?_) List.nodup_nil (by simp) hl
          refine RfL.kq (M := []) kq_new ?_ (by simp)
          unfold cutA
          rw [← rs.len]
          exact rs.cut _ _
        · cases q
      · split at q
        · rename_i xs hx
          split at q
          · rename_i hn
            cases q
            obtain ⟨ys, G, e1, rs, _⟩ := rs_rdL rd3 hx
            have z := noLs_nil hn rs
            subst z
            show Sd B h3 _ (.ok _ o3) (R.of (opSlice v i j h3))
            have e2 : opSlice v i j h3 = some (.ref h3.length, h3 ++ [.lst (cutA ys i j)]) := by
              unfold opSlice
              split
              · cases e1
              · rw [e1]
            rw [e2]
            refine sd_of p3 kq_new (rf_new ?_) (by simp) (by simp) hl
            unfold cutA
            rw [← rs.len]
            exact rs.cut _ _
          · cases q
        · cases q

/-! ### built-ins -/
theorem rsl1 {B : List Nat} {h : Hh} {d : PV} {vs : List AV} (r : RsL B h [d] vs) : ∃ v F, vs = [v] ∧ Rs B h d v F := by
  cases r with
  | cons r hb hl t => cases t; exact ⟨_, _, rfl, r⟩
theorem rsl2 {B : List Nat} {h : Hh} {d e : PV} {vs : List AV} (r : RsL B h [d, e] vs) : ∃ v u F G, vs = [v, u] ∧ Rs B h d v F ∧ Rs B h e u G := by
  cases r with
  | cons r hb hl t => obtain ⟨u, G, rfl, r2⟩ := rsl1 t; exact ⟨_, _, _, _, rfl, r, r2⟩
theorem son_flat {f : OpN} {g : List PV → Option PV} (hs : ∀ {B : List Nat} {h : Hh} {ds : List PV} {vs : List AV} {r : PV}, RsL B h ds vs → g ds = some r → ∃ w, f vs h = some (w, h) ∧ Rf h r w []) : SOn f g := fun _ _ _ _ _ hB r1 e => by
  obtain ⟨w, e1, r⟩ := hs r1 e
  exact ⟨w, _, e1, Kq.rfl', [], r, List.nodup_nil, by simp⟩
def vLen : List PV → Option PV := fun ds => match ds with
  | [.str s] => if s.length ≤ LINE then some (.int s.length) else none
  | [.dic ks vs] => some (.int vs.length)
  | [x] => match pseq x with
    | some xs => some (.int xs.length)
    | none => none
  | _ => none
theorem son_len : SOn bLen vLen := son_flat fun {B h ds vs r} r1 q => by
  unfold vLen at q
  split at q
  · split at q
    · rename_i hl
      cases q
      obtain ⟨v, F, rfl, r2⟩ := rsl1 r1
      obtain ⟨rfl, _⟩ := r2.str_inv
      exact ⟨_, by rw [len_s, if_pos hl], Rf.int⟩
    · cases q
  · cases q
    obtain ⟨v, F, rfl, r2⟩ := rsl1 r1
    obtain ⟨n, kvs, G', rfl, en, rfl, rs, rfl⟩ := r2.dic_inv
    refine ⟨.int kvs.length, ?_, by have := rs.len; simp at this; rw [this]; exact Rf.int⟩
    simp [bLen, rdL, rdT, dicOf, en]
  · rename_i x hx1 hx2
    split at q
    · rename_i xs hx
      cases q
      obtain ⟨v, F, rfl, r2⟩ := rsl1 r1
      obtain ⟨ys, G', hr, rs, hs, hd, hn⟩ := rs_seq r2 hx
      refine ⟨.int ys.length, ?_, by rw [rs.len]; exact Rf.int⟩
      unfold bLen
      split
      · rename_i e; cases e; exact absurd rfl (hn _)
      · rename_i e; cases e
        rcases hr with hr | ⟨hr, ht⟩
        · simp only [hr]
        · simp only [hr, ht]
      · rename_i _ _ e; exact absurd rfl (e _)
    · cases q
  · cases q
def vInt : List PV → Option PV := fun ds => match ds with
  | [.int i] => some (.int i)
  | [.bl k] => some (.int (if k then 1 else 0))
  | _ => none
theorem son_int : SOn bInt vInt := son_flat fun {B h ds vs r} r1 q => by
  unfold vInt at q
  split at q
  · cases q; obtain ⟨v, F, rfl, r2⟩ := rsl1 r1; obtain ⟨rfl, _⟩ := r2.int_inv; exact ⟨_, rfl, Rf.int⟩
  · cases q; obtain ⟨v, F, rfl, r2⟩ := rsl1 r1; obtain ⟨rfl, _⟩ := r2.bl_inv; exact ⟨_, rfl, Rf.int⟩
  · cases q
def vBool : List PV → Option PV := fun ds => match ds with
  | [.int i] => some (.bl (i != 0))
  | [.bl k] => some (.bl k)
  | _ => none
theorem son_bool : SOn bBool vBool := son_flat fun {B h ds vs r} r1 q => by
  unfold vBool at q
  split at q
  · cases q; obtain ⟨v, F, rfl, r2⟩ := rsl1 r1; obtain ⟨rfl, _⟩ := r2.int_inv; exact ⟨_, rfl, Rf.bl⟩
  · cases q; obtain ⟨v, F, rfl, r2⟩ := rsl1 r1; obtain ⟨rfl, _⟩ := r2.bl_inv; exact ⟨_, rfl, Rf.bl⟩
  · cases q
def vAbs : List PV → Option PV := fun ds => match ds with
  | [.int i] => some (.int (if i < 0 then -i else i))
  | _ => none
theorem son_abs : SOn bAbs vAbs := son_flat fun {B h ds vs r} r1 q => by
  unfold vAbs at q
  split at q
  · cases q; obtain ⟨v, F, rfl, r2⟩ := rsl1 r1; obtain ⟨rfl, _⟩ := r2.int_inv; exact ⟨_, rfl, Rf.int⟩
  · cases q
def pints : List PV → Option (List Int)
  | [] => some []
  | .int i :: r => (pints r).map fun l => i :: l
  | _ :: _ => none
theorem pints_ok {h : Hh} : ∀ {ds : List PV} {xs : List AV} {F : List Nat} {ns : List Int}, RfL h ds xs F → pints ds = some ns → intsOf xs = some ns
  | [], _, _, _, r, e => by obtain ⟨rfl, _⟩ := r.nil_inv; exact e
  | d :: ds, _, _, ns, r, e => by
    obtain ⟨y, ys, G1, G2, rfl, q, rs, rfl⟩ := r.cons_inv
    cases d with
    | int i =>
      obtain ⟨rfl, _⟩ := q.int_inv
      obtain ⟨l, e1, rfl⟩ := Option.map_eq_some_iff.mp (show (pints ds).map _ = some ns from e)
      show (intsOf ys).map _ = _
      rw [pints_ok rs e1]; rfl
    | _ => cases e
theorem pints_map : ∀ ns : List Int, pints (ns.map .int) = some ns
  | [] => rfl
  | n :: r => by show (pints (r.map .int)).map _ = _; rw [pints_map r]; rfl
def vMaxMin (two : Int → Int → Int) (all : List Int → Int) : List PV → Option PV := fun ds => match ds with
  | [.int i, .int j] => some (.int (two i j))
  | [x] => match (pls x).bind pints with
    | some ns => if ns = [] then none else some (.int (all ns))
    | none => none
  | _ => none
def vMax := vMaxMin (fun i j => if j > i then j else i) maxL
def vMin := vMaxMin (fun i j => if j < i then j else i) minL
theorem bind_ints {B : List Nat} {h : Hh} {d : PV} {v : AV} {F : List Nat} {ns : List Int} (r2 : Rs B h d v F) (q : (pls d).bind pints = some ns) : (rdL h v).bind intsOf = some ns ∧ v ≠ .int 0 := by
  obtain ⟨xs, e1, e2⟩ := Option.bind_eq_some_iff.mp q
  obtain ⟨ys, G, e3, rs, _⟩ := rs_rdL r2 e1
  refine ⟨by rw [e3]; exact pints_ok rs e2, ?_⟩
  rintro rfl
  cases e3
theorem bMax_one (v : AV) (h : Hh) : bMax [v] h = (match (rdL h v).bind intsOf with
          | some ns => if ns = [] then none else some (AV.int (maxL ns), h)
          | none => none) := by cases v <;> rfl
theorem son_max : SOn bMax vMax := son_flat fun {B h ds vs r} r1 q => by
  unfold vMax vMaxMin at q
  split at q
  · cases q; obtain ⟨v, u, F, G, rfl, r2, r3⟩ := rsl2 r1; obtain ⟨rfl, _⟩ := r2.int_inv; obtain ⟨rfl, _⟩ := r3.int_inv; exact ⟨_, rfl, Rf.int⟩
  · split at q
    · rename_i ns hns
      split at q
      · cases q
      · rename_i hne
        cases q
        obtain ⟨v, F, rfl, r2⟩ := rsl1 r1
        refine ⟨_, ?_, Rf.int⟩
        rw [bMax_one, (bind_ints r2 hns).1]
        simp only
        rw [if_neg hne]
    · cases q
  · cases q
theorem bMin_one (v : AV) (h : Hh) : bMin [v] h = (match (rdL h v).bind intsOf with
          | some ns => if ns = [] then none else some (AV.int (minL ns), h)
          | none => none) := by cases v <;> rfl
theorem son_min : SOn bMin vMin := son_flat fun {B h ds vs r} r1 q => by
  unfold vMin vMaxMin at q
  split at q
  · cases q; obtain ⟨v, u, F, G, rfl, r2, r3⟩ := rsl2 r1; obtain ⟨rfl, _⟩ := r2.int_inv; obtain ⟨rfl, _⟩ := r3.int_inv; exact ⟨_, rfl, Rf.int⟩
  · split at q
    · rename_i ns hns
      split at q
      · cases q
      · rename_i hne
        cases q
        obtain ⟨v, F, rfl, r2⟩ := rsl1 r1
        refine ⟨_, ?_, Rf.int⟩
        rw [bMin_one, (bind_ints r2 hns).1]
        simp only
        rw [if_neg hne]
    · cases q
  · cases q
def vSum : List PV → Option PV := fun ds => match ds with
  | [x] => match (pls x).bind pints with
    | some ns => some (.int ns.sum)
    | none => none
  | _ => none
theorem son_sum : SOn bSum vSum := son_flat fun {B h ds vs r} r1 q => by
  unfold vSum at q
  split at q
  · split at q
    · rename_i ns hns
      cases q
      obtain ⟨v, F, rfl, r2⟩ := rsl1 r1
      refine ⟨_, ?_, Rf.int⟩
      show (match (rdL h v).bind intsOf with
        | some ns => some (AV.int ns.sum, h)
        | none => none) = _
      rw [(bind_ints r2 hns).1]
    · cases q
  · cases q
def pbls : List PV → Option (List Bool)
  | [] => some []
  | .bl i :: r => (pbls r).map fun l => i :: l
  | _ :: _ => none
theorem pbls_ok {h : Hh} : ∀ {ds : List PV} {xs : List AV} {F : List Nat} {ns : List Bool}, RfL h ds xs F → pbls ds = some ns → blsOf xs = some ns
  | [], _, _, _, r, e => by obtain ⟨rfl, _⟩ := r.nil_inv; exact e
  | d :: ds, _, _, ns, r, e => by
    obtain ⟨y, ys, G1, G2, rfl, q, rs, rfl⟩ := r.cons_inv
    cases d with
    | bl i =>
      obtain ⟨rfl, _⟩ := q.bl_inv
      obtain ⟨l, e1, rfl⟩ := Option.map_eq_some_iff.mp (show (pbls ds).map _ = some ns from e)
      show (blsOf ys).map _ = _
      rw [pbls_ok rs e1]; rfl
    | _ => cases e
theorem pbls_map : ∀ ns : List Bool, pbls (ns.map .bl) = some ns
  | [] => rfl
  | n :: r => by show (pbls (r.map .bl)).map _ = _; rw [pbls_map r]; rfl
def vAll : List PV → Option PV := fun ds => match ds with
  | [x] => match (pls x).bind pbls with
    | some ns => some (.bl (ns.all id))
    | none => none
  | _ => none
def vAny : List PV → Option PV := fun ds => match ds with
  | [x] => match (pls x).bind pbls with
    | some ns => some (.bl (ns.any id))
    | none => none
  | _ => none
theorem bind_bls {B : List Nat} {h : Hh} {d : PV} {v : AV} {F : List Nat} {ns : List Bool} (r2 : Rs B h d v F) (q : (pls d).bind pbls = some ns) : (rdL h v).bind blsOf = some ns := by
  obtain ⟨xs, e1, e2⟩ := Option.bind_eq_some_iff.mp q
  obtain ⟨ys, G, e3, rs, _⟩ := rs_rdL r2 e1
  rw [e3]; exact pbls_ok rs e2
theorem son_all : SOn bAll vAll := son_flat fun {B h ds vs r} r1 q => by
  unfold vAll at q
  split at q
  · split at q
    · rename_i ns hns
      cases q
      obtain ⟨v, F, rfl, r2⟩ := rsl1 r1
      refine ⟨_, ?_, Rf.bl⟩
      show (match (rdL h v).bind blsOf with
        | some ns => some (AV.bl (ns.all id), h)
        | none => none) = _
      rw [bind_bls r2 hns]
    · cases q
  · cases q
theorem son_any : SOn bAny vAny := son_flat fun {B h ds vs r} r1 q => by
  unfold vAny at q
  split at q
  · split at q
    · rename_i ns hns
      cases q
      obtain ⟨v, F, rfl, r2⟩ := rsl1 r1
      refine ⟨_, ?_, Rf.bl⟩
      show (match (rdL h v).bind blsOf with
        | some ns => some (AV.bl (ns.any id), h)
        | none => none) = _
      rw [bind_bls r2 hns]
    · cases q
  · cases q
def vList : List PV → Option PV := fun ds => match ds with
  | [.str s] => if s.length ≤ LINE then some (.lst (s.map fun ch => .str [ch])) else none
  | [x] => match pseq x with
    | some xs => if PV.noLs xs = true then some (.lst xs) else none
    | none => none
  | _ => none
theorem RfL.signs {h : Hh} : ∀ {s : List Nat}, okS s = true → RfL h (s.map fun ch => .str [ch]) (s.map fun ch => .str [ch]) []
  | [], _ => RfL.nil
  | c :: s, hs => RfL.cons (F := []) (G := []) (Rf.str (okS_one hs (by simp))) (RfL.signs (okS_sub hs fun x hx => by simp [hx]))
theorem son_list : SOn bListA vList := fun B h ds vs r hB r1 q => by
  unfold vList at q
  split at q
  · split at q
    · rename_i hl
      cases q
      obtain ⟨v, F, rfl, r2⟩ := rsl1 r1
      obtain ⟨rfl, o1, _⟩ := r2.str_inv
      exact ⟨_, _, by rw [listA_s, if_pos hl], kq_new, _, rf_new (RfL.signs o1), by simp, by simp⟩
    · cases q
  · rename_i x hx1
    split at q
    · rename_i xs hx
      split at q
      · rename_i hn
        cases q
        obtain ⟨v, F, rfl, r2⟩ := rsl1 r1
        obtain ⟨ys, G', hr, rs, hs, hd, hnn⟩ := rs_seq r2 hx
        have z := noLs_nil hn rs
        subst z
        refine ⟨.ref h.length, h ++ [.lst ys], ?_, kq_new, _, rf_new rs, by simp, by simp⟩
        unfold bListA
        split
        · rename_i e; cases e; exact absurd rfl (hnn _)
        · unfold bList
          rcases hr with hr | ⟨hr, ht⟩
          · simp only [hr]
          · simp only [hr, ht]
      · cases q
    · cases q
  · cases q
def vTuple : List PV → Option PV := fun ds => match ds with
  | [x] => match pls x with
    | some xs => if PV.noLs xs = true then some (.tup xs) else none
    | none => none
  | _ => none
theorem son_tuple : SOn bTuple vTuple := fun B h ds vs r hB r1 q => by
  unfold vTuple at q
  split at q
  · split at q
    · rename_i xs hx
      split at q
      · rename_i hn
        cases q
        obtain ⟨v, F, rfl, r2⟩ := rsl1 r1
        obtain ⟨ys, G', hr, rs, hs⟩ := rs_rdL r2 hx
        have z := noLs_nil hn rs
        subst z
        refine ⟨.ref h.length, h ++ [.tup ys], ?_, kq_new, _, Rf.tup (get_new _ _) (rs.kq (M := []) kq_new (by simp)), by simp, by simp⟩
        unfold bTuple
        simp only [hr]
      · cases q
    · cases q
  · cases q
/-! ### methods -/
theorem som_flat {f : OpM} {g : PV → List PV → Option PV} (hs : ∀ {B : List Nat} {h : Hh} {d : PV} {ds : List PV} {v : AV} {vs : List AV} {r : PV} {F : List Nat}, Rs B h d v F → RsL B h ds vs → g d ds = some r → ∃ w, f v vs h = some (w, h) ∧ Rf h r w [])   : SOm f g := fun _ _ _ _ _ _ _ _ hB r1 r2 e => by
  obtain ⟨w, e1, r⟩ := hs r1 r2 e
  exact ⟨w, _, e1, Kq.rfl', [], r, List.nodup_nil, by simp⟩
def pstrs : List PV → Option (List (List Nat))
  | [] => some []
  | .str i :: r => (pstrs r).map fun l => i :: l
  | _ :: _ => none
theorem pstrs_ok {h : Hh} : ∀ {ds : List PV} {xs : List AV} {F : List Nat} {ns : List (List Nat)}, RfL h ds xs F → pstrs ds = some ns → strsOf xs = some ns ∧ ∀ s ∈ ns, okS s = true
  | [], _, _, _, r, e => by obtain ⟨rfl, _⟩ := r.nil_inv; cases e; exact ⟨rfl, by simp⟩
  | d :: ds, _, _, ns, r, e => by
    obtain ⟨y, ys, G1, G2, rfl, q, rs, rfl⟩ := r.cons_inv
    cases d with
    | str i =>
      obtain ⟨rfl, o1, _⟩ := q.str_inv
      obtain ⟨l, e1, rfl⟩ := Option.map_eq_some_iff.mp (show (pstrs ds).map _ = some ns from e)
      obtain ⟨a1, a2⟩ := pstrs_ok rs e1
      refine ⟨?_, fun s hs => ?_⟩
      · show (strsOf ys).map _ = _
        rw [a1]; rfl
      · rcases List.mem_cons.mp hs with rfl | hs
        · exact o1
        · exact a2 s hs
    | _ => cases e
theorem pstrs_map : ∀ ns : List (List Nat), pstrs (ns.map .str) = some ns
  | [] => rfl
  | n :: r => by show (pstrs (r.map .str)).map _ = _; rw [pstrs_map r]; rfl
theorem okS_join {sep : List Nat} (hs : okS sep = true) : ∀ {ss : List (List Nat)}, (∀ s ∈ ss, okS s = true) → okS (joinA sep ss) = true
  | [], _ => rfl
  | [x], h => h x (by simp)
  | x :: y :: r, h => okS_app (h x (by simp)) (okS_app hs (okS_join hs fun s hs' => h s (by simp [hs'])))
def vJoin : PV → List PV → Option PV := fun x as => match x, as with
  | .str sep, [y] => match (pls y).bind pstrs with
    | some ss => if sumLen ss + ss.length * sep.length ≤ LINE then some (.str (joinA sep ss)) else none
    | none => none
  | _, _ => none
theorem som_join : SOm mJoin vJoin := som_flat fun {B h d ds v vs r F} r1 r2 q => by
  unfold vJoin at q
  split at q
  · obtain ⟨rfl, o1, _⟩ := r1.str_inv
    split at q
    · rename_i ss hss
      split at q
      · rename_i hl
        cases q
        obtain ⟨u, G, rfl, r3⟩ := rsl1 r2
        obtain ⟨xs, e1, e2⟩ := Option.bind_eq_some_iff.mp hss
        obtain ⟨ys, G', hr, rs, hs⟩ := rs_rdL r3 e1
        obtain ⟨a1, a2⟩ := pstrs_ok rs e2
        refine ⟨_, ?_, Rf.str (okS_join o1 a2)⟩
        show (match (rdL h u).bind strsOf with
          | some ss => if sumLen ss + ss.length * _ ≤ LINE then some (AV.str (joinA _ ss), h) else none
          | none => none) = _
        rw [hr]
        simp only [Option.bind_some, a1]
        rw [if_pos hl]
      · cases q
    · cases q
  · cases q
def vSIndex : PV → List PV → Option PV := fun x as => match x, as with
  | .str s, [.str [ch]] => match s.findIdx? (fun d => d == ch) with
    | some i => some (.int (i : Nat))
    | none => none
  | _, _ => none
theorem som_sindex : SOm mSIndex vSIndex := som_flat fun {B h d ds v vs r F} r1 r2 q => by
  unfold vSIndex at q
  split at q
  · obtain ⟨rfl, o1, _⟩ := r1.str_inv
    obtain ⟨u, G, rfl, r3⟩ := rsl1 r2
    obtain ⟨rfl, _⟩ := r3.str_inv
    split at q
    · rename_i i hi
      cases q
      exact ⟨_, by rw [sindex_at, hi], Rf.int⟩
    · cases q
  · cases q
/-! ### xs[::-1], isinstance -/
def pRevL (pa : Pe) : Pe := fun ps o => (pa ps o).bind fun x o1 => match pls x with
  | some xs => if PV.noLs xs = true then .ok (.lst xs.reverse) o1 else .no
  | none => .no
theorem RfL.rev {h : Hh} : ∀ {ds : List PV} {xs : List AV}, RfL h ds xs [] → RfL h ds.reverse xs.reverse []
  | [], xs, r => by obtain ⟨rfl, _⟩ := r.nil_inv; exact RfL.nil
  | d :: ds, xs, r => by
    obtain ⟨y, ys, G1, G2, rfl, q, rs, e⟩ := r.cons_inv
    obtain ⟨rfl, rfl⟩ := List.append_eq_nil_iff.mp e.symm
    rw [List.reverse_cons, List.reverse_cons]
    exact RfL.app (F := []) (G := []) (RfL.rev rs) (RfL.cons (F := []) (G := []) q RfL.nil)
theorem se_revL (a : SE O U1 ma pa) : SE O U (mRevL ma) (pRevL pa) := fun T h0 B φ ps o sl h s =>
  (a s).bind fun d v o1 h1 k1 p1 ⟨F, rd, lF⟩ => by
    split
    · rename_i xs hx
      split
      · rename_i hn
        obtain ⟨ys, G', hr, rs, hs⟩ := rs_rdL rd hx
        have z := noLs_nil hn rs
        subst z
        rw [hr]
        exact sd_of p1 kq_new (rf_new rs.rev) (by simp) (by simp) k1.1
      · trivial
    · trivial
def pty : PV → Option Ty
  | .non => some .non | .bl _ => some .bool | .int _ => some .int | .str _ => some .str | .lst _ => some .list | .scr _ => some .list | .tup _ => some .tuple | .dic _ _ => some .dict | .cdc _ => some .dict | _ => none
theorem pty_ok {B : List Nat} {h : Hh} {d : PV} {v : AV} {F : List Nat} {t : Ty} (r : Rs B h d v F) (e : pty d = some t) : tyOf h v = some t := by
  cases d with
  | non => obtain ⟨rfl, _⟩ := r.non_inv; exact e
  | bl b => obtain ⟨rfl, _⟩ := r.bl_inv; exact e
  | int b => obtain ⟨rfl, _⟩ := r.int_inv; exact e
  | str b => obtain ⟨rfl, _⟩ := r.str_inv; exact e
  | lst ds => cases e; obtain ⟨n, xs, G, rfl, q, _⟩ := r.lst_inv; simp [q]
  | scr ds => obtain ⟨rfl, _⟩ := r.scr_inv; exact e
  | tup ds =>
    cases e
    obtain ⟨xs, q, _⟩ := r.tup_inv
    unfold rdT at q
    split at q
    · split at q
      · rename_i q2; simp [q2]
      · cases q
    · rename_i k; cases k <;> first | rfl | cases q
    · cases q
  | dic ks ds =>
    cases e
    obtain ⟨n, xs, G, rfl, q, _⟩ := r.dic_inv
    simp [q]
  | cdc k =>
    cases e
    obtain ⟨rfl, q, _⟩ := r.cdc_inv
    cases k <;> first | rfl | cases q
  | obj k ns ds => cases e
  | tok => cases e
def pIsi (ts : List Ty) (pa : Pe) : Pe := fun ps o => (pa ps o).bind fun d o1 => match pty d with
  | some t => .ok (.bl (ts.any fun u => t.sub u)) o1
  | none => .no
theorem se_isi {ts : List Ty} (a : SE O U1 ma pa) : SE O U (mIsi ts ma) (pIsi ts pa) := fun T h0 B φ ps o sl h s =>
  (a s).bind fun d v o1 h1 k1 p1 ⟨F, rd, lF⟩ => by
    split
    · rename_i t ht
      rw [pty_ok rd ht]
      exact ⟨_, h1, rfl, Kq.rfl', p1, [], Rs.of Rf.bl, Lc.nil⟩
    · trivial
end Det

/-! Val5: statements. -/
namespace Det
open PySem PySem.Spec PyProof.Rows L2

inductive PS where
  | nx (ps : Ps) (o : Pool) | rt (d : PV) (o : Pool) | bk (ps : Ps) (o : Pool) | ct (ps : Ps) (o : Pool) | ex (k : Nat) (ns : List Str) (ds : List PV) (ps : Ps) (o : Pool) | no
abbrev Pst := Ps → Pool → PS
def PR.bindS {α : Type} (r : PR α) (ps : Ps) (k : α → Pool → PS) : PS := match r with
  | .ok a o => k a o | .ex x ns ds o => .ex x ns ds ps o | .no => .no
/-- how a statement leaves what stood before -/
def SN (T : Bool) (h0 : Hh) (B O M : List Nat) (φ : Nat → List Nat) (h : Hh) (ps' : Ps) (o' : Pool) (sl' : Sl) (h' : Hh) : Prop := ∃ (B' : List Nat) (φ' : Nat → List Nat), SR T h0 B' O φ' ps' o' sl' h' ∧ Kq (B ++ M.flatMap φ) h h' ∧ (∀ i ∈ O, ∀ n ∈ φ' i, n ∈ φ i ∨ h.length ≤ n) ∧ (T = false → B' = B) ∧ (∀ b ∈ B', b ∈ B ∨ h.length ≤ b)
def SdS (T : Bool) (h0 : Hh) (B O M : List Nat) (φ : Nat → List Nat) (h : Hh) (p : PS) (r : RSt) : Prop := match p with
  | .no => True
  | .nx ps' o' => ∃ sl' h', r = .nx sl' h' ∧ SN T h0 B O M φ h ps' o' sl' h'
  | .bk ps' o' => ∃ sl' h', r = .bk sl' h' ∧ SN T h0 B O M φ h ps' o' sl' h'
  | .ct ps' o' => ∃ sl' h', r = .ct sl' h' ∧ SN T h0 B O M φ h ps' o' sl' h'
  | .ex k ns ds ps' o' => ∃ x sl' h', r = .ex x sl' h' ∧ SN T h0 B O M φ h ps' o' sl' h' ∧ RX' h' k ns ds x
  | .rt d o' => ∃ v h' B' F, r = .rt v h' ∧ Kq B' h0 h' ∧ PL B' h' o' ∧ (T = false → B' = B) ∧ (T = true → ∀ b ∈ B', h0.length ≤ b) ∧ Rf h' d v F ∧ F.Nodup ∧ ∀ n ∈ F, h0.length ≤ n ∧ n < h'.length
def SS (T : Bool) (O M : List Nat) (m : Es) (p : Pst) : Prop := (∀ i ∈ M, i ∈ O) ∧ ∀ ⦃h0 : Hh⦄ ⦃B : List Nat⦄ ⦃φ : Nat → List Nat⦄ ⦃ps : Ps⦄ ⦃o : Pool⦄ ⦃sl : Sl⦄ ⦃h : Hh⦄, SR T h0 B O φ ps o sl h → SdS T h0 B O M φ h (p ps o) (m sl h)
section
variable {T : Bool} {h0 h h1 h' : Hh} {B B1 O M M' : List Nat} {φ φ1 : Nat → List Nat} {ps ps' : Ps} {o o' : Pool} {sl sl' : Sl} {α β : Type}
theorem SN.rfl' (s : SR T h0 B O φ ps o sl h) : SN T h0 B O M φ h ps o sl h := ⟨B, φ, s, Kq.rfl', fun _ _ _ hn => .inl hn, fun _ => rfl, fun _ hb => .inl hb⟩
/-- a later state, seen from an earlier one -/
theorem SN.back (k : Kq (B ++ M.flatMap φ) h h1) (hM : ∀ i ∈ M, i ∈ O) (hf : ∀ i ∈ O, ∀ n ∈ φ1 i, n ∈ φ i ∨ h.length ≤ n) (hT : T = false → B1 = B) (hB : ∀ b ∈ B1, b ∈ B ∨ h.length ≤ b)
    (s : SN T h0 B1 O M φ1 h1 ps' o' sl' h') : SN T h0 B O M φ h ps' o' sl' h' := by
  obtain ⟨B', φ', s1, k1, f1, t1, b1⟩ := s
  refine ⟨B', φ', s1, k.trans k1 fun m hm => ?_, fun i hi n hn => ?_, fun z => (t1 z).trans (hT z), fun b hb => ?_⟩
  · rcases List.mem_append.mp hm with hm | hm
    · rcases hB m hm with q | q
      · exact .inl (by simp [q])
      · exact .inr q
    · obtain ⟨i, hi, hm⟩ := List.mem_flatMap.mp hm
      rcases hf i (hM i hi) m hm with q | q
      · exact .inl (List.mem_append_right _ (List.mem_flatMap.mpr ⟨i, hi, q⟩))
      · exact .inr q
  · rcases f1 i hi n hn with q | q
    · exact hf i hi n q
    · exact .inr (Nat.le_trans k.1 q)
  · rcases b1 b hb with q | q
    · exact hB b q
    · exact .inr (Nat.le_trans k.1 q)
theorem SdS.back {p : PS} {r : RSt} (k : Kq (B ++ M.flatMap φ) h h1) (hM : ∀ i ∈ M, i ∈ O) (hf : ∀ i ∈ O, ∀ n ∈ φ1 i, n ∈ φ i ∨ h.length ≤ n) (hT : T = false → B1 = B) (hB : ∀ b ∈ B1, b ∈ B ∨ h.length ≤ b)
    (s : SdS T h0 B1 O M φ1 h1 p r) : SdS T h0 B O M φ h p r := by
  cases p with
  | no => trivial
  | nx ps o => obtain ⟨sl', h', e, q⟩ := s; exact ⟨sl', h', e, q.back k hM hf hT hB⟩
  | bk ps o => obtain ⟨sl', h', e, q⟩ := s; exact ⟨sl', h', e, q.back k hM hf hT hB⟩
  | ct ps o => obtain ⟨sl', h', e, q⟩ := s; exact ⟨sl', h', e, q.back k hM hf hT hB⟩
  | ex k' ns ds ps o => obtain ⟨x, sl', h', e, q, q2⟩ := s; exact ⟨x, sl', h', e, q.back k hM hf hT hB, q2⟩
  | rt d o => obtain ⟨v, h', B', F, e, k1, p1, t1, w1, r1, n1, f1⟩ := s; exact ⟨v, h', B', F, e, k1, p1, fun z => (t1 z).trans (hT z), w1, r1, n1, f1⟩
theorem SdS.backB {p : PS} {r : RSt} (k : Kq B h h1) (hM : ∀ i ∈ M, i ∈ O) (s : SdS T h0 B O M φ h1 p r) : SdS T h0 B O M φ h p r :=
  SdS.back (k.mono fun m hm => .inl (by simp [hm])) hM (fun _ _ _ hn => .inl hn) (fun _ => rfl) (fun _ hb => .inl hb) s
/-- an expression ahead of a statement's rest -/
theorem Sd.bindH {Q : Hh → α → β → Prop} {p : PR α} {r : R β} {k : α → Pool → PS} {k' : β → Hh → RSt} (s0 : SR T h0 B O φ ps o sl h) (s : Sd B h Q p r)
    (hk : ∀ a b o h', Kq B h h' → PL B h' o → Q h' a b → SR T h0 B O φ ps o sl h' → SdS T h0 B O M φ h (k a o) (k' b h')) : SdS T h0 B O M φ h (p.bindS ps k) (r.bindS sl k') := by
  cases p with
  | no => trivial
  | ok a o =>
    obtain ⟨b, h', rfl, k1, k2, q⟩ := s
    exact hk a b o h' k1 k2 q (s0.kqB k1 k2)
  | ex x ns ds o =>
    obtain ⟨y, h', rfl, k1, k2, q⟩ := s
    exact ⟨y, sl, h', rfl, ⟨B, φ, s0.kqB k1 k2, k1.mono fun m hm => .inl (by simp [hm]), fun _ _ _ hn => .inl hn, fun _ => rfl, fun _ hb => .inl hb⟩, q⟩
theorem Sd.bindS {Q : Hh → α → β → Prop} {p : PR α} {r : R β} {k : α → Pool → PS} {k' : β → Hh → RSt} (s0 : SR T h0 B O φ ps o sl h) (hM : ∀ i ∈ M, i ∈ O) (s : Sd B h Q p r)
    (hk : ∀ a b o h', Kq B h h' → PL B h' o → Q h' a b → SR T h0 B O φ ps o sl h' → SdS T h0 B O M φ h' (k a o) (k' b h')) : SdS T h0 B O M φ h (p.bindS ps k) (r.bindS sl k') :=
  Sd.bindH s0 s fun a b o h' k1 k2 q s1 => (hk a b o h' k1 k2 q s1).backB k1 hM
def upF (φ : Nat → List Nat) (i : Nat) (F : List Nat) : Nat → List Nat := fun j => if j = i then F else φ j
theorem upF_same {i : Nat} {F : List Nat} : upF φ i F i = F := if_pos rfl
theorem upF_ne {i j : Nat} {F : List Nat} (hj : j ≠ i) : upF φ i F j = φ j := if_neg hj
/-- a slot gets a value -/
theorem SR.set {i : Nat} {d : PV} {v : AV} {F : List Nat} (s : SR T h0 B O φ ps o sl h) (r : Rs B h d v F) (nb : ∀ n ∈ F, n ∉ B) (lt : ∀ n ∈ F, n < h.length) (dj : ∀ j ∈ O, j ≠ i → ∀ n ∈ F, n ∉ φ j)
    (ow : i ∈ O → F.Nodup ∧ (∀ n ∈ F, h0.length ≤ n) ∧ ∀ j, j ≠ i → ∀ n ∈ F, n ∉ φ j) : SR T h0 B O (upF φ i F) (ps.set i (some d)) o (sl.set i (some v)) h where
  kq := s.kq
  pl := s.pl
  own := s.own
  len := by simp [s.len]
  rel := fun j e he => by
    by_cases hj : j = i
    · subst hj
      have hl := (List.getElem?_eq_some_iff.mp he).1
      rw [List.length_set] at hl
      rw [List.getElem?_set_self hl] at he
      cases he
      exact ⟨v, List.getElem?_set_self (by rw [← s.len]; exact hl), by rw [upF_same]; exact r⟩
    · rw [List.getElem?_set_ne (Ne.symm hj)] at he
      obtain ⟨u, e1, q⟩ := s.rel j e he
      exact ⟨u, by rw [List.getElem?_set_ne (Ne.symm hj)]; exact e1, by rw [upF_ne hj]; exact q⟩
  nb := fun j n hn => by
    by_cases hj : j = i
    · subst hj; rw [upF_same] at hn; exact nb n hn
    · rw [upF_ne hj] at hn; exact s.nb j n hn
  ow := fun j hO => by
    by_cases hj : j = i
    · subst hj; rw [upF_same]; exact ⟨(ow hO).1, (ow hO).2.1⟩
    · rw [upF_ne hj]; exact s.ow j hO
  dj := fun j hO k hk n hn => by
    by_cases hj : j = i
    · subst hj
      rw [upF_same] at hn
      rw [upF_ne (Ne.symm hk)]
      exact (ow hO).2.2 k (Ne.symm hk) n hn
    · rw [upF_ne hj] at hn
      by_cases hk2 : k = i
      · subst hk2
        rw [upF_same]
        exact fun z => dj j hO hj n z hn
      · rw [upF_ne hk2]; exact s.dj j hO k hk n hn
  lt := fun j n hn => by
    by_cases hj : j = i
    · subst hj; rw [upF_same] at hn; exact lt n hn
    · rw [upF_ne hj] at hn; exact s.lt j n hn
theorem SR.unset {i : Nat} {z : Option AV} (s : SR T h0 B O φ ps o sl h) : SR T h0 B O φ (ps.set i none) o (sl.set i z) h where
  kq := s.kq
  pl := s.pl
  own := s.own
  len := by simp [s.len]
  rel := fun j e he => by
    by_cases hj : j = i
    · subst hj
      have hl := (List.getElem?_eq_some_iff.mp he).1
      rw [List.length_set] at hl
      rw [List.getElem?_set_self hl] at he
      cases he
    · rw [List.getElem?_set_ne (Ne.symm hj)] at he
      obtain ⟨u, e1, q⟩ := s.rel j e he
      exact ⟨u, by rw [List.getElem?_set_ne (Ne.symm hj)]; exact e1, q⟩
  nb := s.nb
  ow := s.ow
  dj := s.dj
  lt := s.lt
end

/-! ### blocks -/
variable {T : Bool} {O M M' U U1 U2 : List Nat} {ma mb mc me : Ev} {pa pb pc pe : Pe} {m n : Es} {p q : Pst} {ta : Et} {qa : Pt}
abbrev Sub (M O : List Nat) : Prop := ∀ i ∈ M, i ∈ O
def pSkip : Pst := fun ps o => .nx ps o
def pSeq (a b : Pst) : Pst := fun ps o => match a ps o with
  | .nx ps o => b ps o
  | .rt d o => .rt d o | .bk ps o => .bk ps o | .ct ps o => .ct ps o | .ex k ns ds ps o => .ex k ns ds ps o | .no => .no
def pStop : Pst := fun _ _ => .no
def pBreak : Pst := fun ps o => .bk ps o
def pCont : Pst := fun ps o => .ct ps o
theorem ss_skip (hM : Sub M O) : SS T O M mSkip pSkip := ⟨hM, fun h0 B φ ps o sl h s => ⟨sl, h, rfl, SN.rfl' s⟩⟩
theorem ss_break (hM : Sub M O) : SS T O M mBreak pBreak := ⟨hM, fun h0 B φ ps o sl h s => ⟨sl, h, rfl, SN.rfl' s⟩⟩
theorem ss_cont (hM : Sub M O) : SS T O M mCont pCont := ⟨hM, fun h0 B φ ps o sl h s => ⟨sl, h, rfl, SN.rfl' s⟩⟩
theorem ss_stop (hM : Sub M O) : SS T O M m pStop := ⟨hM, fun h0 B φ ps o sl h s => trivial⟩
theorem ss_seq (a : SS T O M m p) (b : SS T O M n q) : SS T O M (mSeq m n) (pSeq p q) := ⟨a.1, fun h0 B φ ps o sl h s => by
  have s1 := a.2 s
  unfold pSeq mSeq
  revert s1
  cases p ps o with
  | no => exact fun _ => trivial
  | nx ps1 o1 =>
    rintro ⟨sl', h', e, B', φ', s1, k1, f1, t1, b1⟩
    rw [e]
    exact (b.2 s1).back k1 a.1 f1 t1 b1
  | bk ps1 o1 => rintro ⟨sl', h', e, r⟩; rw [e]; exact ⟨sl', h', rfl, r⟩
  | ct ps1 o1 => rintro ⟨sl', h', e, r⟩; rw [e]; exact ⟨sl', h', rfl, r⟩
  | ex k ns ds ps1 o1 => rintro ⟨x, sl', h', e, r⟩; rw [e]; exact ⟨x, sl', h', rfl, r⟩
  | rt d o1 => rintro ⟨v, h', B', F, e, r⟩; rw [e]; exact ⟨v, h', B', F, rfl, r⟩⟩
def pIf (t : Pt) (a b : Pst) : Pst := fun ps o => (t ps o).bindS ps fun x o1 => if x = true then a ps o1 else b ps o1
theorem ss_if (t : ST O ta qa) (a : SS T O M m p) (b : SS T O M n q) : SS T O M (mIf ta m n) (pIf qa p q) := ⟨a.1, fun h0 B φ ps o sl h s =>
  Sd.bindS s a.1 (t s) fun x y o1 h1 k1 p1 e s1 => by
    subst e
    cases x with
    | true => exact a.2 s1
    | false => exact b.2 s1⟩
def pExpr (a : Pe) : Pst := fun ps o => (a ps o).bindS ps fun _ o1 => .nx ps o1
theorem ss_expr (hM : Sub M O) (a : SE O U ma pa) : SS T O M (mExpr ma) (pExpr pa) := ⟨hM, fun h0 B φ ps o sl h s =>
  Sd.bindS s hM (a s) fun x y o1 h1 k1 p1 e s1 => ⟨sl, h1, rfl, SN.rfl' s1⟩⟩
def pRet (a : Pe) : Pst := fun ps o => (a ps o).bindS ps fun d o1 => if isTok d = true then .no else .rt d o1
theorem ss_ret (hM : Sub M O) (hU : U.Nodup ∧ Sub U O) (a : SE O U ma pa) : SS T O M (mRet ma) (pRet pa) := ⟨hM, fun h0 B φ ps o sl h s =>
  Sd.bindS s hM (a s) fun d v o1 h1 k1 p1 ⟨F, r, l⟩ s1 => by
    split
    · trivial
    · rename_i ht
      refine ⟨v, h1, B, F, rfl, s1.kq, p1, fun _ => rfl, s1.own, r.nt (by simpa using ht), l.nd hU.1 hU.2, fun n hn => ⟨?_, s.lc l k1.1 n hn⟩⟩
      rcases l.loc n hn with z | ⟨i, hi, z⟩
      · have := s.kq.1; omega
      · exact (s.ow i (hU.2 i hi)).2 n z⟩
def pRetN : Pst := fun _ o => .rt .non o
theorem ss_retN (hM : Sub M O) : SS T O M (fun _ h => .rt .non h) pRetN := ⟨hM, fun h0 B φ ps o sl h s => ⟨.non, h, B, [], rfl, s.kq, s.pl, fun _ => rfl, s.own, Rf.non, List.nodup_nil, by simp⟩⟩
def pSet (i : Nat) (a : Pe) : Pst := fun ps o => (a ps o).bindS ps fun d o1 => .nx (ps.set i (some d)) o1
/-- a fresh value, or a part of what no changed slot holds -/
theorem SR.setE {T : Bool} {h0 : Hh} {B : List Nat} {φ : Nat → List Nat} {ps : Ps} {o o1 : Pool} {sl : Sl} {h h1 : Hh} {i : Nat} {d : PV} {v : AV} {F : List Nat} (s : SR T h0 B O φ ps o sl h) (s1 : SR T h0 B O φ ps o1 sl h1) (k : Kq B h h1) (hU : (∀ u ∈ U, u ∉ O) ∧ (i ∈ O → U = [])) (r : Rs B h1 d v F) (l : Lc B O U φ h h1 F) : SR T h0 B O (upF φ i F) (ps.set i (some d)) o1 (sl.set i (some v)) h1 ∧ (i ∈ O → ∀ n ∈ F, h.length ≤ n) := by
  have fr : i ∈ O → F.Nodup ∧ ∀ n ∈ F, h.length ≤ n := fun hi => by
    have hu := hU.2 hi
    subst hu
    refine ⟨l.nd List.nodup_nil (by simp), fun n hn => ?_⟩
    rcases l.loc n hn with z | ⟨i, hi, z⟩
    · exact z.1
    · cases hi
  refine ⟨?_, fun hi => (fr hi).2⟩
  refine s1.set r l.nb (s.lc l k.1) (fun j hj hji n hn => ?_) fun hi => ⟨(fr hi).1, fun n hn => Nat.le_trans s.kq.1 ((fr hi).2 n hn), fun j hji n hn z => ?_⟩
  · rcases l.loc n hn with z | ⟨u, hu, z⟩
    · exact fun z2 => by have := s.lt j n z2; omega
    · exact fun z2 => s.dj j hj u (fun e => hU.1 u hu (e ▸ hj)) n z2 z
  · have := (fr hi).2 n hn
    have := s.lt j n z
    omega
theorem SN.of {T : Bool} {h0 : Hh} {B : List Nat} {φ φ' : Nat → List Nat} {ps' : Ps} {o' : Pool} {sl' : Sl} {h h' : Hh} (s : SR T h0 B O φ' ps' o' sl' h') (k : Kq (B ++ M.flatMap φ) h h') (f : ∀ i ∈ O, ∀ n ∈ φ' i, n ∈ φ i ∨ h.length ≤ n) : SN T h0 B O M φ h ps' o' sl' h' := ⟨B, φ', s, k, f, fun _ => rfl, fun _ hb => .inl hb⟩
theorem Kq.wk {B N : List Nat} {h h' : Hh} (k : Kq B h h') : Kq (B ++ N) h h' := k.mono fun m hm => .inl (by simp [hm])
theorem ss_set {i : Nat} (hM : Sub M O) (hU : (∀ u ∈ U, u ∉ O) ∧ (i ∈ O → U = [])) (a : SE O U ma pa) : SS T O M (mSet i ma) (pSet i pa) := ⟨hM, fun h0 B φ ps o sl h s =>
  Sd.bindH s (a s) fun d v o1 h1 k1 p1 ⟨F, r, l⟩ s1 => by
    obtain ⟨key, fr⟩ := s.setE s1 k1 hU r l
    refine ⟨_, h1, rfl, SN.of key k1.wk fun j hj n hn => ?_⟩
    by_cases hji : j = i
    · subst hji; rw [upF_same] at hn; exact .inr (fr hj n hn)
    · rw [upF_ne hji] at hn; exact .inl hn⟩
def pPar (i j : Nat) (a b : Pe) : Pst := fun ps o => (a ps o).bindS ps fun d o1 => (b ps o1).bindS ps fun e o2 => .nx ((ps.set i (some d)).set j (some e)) o2
theorem Lc.fresh {B : List Nat} {φ : Nat → List Nat} {h h' : Hh} {F : List Nat} (l : Lc B O [] φ h h' F) : F.Nodup ∧ ∀ n ∈ F, h.length ≤ n ∧ n < h'.length := ⟨l.nd List.nodup_nil (by simp), fun n hn => by
  rcases l.loc n hn with z | ⟨i, hi, z⟩
  · exact z
  · cases hi⟩
theorem ss_par {i j : Nat} (hM : Sub M O) (a : SE O [] ma pa) (b : SE O [] mb pb) : SS T O M (mPar i j ma mb) (pPar i j pa pb) := ⟨hM, fun h0 B φ ps o sl h s =>
  Sd.bindH s (a s) fun d v o1 h1 k1 p1 ⟨F, r, l⟩ s1 => by
    have s2 := b s1
    revert s2
    cases pb ps o1 with
    | no => exact fun _ => trivial
    | ex x ns ds o => 
      rintro ⟨y, h', e, k2, p2, q⟩
      show SdS T h0 B O M φ h (.ex x ns ds ps o) (R.bindS (mb sl h1) sl _)
      rw [e]
      exact ⟨y, sl, h', rfl, SN.of (s1.kqB k2 p2) (k1.transM k2).wk fun _ _ _ hn => .inl hn, q⟩
    | ok d2 o2 =>
      rintro ⟨u, h2, e, k2, p2, F2, r2, l2⟩
      show SdS T h0 B O M φ h (.nx _ o2) (R.bindS (mb sl h1) sl _)
      rw [e]
      have s2 := s1.kqB k2 p2
      obtain ⟨key, fr⟩ := s.setE (i := i) s2 (k1.transM k2) ⟨by simp, fun _ => rfl⟩ (r.kq k2 l.nb) (l.len k2.1)
      have lf := l.fresh
      have lf2 := l2.fresh
      have key2 := key.set (i := j) r2 l2.nb (fun n hn => (lf2.2 n hn).2) (fun k hk hkj n hn z => by
          by_cases hki : k = i
          · subst hki; rw [upF_same] at z; have := lf.2 n z; have := lf2.2 n hn; omega
          · rw [upF_ne hki] at z; have := s.lt k n z; have := lf2.2 n hn; have := k1.1; omega) fun hj => ⟨lf2.1, fun n hn => by have := lf2.2 n hn; have := k1.1; have := s.kq.1; omega, fun k hkj n hn z => by
          by_cases hki : k = i
          · subst hki; rw [upF_same] at z; have := lf.2 n z; have := lf2.2 n hn; omega
          · rw [upF_ne hki] at z; have := s.lt k n z; have := lf2.2 n hn; have := k1.1; omega⟩
      refine ⟨_, h2, rfl, SN.of key2 (k1.transM k2).wk fun k hk n hn => ?_⟩
      by_cases hkj : k = j
      · subst hkj; rw [upF_same] at hn; right; have := lf2.2 n hn; have := k1.1; omega
      · rw [upF_ne hkj] at hn
        by_cases hki : k = i
        · subst hki; rw [upF_same] at hn; exact .inr (lf.2 n hn).1
        · rw [upF_ne hki] at hn; exact .inl hn⟩
def pAug (i : Nat) (g : Vo2) (a : Pe) : Pst := fun ps o => match ps[i]? with
  | some (some x) => (a ps o).bindS ps fun y o1 => match g x y with
    | some z => if z.noL = true then .nx (ps.set i (some z)) o1 else .no
    | none => .no
  | _ => .no
theorem ss_aug {i : Nat} {f : Op2} {g : Vo2} (hM : Sub M O) (hs : SO f g) (a : SE O U1 ma pa) : SS T O M (mAug i f ma) (pAug i g pa) := ⟨hM, fun h0 B φ ps o sl h s => by
  unfold pAug
  split
  · rename_i x hx
    obtain ⟨v, e1, r⟩ := s.rel i x hx
    unfold mAug
    rw [e1]
    exact Sd.bindH s (a s) fun y u o1 h1 k1 p1 ⟨F, ry, l⟩ s1 => by
      cases q : g x y with
      | none => trivial
      | some z =>
        show SdS T h0 B O M φ h (if z.noL = true then _ else _) _
        split
        · rename_i hn
          obtain ⟨w, h', e2, k3, F', rr, nd, hf⟩ := hs p1.lt (r.kq k1 (s.nb i)) ry q
          have := noL_nil hn rr
          subst this
          show SdS T h0 B O M φ h _ (match f v u h1 with | some (z, h2) => .nx (sl.set i (some z)) h2 | none => .no)
          rw [e2]
          have s2 := s1.kqB k3.nil (p1.kq0 k3)
          have key := s2.set (i := i) (F := []) (Rs.of rr) (by simp) (by simp) (by simp) (fun _ => ⟨List.nodup_nil, by simp, by simp⟩)
          refine ⟨_, h', rfl, SN.of key (k1.transM k3.nil).wk fun j hj n hn => ?_⟩
          by_cases hji : j = i
          · subst hji; rw [upF_same] at hn; cases hn
          · rw [upF_ne hji] at hn; exact .inl hn
        · trivial
  · trivial⟩
end Det

/-! Val6: targets, stores, methods that change. -/
namespace Det
open PySem PySem.Spec PyProof.Rows L2
variable {T : Bool} {O M M' U U1 U2 : List Nat} {ma mb mc me mi : Ev} {pa pb pc pe pi : Pe} {m n : Es} {p q : Pst} {ta : Et} {qa : Pt}

/-! ### targets -/
abbrev Pg := List PV → Ps → Option Ps
def SG (O : List Nat) (g : Eg) (p : Pg) : Prop := ∀ ⦃T : Bool⦄ ⦃h0 : Hh⦄ ⦃B : List Nat⦄ ⦃φ : Nat → List Nat⦄ ⦃ps : Ps⦄ ⦃o : Pool⦄ ⦃sl : Sl⦄ ⦃h : Hh⦄, SR T h0 B O φ ps o sl h → ∀ ⦃its : List PV⦄ ⦃vs : List AV⦄ ⦃F : List Nat⦄, RfL h its vs F → (∀ n ∈ F, n ∉ B ∧ n < h.length ∧ ∀ j ∈ O, n ∉ φ j) →
  ∀ {ps' : Ps}, p its ps = some ps' → ∃ sl' φ', g vs sl h = some (sl', h) ∧ SR T h0 B O φ' ps' o sl' h ∧ ∀ i ∈ O, ∀ n ∈ φ' i, n ∈ φ i
/-- a name that is not changed in place -/
def pGn (i : Nat) : Pg := fun its ps => match its with
  | [d] => some (ps.set i (some d))
  | _ => none
/-- a name, for a value with nothing in it to be changed -/
def pGnN (i : Nat) : Pg := fun its ps => match its with
  | [d] => if d.noL = true then some (ps.set i (some d)) else none
  | _ => none
theorem sg_name {i : Nat} (hi : i ∉ O) : SG O (mGn i) (pGn i) := fun T h0 B φ ps o sl h s its vs F r hF ps' e => by
  unfold pGn at e
  split at e
  · cases e
    obtain ⟨v, ys, G1, G2, rfl, q, rs, rfl⟩ := r.cons_inv
    obtain ⟨rfl, rfl⟩ := rs.nil_inv
    refine ⟨_, upF φ i (G1 ++ []), rfl, s.set (Rs.of (by simpa using q)) (fun n hn => (hF n hn).1) (fun n hn => (hF n hn).2.1) (fun j hj _ n hn => (hF n hn).2.2 j hj) (fun z => absurd z hi), fun j hj n hn => ?_⟩
    have : j ≠ i := fun z => hi (z ▸ hj)
    rw [upF_ne this] at hn
    exact hn
  · cases e
theorem sg_nameN {i : Nat} : SG O (mGn i) (pGnN i) := fun T h0 B φ ps o sl h s its vs F r hF ps' e => by
  unfold pGnN at e
  split at e
  · split at e
    · rename_i hn
      cases e
      obtain ⟨v, ys, G1, G2, rfl, q, rs, rfl⟩ := r.cons_inv
      obtain ⟨rfl, rfl⟩ := rs.nil_inv
      have z := noL_nil hn q
      subst z
      refine ⟨_, upF φ i [], rfl, s.set (Rs.of q) (by simp) (by simp) (by simp) (fun _ => ⟨List.nodup_nil, by simp, by simp⟩), fun j hj n hn => ?_⟩
      by_cases hji : j = i
      · subst hji; rw [upF_same] at hn; cases hn
      · rw [upF_ne hji] at hn; exact hn
    · cases e
  · cases e
def pGs : List Pg → List PV → Ps → Option Ps
  | [], [], ps => some ps
  | g :: gs, d :: ds, ps => match g [d] ps with
    | some ps1 => pGs gs ds ps1
    | none => none
  | _, _, _ => none
def pGt (gs : List Pg) : Pg := fun its ps => match its with
  | [a, b] => pGs gs [a, b] ps
  | [.tup ds] => pGs gs ds ps
  | _ => none
inductive SGs (O : List Nat) : List Eg → List Pg → Prop where
  | nil : SGs O [] []
  | cons {g : Eg} {p : Pg} {gs : List Eg} {qs : List Pg} (a : SG O g p) (r : SGs O gs qs) : SGs O (g :: gs) (p :: qs)
theorem sgs_ok {gs : List Eg} {qs : List Pg} (a : SGs O gs qs) : ∀ {T : Bool} {h0 : Hh} {B : List Nat} {φ : Nat → List Nat} {ps : Ps} {o : Pool} {sl : Sl} {h : Hh}, SR T h0 B O φ ps o sl h → ∀ {its : List PV} {vs : List AV} {F : List Nat}, RfL h its vs F → (∀ n ∈ F, n ∉ B ∧ n < h.length ∧ ∀ j ∈ O, n ∉ φ j) →
  ∀ {ps' : Ps}, pGs qs its ps = some ps' → ∃ sl' φ', mGs gs vs sl h = some (sl', h) ∧ SR T h0 B O φ' ps' o sl' h ∧ ∀ i ∈ O, ∀ n ∈ φ' i, n ∈ φ i := by
  induction a with
  | nil =>
    intro T h0 B φ ps o sl h s its vs F r hF ps' e
    cases its with
    | nil => cases e; obtain ⟨rfl, _⟩ := r.nil_inv; exact ⟨sl, φ, rfl, s, fun _ _ _ hn => hn⟩
    | cons d ds => cases e
  | cons a rr ih =>
    intro T h0 B φ ps o sl h s its vs F r hF ps' e
    cases its with
    | nil => cases e
    | cons d ds =>
      unfold pGs at e
      split at e
      · rename_i ps1 e1
        obtain ⟨v, ys, G1, G2, rfl, q, rs, rfl⟩ := r.cons_inv
        obtain ⟨sl1, φ1, e2, s1, f1⟩ := a s (RfL.cons q RfL.nil) (F := G1 ++ []) (fun n hn => hF n (by simp at hn; simp [hn])) e1
        obtain ⟨sl2, φ2, e3, s2, f2⟩ := ih s1 rs (fun n hn => ⟨(hF n (by simp [hn])).1, (hF n (by simp [hn])).2.1, fun j hj z => (hF n (by simp [hn])).2.2 j hj (f1 j hj n z)⟩) e
        refine ⟨sl2, φ2, ?_, s2, fun i hi n hn => f1 i hi n (f2 i hi n hn)⟩
        unfold mGs
        rw [e2]
        exact e3
      · cases e
theorem sg_tup {gs : List Eg} {qs : List Pg} (a : SGs O gs qs) : SG O (mGt gs) (pGt qs) := fun T h0 B φ ps o sl h s its vs F r hF ps' e => by
  unfold pGt at e
  split at e
  · obtain ⟨v, ys, G1, G2, rfl, q1, rs, rfl⟩ := r.cons_inv
    obtain ⟨u, zs, G3, G4, rfl, q2, rs2, rfl⟩ := rs.cons_inv
    obtain ⟨rfl, rfl⟩ := rs2.nil_inv
    exact sgs_ok a s r hF e
  · obtain ⟨v, ys, G1, G2, rfl, q1, rs, rfl⟩ := r.cons_inv
    obtain ⟨rfl, rfl⟩ := rs.nil_inv
    obtain ⟨xs, ex, rx⟩ := q1.tup_inv
    obtain ⟨sl', φ', e2, s2, f2⟩ := sgs_ok a s rx (fun n hn => hF n (by simp [hn])) e
    exact ⟨sl', φ', by show (match rdT h v with | some xs => mGs gs xs sl h | none => none) = _; rw [ex]; exact e2, s2, f2⟩
  · cases e
def pAsg (g : Pg) (a : Pe) : Pst := fun ps o => (a ps o).bindS ps fun d o1 => if isTok d = true then .no else match g [d] ps with
  | some ps' => .nx ps' o1
  | none => .no
theorem ss_asg {g : Eg} {pg : Pg} (hM : Sub M O) (hU : ∀ u ∈ U, u ∉ O) (hg : SG O g pg) (a : SE O U ma pa) : SS T O M (mAsg g ma) (pAsg pg pa) := ⟨hM, fun h0 B φ ps o sl h s =>
  Sd.bindH s (a s) fun d v o1 h1 k1 p1 ⟨F, r, l⟩ s1 => by
    split
    · trivial
    · rename_i ht
      split
      · rename_i ps' e
        obtain ⟨sl', φ', e2, s2, f2⟩ := hg s1 (F := F ++ []) (RfL.cons (r.nt (by simpa using ht)) RfL.nil) (fun n hn => by
          have hn : n ∈ F := by simpa using hn
          refine ⟨l.nb n hn, s.lc l k1.1 n hn, fun j hj z => ?_⟩
          rcases l.loc n hn with q | ⟨u, hu, q⟩
          · have := s.lt j n z; omega
          · exact s.dj j hj u (fun e => hU u hu (e ▸ hj)) n z q) e
        rw [e2]
        exact ⟨sl', h1, rfl, SN.of s2 k1.wk fun i hi n hn => .inl (f2 i hi n hn)⟩
      · trivial⟩

/-! ### a list of a slot is changed -/
theorem SR.upd {T : Bool} {h0 : Hh} {B : List Nat} {φ : Nat → List Nat} {ps : Ps} {o : Pool} {sl : Sl} {h : Hh} {x k : Nat} {d : PV} {ob : AO} {G : List Nat} {u : AO} (s : SR T h0 B O φ ps o sl h) (hx : x ∈ O) (hv : sl[x]? = some (some (.ref k))) (hk : h[k]? = some u) (hu : ∀ xs, u ≠ .tup xs) (hkx : k ∈ φ x)
    (r : Rf (h.set k ob) d (.ref k) G) (nd : G.Nodup) (hG : ∀ n ∈ G, n ∈ φ x ∨ (h0.length ≤ n ∧ n < h.length ∧ n ∉ B ∧ ∀ j, n ∉ φ j)) : SR T h0 B O (upF φ x G) (ps.set x (some d)) o sl (h.set k ob) := by
  have hkB : k ∉ B := s.nb x k hkx
  have kq : Kq [k] h (h.set k ob) := Kq.set hk hu (by simp)
  refine
    { kq := s.kq.trans kq fun m hm => by
        have : m = k := by simpa using hm
        subst this
        exact .inr ((s.ow x hx).2 _ hkx)
      pl := s.pl.kq kq fun b hb => by simp; exact fun z => hkB (z ▸ hb)
      own := s.own
      len := by simp [s.len]
      rel := fun j e he => ?_
      nb := fun j n hn => ?_
      ow := fun j hO => ?_
      dj := fun j hO i hi n hn => ?_
      lt := fun j n hn => ?_ }
  · by_cases hj : j = x
    · subst hj
      have hl := (List.getElem?_eq_some_iff.mp he).1
      rw [List.length_set] at hl
      rw [List.getElem?_set_self hl] at he
      cases he
      exact ⟨_, hv, by rw [upF_same]; exact Rs.of r⟩
    · rw [List.getElem?_set_ne (Ne.symm hj)] at he
      obtain ⟨v, e1, q⟩ := s.rel j e he
      refine ⟨v, e1, ?_⟩
      rw [upF_ne hj]
      exact q.kq kq fun n hn z => by
        have : n = k := by simpa using z
        subst this
        exact s.dj x hx j (Ne.symm hj) n hkx hn
  · by_cases hj : j = x
    · subst hj
      rw [upF_same] at hn
      rcases hG n hn with z | z
      · exact s.nb j n z
      · exact z.2.2.1
    · rw [upF_ne hj] at hn; exact s.nb j n hn
  · by_cases hj : j = x
    · subst hj
      rw [upF_same]
      refine ⟨nd, fun n hn => ?_⟩
      rcases hG n hn with z | z
      · exact (s.ow j hO).2 n z
      · exact z.1
    · rw [upF_ne hj]; exact s.ow j hO
  · by_cases hj : j = x
    · subst hj
      rw [upF_same] at hn
      rw [upF_ne (Ne.symm hi)]
      rcases hG n hn with z | z
      · exact s.dj j hO i hi n z
      · exact z.2.2.2 i
    · rw [upF_ne hj] at hn
      by_cases hix : i = x
      · subst hix
        rw [upF_same]
        intro z
        rcases hG n z with q | q
        · exact s.dj j hO i hj n hn q
        · exact q.2.2.2 j hn
      · rw [upF_ne hix]; exact s.dj j hO i hi n hn
  · rw [List.length_set]
    by_cases hj : j = x
    · subst hj
      rw [upF_same] at hn
      rcases hG n hn with z | z
      · exact s.lt j n z
      · exact z.2.1
    · rw [upF_ne hj] at hn; exact s.lt j n hn
theorem SR.lst {T : Bool} {h0 : Hh} {B : List Nat} {φ : Nat → List Nat} {ps : Ps} {o : Pool} {sl : Sl} {h : Hh} {x : Nat} {ds : List PV} (s : SR T h0 B O φ ps o sl h) (e : ps[x]? = some (some (.lst ds))) : ∃ k xs G, sl[x]? = some (some (.ref k)) ∧ h[k]? = some (.lst xs) ∧ RfL h ds xs G ∧ φ x = k :: G := by
  obtain ⟨v, e1, r⟩ := s.rel x _ e
  obtain ⟨n, xs, G, rfl, e2, rs, e3⟩ := r.lst_inv
  exact ⟨n, xs, G, e1, e2, rs, e3⟩
/-- what a change of a slot's list leaves -/
theorem SN.upd {T : Bool} {h0 : Hh} {B : List Nat} {φ : Nat → List Nat} {ps : Ps} {o : Pool} {sl : Sl} {h h1 : Hh} {x k : Nat} {xs ys : List AV} {G G' : List Nat} (s : SR T h0 B O φ ps o sl h) (k1 : Kq B h h1) (s1 : SR T h0 B O φ ps o sl h1 ∨ True) {o1 : Pool} (s2 : SR T h0 B O φ ps o1 sl h1) (hx : x ∈ M) (hM : Sub M O)
    (hv : sl[x]? = some (some (.ref k))) (hk : h1[k]? = some (.lst xs)) (hφ : φ x = k :: G) {ds : List PV} (r : RfL h1 ds ys G') (nd : (k :: G').Nodup) (hG : ∀ n ∈ G', n ∈ G ∨ (h.length ≤ n ∧ n < h1.length)) : SN T h0 B O M φ h (ps.set x (some (.lst ds))) o1 sl (h1.set k (.lst ys)) := by
  have hkx : k ∈ φ x := by rw [hφ]; simp
  have hkG : ∀ n ∈ G', n ≠ k := fun n hn e => by subst e; exact (List.nodup_cons.mp nd).1 hn
  have kq : Kq [k] h1 (h1.set k (.lst ys)) := Kq.set hk (by simp) (by simp)
  have key := s2.upd (G := k :: G') (d := .lst ds) (hM x hx) hv hk (by simp) hkx (Rf.lst (get_set_eq hk) (r.kq kq fun n hn z => hkG n hn (by simpa using z))) nd fun n hn => by
    rcases List.mem_cons.mp hn with rfl | hn
    · exact .inl hkx
    · rcases hG n hn with z | z
      · exact .inl (by rw [hφ]; simp [z])
      · exact .inr ⟨by have := s.kq.1; omega, z.2, fun q => by have := s.pl.lt n q; omega, fun j q => by have := s.lt j n q; omega⟩
  refine SN.of key ((k1.wk (N := M.flatMap φ)).trans kq fun m hm => ?_) fun i hi n hn => ?_
  · have : m = k := by simpa using hm
    subst this
    exact .inl (List.mem_append_right _ (List.mem_flatMap.mpr ⟨x, hx, hkx⟩))
  · by_cases hix : i = x
    · subst hix
      rw [upF_same] at hn
      rcases List.mem_cons.mp hn with rfl | hn
      · exact .inl hkx
      · rcases hG n hn with z | z
        · exact .inl (by rw [hφ]; simp [z])
        · exact .inr z.1
    · rw [upF_ne hix] at hn; exact .inl hn
/-- x.append(e) -/
def pApp (x : Nat) (a : Pe) : Pst := fun ps o => match ps[x]? with
  | some (some (.lst xs)) => (a ps o).bindS ps fun d o1 => if xs.length < LINE ∧ isTok d = false then .nx (ps.set x (some (.lst (xs ++ [d])))) o1 else .no
  | _ => .no
theorem mvar {i : Nat} {sl : Sl} {v : AV} {h : Hh} (e : sl[i]? = some (some v)) : mVar i sl h = .ok v h := by unfold mVar; rw [e]
theorem ss_app {x : Nat} (hM : Sub M O) (hx : x ∈ M) (a : SE O [] ma pa) : SS T O M (mExpr (mMeth "list" mAppend (mVar x) (mCons ma mNil))) (pApp x pa) := ⟨hM, fun h0 B φ ps o sl h s => by
  unfold pApp
  split
  · rename_i xs e
    obtain ⟨k, ys, G, hv, hk, rs, hφ⟩ := s.lst e
    have e0 : mExpr (mMeth "list" mAppend (mVar x) (mCons ma mNil)) sl h = (ma sl h).bindS sl fun v h1 => (R.of (mAppend (.ref k) [v] h1)).bindS sl fun _ h2 => .nx sl h2 := by
      unfold mExpr mMeth
      rw [mvar hv]
      show R.bindS (if isTy "list" h (.ref k) = true then _ else _) sl _ = _
      rw [if_pos (by simp [isTy, hk])]
      unfold mCons
      show R.bindS (((ma sl h).bind fun v h1 => (mNil sl h1).bind fun vs h2 => .ok (v :: vs) h2).bind fun vs h2 => R.of (mAppend (.ref k) vs h2)) sl _ = _
      cases ma sl h <;> rfl
    rw [e0]
    exact Sd.bindH s (a s) fun d v o1 h1 k1 p1 ⟨F, r, l⟩ s1 => by
      split
      · rename_i hc
        obtain ⟨hl, ht⟩ := hc
        have hkB : k ∉ B := s.nb x k (by rw [hφ]; simp)
        have hk1 := k1.get hk hkB
        rw [append_at hk1, if_pos (by rw [← rs.len]; exact hl)]
        have lf := l.fresh
        have nd := (s.ow x (hM x hx)).1
        rw [hφ] at nd
        refine ⟨sl, _, rfl, SN.upd s k1 (.inr trivial) s1 hx hM hv hk1 hφ (G' := G ++ (F ++ [])) ((rs.kq k1 fun n hn => s.nb x n (by rw [hφ]; simp [hn])).app (RfL.cons (r.nt ht) RfL.nil)) ?_ fun n hn => ?_⟩
        · rw [← List.cons_append]
          refine List.nodup_append.mpr ⟨nd, by simpa using lf.1, fun n hn m hm e => ?_⟩
          subst e
          have h1 := s.lt x n (by rw [hφ]; exact hn)
          have h2 := lf.2 n (by simpa using hm)
          omega
        · rcases List.mem_append.mp hn with z | z
          · exact .inl z
          · exact .inr (lf.2 n (by simpa using z))
      · trivial
  · trivial⟩
/-- x.extend(e) by values with nothing to be changed -/
def pExt (x : Nat) (a : Pe) : Pst := fun ps o => match ps[x]? with
  | some (some (.lst xs)) => (a ps o).bindS ps fun d o1 => match d with
    | .lst ys => if xs.length + ys.length ≤ LINE ∧ PV.noLs ys = true then .nx (ps.set x (some (.lst (xs ++ ys)))) o1 else .no
    | _ => .no
  | _ => .no
theorem ss_ext {x : Nat} (hM : Sub M O) (hx : x ∈ M) (a : SE O U ma pa) : SS T O M (mExpr (mMeth "list" mExtend (mVar x) (mCons ma mNil))) (pExt x pa) := ⟨hM, fun h0 B φ ps o sl h s => by
  unfold pExt
  split
  · rename_i xs e
    obtain ⟨k, ys, G, hv, hk, rs, hφ⟩ := s.lst e
    have e0 : mExpr (mMeth "list" mExtend (mVar x) (mCons ma mNil)) sl h = (ma sl h).bindS sl fun v h1 => (R.of (mExtend (.ref k) [v] h1)).bindS sl fun _ h2 => .nx sl h2 := by
      unfold mExpr mMeth
      rw [mvar hv]
      show R.bindS (if isTy "list" h (.ref k) = true then _ else _) sl _ = _
      rw [if_pos (by simp [isTy, hk])]
      unfold mCons
      show R.bindS (((ma sl h).bind fun v h1 => (mNil sl h1).bind fun vs h2 => .ok (v :: vs) h2).bind fun vs h2 => R.of (mExtend (.ref k) vs h2)) sl _ = _
      cases ma sl h <;> rfl
    rw [e0]
    exact Sd.bindH s (a s) fun d v o1 h1 k1 p1 ⟨F, r, l⟩ s1 => by
      split
      · rename_i zs
        split
        · rename_i hc
          obtain ⟨hl, hn⟩ := hc
          have hkB : k ∉ B := s.nb x k (by rw [hφ]; simp)
          have hk1 := k1.get hk hkB
          obtain ⟨n, ws, G2, rfl, hn2, rw2, _⟩ := r.lst_inv
          have z := noLs_nil hn rw2
          subst z
          have e5 : mExtend (.ref k) [.ref n] h1 = some (.non, h1.set k (.lst (ys ++ ws))) := by
            unfold mExtend
            simp only [lsAt_ref, hk1, hn2]
            rw [if_pos (by rw [← rs.len, ← rw2.len]; exact hl)]
          rw [e5]
          have nd := (s.ow x (hM x hx)).1
          rw [hφ] at nd
          exact ⟨sl, _, rfl, SN.upd s k1 (.inr trivial) s1 hx hM hv hk1 hφ (G' := G ++ []) ((rs.kq k1 fun n hn => s.nb x n (by rw [hφ]; simp [hn])).app rw2) (by simpa using nd) fun n hn => .inl (by simpa using hn)⟩
        · trivial
      · trivial
  · trivial⟩
/-- x.reverse(), x.clear() -/
def pMut (x : Nat) (f : List PV → Option (List PV)) : Pst := fun ps o => match ps[x]? with
  | some (some (.lst xs)) => match f xs with
    | some ys => if PV.noLs xs = true then .nx (ps.set x (some (.lst ys))) o else .no
    | none => .no
  | _ => .no
theorem ss_mut {x : Nat} {op : OpM} {f : List PV → Option (List PV)} (hM : Sub M O) (hx : x ∈ M) (hf : ∀ {h : Hh} {k : Nat} {ds es : List PV} {xs : List AV}, h[k]? = some (.lst xs) → RfL h ds xs [] → f ds = some es → ∃ w ys, op (.ref k) [] h = some (w, h.set k (.lst ys)) ∧ RfL h es ys []) : SS T O M (mExpr (mMeth "list" op (mVar x) mNil)) (pMut x f) := ⟨hM, fun h0 B φ ps o sl h s => by
  unfold pMut
  split
  · rename_i xs e
    split
    · rename_i zs e2
      split
      · rename_i hn
        obtain ⟨k, ys, G, hv, hk, rs, hφ⟩ := s.lst e
        have z := noLs_nil hn rs
        subst z
        obtain ⟨w, ws, e3, r3⟩ := hf hk rs e2
        have e0 : mExpr (mMeth "list" op (mVar x) mNil) sl h = .nx sl (h.set k (.lst ws)) := by
          unfold mExpr mMeth
          rw [mvar hv]
          show R.bindS (if isTy "list" h (.ref k) = true then _ else _) sl _ = _
          rw [if_pos (by simp [isTy, hk])]
          show R.bindS (R.of (op (.ref k) [] h)) sl _ = _
          rw [e3]
          rfl
        rw [e0]
        exact ⟨sl, _, rfl, SN.upd s Kq.rfl' (.inr trivial) s hx hM hv hk hφ (G' := []) r3 (by simp) (by simp)⟩
      · trivial
    · trivial
  · trivial⟩
theorem ss_rev {x : Nat} (hM : Sub M O) (hx : x ∈ M) : SS T O M (mExpr (mMeth "list" mReverse (mVar x) mNil)) (pMut x fun xs => some xs.reverse) := ss_mut hM hx fun {h k ds es xs} hk r e => by
  cases e
  exact ⟨.non, xs.reverse, by unfold mReverse; simp only [lsAt_ref, hk], r.rev⟩
theorem ss_clear {x : Nat} (hM : Sub M O) (hx : x ∈ M) : SS T O M (mExpr (mMeth "list" mClear (mVar x) mNil)) (pMut x fun _ => some []) := ss_mut hM hx fun {h k ds es xs} hk r e => by
  cases e
  exact ⟨.non, [], by unfold mClear; simp only [lsAt_ref, hk], RfL.nil⟩
theorem last_split {ds : List PV} {d : PV} (h : ds.getLast? = some d) : ds = ds.dropLast ++ [d] := by
  obtain ⟨ys, rfl⟩ := List.getLast?_eq_some_iff.mp h
  simp
theorem rfl_last {h : Hh} : ∀ {ds : List PV} {d : PV} {xs : List AV}, RfL h (ds ++ [d]) xs [] → ∃ ys y, xs = ys ++ [y] ∧ RfL h ds ys [] ∧ Rf h d y []
  | [], d, xs, r => by
    obtain ⟨y, ys, G1, G2, rfl, q, rs, e⟩ := r.cons_inv
    obtain ⟨rfl, rfl⟩ := List.append_eq_nil_iff.mp e.symm
    obtain ⟨rfl, _⟩ := rs.nil_inv
    exact ⟨[], y, rfl, RfL.nil, q⟩
  | c :: ds, d, xs, r => by
    obtain ⟨y, ys, G1, G2, rfl, q, rs, e⟩ := RfL.cons_inv (ds := ds ++ [d]) r
    obtain ⟨rfl, rfl⟩ := List.append_eq_nil_iff.mp e.symm
    obtain ⟨zs, z, rfl, r1, r2⟩ := rfl_last rs
    exact ⟨y :: zs, z, rfl, RfL.cons (F := []) (G := []) q r1, r2⟩
/-- x.pop() as a statement -/
def dropL (xs : List PV) : Option (List PV) := match xs.getLast? with
  | some _ => some xs.dropLast
  | none => none
theorem ss_pop {x : Nat} (hM : Sub M O) (hx : x ∈ M) : SS T O M (mExpr (mMeth "list" mPop (mVar x) mNil)) (pMut x dropL) := ss_mut hM hx fun {h k ds es xs} hk r e => by
  unfold dropL at e
  split at e
  · rename_i d hd
    cases e
    have e1 : ds = ds.dropLast ++ [d] := last_split hd
    rw [e1] at r
    obtain ⟨ys, y, rfl, r1, r2⟩ := rfl_last r
    exact ⟨y, ys, by rw [pop_at hk], r1⟩
  · cases e
/-! ### a slot's list is changed within an expression -/
def SX (O M : List Nat) (m : Ev) (p : Ps → Pool → PR (PV × Ps)) : Prop := ∀ ⦃T : Bool⦄ ⦃h0 : Hh⦄ ⦃B : List Nat⦄ ⦃φ : Nat → List Nat⦄ ⦃ps : Ps⦄ ⦃o : Pool⦄ ⦃sl : Sl⦄ ⦃h : Hh⦄, SR T h0 B O φ ps o sl h → match p ps o with
  | .ok (d, ps') o' => ∃ v h', m sl h = .ok v h' ∧ SN T h0 B O M φ h ps' o' sl h' ∧ Rf h' d v []
  | _ => True
def SXt (O M : List Nat) (m : Et) (p : Ps → Pool → PR (Bool × Ps)) : Prop := ∀ ⦃T : Bool⦄ ⦃h0 : Hh⦄ ⦃B : List Nat⦄ ⦃φ : Nat → List Nat⦄ ⦃ps : Ps⦄ ⦃o : Pool⦄ ⦃sl : Sl⦄ ⦃h : Hh⦄, SR T h0 B O φ ps o sl h → match p ps o with
  | .ok (d, ps') o' => ∃ h', m sl h = .ok d h' ∧ SN T h0 B O M φ h ps' o' sl h'
  | _ => True
def pPop (x : Nat) : Ps → Pool → PR (PV × Ps) := fun ps o => match ps[x]? with
  | some (some (.lst xs)) => match xs.getLast? with
    | some d => if PV.noLs xs = true then .ok (d, ps.set x (some (.lst xs.dropLast))) o else .no
    | none => .no
  | _ => .no
theorem sx_pop {x : Nat} (hM : Sub M O) (hx : x ∈ M) : SX O M (mMeth "list" mPop (mVar x) mNil) (pPop x) := fun T h0 B φ ps o sl h s => by
  unfold pPop
  split
  · rename_i d ps' o' e
    split at e
    · rename_i xs e1
      split at e
      · rename_i c hd
        split at e
        · rename_i hn
          cases e
          obtain ⟨k, ys, G, hv, hk, rs, hφ⟩ := s.lst e1
          have z := noLs_nil hn rs
          subst z
          have e2 : xs = xs.dropLast ++ [d] := last_split hd
          rw [e2] at rs
          obtain ⟨zs, y, rfl, r1, r2⟩ := rfl_last rs
          refine ⟨y, h.set k (.lst zs), ?_, SN.upd s Kq.rfl' (.inr trivial) s hx hM hv hk hφ (G' := []) r1 (by simp) (by simp), r2.kq (M := [k]) (Kq.set hk (by simp) (by simp)) (by simp)⟩
          unfold mMeth
          rw [mvar hv]
          show (if isTy "list" h (.ref k) = true then _ else _) = _
          rw [if_pos (by simp [isTy, hk])]
          show R.of (mPop (.ref k) [] h) = _
          rw [pop_at hk]
          rfl
        · cases e
      · cases e
    · cases e
  · trivial
def pBinX (g : Vo2) (a : Ps → Pool → PR (PV × Ps)) (b : Pe) : Ps → Pool → PR (PV × Ps) := fun ps o => match a ps o with
  | .ok (d, ps1) o1 => match b ps1 o1 with
    | .ok e o2 => match g d e with
      | some r => if r.noL = true then .ok (r, ps1) o2 else .no
      | none => .no
    | _ => .no
  | _ => .no
theorem sx_bin {f : Op2} {g : Vo2} {x : Ps → Pool → PR (PV × Ps)} (hM : Sub M O) (hs : SO f g) (a : SX O M ma x) (b : SE O U mb pb) : SX O M (mBin f ma mb) (pBinX g x pb) := fun T h0 B φ ps o sl h s => by
  have s1 := a s
  unfold pBinX
  revert s1
  cases x ps o with
  | no => exact fun _ => trivial
  | ex k ns ds o => exact fun _ => trivial
  | ok d o1 =>
    obtain ⟨d, ps1⟩ := d
    rintro ⟨v, h1, e1, ⟨B1, φ1, s1, k1, f1, t1, b1⟩, r1⟩
    have s2 := b s1
    show match (match pb ps1 o1 with
      | .ok e o2 => match g d e with
        | some r => if r.noL = true then PR.ok (r, ps1) o2 else .no
        | none => .no
      | _ => .no) with | .ok (d, ps') o' => _ | _ => True
    revert s2
    cases pb ps1 o1 with
    | no => exact fun _ => trivial
    | ex k ns ds o => exact fun _ => trivial
    | ok e o2 =>
      rintro ⟨u, h2, e2, k2, p2, F, r2, l2⟩
      show match (match g d e with
        | some r => if r.noL = true then PR.ok (r, ps1) o2 else .no
        | none => .no) with | .ok (d, ps') o' => _ | _ => True
      cases q : g d e with
      | none => trivial
      | some r =>
        show match (if r.noL = true then PR.ok (r, ps1) o2 else .no) with | .ok (d, ps') o' => _ | _ => True
        by_cases hn : r.noL = true
        · rw [if_pos hn]
          obtain ⟨w, h3, e3, k3, F', rr, nd, hf⟩ := hs p2.lt (Rs.of (r1.kq k2 (by simp))) r2 q
          have z := noL_nil hn rr
          subst z
          refine ⟨w, h3, ?_, SN.back k1 hM f1 t1 b1 (SN.of ((s1.kqB k2 p2).kqB k3.nil (p2.kq0 k3)) ((k2.transM k3.nil).wk) fun _ _ _ hn => .inl hn), rr⟩
          unfold mBin
          rw [e1]
          show (mb sl h1).bind _ = _
          rw [e2]
          show R.of (f v u h2) = _
          rw [e3]
          rfl
        · rw [if_neg hn]; trivial
def pBX (a : Ps → Pool → PR (PV × Ps)) : Ps → Pool → PR (Bool × Ps) := fun ps o => match a ps o with
  | .ok (.bl b, ps1) o1 => .ok (b, ps1) o1
  | _ => .no
theorem sxt_B {x : Ps → Pool → PR (PV × Ps)} (a : SX O M ma x) : SXt O M (mB ma) (pBX x) := fun T h0 B φ ps o sl h s => by
  have s1 := a s
  unfold pBX
  revert s1
  cases x ps o with
  | no => exact fun _ => trivial
  | ex k ns ds o => exact fun _ => trivial
  | ok d o1 =>
    obtain ⟨d, ps1⟩ := d
    rintro ⟨v, h1, e1, s1, r1⟩
    cases d with
    | bl b =>
      obtain ⟨rfl, _⟩ := r1.bl_inv
      refine ⟨h1, ?_, s1⟩
      unfold mB
      rw [e1]
      rfl
    | _ => trivial
def pOrX (a : Pt) (b : Ps → Pool → PR (Bool × Ps)) : Ps → Pool → PR (Bool × Ps) := fun ps o => match a ps o with
  | .ok true o1 => .ok (true, ps) o1
  | .ok false o1 => b ps o1
  | _ => .no
theorem sxt_or {x : Ps → Pool → PR (Bool × Ps)} {tb : Et} (hM : Sub M O) (a : ST O ta qa) (b : SXt O M tb x) : SXt O M (mOr ta tb) (pOrX qa x) := fun T h0 B φ ps o sl h s => by
  have s1 := a s
  unfold pOrX
  revert s1
  cases qa ps o with
  | no => exact fun _ => trivial
  | ex k ns ds o => exact fun _ => trivial
  | ok d o1 =>
    rintro ⟨v, h1, e1, k1, p1, e2⟩
    subst e2
    have s1 := s.kqB k1 p1
    cases d with
    | true =>
      refine ⟨h1, ?_, SN.of s1 k1.wk fun _ _ _ hn => .inl hn⟩
      unfold mOr
      rw [e1]
      rfl
    | false =>
      have s2 := b s1
      show match x ps o1 with | .ok (d, ps') o' => _ | _ => True
      revert s2
      cases x ps o1 with
      | no => exact fun _ => trivial
      | ex k ns ds o => exact fun _ => trivial
      | ok c o2 =>
        obtain ⟨c, ps2⟩ := c
        rintro ⟨h2, e3, s3⟩
        refine ⟨h2, ?_, SN.back k1.wk hM (fun _ _ _ hn => .inl hn) (fun _ => rfl) (fun _ hb => .inl hb) s3⟩
        unfold mOr
        rw [e1]
        exact e3
def pIfX (t : Ps → Pool → PR (Bool × Ps)) (a b : Pst) : Pst := fun ps o => match t ps o with
  | .ok (true, ps1) o1 => a ps1 o1
  | .ok (false, ps1) o1 => b ps1 o1
  | _ => .no
theorem ss_ifx {x : Ps → Pool → PR (Bool × Ps)} (t : SXt O M ta x) (a : SS T O M m p) (b : SS T O M n q) : SS T O M (mIf ta m n) (pIfX x p q) := ⟨a.1, fun h0 B φ ps o sl h s => by
  have s1 := t s
  unfold pIfX
  revert s1
  cases x ps o with
  | no => exact fun _ => trivial
  | ex k ns ds o => exact fun _ => trivial
  | ok d o1 =>
    obtain ⟨d, ps1⟩ := d
    rintro ⟨h1, e1, B1, φ1, s1, k1, f1, t1, b1⟩
    have e2 : mIf ta m n sl h = if d = true then m sl h1 else n sl h1 := by unfold mIf; rw [e1]; rfl
    rw [e2]
    cases d with
    | true => exact (a.2 s1).back k1 a.1 f1 t1 b1
    | false => exact (b.2 s1).back k1 a.1 f1 t1 b1⟩
def pSetX (i : Nat) (a : Ps → Pool → PR (PV × Ps)) : Pst := fun ps o => match a ps o with
  | .ok (d, ps1) o1 => .nx (ps1.set i (some d)) o1
  | _ => .no
theorem ss_setx {i : Nat} {x : Ps → Pool → PR (PV × Ps)} (hM : Sub M O) (a : SX O M ma x) : SS T O M (mSet i ma) (pSetX i x) := ⟨hM, fun h0 B φ ps o sl h s => by
  have s1 := a s
  unfold pSetX
  revert s1
  cases x ps o with
  | no => exact fun _ => trivial
  | ex k ns ds o => exact fun _ => trivial
  | ok d o1 =>
    obtain ⟨d, ps1⟩ := d
    rintro ⟨v, h1, e1, ⟨B1, φ1, s1, k1, f1, t1, b1⟩, r1⟩
    have e2 : mSet i ma sl h = .nx (sl.set i (some v)) h1 := by unfold mSet; rw [e1]; rfl
    rw [e2]
    have key := s1.set (i := i) (F := []) (Rs.of r1) (by simp) (by simp) (by simp) (fun _ => ⟨List.nodup_nil, by simp, by simp⟩)
    exact ⟨_, h1, rfl, SN.back k1 hM f1 t1 b1 (SN.of key Kq.rfl' fun j hj n hn => by
      by_cases hji : j = i
      · subst hji; rw [upF_same] at hn; cases hn
      · rw [upF_ne hji] at hn; exact .inl hn)⟩⟩
end Det

/-! Val7: stores, sources, loops, comprehensions, defs. -/
namespace Det
open PySem PySem.Spec PyProof.Rows L2
variable {T : Bool} {O M M' U U1 U2 : List Nat} {ma mb mc me mi : Ev} {pa pb pc pe pi : Pe} {m n : Es} {p q : Pst} {ta : Et} {qa : Pt}

/-! ### x[i] = e -/
theorem RfL.setN {h : Hh} : ∀ {ds : List PV} {xs : List AV} {G : List Nat} {d : PV} {v : AV} (j : Nat), RfL h ds xs G → Rf h d v [] → ∃ G', RfL h (ds.set j d) (xs.set j v) G' ∧ G'.Sublist G
  | [], _, _, _, _, _, r, _ => by obtain ⟨rfl, rfl⟩ := r.nil_inv; exact ⟨[], RfL.nil, List.Sublist.refl _⟩
  | c :: ds, _, _, d, v, 0, r, rd => by
    obtain ⟨y, ys, G1, G2, rfl, q, rs, rfl⟩ := r.cons_inv
    exact ⟨[] ++ G2, RfL.cons rd rs, List.sublist_append_right _ _⟩
  | c :: ds, _, _, d, v, j + 1, r, rd => by
    obtain ⟨y, ys, G1, G2, rfl, q, rs, rfl⟩ := r.cons_inv
    obtain ⟨G', r', hs⟩ := RfL.setN j rs rd
    exact ⟨G1 ++ G', RfL.cons q r', List.Sublist.append (List.Sublist.refl _) hs⟩
def putPs : List AKey → List PV → AKey → PV → List PV
  | a :: ks, v :: vs, k, d => if a = k then d :: putPs ks vs k d else v :: putPs ks vs k d
  | _, _, _, _ => []
/-- a dict with a key put -/
def putP (ks : List AKey) (vs : List PV) (k : AKey) (d : PV) : List AKey × List PV := if (ks.any fun a => decide (a = k)) = true then (ks, putPs ks vs k d) else (ks ++ [k], vs ++ [d])
theorem putPs_ok {h : Hh} {d : PV} {v : AV} {k : AKey} (rd : Rf h d v []) : ∀ {kvs : List (AKey × AV)} {ds : List PV} {G : List Nat}, RfL h ds (kvs.map (·.2)) G → ∃ G', RfL h (putPs (kvs.map (·.1)) ds k d) ((kvs.map fun p => if p.1 = k then (p.1, v) else p).map (·.2)) G' ∧ G'.Sublist G
  | [], ds, _, r => by
    cases ds with
    | nil => exact ⟨[], RfL.nil, by simp⟩
    | cons c ds => obtain ⟨y, ys, G1, G2, e, _⟩ := r.cons_inv; cases e
  | (a, b) :: kvs, [], _, r => by cases r.nil_inv.1
  | (a, b) :: kvs, c :: ds, _, r => by
    obtain ⟨y, ys, G1, G2, e1, q, rs, rfl⟩ := r.cons_inv
    obtain ⟨rfl, rfl⟩ := List.cons.inj e1
    obtain ⟨G', r', hs⟩ := putPs_ok rd rs
    simp only [List.map_cons, putPs]
    by_cases hk : a = k
    · rw [if_pos hk, if_pos hk]
      exact ⟨[] ++ G', RfL.cons rd r', hs.trans (List.sublist_append_right _ _)⟩
    · rw [if_neg hk, if_neg hk]
      exact ⟨G1 ++ G', RfL.cons q r', List.Sublist.append (List.Sublist.refl _) hs⟩
theorem putP_ok {h : Hh} {d : PV} {v : AV} {k : AKey} (rd : Rf h d v []) {kvs : List (AKey × AV)} {ds : List PV} {G : List Nat} (r : RfL h ds (kvs.map (·.2)) G) : ∃ G', (putP (kvs.map (·.1)) ds k d).1 = (putA kvs k v).map (·.1) ∧ RfL h (putP (kvs.map (·.1)) ds k d).2 ((putA kvs k v).map (·.2)) G' ∧ G'.Sublist G := by
  have hm : ((kvs.map (·.1)).any fun a => decide (a = k)) = kvs.any fun p => decide (p.1 = k) := by rw [List.any_map]; rfl
  unfold putP putA
  rw [hm]
  by_cases hk : (kvs.any fun p => decide (p.1 = k)) = true
  · rw [if_pos hk, if_pos hk]
    obtain ⟨G', r', hs⟩ := putPs_ok (k := k) rd r
    refine ⟨G', ?_, r', hs⟩
    rw [List.map_map]
    apply List.map_congr_left
    intro p _
    simp only [Function.comp]
    split <;> rfl
  · rw [if_neg hk, if_neg hk]
    refine ⟨G ++ ([] ++ []), by simp, ?_, by simp⟩
    rw [List.map_append]
    exact r.app (RfL.cons rd RfL.nil)
/-- a list or a dict with one item changed -/
def vPut (x i d : PV) : Option PV := if d.noL = true then match x with
  | .lst xs => match i with
    | .int j => match L2.ixN xs.length j with
      | some k => some (.lst (xs.set k d))
      | none => none
    | _ => none
  | .dic ks vs => match keyP i with
    | some k => if ks.length < LINE then some (.dic (putP ks vs k d).1 (putP ks vs k d).2) else none
    | none => none
  | _ => none
  else none
theorem vPut_ok {B : List Nat} {h : Hh} {x i d r : PV} {v j u : AV} {F G H : List Nat} (e : vPut x i d = some r) (rx : Rs B h x v F) (ri : Rs B h i j G) (rd : Rs B h d u H) : ∃ n ob ob' F', v = .ref n ∧ n ∈ F ∧ h[n]? = some ob ∧ (∀ xs, ob ≠ .tup xs) ∧ opSet v j u h = some (h.set n ob') ∧ F'.Sublist F ∧ ∀ h', h'[n]? = some ob' → Kq [n] h h' → F.Nodup → Rf h' r v F' := by
  unfold vPut at e
  split at e
  · rename_i hn
    have z := Rs.noL hn rd
    subst z
    have rd' : Rf h d u [] := by
      have : isTok d = false := by cases d <;> first | rfl | cases hn
      exact rd.nt this
    split at e
    · rename_i xs
      split at e
      · rename_i t
        split at e
        · rename_i k hk
          cases e
          obtain ⟨n, ys, G1, rfl, hh, rs, rfl⟩ := rx.lst_inv
          obtain ⟨rfl, _⟩ := ri.int_inv
          obtain ⟨G', r', hs⟩ := RfL.setN k rs rd'
          refine ⟨n, .lst ys, .lst (ys.set k u), n :: G', rfl, by simp, hh, by simp, ?_, List.Sublist.cons_cons _ hs, fun h' e1 k1 nd => ?_⟩
          · unfold opSet
            simp only [hh]
            rw [← rs.len, hk]
          · refine Rf.lst e1 (r'.kq k1 fun m hm z => ?_)
            have : m = n := by simpa using z
            subst this
            exact (List.nodup_cons.mp nd).1 (hs.subset hm)
        · cases e
      · cases e
    · rename_i ks vs
      split at e
      · rename_i k hk
        split at e
        · rename_i hl
          cases e
          obtain ⟨n, kvs, G1, rfl, hh, rfl, rs, rfl⟩ := rx.dic_inv
          obtain ⟨G', e1, r', hs⟩ := putP_ok (k := k) rd' rs
          refine ⟨n, .dic kvs, .dic (putA kvs k u), n :: G', rfl, by simp, hh, by simp, ?_, List.Sublist.cons_cons _ hs, fun h' e2 k1 nd => ?_⟩
          · unfold opSet
            simp only [hh, (keyP_ok ri hk).1]
            rw [if_pos (by simpa using hl)]
          · simp only [Rf]
            refine ⟨n, putA kvs k u, G', rfl, e2, e1, r'.kq k1 fun m hm z => ?_, rfl⟩
            have : m = n := by simpa using z
            subst this
            exact (List.nodup_cons.mp nd).1 (hs.subset hm)
        · cases e
      · cases e
    · cases e
  · cases e
/-- the change of a slot's object by values with nothing to be changed -/
theorem SN.put {T : Bool} {h0 : Hh} {B : List Nat} {φ : Nat → List Nat} {ps : Ps} {o : Pool} {sl : Sl} {h : Hh} {x : Nat} {dx i d r : PV} {v j u : AV} {G H : List Nat} (s : SR T h0 B O φ ps o sl h) (hM : Sub M O) (hx : x ∈ M) (hp : ps[x]? = some (some dx)) (hv : sl[x]? = some (some v)) (rx : Rs B h dx v (φ x)) (ri : Rs B h i j G) (rd : Rs B h d u H) (e : vPut dx i d = some r) :
    ∃ h', opSet v j u h = some h' ∧ SN T h0 B O M φ h (ps.set x (some r)) o sl h' := by
  obtain ⟨n, ob, ob', F', rfl, hn, e1, e2, e3, hs, k⟩ := vPut_ok e rx ri rd
  have nd := (s.ow x (hM x hx)).1
  have kq : Kq [n] h (h.set n ob') := Kq.set e1 e2 (by simp)
  have key := s.upd (hM x hx) hv e1 e2 hn (k _ (get_set_eq e1) kq nd) (nd.sublist hs) fun m hm => .inl (hs.subset hm)
  refine ⟨_, e3, SN.of key (kq.mono fun m hm => ?_) fun i hi m hm => ?_⟩
  · have : m = n := by simpa using hm
    subst this
    exact .inl (List.mem_append_right _ (List.mem_flatMap.mpr ⟨x, hx, hn⟩))
  · by_cases hix : i = x
    · subst hix; rw [upF_same] at hm; exact .inl (hs.subset hm)
    · rw [upF_ne hix] at hm; exact .inl hm
def pStore (x : Nat) (i a : Pe) : Pst := fun ps o => (a ps o).bindS ps fun d o1 => match ps[x]? with
  | some (some dx) => match i ps o1 with
    | .ok j o2 => match vPut dx j d with
      | some r => .nx (ps.set x (some r)) o2
      | none => .no
    | _ => .no
  | _ => .no
theorem ss_store {x : Nat} (hM : Sub M O) (hx : x ∈ M) (a : SE O U ma pa) (b : SE O U1 mi pi) : SS T O M (mAsg (mGsub (mVar x) mi) ma) (pStore x pi pa) := ⟨hM, fun h0 B φ ps o sl h s =>
  Sd.bindH s (a s) fun d v o1 h1 k1 p1 ⟨F, r, l⟩ s1 => by
    split
    · rename_i dx hp
      obtain ⟨w, hv, rx⟩ := s1.rel x dx hp
      have s2 := b s1
      show SdS T h0 B O M φ h (match pi ps o1 with
        | .ok j o2 => match vPut dx j d with
          | some r => .nx (ps.set x (some r)) o2
          | none => .no
        | _ => .no) (match mGsub (mVar x) mi [v] sl h1 with | some (sl', h2) => .nx sl' h2 | none => .no)
      have e0 : mGsub (mVar x) mi [v] sl h1 = match mi sl h1 with
        | .ok i h2 => (opSet w i v h2).map fun h3 => (sl, h3)
        | _ => none := by
        show (match mVar x sl h1 with
          | .ok o h1 => match mi sl h1 with
            | .ok i h2 => (opSet o i v h2).map fun h3 => (sl, h3)
            | _ => none
          | _ => none) = _
        rw [mvar hv]
      rw [e0]
      revert s2
      cases pi ps o1 with
      | no => exact fun _ => trivial
      | ex k ns ds o => exact fun _ => trivial
      | ok j o2 =>
        rintro ⟨ji, h2, e2, k2, p2, F2, r2, l2⟩
        rw [e2]
        show SdS T h0 B O M φ h (match vPut dx j d with | some r => .nx (ps.set x (some r)) o2 | none => .no) _
        cases q : vPut dx j d with
        | none => trivial
        | some z =>
          have s3 := s1.kqB k2 p2
          obtain ⟨h3, e3, sn⟩ := SN.put (M := M) s3 hM hx hp hv (rx.kq k2 (s.nb x)) r2 (r.kq k2 l.nb) q
          simp only [e3]
          exact ⟨sl, h3, rfl, SN.back ((k1.transM k2).wk) hM (fun _ _ _ hn => .inl hn) (fun _ => rfl) (fun _ hb => .inl hb) sn⟩
    · trivial⟩
end Det

/-! Val8: the hidden list, sources, loops. -/
namespace Det
open PySem PySem.Spec PyProof.Rows L2
variable {T : Bool} {O M M' U U1 U2 : List Nat} {ma mb mc me mi : Ev} {pa pb pc pe pi : Pe} {m n : Es} {p q : Pst} {ta : Et} {qa : Pt}

/-! ### x[i] = y.pop() -/
theorem gsub_eq {x : Nat} {w v : AV} {sl : Sl} {h : Hh} (hv : sl[x]? = some (some w)) : mGsub (mVar x) mi [v] sl h = match mi sl h with
    | .ok i h2 => (opSet w i v h2).map fun h3 => (sl, h3)
    | _ => none := by
  show (match mVar x sl h with
    | .ok o h1 => match mi sl h1 with
      | .ok i h2 => (opSet o i v h2).map fun h3 => (sl, h3)
      | _ => none
    | _ => none) = _
  rw [mvar hv]
def pStoreX (x : Nat) (i : Pe) (a : Ps → Pool → PR (PV × Ps)) : Pst := fun ps o => match a ps o with
  | .ok (d, ps1) o1 => match ps1[x]? with
    | some (some dx) => match i ps1 o1 with
      | .ok j o2 => match vPut dx j d with
        | some r => .nx (ps1.set x (some r)) o2
        | none => .no
      | _ => .no
    | _ => .no
  | _ => .no
theorem ss_storex {x : Nat} {a : Ps → Pool → PR (PV × Ps)} (hM : Sub M O) (hx : x ∈ M) (ha : SX O M ma a) (b : SE O U1 mi pi) : SS T O M (mAsg (mGsub (mVar x) mi) ma) (pStoreX x pi a) := ⟨hM, fun h0 B φ ps o sl h s => by
  have s1 := ha s
  unfold pStoreX
  revert s1
  cases a ps o with
  | no => exact fun _ => trivial
  | ex k ns ds o => exact fun _ => trivial
  | ok d o1 =>
    obtain ⟨d, ps1⟩ := d
    rintro ⟨v, h1, e1, ⟨B1, φ1, s1, k1, f1, t1, b1⟩, r1⟩
    have e0 : mAsg (mGsub (mVar x) mi) ma sl h = match mGsub (mVar x) mi [v] sl h1 with | some (sl', h2) => .nx sl' h2 | none => .no := by unfold mAsg; rw [e1]; rfl
    rw [e0]
    simp only
    split
    · rename_i dx hp
      obtain ⟨w, hv, rx⟩ := s1.rel x dx hp
      have s2 := b s1
      rw [gsub_eq hv]
      revert s2
      cases pi ps1 o1 with
      | no => exact fun _ => trivial
      | ex k ns ds o => exact fun _ => trivial
      | ok j o2 =>
        rintro ⟨ji, h2, e2, k2, p2, F2, r2, l2⟩
        rw [e2]
        show SdS T h0 B O M φ h (match vPut dx j d with | some r => .nx (ps1.set x (some r)) o2 | none => .no) _
        cases q : vPut dx j d with
        | none => trivial
        | some z =>
          obtain ⟨h3, e3, sn⟩ := SN.put (M := M) (s1.kqB k2 p2) hM hx hp hv (rx.kq k2 (s1.nb x)) r2 (Rs.of (r1.kq k2 (by simp))) q
          simp only [e3]
          exact ⟨sl, h3, rfl, SN.back k1 hM f1 t1 b1 (SN.back k2.wk hM (fun _ _ _ hn => .inl hn) (fun _ => rfl) (fun _ hb => .inl hb) sn)⟩
    · trivial⟩

/-! ### the hidden list -/
def pTokIx (i : Nat) (k : Int) : Pe := fun ps o => match ps[i]? with
  | some (some .tok) => match o with
    | some xs => match atA xs k with
      | some z => .ok (.int z) o
      | none => .no
    | none => .no
  | _ => .no
theorem atA_map {α β : Type} {f : α → β} {xs : List α} {i : Int} {z : α} (e : atA xs i = some z) : atA (xs.map f) i = some (f z) := by
  unfold atA at e ⊢
  rw [List.length_map]
  split at e
  · rename_i h0; rw [if_pos h0, List.getElem?_map, e]; rfl
  · rename_i h0; rw [if_neg h0]
    split at e
    · rename_i h1; rw [if_pos h1, List.getElem?_map, e]; rfl
    · cases e
theorem se_tokIx {i : Nat} {k : Int} : SE O U (mBin opIx (mVar i) (mC (.int k))) (pTokIx i k) := fun T h0 B φ ps o sl h s => by
  unfold pTokIx
  split
  · rename_i e
    obtain ⟨v, e1, r⟩ := s.rel i _ e
    obtain ⟨⟨b, hB, rfl⟩, _⟩ := r.tok_inv
    have pl := s.pl
    split
    · rename_i xs
      obtain ⟨b', hb', e2⟩ := pl
      rw [hB] at hb'
      cases hb'
      split
      · rename_i z hz
        refine ⟨.int z, h, ?_, Kq.rfl', s.pl, [], Rs.of Rf.int, Lc.nil⟩
        unfold mBin
        rw [mvar e1]
        show R.of (opIx (.ref b) (.int k) h) = _
        rw [ix_ref, e2, ixO_lst, atA_map hz]
        rfl
      · trivial
    · trivial
  · trivial
def pTokSet (i : Nat) (k : Nat) (a : Pe) : Pst := fun ps o => (a ps o).bindS ps fun d o1 => match ps[i]? with
  | some (some .tok) => match o1 with
    | some xs => match d with
      | .int z => if k < xs.length then .nx ps (some (xs.set k z)) else .no
      | _ => .no
    | none => .no
  | _ => .no
theorem ss_tokSet {i k : Nat} (hM : Sub M O) (a : SE O U ma pa) : SS T O M (mAsg (mGsub (mVar i) (mC (.int (k : Nat)))) ma) (pTokSet i k pa) := ⟨hM, fun h0 B φ ps o sl h s =>
  Sd.bindH s (a s) fun d v o1 h1 k1 p1 ⟨F, r, l⟩ s1 => by
    split
    · rename_i e
      obtain ⟨u, e1, r1⟩ := s.rel i _ e
      obtain ⟨⟨b, hB, rfl⟩, _⟩ := r1.tok_inv
      split
      · rename_i xs
        obtain ⟨b', hb', e2⟩ := p1
        rw [hB] at hb'
        cases hb'
        split
        · rename_i z _
          obtain ⟨rfl, _⟩ := r.int_inv
          split
          · rename_i hk
            have e3 : opSet (.ref b) (.int (k : Nat)) (.int z) h1 = some (h1.set b (.lst ((xs.set k z).map .int))) := by
              rw [set_lst e2 (by simpa using hk), List.map_set]
            have e4 : mGsub (mVar i) (mC (.int (k : Nat))) [.int z] sl h1 = some (sl, h1.set b (.lst ((xs.set k z).map .int))) := by
              rw [gsub_eq e1]
              show (opSet (.ref b) (.int (k : Nat)) (.int z) h1).map _ = _
              rw [e3]; rfl
            rw [e4]
            have kq : Kq B h1 (h1.set b (.lst ((xs.set k z).map .int))) := Kq.set e2 (by simp) (by rw [hB]; simp)
            exact ⟨sl, _, rfl, SN.of (s1.kqB kq ⟨b, hB, get_set_eq e2⟩) (k1.transM kq).wk fun _ _ _ hn => .inl hn⟩
          · trivial
        · trivial
      · trivial
    · trivial⟩
def ntO : Option PV → Bool
  | some .tok => false | _ => true
/-- source = a new list of ints: it becomes the hidden one -/
def pPool (i : Nat) (a : Pe) : Pst := fun ps o => (a ps o).bindS ps fun d o1 => match d with
  | .lst ds => match pints ds with
    | some xs => if (ps.set i none).all ntO = true then .nx (ps.set i (some .tok)) (some xs) else .no
    | none => .no
  | _ => .no
theorem pints_rf {h : Hh} : ∀ {ds : List PV} {xs : List AV} {F : List Nat} {ns : List Int}, RfL h ds xs F → pints ds = some ns → xs = ns.map .int ∧ F = []
  | [], _, _, _, r, e => by obtain ⟨rfl, rfl⟩ := r.nil_inv; cases e; exact ⟨rfl, rfl⟩
  | d :: ds, _, _, ns, r, e => by
    obtain ⟨y, ys, G1, G2, rfl, q, rs, rfl⟩ := r.cons_inv
    cases d with
    | int i =>
      obtain ⟨rfl, rfl⟩ := q.int_inv
      obtain ⟨l, e1, rfl⟩ := Option.map_eq_some_iff.mp (show (pints ds).map _ = some ns from e)
      obtain ⟨rfl, rfl⟩ := pints_rf rs e1
      exact ⟨rfl, rfl⟩
    | _ => cases e
theorem ss_pool {i : Nat} (hM : Sub M O) (hi : i ∉ O) (a : SE O [] ma pa) : SS true O M (mSet i ma) (pPool i pa) := ⟨hM, fun h0 B φ ps o sl h s =>
  Sd.bindH s (a s) fun d v o1 h1 k1 p1 ⟨F, r, l⟩ s1 => by
    split
    · rename_i ds _
      split
      · rename_i xs hx
        split
        · rename_i hc
          obtain ⟨n, ys, G, rfl, e, rs, rfl⟩ := r.lst_inv
          obtain ⟨rfl, rfl⟩ := pints_rf rs hx
          have lf := l.fresh
          have hn := lf.2 n (by simp)
          have nt : ∀ (j : Nat), j ≠ i → ps[j]? ≠ some (some .tok) := fun j hj z => by
            rw [List.all_eq_true] at hc
            have e1 : (ps.set i none)[j]? = some (some .tok) := by rw [List.getElem?_set_ne (Ne.symm hj)]; exact z
            have := hc _ (List.mem_of_getElem? e1)
            cases this
          refine ⟨_, h1, rfl, [n], upF φ i [], ?_, k1.wk, fun j hj m hm => ?_, fun z => Bool.noConfusion z, fun b hb => ?_⟩
          · refine { kq := s1.kq.mono fun m hm => .inr (s.own rfl m hm), pl := ⟨n, rfl, e⟩, own := fun _ b hb => ?_, len := by simp [s.len], rel := fun j c he => ?_, nb := fun j m hm => ?_, ow := fun j hj => ?_, dj := fun j hj k hk m hm => ?_, lt := fun j m hm => ?_ }
            · have : b = n := by simpa using hb
              subst this
              have := s.kq.1; omega
            · by_cases hj : j = i
              · subst hj
                have hl := (List.getElem?_eq_some_iff.mp he).1
                rw [List.length_set] at hl
                rw [List.getElem?_set_self hl] at he
                cases he
                exact ⟨_, List.getElem?_set_self (by rw [← s.len]; exact hl), by rw [upF_same]; exact ⟨⟨n, rfl, rfl⟩, rfl⟩⟩
              · rw [List.getElem?_set_ne (Ne.symm hj)] at he
                obtain ⟨u, e1, q⟩ := s1.rel j c he
                refine ⟨u, by rw [List.getElem?_set_ne (Ne.symm hj)]; exact e1, ?_⟩
                rw [upF_ne hj]
                have : isTok c = false := by
                  cases c with
                  | tok => exact absurd he (nt j hj)
                  | _ => rfl
                exact Rs.of (q.nt this)
            · by_cases hj : j = i
              · subst hj; rw [upF_same] at hm; cases hm
              · rw [upF_ne hj] at hm
                intro z
                have : m = n := by simpa using z
                subst this
                have := s.lt j m hm; omega
            · have hj' : j ≠ i := fun z => hi (z ▸ hj)
              rw [upF_ne hj']; exact s.ow j hj
            · have hj' : j ≠ i := fun z => hi (z ▸ hj)
              rw [upF_ne hj'] at hm
              by_cases hk' : k = i
              · subst hk'; rw [upF_same]; simp
              · rw [upF_ne hk']; exact s.dj j hj k hk m hm
            · by_cases hj : j = i
              · subst hj; rw [upF_same] at hm; cases hm
              · rw [upF_ne hj] at hm; have := s.lt j m hm; have := k1.1; omega
          · have hj' : j ≠ i := fun z => hi (z ▸ hj)
            rw [upF_ne hj'] at hm; exact .inl hm
          · have : b = n := by simpa using hb
            subst this
            exact .inr hn.1
        · trivial
      · trivial
    · trivial⟩
/-- a def is handed a new list of ints, that becomes its hidden one -/
def pCallP (f : Pf) (a : Pe) (r : Pa) : Pe := fun ps o => (a ps o).bind fun d o1 => (r ps o1).bind fun ds o2 => match d with
  | .lst es => match pints es with
    | some xs => match f (.tok :: ds) (some xs) with
        | .ok z _ => .ok z o2
        | _ => .no
    | none => .no
  | _ => .no
theorem RfL.rsl {B : List Nat} {h : Hh} : ∀ {ds : List PV} {vs : List AV} {F : List Nat}, RfL h ds vs F → (∀ n ∈ F, n ∉ B ∧ n < h.length) → RsL B h ds vs
  | [], _, _, r, _ => by obtain ⟨rfl, _⟩ := r.nil_inv; exact .nil
  | d :: ds, _, _, r, hF => by
    obtain ⟨y, ys, G1, G2, rfl, q, rs, rfl⟩ := r.cons_inv
    exact .cons (Rs.of q) (fun n hn => (hF n (by simp [hn])).1) (fun n hn => (hF n (by simp [hn])).2) (RfL.rsl rs fun n hn => hF n (by simp [hn]))
theorem Sd.bindA {α β γ δ : Type} {B : List Nat} {h h1 : Hh} {Q : Hh → α → β → Prop} {Q' : Hh → γ → δ → Prop} {p : PR α} {r : R β} {k : α → Pool → PR γ} {k' : β → Hh → R δ} (k0 : Kq B h h1) (s : Sd B h1 Q p r)
    (hk : ∀ a b o h', Kq B h1 h' → PL B h' o → Q h' a b → Sd B h Q' (k a o) (k' b h')) : Sd B h Q' (p.bind k) (r.bind k') := by
  cases p with
  | no => trivial
  | ok a o =>
    obtain ⟨b, h', rfl, k1, k2, q⟩ := s
    exact hk a b o h' k1 k2 q
  | ex x ns ds o =>
    obtain ⟨b, h', rfl, k1, k2, q⟩ := s
    exact ⟨b, h', rfl, k0.transM k1, k2, q⟩
theorem se_callP {m : Fn} {f : Pf} {ea : Ea} {ra : Pa} (hs : SF m f) (a : SE O [] ma pa) (b : SA O U1 ea ra) : SE O U (mCall m (mCons ma ea)) (pCallP f pa ra) := fun T h0 B φ ps o sl h s => by
  have e0 : mCall m (mCons ma ea) sl h = (ma sl h).bind fun v h1 => (ea sl h1).bind fun vs h2 => m (v :: vs) h2 := by
    unfold mCall mCons
    cases ma sl h with
    | ok v h1 =>
      show ((ea sl h1).bind fun vs h2 => R.ok (v :: vs) h2).bind _ = (ea sl h1).bind _
      cases ea sl h1 <;> rfl
    | _ => rfl
  rw [e0]
  exact Sd.bindA Kq.rfl' (a s) fun d v o1 h1 k1 p1 ⟨F, rd, lF⟩ => Sd.bindA k1 (b (s.kqB k1 p1)) fun ds vs o2 h2 k2 p2 ⟨G, rg, lG⟩ => by
    split
    · rename_i es _
      split
      · rename_i xs hx
        obtain ⟨n, ys, G', rfl, e, rs, rfl⟩ := rd.lst_inv
        obtain ⟨rfl, rfl⟩ := pints_rf rs hx
        have lf := lF.fresh
        have hn := lf.2 n (by simp)
        have hnB : n ∉ B := lF.nb n (by simp)
        have e2 := k2.get e hnB
        have hr : RsL [n] h2 (.tok :: ds) (.ref n :: vs) := .cons (F := []) ⟨⟨n, rfl, rfl⟩, rfl⟩ (by simp) (by simp) (rg.rsl fun m hm => ⟨fun z => by
          have : m = n := by simpa using z
          subst this
          rcases lG.loc m hm with q | ⟨i, _, q⟩
          · omega
          · have := s.lt i m q; omega, (s.kqB k1 p1).lc lG k2.1 m hm⟩)
        have s3 := hs hr (show PL [n] h2 (some xs) from ⟨n, rfl, e2⟩)
        revert s3
        cases f (.tok :: ds) (some xs) with
        | no => exact fun _ => trivial
        | ex k ns ds o => exact fun _ => trivial
        | ok z o3 =>
          rintro ⟨u, h3, e3, k3, p3, F3, r3, nd3, f3⟩
          have kB : Kq B h h3 := (k1.transM k2).trans k3 fun m hm => by
            have : m = n := by simpa using hm
            subst this
            exact .inr hn.1
          refine ⟨u, h3, e3, kB, ?_, F3, Rs.of r3, fun m hm hb => ?_, fun m hm => .inl ⟨?_, (f3 m hm).2⟩, fun _ _ => nd3⟩
          · exact p2.kq k3 fun b hb => by simp; exact fun z => hnB (z ▸ hb)
          · have := p2.lt m hb; have := f3 m hm; omega
          · have := f3 m hm; have := k1.1; have := k2.1; omega
      · trivial
    · trivial
end Det

/-! Val9: sources, loops, comprehensions, defs. -/
namespace Det
open PySem PySem.Spec PyProof.Rows L2
variable {T : Bool} {O M M' U U1 U2 U3 : List Nat} {ma mb mc me mi : Ev} {pa pb pc pe pi : Pe} {m n : Es} {p q : Pst} {ta : Et} {qa : Pt}

/-! ### what is walked -/
inductive ItR (h : Hh) (F : List Nat) : List (List PV) → List (List AV) → Prop where
  | nil : ItR h F [] []
  | cons {ds : List PV} {vs : List AV} {G : List Nat} {r : List (List PV)} {t : List (List AV)} (a : RfL h ds vs G) (hG : ∀ n ∈ G, n ∈ F) (b : ItR h F r t) : ItR h F (ds :: r) (vs :: t)
def ChR (h : Hh) (F : List Nat) (cs : List (Bool × AV × List AV)) : Prop := ∀ (N : List Nat) (h' : Hh), Kq N h h' → (∀ n ∈ F, n ∉ N) → chkOk cs h' = true
theorem ItR.kq {h h' : Hh} {N F : List Nat} (k : Kq N h h') (hF : ∀ n ∈ F, n ∉ N) {its : List (List PV)} {vs : List (List AV)} (r : ItR h F its vs) : ItR h' F its vs := by
  induction r with
  | nil => exact .nil
  | cons a hG b ih => exact .cons (a.kq k fun n hn => hF n (hG n hn)) hG ih
theorem ChR.kq {h h' : Hh} {N F : List Nat} {cs : List (Bool × AV × List AV)} (k : Kq N h h') (hF : ∀ n ∈ F, n ∉ N) (r : ChR h F cs) : ChR h' F cs := fun N2 h2 k2 hF2 => r (N ++ N2) h2 ((k.mono fun m hm => .inl (by simp [hm])).trans (k2.mono (M' := N ++ N2) fun m hm => .inl (by simp [hm])) fun m hm => .inl hm) fun n hn z => by
  rcases List.mem_append.mp z with z | z
  · exact hF n hn z
  · exact hF2 n hn z
abbrev Pi := Ps → Pool → PR (List (List PV))
def SI (O U : List Nat) (m : Ei) (p : Pi) : Prop := ∀ ⦃T : Bool⦄ ⦃h0 : Hh⦄ ⦃B : List Nat⦄ ⦃φ : Nat → List Nat⦄ ⦃ps : Ps⦄ ⦃o : Pool⦄ ⦃sl : Sl⦄ ⦃h : Hh⦄, SR T h0 B O φ ps o sl h → Sd B h (fun h' its s => ∃ F, Lc B O U φ h h' F ∧ ItR h' F its s.items ∧ ChR h' F s.chks) (p ps o) (m sl h)
theorem chr_nil {h : Hh} : ChR h [] [] := fun _ _ _ _ => rfl
def oneP (xs : List PV) : List (List PV) := xs.map fun x => [x]
def pairP : Nat → List PV → List (List PV)
  | _, [] => []
  | i, x :: r => [.int (i : Int), x] :: pairP (i + 1) r
def zipP : List PV → List PV → List (List PV)
  | x :: xs, y :: ys => [x, y] :: zipP xs ys
  | _, _ => []
section
variable {h : Hh}
theorem itr_one : ∀ {ds : List PV} {xs : List AV} {F G : List Nat}, RfL h ds xs G → (∀ n ∈ G, n ∈ F) → ItR h F (oneP ds) (one xs)
  | [], _, _, _, r, _ => by obtain ⟨rfl, _⟩ := r.nil_inv; exact .nil
  | d :: ds, _, F, _, r, hG => by
    obtain ⟨y, ys, G1, G2, rfl, q, rs, rfl⟩ := r.cons_inv
    exact .cons (RfL.cons q RfL.nil) (fun n hn => hG n (by simp at hn; simp [hn])) (itr_one rs fun n hn => hG n (by simp [hn]))
theorem itr_pair : ∀ {ds : List PV} {xs : List AV} {F G : List Nat} (i : Nat), RfL h ds xs G → (∀ n ∈ G, n ∈ F) → ItR h F (pairP i ds) (pairsFrom i xs)
  | [], _, _, _, i, r, _ => by obtain ⟨rfl, _⟩ := r.nil_inv; exact .nil
  | d :: ds, _, F, _, i, r, hG => by
    obtain ⟨y, ys, G1, G2, rfl, q, rs, rfl⟩ := r.cons_inv
    exact .cons (RfL.cons Rf.int (RfL.cons q RfL.nil)) (fun n hn => hG n (by simp at hn; simp [hn])) (itr_pair (i + 1) rs fun n hn => hG n (by simp [hn]))
theorem itr_zip : ∀ {ds es : List PV} {xs ys : List AV} {F G H : List Nat}, RfL h ds xs G → RfL h es ys H → (∀ n ∈ G, n ∈ F) → (∀ n ∈ H, n ∈ F) → ItR h F (zipP ds es) (zipIt xs ys)
  | [], es, _, _, _, _, _, r, _, _, _ => by obtain ⟨rfl, _⟩ := r.nil_inv; exact .nil
  | d :: ds, [], _, _, _, _, _, r, r2, _, _ => by
    obtain ⟨y, ys, G1, G2, rfl, q, rs, rfl⟩ := r.cons_inv
    obtain ⟨rfl, _⟩ := r2.nil_inv
    exact .nil
  | d :: ds, e :: es, _, _, F, _, _, r, r2, hG, hH => by
    obtain ⟨y, ys, G1, G2, rfl, q, rs, rfl⟩ := r.cons_inv
    obtain ⟨z, zs, H1, H2, rfl, q2, rs2, rfl⟩ := r2.cons_inv
    exact .cons (RfL.cons q (RfL.cons q2 RfL.nil)) (fun n hn => by
      simp at hn
      rcases hn with hn | hn
      · exact hG n (by simp [hn])
      · exact hH n (by simp [hn])) (itr_zip rs rs2 (fun n hn => hG n (by simp [hn])) fun n hn => hH n (by simp [hn]))
theorem chr_lst {k : Nat} {xs : List AV} {F : List Nat} (e : h[k]? = some (.lst xs)) (hk : k ∈ F) : ChR h F [(true, .ref k, xs)] := fun N h' kq hF => chk_lst (kq.get e (hF k hk))
theorem chr_scr {ns : List Int} {F : List Nat} : ChR h F [(true, .scr ns, ns.map .int)] := fun N h' kq hF => chk_scr
theorem chr_app {F : List Nat} {cs ds : List (Bool × AV × List AV)} (a : ChR h F cs) (b : ChR h F ds) : ChR h F (cs ++ ds) := fun N h' kq hF => by
  have h1 := a N h' kq hF
  have h2 := b N h' kq hF
  unfold chkOk at *
  rw [List.all_append, h1, h2]; rfl
/-- the check of a list or a tuple -/
theorem rs_src {B : List Nat} {d : PV} {ds : List PV} {v : AV} {F : List Nat} (r1 : Rs B h d v F) (e : pseq d = some ds) : ∃ xs G b, rdB b h v = some xs ∧ ((rdL h v = some xs ∧ b = true) ∨ (rdL h v = none ∧ rdT h v = some xs ∧ b = false)) ∧ RfL h ds xs G ∧ (∀ n ∈ G, n ∈ F) ∧ (∀ s, v ≠ .str s) ∧ ChR h F [(b, v, xs)] := by
  obtain ⟨xs, G, hr, rs, hs, hd, hn⟩ := rs_seq r1 e
  rcases hr with hr | ⟨hr, ht⟩
  · refine ⟨xs, G, true, hr, .inl ⟨hr, rfl⟩, rs, fun n hn => hs.subset hn, hn, ?_⟩
    cases d with
    | lst ys =>
      obtain ⟨n, zs, G2, rfl, q, _, rfl⟩ := r1.lst_inv
      have : zs = xs := by simpa [q] using hr
      subst this
      exact chr_lst q (by simp)
    | scr ns =>
      obtain ⟨rfl, _⟩ := r1.scr_inv
      cases hr
      exact chr_scr
    | tup ys =>
      exfalso
      obtain ⟨zs, q, _⟩ := r1.tup_inv
      unfold rdT at q
      split at q
      · split at q
        · rename_i q2; simp [q2] at hr
        · cases q
      · cases hr
      · cases q
    | _ => cases e
  · refine ⟨xs, G, false, ht, .inr ⟨hr, ht, rfl⟩, rs, fun n hn => hs.subset hn, hn, fun N h' kq hF => ?_⟩
    have := rdT_kq kq ht
    simp [chkOk, rdB, this]
end
def pSrc (d : PV) : Option (List (List PV)) := match d with
  | .str s => some (s.map fun ch => [.str [ch]])
  | d => (pseq d).map oneP
def pIter (p : Pe) : Pi := fun ps o => (p ps o).bind fun d o1 => PR.of o1 (pSrc d)
theorem itr_str {h : Hh} : ∀ {s : List Nat}, okS s = true → ItR h [] (s.map fun ch => [PV.str [ch]]) (s.map fun ch => [.str [ch]])
  | [], _ => .nil
  | c :: s, hs => .cons (G := []) (RfL.cons (F := []) (Rf.str (okS_one hs (by simp))) RfL.nil) (by simp) (itr_str (okS_sub hs fun x hx => by simp [hx]))
theorem src_seq {h : Hh} {v : AV} {xs : List AV} {b : Bool} (hn : ∀ s, v ≠ .str s) (hr : (rdL h v = some xs ∧ b = true) ∨ (rdL h v = none ∧ rdT h v = some xs ∧ b = false)) : srcOf h v = some ⟨one xs, [(b, v, xs)]⟩ := by
  unfold srcOf
  split
  · exact absurd rfl (hn _)
  · rcases hr with ⟨hr, rfl⟩ | ⟨hr, ht, rfl⟩
    · rw [hr]
    · rw [hr]; simp only [ht]
theorem si_iter (a : SE O U ma pa) : SI O U (mIter ma) (pIter pa) := fun T h0 B φ ps o sl h s =>
  (a s).bind fun d v o1 h1 k1 p1 ⟨F, rd, lF⟩ => by
    cases e : pSrc d with
    | none => trivial
    | some its =>
      unfold pSrc at e
      split at e
      · cases e
        obtain ⟨rfl, o2, _⟩ := rd.str_inv
        exact ⟨_, h1, rfl, Kq.rfl', p1, [], Lc.nil, itr_str o2, chr_nil⟩
      · obtain ⟨ds, e2, rfl⟩ := Option.map_eq_some_iff.mp e
        obtain ⟨xs, G, b, hb, hr, rs, hG, hn, ch⟩ := rs_src rd e2
        rw [src_seq hn hr]
        exact ⟨_, h1, rfl, Kq.rfl', p1, F, lF, itr_one rs hG, ch⟩
def pEnumS (d : PV) : Option (List (List PV)) := match d with
  | .str s => some (pairP 0 (s.map fun ch => .str [ch]))
  | d => (pls d).map (pairP 0)
def pEnum (p : Pe) : Pi := fun ps o => (p ps o).bind fun d o1 => PR.of o1 (pEnumS d)
theorem si_enum (a : SE O U ma pa) : SI O U (mEnum ma) (pEnum pa) := fun T h0 B φ ps o sl h s =>
  (a s).bind fun d v o1 h1 k1 p1 ⟨F, rd, lF⟩ => by
    cases e : pEnumS d with
    | none => trivial
    | some its =>
      unfold pEnumS at e
      split at e
      · cases e
        obtain ⟨rfl, o2, _⟩ := rd.str_inv
        exact ⟨_, h1, rfl, Kq.rfl', p1, [], Lc.nil, itr_pair 0 (RfL.signs o2) (by simp), chr_nil⟩
      · obtain ⟨ds, e2, rfl⟩ := Option.map_eq_some_iff.mp e
        have e3 : pseq d = some ds := by cases d <;> first | exact e2 | cases e2
        obtain ⟨xs, G, b, hb, hr, rs, hG, hn, ch⟩ := rs_src rd e3
        obtain ⟨ys, G', hr2, _⟩ := rs_rdL rd e2
        have e4 : srcEnum h1 v = some ⟨pairsFrom 0 xs, [(true, v, xs)]⟩ ∧ b = true := by
          rcases hr with ⟨hr, rfl⟩ | ⟨hr, _⟩
          · refine ⟨?_, rfl⟩
            unfold srcEnum
            split
            · exact absurd rfl (hn _)
            · rw [hr]
          · rw [hr] at hr2; cases hr2
        rw [e4.1]
        rw [e4.2] at ch
        exact ⟨_, h1, rfl, Kq.rfl', p1, F, lF, itr_pair 0 rs hG, ch⟩
def rangeP (lo : Int) (n : Nat) : List (List PV) := (List.range n).map fun i => [.int (lo + (i : Nat))]
theorem itr_ints {h : Hh} {α : Type} (f : α → Int) : ∀ l : List α, ItR h [] (l.map fun i => [PV.int (f i)]) (l.map fun i => [AV.int (f i)])
  | [] => .nil
  | i :: l => .cons (G := []) (RfL.cons (F := []) Rf.int RfL.nil) (by simp) (itr_ints f l)
def pRange1 (p : Pe) : Pi := fun ps o => (p ps o).bind fun d o1 => match d with
  | .int j => if small60 j = true then .ok (rangeP 0 j.toNat) o1 else .no
  | _ => .no
def pRange2 (a b : Pe) : Pi := fun ps o => (a ps o).bind fun d o1 => (b ps o1).bind fun e o2 => match d, e with
  | .int i, .int j => if (small60 i && small60 j) = true then .ok (rangeP i (j - i).toNat) o2 else .no
  | _, _ => .no
def pRange3 (a b c : Pe) : Pi := fun ps o => (a ps o).bind fun d o1 => (b ps o1).bind fun e o2 => (c ps o2).bind fun f o3 => match d, e, f with
  | .int i, .int j, .int k => if (small60 i && small60 j && decide (k = -1)) = true then .ok ((List.range (i - j).toNat).map fun (k : Nat) => [.int (i + (k : Int) * (-1))]) o3 else .no
  | _, _, _ => .no
theorem si_range1 (a : SE O U1 ma pa) : SI O U (mRange1 ma) (pRange1 pa) := fun T h0 B φ ps o sl h s =>
  (a s).bind fun d v o1 h1 k1 p1 ⟨F, rd, lF⟩ => by
    split
    · rename_i j _
      obtain ⟨rfl, _⟩ := rd.int_inv
      split
      · rename_i hj
        exact ⟨_, h1, by simp only [hj]; rfl, Kq.rfl', p1, [], Lc.nil, itr_ints _ _, chr_nil⟩
      · trivial
    · trivial
theorem si_range2 (a : SE O U1 ma pa) (b : SE O U2 mb pb) : SI O U (mRange2 ma mb) (pRange2 pa pb) := fun T h0 B φ ps o sl h s =>
  (a s).bind fun d v o1 h1 k1 p1 ⟨F, rd, lF⟩ => (b (s.kqB k1 p1)).bind fun e u o2 h2 k2 p2 ⟨G, re, lG⟩ => by
    split
    · obtain ⟨rfl, _⟩ := rd.int_inv
      obtain ⟨rfl, _⟩ := re.int_inv
      split
      · rename_i hj
        exact ⟨_, h2, by simp only [hj]; rfl, Kq.rfl', p2, [], Lc.nil, itr_ints _ _, chr_nil⟩
      · trivial
    · trivial
theorem si_range3 (a : SE O U1 ma pa) (b : SE O U2 mb pb) (c : SE O U3 mc pc) : SI O U (mRange3 ma mb mc) (pRange3 pa pb pc) := fun T h0 B φ ps o sl h s =>
  (a s).bind fun d v o1 h1 k1 p1 ⟨F, rd, lF⟩ => (b (s.kqB k1 p1)).bind fun e u o2 h2 k2 p2 ⟨G, re, lG⟩ => (c ((s.kqB k1 p1).kqB k2 p2)).bind fun f w o3 h3 k3 p3 ⟨H, rf, lH⟩ => by
    split
    · obtain ⟨rfl, _⟩ := rd.int_inv
      obtain ⟨rfl, _⟩ := re.int_inv
      obtain ⟨rfl, _⟩ := rf.int_inv
      split
      · rename_i hj
        exact ⟨_, h3, by simp only [hj]; rfl, Kq.rfl', p3, [], Lc.nil, itr_ints _ _, chr_nil⟩
      · trivial
    · trivial
def pZip (a b : Pe) : Pi := fun ps o => (a ps o).bind fun d o1 => (b ps o1).bind fun e o2 => match pseq d, pseq e with
  | some xs, some ys => match (pls d).isSome, (pls e).isSome with
    | true, true => .ok (zipP xs ys) o2
    | false, false => .ok (zipP xs ys) o2
    | _, _ => .no
  | _, _ => .no
theorem rdL_pls {B : List Nat} {h : Hh} {d : PV} {v : AV} {F : List Nat} {ds : List PV} (r : Rs B h d v F) (e : pseq d = some ds) : (pls d).isSome = (rdL h v).isSome := by
  cases d with
  | lst ys => obtain ⟨n, zs, G2, rfl, q, _, rfl⟩ := r.lst_inv; simp [pls, q]
  | scr ns => obtain ⟨rfl, _⟩ := r.scr_inv; rfl
  | tup ys =>
    obtain ⟨zs, q, _⟩ := r.tup_inv
    unfold rdT at q
    split at q
    · split at q
      · rename_i q2; simp [pls, q2]
      · cases q
    · rfl
    · cases q
  | _ => cases e
theorem si_zip (a : SE O U1 ma pa) (b : SE O U2 mb pb) : SI O (U1 ++ U2) (mZip ma mb) (pZip pa pb) := fun T h0 B φ ps o sl h s =>
  (a s).bind fun d v o1 h1 k1 p1 ⟨F, rd, lF⟩ => (b (s.kqB k1 p1)).bind fun e u o2 h2 k2 p2 ⟨G, re, lG⟩ => by
    have rd2 := rd.kq k2 lF.nb
    split
    · rename_i xs ys hx hy
      obtain ⟨us, G1, b1, hb1, hr1, rs1, hG1, hn1, ch1⟩ := rs_src rd2 hx
      obtain ⟨ws, G2, b2, hb2, hr2, rs2, hG2, hn2, ch2⟩ := rs_src re hy
      have f1 := rdL_pls rd2 hx
      have f2 := rdL_pls re hy
      have it : ItR h2 (F ++ G) (zipP xs ys) (zipIt us ws) := itr_zip rs1 rs2 (fun n hn => by simp [hG1 n hn]) (fun n hn => by simp [hG2 n hn])
      have ch : ChR h2 (F ++ G) ([(b1, v, us)] ++ [(b2, u, ws)]) := chr_app (fun N h' kq hF => ch1 N h' kq fun n hn => hF n (by simp [hn])) (fun N h' kq hF => ch2 N h' kq fun n hn => hF n (by simp [hn]))
      have lc : Lc B O (U1 ++ U2) φ h h2 (F ++ G) := Lc.app s k1.1 k2.1 lF lG
      split
      · rename_i g1 g2
        rw [g1] at f1
        rw [g2] at f2
        rcases hr1 with ⟨q1, rfl⟩ | ⟨q1, _, rfl⟩
        · rcases hr2 with ⟨q2, rfl⟩ | ⟨q2, _, rfl⟩
          · rw [q1, q2]
            exact ⟨_, h2, rfl, Kq.rfl', p2, F ++ G, lc, it, ch⟩
          · rw [q2] at f2; cases f2
        · rw [q1] at f1; cases f1
      · rename_i g1 g2
        rw [g1] at f1
        rw [g2] at f2
        rcases hr1 with ⟨q1, rfl⟩ | ⟨q1, q1', rfl⟩
        · rw [q1] at f1; cases f1
        · rcases hr2 with ⟨q2, rfl⟩ | ⟨q2, q2', rfl⟩
          · rw [q2] at f2; cases f2
          · rw [q1, q2]
            simp only [q1', q2']
            exact ⟨_, h2, rfl, Kq.rfl', p2, F ++ G, lc, it, ch⟩
      · trivial
    · trivial

/-! ### for -/
def pLoop (g : Pg) (b : Pst) : List (List PV) → Pst
  | [], ps, o => .nx ps o
  | it :: r, ps, o => match g it ps with
    | some ps1 => match b ps1 o with
      | .nx ps o => pLoop g b r ps o
      | .ct ps o => pLoop g b r ps o
      | .bk ps o => .nx ps o
      | .rt d o => .rt d o
      | .ex k ns ds ps o => .ex k ns ds ps o
      | .no => .no
    | none => .no
def pFor (src : Pi) (g : Pg) (b : Pst) : Pst := fun ps o => (src ps o).bindS ps fun its o1 => pLoop g b its ps o1
theorem loop_ok {g : Eg} {pg : Pg} {mb : Es} {pb : Pst} (hM : Sub M' M) (hO : Sub M O) (hg : SG O g pg) (hb : SS T O M' mb pb) {cs : List (Bool × AV × List AV)} : ∀ {its : List (List PV)} {vs : List (List AV)} {h0 : Hh} {B : List Nat} {φ : Nat → List Nat} {ps : Ps} {o : Pool} {sl : Sl} {h : Hh} {Fi Fc : List Nat}, SR T h0 B O φ ps o sl h → ItR h Fi its vs → ChR h Fc cs →
    (∀ n ∈ Fi, n < h.length ∧ n ∉ B ∧ ∀ j ∈ O, n ∉ φ j) → (∀ n ∈ Fc, n < h.length ∧ n ∉ B ∧ ∀ j ∈ M', n ∉ φ j) → SdS T h0 B O M φ h (pLoop pg pb its ps o) (loopF cs g mb vs sl h)
  | [], vs, h0, B, φ, ps, o, sl, h, Fi, Fc, s, it, ch, _, _ => by
    cases it
    unfold pLoop loopF
    rw [if_pos (ch [] h Kq.rfl' (by simp))]
    exact ⟨sl, h, rfl, SN.rfl' s⟩
  | ds :: its, _, h0, B, φ, ps, o, sl, h, Fi, Fc, s, .cons a hG b, ch, hi, hc => by
    unfold pLoop loopF
    rw [if_pos (ch [] h Kq.rfl' (by simp))]
    split
    · rename_i ps1 e
      obtain ⟨sl1, φ1, e1, s1, f1⟩ := hg s a (fun n hn => ⟨(hi n (hG n hn)).2.1, (hi n (hG n hn)).1, (hi n (hG n hn)).2.2⟩) e
      rw [e1]
      have s2 := hb.2 s1
      have go : ∀ {ps2 : Ps} {o2 : Pool} {sl2 : Sl} {h2 : Hh}, SN T h0 B O M' φ1 h ps2 o2 sl2 h2 → SdS T h0 B O M φ h (pLoop pg pb its ps2 o2) (loopF cs g mb _ sl2 h2) := fun {ps2 o2 sl2 h2} sn => by
        obtain ⟨B2, φ2, s2, k2, f2, t2, b2⟩ := sn
        have fO : ∀ i ∈ O, ∀ n ∈ φ2 i, n ∈ φ i ∨ h.length ≤ n := fun i hi n hn => (f2 i hi n hn).imp (f1 i hi n) id
        have kk : Kq (B ++ M.flatMap φ) h h2 := k2.mono fun m hm => by
          rcases List.mem_append.mp hm with hm | hm
          · exact .inl (by simp [hm])
          · obtain ⟨i, hi, hm⟩ := List.mem_flatMap.mp hm
            exact .inl (List.mem_append_right _ (List.mem_flatMap.mpr ⟨i, hM i hi, f1 i (hO i (hM i hi)) m hm⟩))
        have nm : ∀ n, n ∉ B → (∀ j ∈ M', n ∉ φ j) → n ∉ B ++ M'.flatMap φ1 := fun n h1 h2 z => by
          rcases List.mem_append.mp z with z | z
          · exact h1 z
          · obtain ⟨i, hi, z⟩ := List.mem_flatMap.mp z
            exact h2 i hi (f1 i (hO i (hM i hi)) n z)
        have nB : ∀ n, n < h.length → n ∉ B → n ∉ B2 := fun n h1 h2 z => by
          rcases b2 n z with q | q
          · exact h2 q
          · omega
        have iF : ∀ n ∈ Fi, n ∉ B ++ M'.flatMap φ1 := fun n hn => nm n (hi n hn).2.1 fun j hj => (hi n hn).2.2 j (hO j (hM j hj))
        have cF : ∀ n ∈ Fc, n ∉ B ++ M'.flatMap φ1 := fun n hn => nm n (hc n hn).2.1 (hc n hn).2.2
        refine SdS.back kk hO fO t2 b2 (loop_ok hM hO hg hb s2 (b.kq k2 iF) (ch.kq k2 cF) (fun n hn => ?_) fun n hn => ?_)
        · refine ⟨Nat.lt_of_lt_of_le (hi n hn).1 k2.1, nB n (hi n hn).1 (hi n hn).2.1, fun j hj z => ?_⟩
          rcases fO j hj n z with q | q
          · exact (hi n hn).2.2 j hj q
          · have := (hi n hn).1; omega
        · refine ⟨Nat.lt_of_lt_of_le (hc n hn).1 k2.1, nB n (hc n hn).1 (hc n hn).2.1, fun j hj z => ?_⟩
          rcases fO j (hO j (hM j hj)) n z with q | q
          · exact (hc n hn).2.2 j hj q
          · have := (hc n hn).1; omega
      have wk : ∀ {ps2 : Ps} {o2 : Pool} {sl2 : Sl} {h2 : Hh}, SN T h0 B O M' φ1 h ps2 o2 sl2 h2 → SN T h0 B O M φ h ps2 o2 sl2 h2 := fun {ps2 o2 sl2 h2} sn => by
        obtain ⟨B2, φ2, s2, k2, f2, t2, b2⟩ := sn
        exact ⟨B2, φ2, s2, k2.mono fun m hm => by
          rcases List.mem_append.mp hm with hm | hm
          · exact .inl (by simp [hm])
          · obtain ⟨i, hi, hm⟩ := List.mem_flatMap.mp hm
            exact .inl (List.mem_append_right _ (List.mem_flatMap.mpr ⟨i, hM i hi, f1 i (hO i (hM i hi)) m hm⟩)), fun i hi n hn => (f2 i hi n hn).imp (f1 i hi n) id, t2, b2⟩
      revert s2
      show SdS T h0 B O M' φ1 h (pb ps1 o) (mb sl1 h) → SdS T h0 B O M φ h (match pb ps1 o with
        | .nx ps o => pLoop pg pb its ps o
        | .ct ps o => pLoop pg pb its ps o
        | .bk ps o => .nx ps o
        | .rt d o => .rt d o
        | .ex k ns ds ps o => .ex k ns ds ps o
        | .no => .no) (match mb sl1 h with
        | .nx s h => loopF cs g mb _ s h
        | .ct s h => loopF cs g mb _ s h
        | .bk s h => .nx s h
        | .rt v h => .rt v h
        | .ex x s h => .ex x s h
        | .no => .no)
      cases pb ps1 o with
      | no => exact fun _ => trivial
      | nx ps2 o2 => rintro ⟨sl2, h2, e2, sn⟩; rw [e2]; exact go sn
      | ct ps2 o2 => rintro ⟨sl2, h2, e2, sn⟩; rw [e2]; exact go sn
      | bk ps2 o2 => rintro ⟨sl2, h2, e2, sn⟩; rw [e2]; exact ⟨sl2, h2, rfl, wk sn⟩
      | ex k ns ds ps2 o2 => rintro ⟨x, sl2, h2, e2, sn, rx⟩; rw [e2]; exact ⟨x, sl2, h2, rfl, wk sn, rx⟩
      | rt d o2 => rintro ⟨v, h2, B2, F, e2, r⟩; rw [e2]; exact ⟨v, h2, B2, F, rfl, r⟩
    · trivial
theorem ss_for {g : Eg} {pg : Pg} {ms : Ei} {src : Pi} {mb : Es} {pb : Pst} (hM : Sub M' M) (hO : Sub M O) (hU : ∀ u ∈ U, u ∉ O) (hs : SI O U ms src) (hg : SG O g pg) (hb : SS T O M' mb pb) : SS T O M (mFor ms g mb) (pFor src pg pb) := ⟨hO, fun h0 B φ ps o sl h s =>
  Sd.bindH s (hs s) fun its sr o1 h1 k1 p1 ⟨F, l, it, ch⟩ s1 => by
    have key : ∀ n ∈ F, n < h1.length ∧ n ∉ B ∧ ∀ j ∈ O, n ∉ φ j := fun n hn => ⟨s.lc l k1.1 n hn, l.nb n hn, fun j hj z => by
      rcases l.loc n hn with q | ⟨u, hu, q⟩
      · have := s.lt j n z; omega
      · exact s.dj j hj u (fun e => hU u hu (e ▸ hj)) n z q⟩
    exact (loop_ok hM hO hg hb s1 it ch key fun n hn => ⟨(key n hn).1, (key n hn).2.1, fun j hj => (key n hn).2.2 j (hO j (hM j hj))⟩).backB k1 hO⟩
/-- over what a changed slot holds: items with nothing to be changed -/
def pForN (src : Pi) (g : Pg) (b : Pst) : Pst := fun ps o => (src ps o).bindS ps fun its o1 => if its.all PV.noLs = true then pLoop g b its ps o1 else .no
theorem ItR.nol {h : Hh} {F : List Nat} {its : List (List PV)} {vs : List (List AV)} (r : ItR h F its vs) (hn : its.all PV.noLs = true) : ItR h [] its vs := by
  induction r with
  | nil => exact .nil
  | cons a hG b ih =>
    rw [List.all_cons, Bool.and_eq_true] at hn
    have z := noLs_nil hn.1 a
    subst z
    exact .cons a (by simp) (ih hn.2)
theorem ss_forN {g : Eg} {pg : Pg} {ms : Ei} {src : Pi} {mb : Es} {pb : Pst} (hM : Sub M' M) (hO : Sub M O) (hU : ∀ u ∈ U, u ∉ M') (hs : SI O U ms src) (hg : SG O g pg) (hb : SS T O M' mb pb) : SS T O M (mFor ms g mb) (pForN src pg pb) := ⟨hO, fun h0 B φ ps o sl h s =>
  Sd.bindH s (hs s) fun its sr o1 h1 k1 p1 ⟨F, l, it, ch⟩ s1 => by
    split
    · rename_i hn
      exact (loop_ok hM hO hg hb s1 (it.nol hn) ch (by simp) fun n hn => ⟨s.lc l k1.1 n hn, l.nb n hn, fun j hj z => by
        rcases l.loc n hn with q | ⟨u, hu, q⟩
        · have := s.lt j n z; omega
        · exact s.dj j (hO j (hM j hj)) u (fun e => hU u hu (e ▸ hj)) n z q⟩).backB k1 hO
    · trivial⟩
def pWhile (t : Pt) (b : Pst) : Nat → Pst
  | 0, _, _ => .no
  | n + 1, ps, o => (t ps o).bindS ps fun x o1 => if x = true then match b ps o1 with
      | .nx ps o => pWhile t b n ps o
      | .ct ps o => pWhile t b n ps o
      | .bk ps o => .nx ps o
      | .rt d o => .rt d o
      | .ex k ns ds ps o => .ex k ns ds ps o
      | .no => .no
    else .nx ps o1
theorem ss_while {mb : Es} {pb : Pst} (ht : ST O ta qa) (hb : SS T O M mb pb) : ∀ n : Nat, SS T O M (mWhile ta mb n) (pWhile qa pb n)
  | 0 => ⟨hb.1, fun h0 B φ ps o sl h s => trivial⟩
  | n + 1 => ⟨hb.1, fun h0 B φ ps o sl h s => Sd.bindS s hb.1 (ht s) fun x y o1 h1 k1 p1 e s1 => by
    subst e
    cases x with
    | false => exact ⟨sl, h1, rfl, SN.rfl' s1⟩
    | true =>
      have s2 := hb.2 s1
      revert s2
      show SdS T h0 B O M φ h1 (pb ps o1) (mb sl h1) → SdS T h0 B O M φ h1 (match pb ps o1 with
        | .nx ps o => pWhile qa pb n ps o
        | .ct ps o => pWhile qa pb n ps o
        | .bk ps o => .nx ps o
        | .rt d o => .rt d o
        | .ex k ns ds ps o => .ex k ns ds ps o
        | .no => .no) (match mb sl h1 with
        | .nx s h => mWhile ta mb n s h
        | .ct s h => mWhile ta mb n s h
        | .bk s h => .nx s h
        | .rt v h => .rt v h
        | .ex x s h => .ex x s h
        | .no => .no)
      have go : ∀ {ps2 : Ps} {o2 : Pool} {sl2 : Sl} {h2 : Hh}, SN T h0 B O M φ h1 ps2 o2 sl2 h2 → SdS T h0 B O M φ h1 (pWhile qa pb n ps2 o2) (mWhile ta mb n sl2 h2) := fun {ps2 o2 sl2 h2} sn => by
        obtain ⟨B2, φ2, s2, k2, f2, t2, b2⟩ := sn
        exact SdS.back k2 hb.1 f2 t2 b2 ((ss_while ht hb n).2 s2)
      cases pb ps o1 with
      | no => exact fun _ => trivial
      | nx ps2 o2 => rintro ⟨sl2, h2, e2, sn⟩; rw [e2]; exact go sn
      | ct ps2 o2 => rintro ⟨sl2, h2, e2, sn⟩; rw [e2]; exact go sn
      | bk ps2 o2 => rintro ⟨sl2, h2, e2, sn⟩; rw [e2]; exact ⟨sl2, h2, rfl, sn⟩
      | ex k ns ds ps2 o2 => rintro ⟨x, sl2, h2, e2, sn, rx⟩; rw [e2]; exact ⟨x, sl2, h2, rfl, sn, rx⟩
      | rt d o2 => rintro ⟨v, h2, B2, F, e2, r⟩; rw [e2]; exact ⟨v, h2, B2, F, rfl, r⟩⟩
end Det

/-! Val10: comprehensions, defs, the law. -/
namespace Det
open PySem PySem.Spec PyProof.Rows L2
variable {T : Bool} {O M M' U U1 U2 U3 : List Nat} {ma mb mc me mi : Ev} {pa pb pc pe pi : Pe} {m n : Es} {p q : Pst} {ta : Et} {qa : Pt}
def pwipe (ps : Ps) : List Nat → Ps
  | [] => ps
  | v :: vs => (pwipe ps vs).set v none
theorem SR.wipe {T : Bool} {h0 : Hh} {B : List Nat} {φ : Nat → List Nat} {ps : Ps} {o : Pool} {sl : Sl} {h : Hh} (s : SR T h0 B O φ ps o sl h) : ∀ vs : List Nat, SR T h0 B O φ (pwipe ps vs) o (wipeA sl vs) h
  | [] => s
  | v :: vs => (SR.wipe s vs).unset
def PR.only {α β : Type} (r : PR α) (k : α → Pool → PR β) : PR β := match r with
  | .ok a o => k a o
  | _ => .no
def pLoopC (psw : Ps) (g : Pg) (t : Pt) (e : Pe) : List (List PV) → List PV → Pool → PR PV
  | [], acc, o => .ok (.lst acc) o
  | it :: r, acc, o => match g it psw with
    | some ps1 => (t ps1 o).only fun b o1 => if b = true then (e ps1 o1).only fun d o2 => if acc.length < LINE ∧ isTok d = false then pLoopC psw g t e r (acc ++ [d]) o2 else .no
        else pLoopC psw g t e r acc o1
    | none => .no
def pLc (src : Pi) (vs : List Nat) (g : Pg) (t : Pt) (e : Pe) : Pe := fun ps o => (src ps o).bind fun its o1 => pLoopC (pwipe ps vs) g t e its [] o1
theorem loopC_ok {g : Eg} {pg : Pg} {tt : Et} {pt : Pt} {te : Ev} {pe : Pe} (hg : SG O g pg) (ht : ST O tt pt) (he : SE O [] te pe) {cs : List (Bool × AV × List AV)} {dn : Nat} {hs : Hh} {psw : Ps} {slw : Sl} : ∀ {its : List (List PV)} {vs : List (List AV)} {T : Bool} {h0 : Hh} {B : List Nat} {φ : Nat → List Nat} {o : Pool} {h : Hh} {Fi Fc : List Nat} {acc : List PV} {xs : List AV} {G : List Nat},
    SR T h0 B O φ psw o slw h → ItR h Fi its vs → ChR h Fc cs → (∀ n ∈ Fi, n < h.length ∧ n ∉ B ∧ n ≠ dn ∧ ∀ j ∈ O, n ∉ φ j) → (∀ n ∈ Fc, n ∉ B ∧ n ≠ dn) → h[dn]? = some (.lst xs) → RfL h acc xs G → G.Nodup → (∀ n ∈ G, dn < n ∧ n < h.length ∧ n ∉ B) → dn ∉ B → (∀ i, dn ∉ φ i) → h0.length ≤ dn → hs.length = dn → Kq (dn :: B) (hs ++ [.lst []]) h →
    Sd B hs (fun h' d v => ∃ F, Rf h' d v F ∧ F.Nodup ∧ ∀ n ∈ F, hs.length ≤ n ∧ n < h'.length) (pLoopC psw pg pt pe its acc o) (loopC cs slw dn g tt te vs h)
  | [], vs, T, h0, B, φ, o, h, Fi, Fc, acc, xs, G, s, it, ch, hi, hc, hd, ra, nd, hG, hB, hφ, h00, hl, kq => by
    cases it
    unfold pLoopC loopC
    rw [if_pos (ch [] h Kq.rfl' (by simp))]
    have kq0 : Kq B hs h := ⟨by have := kq.1; simp at this; omega, fun m o e z => kq.2 m o (getElem?_pre e) (by
      rcases z with z | z
      · left
        intro q
        rcases List.mem_cons.mp q with q | q
        · have := lt_of_get e; omega
        · exact z q
      · exact .inr z)⟩
    refine ⟨.ref dn, h, rfl, kq0, s.pl, dn :: G, Rf.lst hd ra, List.nodup_cons.mpr ⟨fun z => by have := hG dn z; omega, nd⟩, fun n hn => ?_⟩
    rcases List.mem_cons.mp hn with rfl | hn
    · exact ⟨by omega, lt_of_get hd⟩
    · have := hG n hn; omega
  | ds :: its, _, T, h0, B, φ, o, h, Fi, Fc, acc, xs, G, s, .cons a hGi b, ch, hi, hc, hd, ra, nd, hG, hB, hφ, h00, hl, kq => by
    unfold pLoopC loopC
    rw [if_pos (ch [] h Kq.rfl' (by simp))]
    split
    · rename_i ps1 e
      obtain ⟨sl1, φ1, e1, s1, f1⟩ := hg s a (fun n hn => ⟨(hi n (hGi n hn)).2.1, (hi n (hGi n hn)).1, (hi n (hGi n hn)).2.2.2⟩) e
      rw [e1]
      have st := ht s1
      show Sd B hs _ ((pt ps1 o).only fun b o1 => if b = true then (pe ps1 o1).only fun d o2 => if acc.length < LINE ∧ isTok d = false then pLoopC psw pg pt pe its (acc ++ [d]) o2 else .no else pLoopC psw pg pt pe its acc o1)
        ((tt sl1 h).only fun b h2 => if b = true then (te sl1 h2).only fun y h3 => match h3[dn]? with
          | some (.lst acc) => if acc.length < LINE then loopC cs slw dn g tt te _ (h3.set dn (.lst (acc ++ [y]))) else .no
          | _ => .no
        else loopC cs slw dn g tt te _ h2)
      revert st
      cases pt ps1 o with
      | no => exact fun _ => trivial
      | ex k ns ds o => exact fun _ => trivial
      | ok bb o1 =>
        rintro ⟨b2, h2, e2, k2, p2, e3⟩
        subst e3
        rw [e2]
        have lenk : h.length ≤ h2.length := k2.1
        have step : ∀ {h3 : Hh} {o3 : Pool}, Kq B h h3 → PL B h3 o3 → SR T h0 B O φ psw o3 slw h3 ∧ ItR h3 Fi its _ ∧ ChR h3 Fc cs ∧ (∀ n ∈ Fi, n < h3.length ∧ n ∉ B ∧ n ≠ dn ∧ ∀ j ∈ O, n ∉ φ j) ∧ h3[dn]? = some (.lst xs) ∧ RfL h3 acc xs G ∧ (∀ n ∈ G, dn < n ∧ n < h3.length ∧ n ∉ B) ∧ Kq (dn :: B) (hs ++ [.lst []]) h3 := fun {h3 o3} k3 p3 =>
          ⟨s.kqB k3 p3, b.kq k3 fun n hn => (hi n hn).2.1, ch.kq k3 fun n hn => (hc n hn).1, fun n hn => ⟨Nat.lt_of_lt_of_le (hi n hn).1 k3.1, (hi n hn).2⟩, k3.get hd hB, ra.kq k3 fun n hn => (hG n hn).2.2, fun n hn => ⟨(hG n hn).1, Nat.lt_of_lt_of_le (hG n hn).2.1 k3.1, (hG n hn).2.2⟩, kq.trans k3 fun m hm => .inl (by simp [hm])⟩
        cases bb with
        | false =>
          obtain ⟨a1, a2, a3, a4, a5, a6, a7, a8⟩ := step k2 p2
          exact loopC_ok hg ht he a1 a2 a3 a4 hc a5 a6 nd a7 hB hφ h00 hl a8
        | true =>
          have se := he (s1.kqB k2 p2)
          show Sd B hs _ ((pe ps1 o1).only fun d o2 => if acc.length < LINE ∧ isTok d = false then pLoopC psw pg pt pe its (acc ++ [d]) o2 else .no)
            ((te sl1 h2).only fun y h3 => match h3[dn]? with
              | some (.lst acc) => if acc.length < LINE then loopC cs slw dn g tt te _ (h3.set dn (.lst (acc ++ [y]))) else .no
              | _ => .no)
          revert se
          cases pe ps1 o1 with
          | no => exact fun _ => trivial
          | ex k ns ds o => exact fun _ => trivial
          | ok d o2 =>
            rintro ⟨y, h3, e4, k3, p3, F, rd, lF⟩
            rw [e4]
            obtain ⟨a1, a2, a3, a4, a5, a6, a7, a8⟩ := step (k2.transM k3) p3
            show Sd B hs _ (if acc.length < LINE ∧ isTok d = false then pLoopC psw pg pt pe its (acc ++ [d]) o2 else .no) (match h3[dn]? with
              | some (.lst acc) => if acc.length < LINE then loopC cs slw dn g tt te _ (h3.set dn (.lst (acc ++ [y]))) else .no
              | _ => .no)
            split
            · rename_i hc2
              obtain ⟨hl2, htk⟩ := hc2
              rw [a5]
              show Sd B hs _ _ (if xs.length < LINE then _ else _)
              rw [if_pos (by rw [← ra.len]; exact hl2)]
              have lf := lF.fresh
              have dlt := lt_of_get hd
              have Fd : ∀ n ∈ F, dn < n ∧ n < h3.length ∧ n ∉ B := fun n hn => ⟨by have := lf.2 n hn; omega, (lf.2 n hn).2, lF.nb n hn⟩
              have kd : Kq [dn] h3 (h3.set dn (.lst (xs ++ [y]))) := Kq.set a5 (by simp) (by simp)
              have nd1 : ∀ n : Nat, n ≠ dn → n ∉ [dn] := fun n h1 => by simpa using h1
              have s5 : SR T h0 B O φ psw o2 slw (h3.set dn (.lst (xs ++ [y]))) :=
                { kq := a1.kq.trans kd fun m hm => by
                    have : m = dn := by simpa using hm
                    subst this
                    exact .inr h00
                  pl := p3.kq kd fun b hb => nd1 b fun z => hB (z ▸ hb)
                  own := a1.own
                  len := a1.len
                  rel := fun i c hc3 => by
                    obtain ⟨u, q1, q2⟩ := a1.rel i c hc3
                    exact ⟨u, q1, q2.kq kd fun n hn => nd1 n fun z => hφ i (z ▸ hn)⟩
                  nb := a1.nb
                  ow := a1.ow
                  dj := a1.dj
                  lt := fun i n hn => by rw [List.length_set]; exact a1.lt i n hn }
              refine loopC_ok hg ht he s5 (a2.kq kd fun n hn => nd1 n (a4 n hn).2.2.1) (a3.kq kd fun n hn => nd1 n (hc n hn).2) (fun n hn => by rw [List.length_set]; exact a4 n hn) hc (get_set_eq a5) (G := G ++ (F ++ []))
                (RfL.app (a6.kq kd fun n hn => nd1 n fun z => by have := a7 n hn; omega) (RfL.cons ((rd.nt htk).kq kd fun n hn => nd1 n fun z => by have := Fd n hn; omega) RfL.nil)) ?_ (fun n hn => ?_) hB hφ h00 hl (a8.trans kd fun m hm => .inl (by simp at hm; simp [hm]))
              · refine List.nodup_append.mpr ⟨nd, by simpa using lf.1, fun x hx z hz e => ?_⟩
                subst e
                have h5 := (hG x hx).2.1
                have h6 := (lf.2 x (by simpa using hz)).1
                omega
              · rw [List.length_set]
                rcases List.mem_append.mp hn with hn | hn
                · exact a7 n hn
                · exact Fd n (by simpa using hn)
            · trivial
    · trivial

theorem se_lc {ms : Ei} {src : Pi} {vs : List Nat} {g : Eg} {pg : Pg} {tt : Et} {pt : Pt} {te : Ev} {pe : Pe} (hU : ∀ u ∈ U1, u ∉ O) (hs : SI O U1 ms src) (hg : SG O g pg) (ht : ST O tt pt) (he : SE O [] te pe) : SE O U (mLc ms vs g tt te) (pLc src vs pg pt pe) := fun T h0 B φ ps o sl h s =>
  (hs s).bind fun its sr o1 h1 k1 p1 ⟨F, l, it, ch⟩ => by
    have s1 := s.kqB k1 p1
    have ka : Kq B h1 (h1 ++ [AO.lst []]) := kq_new
    have s2 := (s1.wipe vs).kqB ka (p1.app [AO.lst []])
    have it2 := it.kq (N := []) (F := F) (kq_new (o := AO.lst [])) (by simp)
    have ch2 := ch.kq (N := []) (F := F) (kq_new (o := AO.lst [])) (by simp)
    have key : ∀ n ∈ F, n < h1.length ∧ n ∉ B ∧ ∀ j ∈ O, n ∉ φ j := fun n hn => ⟨s.lc l k1.1 n hn, l.nb n hn, fun j hj z => by
      rcases l.loc n hn with q | ⟨u, hu, q⟩
      · have := s.lt j n z; omega
      · exact s.dj j hj u (fun e => hU u hu (e ▸ hj)) n z q⟩
    have := loopC_ok hg ht he (cs := sr.chks) (dn := h1.length) (hs := h1) (Fi := F) (Fc := F) (acc := []) (xs := []) (G := []) s2 it2 ch2 (fun n hn => ⟨by have := (key n hn).1; simp; omega, (key n hn).2.1, by have := (key n hn).1; omega, (key n hn).2.2⟩) (fun n hn => ⟨(key n hn).2.1, by have := (key n hn).1; omega⟩) (get_new _ _) RfL.nil List.nodup_nil (by simp) (fun z => by have := p1.lt _ z; omega) (fun i z => by have := s1.lt i _ z; omega) s1.kq.1 rfl Kq.rfl'
    exact this.mono fun d v h' k ⟨F', r, nd, hf⟩ => ⟨F', Rs.of r, fun n hn z => by have := p1.lt n z; have := hf n hn; omega, fun n hn => .inl ⟨by have := hf n hn; have := k1.1; omega, (hf n hn).2⟩, fun _ _ => nd⟩
/-- over what a changed slot holds -/
def pLcN (src : Pi) (vs : List Nat) (g : Pg) (t : Pt) (e : Pe) : Pe := fun ps o => (src ps o).bind fun its o1 => if its.all PV.noLs = true then pLoopC (pwipe ps vs) g t e its [] o1 else .no
theorem se_lcN {ms : Ei} {src : Pi} {vs : List Nat} {g : Eg} {pg : Pg} {tt : Et} {pt : Pt} {te : Ev} {pe : Pe} (hs : SI O U1 ms src) (hg : SG O g pg) (ht : ST O tt pt) (he : SE O [] te pe) : SE O U (mLc ms vs g tt te) (pLcN src vs pg pt pe) := fun T h0 B φ ps o sl h s =>
  (hs s).bind fun its sr o1 h1 k1 p1 ⟨F, l, it, ch⟩ => by
    split
    · rename_i hn
      have s1 := s.kqB k1 p1
      have ka : Kq B h1 (h1 ++ [AO.lst []]) := kq_new
      have s2 := (s1.wipe vs).kqB ka (p1.app [AO.lst []])
      have it2 := (it.nol hn).kq (N := []) (F := []) (kq_new (o := AO.lst [])) (by simp)
      have ch2 := ch.kq (N := []) (F := F) (kq_new (o := AO.lst [])) (by simp)
      have := loopC_ok hg ht he (cs := sr.chks) (dn := h1.length) (hs := h1) (Fi := []) (Fc := F) (acc := []) (xs := []) (G := []) s2 it2 ch2 (by simp) (fun n hn => ⟨l.nb n hn, by have := s.lc l k1.1 n hn; omega⟩) (get_new _ _) RfL.nil List.nodup_nil (by simp) (fun z => by have := p1.lt _ z; omega) (fun i z => by have := s1.lt i _ z; omega) s1.kq.1 rfl Kq.rfl'
      exact this.mono fun d v h' k ⟨F', r, nd, hf⟩ => ⟨F', Rs.of r, fun n hn z => by have := p1.lt n z; have := hf n hn; omega, fun n hn => .inl ⟨by have := hf n hn; have := k1.1; omega, (hf n hn).2⟩, fun _ _ => nd⟩
    · trivial

/-! ### defs -/
def pFn (np n : Nat) (b : Pst) : Pf := fun ds o => if ds.length = np then match b (ds.map some ++ List.replicate (n - ds.length) none) o with
  | .nx _ o' => .ok .non o'
  | .rt d o' => .ok d o'
  | .ex k ns ds _ o' => .ex k ns ds o'
  | _ => .no
  else .no
theorem rsl_rel {B : List Nat} {h : Hh} {ds : List PV} {vs : List AV} (r : RsL B h ds vs) : ∃ φ : Nat → List Nat, (∀ (i : Nat) (d : PV), ds[i]? = some d → ∃ v, vs[i]? = some v ∧ Rs B h d v (φ i)) ∧ (∀ i n, n ∈ φ i → n ∉ B ∧ n < h.length ∧ i < ds.length) := by
  induction r with
  | nil => exact ⟨fun _ => [], by simp, by simp⟩
  | @cons d v ds vs F r hb hl t ih =>
    obtain ⟨φ, h1, h2⟩ := ih
    refine ⟨fun i => match i with | 0 => F | i + 1 => φ i, fun i e he => ?_, fun i n hn => ?_⟩
    · cases i with
      | zero => cases he; exact ⟨v, rfl, r⟩
      | succ i => simpa using h1 i e (by simpa using he)
    · cases i with
      | zero => exact ⟨hb n hn, hl n hn, by simp⟩
      | succ i => have := h2 i n hn; exact ⟨this.1, this.2.1, by simp; omega⟩
theorem sr_start {T : Bool} {B : List Nat} {o : Pool} {h : Hh} {ds : List PV} {vs : List AV} (r : RsL B h ds vs) (pl : PL B h o) (hT : T = true → B = []) (hO : ∀ i ∈ O, ds.length ≤ i) (k : Nat) : ∃ φ, SR T h B O φ (ds.map some ++ List.replicate k none) o (vs.map some ++ List.replicate k none) h := by
  obtain ⟨φ, h1, h2⟩ := rsl_rel r
  have no : ∀ i ∈ O, ∀ n, n ∉ φ i := fun i hi n hn => by have := (h2 i n hn).2.2; have := hO i hi; omega
  refine ⟨φ, { kq := Kq.rfl', pl := pl, own := fun z b hb => absurd hb (by rw [hT z]; simp), len := (by simp [r.len]), rel := fun i d e => ?_, nb := fun i n hn => (h2 i n hn).1, ow := fun i hi => ⟨?_, fun n hn => absurd hn (no i hi n)⟩, dj := fun i hi j _ n hn => absurd hn (no i hi n), lt := fun i n hn => (h2 i n hn).2.1 }⟩
  · by_cases hi : i < ds.length
    · rw [List.getElem?_append_left (by simpa using hi), List.getElem?_map] at e
      obtain ⟨d', e1, e2⟩ := Option.map_eq_some_iff.mp e
      cases e2
      obtain ⟨v, e3, r3⟩ := h1 i d e1
      refine ⟨v, ?_, r3⟩
      rw [List.getElem?_append_left (by rw [List.length_map, ← r.len]; exact hi), List.getElem?_map, e3]
      rfl
    · rw [List.getElem?_append_right (by simpa using Nat.not_lt.mp hi)] at e
      have := List.mem_of_getElem? e
      have := List.eq_of_mem_replicate this
      cases this
  · have : φ i = [] := by
      cases q : φ i with
      | nil => rfl
      | cons a b => exact absurd (by rw [q]; simp) (no i hi a)
    rw [this]; exact List.nodup_nil
theorem sf_fn {np k : Nat} (hO : ∀ i ∈ O, np ≤ i) (hb : SS false O M m p) : SF (mFn k m) (pFn np k p) := fun B o h ds as r pl => by
  unfold pFn
  split
  · rename_i hnp
    obtain ⟨φ, s⟩ := sr_start (T := false) (O := O) r pl (by simp) (fun i hi => by rw [hnp]; exact hO i hi) (k - ds.length)
    have s2 := hb.2 s
    unfold mFn
    rw [r.len] at s2
    rw [r.len]
    revert s2
    cases p (ds.map some ++ List.replicate (k - as.length) none) o with
    | no => exact fun _ => trivial
    | bk ps o => exact fun _ => trivial
    | ct ps o => exact fun _ => trivial
    | nx ps' o' =>
      rintro ⟨sl', h', e, B', φ', s3, k3, f3, t3, b3⟩
      rw [e]
      have := t3 rfl
      subst this
      exact ⟨.non, h', rfl, s3.kq, s3.pl, [], Rf.non, List.nodup_nil, by simp⟩
    | ex x ns es ps' o' =>
      rintro ⟨y, sl', h', e, ⟨B', φ', s3, k3, f3, t3, b3⟩, rx⟩
      rw [e]
      have := t3 rfl
      subst this
      exact ⟨y, h', rfl, s3.kq, s3.pl, rx⟩
    | rt d o' =>
      rintro ⟨v, h', B', F, e, k3, p3, t3, _, r3, nd, hf⟩
      rw [e]
      have := t3 rfl
      subst this
      exact ⟨v, h', rfl, k3, p3, F, r3, nd, hf⟩
  · trivial
/-- a def that makes hidden lists itself: it is called without one, and leaves none -/
def pFnP (np n : Nat) (b : Pst) : Pf := fun ds o => if ds.length = np ∧ o = none then match b (ds.map some ++ List.replicate (n - ds.length) none) none with
  | .nx _ _ => .ok .non none
  | .rt d _ => .ok d none
  | _ => .no
  else .no
theorem sf_fnP {np k : Nat} (hO : ∀ i ∈ O, np ≤ i) (hb : SS true O M m p) : SF (mFn k m) (pFnP np k p) := fun B o h ds as r pl => by
  unfold pFnP
  split
  · rename_i hnp
    obtain ⟨hnp, ho⟩ := hnp
    subst ho
    have hB : B = [] := pl
    subst hB
    obtain ⟨φ, s⟩ := sr_start (T := true) (O := O) r pl (fun _ => rfl) (fun i hi => by rw [hnp]; exact hO i hi) (k - ds.length)
    have s2 := hb.2 s
    unfold mFn
    rw [r.len] at s2
    rw [r.len]
    revert s2
    cases p (ds.map some ++ List.replicate (k - as.length) none) none with
    | no => exact fun _ => trivial
    | bk ps o => exact fun _ => trivial
    | ct ps o => exact fun _ => trivial
    | nx ps' o' =>
      rintro ⟨sl', h', e, B', φ', s3, k3, f3, t3, b3⟩
      rw [e]
      exact ⟨.non, h', rfl, s3.kq.mono fun m hm => .inr (s3.own rfl m hm), rfl, [], Rf.non, List.nodup_nil, by simp⟩
    | ex x ns es ps' o' => exact fun _ => trivial
    | rt d o' =>
      rintro ⟨v, h', B', F, e, k3, p3, t3, w3, r3, nd, hf⟩
      rw [e]
      exact ⟨v, h', rfl, k3.mono fun m hm => .inr (w3 rfl m hm), rfl, F, r3, nd, hf⟩
  · trivial
theorem sf_no {f : Fn} : SF f (fun _ _ => .no) := fun B o h ds as r pl => trivial
/-- the law -/
theorem law_of {m : Fn} {p : Pf} (hs : SF m p) {ns : List Int} {o : Pool} (e : p [.scr ns] none = .ok (.bl true) o) : ∃ h, m [.scr ns] [] = .ok (.bl true) h := by
  have s := hs (B := []) (o := none) (h := []) (ds := [.scr ns]) (as := [.scr ns]) (.cons (F := []) (Rs.of Rf.scr) (by simp) (by simp) .nil) rfl
  rw [e] at s
  obtain ⟨v, h', e1, _, _, F, r, _⟩ := s
  obtain ⟨rfl, _⟩ := r.bl_inv
  exact ⟨h', e1⟩
end Det

/-! Val11: reckoning with readings. -/
namespace Det
open PySem PySem.Spec PyProof.Rows L2
/-- a mark whose type names a value: simp leaves an argument alone that a later argument's type names -/
def Ph {β : Type} (_ : β) : Type := Unit
def ph {β : Type} (b : β) : Ph b := ()
def Wq {α : Type} (r : PR α) (Q : α → Pool → Prop) (_p : Ph Q := ph Q) : Prop := match r with
  | .ok a o => Q a o
  | _ => False
def WO {α : Type} (o : Option α) (Q : α → Prop) (_p : Ph Q := ph Q) : Prop := match o with
  | some a => Q a
  | none => False
structure Ep where
  nx : Ps → Pool → Prop
  rt : PV → Pool → Prop := fun _ _ => False
  bk : Ps → Pool → Prop := fun _ _ => False
  ct : Ps → Pool → Prop := fun _ _ => False
def Ws (r : PS) (D : Ep) (_p : Ph D := ph D) : Prop := match r with
  | .nx s o => D.nx s o
  | .rt v o => D.rt v o
  | .bk s o => D.bk s o
  | .ct s o => D.ct s o
  | _ => False
section
variable {α β : Type} {r : PR α} {k : α → Pool → PR β} {Q : β → Pool → Prop} {D : Ep} {ps : Ps} {o : Pool}
theorem wo_some {a : α} {Q : α → Prop} : WO (some a) Q ↔ Q a := Iff.rfl
theorem wo_none {Q : α → Prop} : WO none Q ↔ False := Iff.rfl
theorem wo_map {γ : Type} {f : α → γ} {x : Option α} {Q : γ → Prop} : WO (x.map f) Q ↔ WO x fun a => Q (f a) := by cases x <;> exact Iff.rfl
theorem wo_if {c : Prop} [Decidable c] {x : Option α} {Q : α → Prop} : WO (if c then x else none) Q ↔ c ∧ WO x Q := by
  split
  · rename_i h; simp [h]
  · rename_i h; simp [h, WO]
theorem wq_ok {a : α} {Q : α → Pool → Prop} : Wq (.ok a o) Q ↔ Q a o := Iff.rfl
theorem wq_no {Q : α → Pool → Prop} : Wq (.no : PR α) Q ↔ False := Iff.rfl
theorem wq_of {x : Option α} {Q : α → Pool → Prop} : Wq (PR.of o x) Q ↔ WO x fun a => Q a o := by cases x <;> exact Iff.rfl
theorem wq_bind : Wq (r.bind k) Q ↔ Wq r fun a o => Wq (k a o) Q := by cases r <;> exact Iff.rfl
theorem wq_only : Wq (r.only k) Q ↔ Wq r fun a o => Wq (k a o) Q := by cases r <;> exact Iff.rfl
theorem wq_bindS {k : α → Pool → PS} : Ws (r.bindS ps k) D ↔ Wq r fun a o => Ws (k a o) D := by cases r <;> exact Iff.rfl
theorem Wq.mono {Q Q' : α → Pool → Prop} (w : Wq r Q) (k : ∀ a o, Q a o → Q' a o) : Wq r Q' := by
  cases r with
  | ok a o => exact k a o w
  | _ => exact w
theorem Wq.ex {Q : α → Pool → Prop} (w : Wq r Q) : ∃ a o, r = .ok a o ∧ Q a o := by
  cases r with
  | ok a o => exact ⟨a, o, rfl, w⟩
  | _ => exact w.elim
theorem Wq.eq {a : α} (w : Wq r fun b o' => b = a ∧ o' = o) : r = .ok a o := by
  obtain ⟨b, o', e, rfl, rfl⟩ := w.ex
  exact e
theorem Wq.of_eq {a : α} {Q : α → Pool → Prop} (e : r = .ok a o) (q : Q a o) : Wq r Q := by rw [e]; exact q
theorem Ws.mono {r : PS} {D D' : Ep} (w : Ws r D) (h1 : ∀ s o, D.nx s o → D'.nx s o) (h2 : ∀ v o, D.rt v o → D'.rt v o) (h3 : ∀ s o, D.bk s o → D'.bk s o) (h4 : ∀ s o, D.ct s o → D'.ct s o) : Ws r D' := by
  cases r with
  | nx s o => exact h1 _ _ w
  | rt s o => exact h2 _ _ w
  | bk s o => exact h3 _ _ w
  | ct s o => exact h4 _ _ w
  | _ => exact w.elim
/-- a loop: what holds ahead of each turn of what is left -/
theorem ploop_wp {g : Pg} {b : Pst} (I : List (List PV) → Ps → Pool → Prop) {D : Ep} (hd : ∀ ps o, I [] ps o → D.nx ps o)
    (hs : ∀ it r ps o, I (it :: r) ps o → WO (g it ps) fun ps1 => Ws (b ps1 o) { nx := I r, ct := I r, bk := D.nx, rt := D.rt }) : ∀ its ps o, I its ps o → Ws (pLoop g b its ps o) D
  | [], ps, o, i => hd _ _ i
  | it :: r, ps, o, i => by
    have w := hs it r ps o i
    unfold pLoop
    cases e : g it ps with
    | none => rw [e] at w; exact w.elim
    | some ps1 =>
      rw [e] at w
      revert w
      show Ws (b ps1 o) _ → Ws (match b ps1 o with
        | .nx ps o => pLoop g b r ps o
        | .ct ps o => pLoop g b r ps o
        | .bk ps o => .nx ps o
        | .rt d o => .rt d o
        | .ex k ns ds ps o => .ex k ns ds ps o
        | .no => .no) D
      cases b ps1 o with
      | nx s o => exact fun w => ploop_wp I hd hs r s o w
      | ct s o => exact fun w => ploop_wp I hd hs r s o w
      | bk s o => exact fun w => w
      | rt v o => exact fun w => w
      | ex _ _ _ _ _ => exact fun w => w.elim
      | no => exact fun w => w.elim
theorem ploopC_wp {psw : Ps} {g : Pg} {t : Pt} {e : Pe} (I : List (List PV) → List PV → Pool → Prop) {Q : PV → Pool → Prop} (hd : ∀ acc o, I [] acc o → Q (.lst acc) o)
    (hs : ∀ it r acc o, I (it :: r) acc o → WO (g it psw) fun ps1 => Wq (t ps1 o) fun b o1 => if b = true then Wq (e ps1 o1) fun d o2 => (acc.length < LINE ∧ isTok d = false) ∧ I r (acc ++ [d]) o2 else I r acc o1) : ∀ its acc o, I its acc o → Wq (pLoopC psw g t e its acc o) Q
  | [], acc, o, i => hd _ _ i
  | it :: r, acc, o, i => by
    have w := hs it r acc o i
    unfold pLoopC
    cases e1 : g it psw with
    | none => rw [e1] at w; exact w.elim
    | some ps1 =>
      rw [e1] at w
      obtain ⟨b, o1, e2, w2⟩ := Wq.ex (show Wq (t ps1 o) _ from w)
      show Wq ((t ps1 o).only _) Q
      rw [e2]
      show Wq (if b = true then _ else _) Q
      cases b with
      | false => exact ploopC_wp I hd hs r _ _ w2
      | true =>
        obtain ⟨d, o2, e3, w3, w4⟩ := Wq.ex (show Wq (e ps1 o1) _ from w2)
        show Wq ((e ps1 o1).only _) Q
        rw [e3]
        show Wq (if acc.length < LINE ∧ isTok d = false then _ else _) Q
        rw [if_pos w3]
        exact ploopC_wp I hd hs r _ _ w4
theorem pwhile_wp {t : Pt} {b : Pst} (I : Nat → Ps → Pool → Prop) {D : Ep}
    (hs : ∀ k ps o, I k ps o → Wq (t ps o) fun x o1 => if x = true then Ws (b ps o1) { nx := fun s o => ∃ k', k' < k ∧ I k' s o, ct := fun s o => ∃ k', k' < k ∧ I k' s o, bk := D.nx, rt := D.rt } else D.nx ps o1) :
    ∀ n k ps o, k < n → I k ps o → Ws (pWhile t b n ps o) D
  | 0, k, ps, o, hk, i => by omega
  | n + 1, k, ps, o, hk, i => by
    have w := hs k ps o i
    show Ws ((t ps o).bindS ps fun x o1 => if x = true then match b ps o1 with
      | .nx ps o => pWhile t b n ps o
      | .ct ps o => pWhile t b n ps o
      | .bk ps o => .nx ps o
      | .rt d o => .rt d o
      | .ex k ns ds ps o => .ex k ns ds ps o
      | .no => .no
    else .nx ps o1) D
    rw [wq_bindS]
    refine w.mono fun x o1 q => ?_
    cases x with
    | false => exact q
    | true =>
      rw [if_pos rfl] at q ⊢
      revert q
      cases b ps o1 with
      | nx s o => exact fun ⟨k', hk', i'⟩ => pwhile_wp I hs n k' s o (by omega) i'
      | ct s o => exact fun ⟨k', hk', i'⟩ => pwhile_wp I hs n k' s o (by omega) i'
      | bk s o => exact fun q => q
      | rt v o => exact fun q => q
      | ex _ _ _ _ _ => exact fun q => q.elim
      | no => exact fun q => q.elim
theorem pfn_wp {np n : Nat} {b : Pst} {ds : List PV} {Q : PV → Pool → Prop} (hl : ds.length = np) (w : Ws (b (ds.map some ++ List.replicate (n - ds.length) none) o) { nx := fun _ o => Q .non o, rt := Q }) : Wq (pFn np n b ds o) Q := by
  unfold pFn
  rw [if_pos hl]
  revert w
  cases b (ds.map some ++ List.replicate (n - ds.length) none) o with
  | nx s o => exact fun w => w
  | rt s o => exact fun w => w
  | _ => exact fun w => w.elim
theorem pfnP_wp {np n : Nat} {b : Pst} {ds : List PV} {Q : PV → Pool → Prop} (hl : ds.length = np) (w : Ws (b (ds.map some ++ List.replicate (n - ds.length) none) none) { nx := fun _ _ => Q .non none, rt := fun v _ => Q v none }) : Wq (pFnP np n b ds none) Q := by
  unfold pFnP
  rw [if_pos ⟨hl, rfl⟩]
  revert w
  cases b (ds.map some ++ List.replicate (n - ds.length) none) none with
  | nx s o => exact fun w => w
  | rt s o => exact fun w => w
  | _ => exact fun w => w.elim
end
section
variable {p q : Pst} {pe pa pb pc : Pe} {ea ka : Pa} {t ta tb : Pt} {ps : Ps} {o : Pool} {D : Ep} {Q : PV → Pool → Prop} {Qb : Bool → Pool → Prop} {i j : Nat} {d : PV}
theorem ws_nx : Ws (.nx ps o) D ↔ D.nx ps o := Iff.rfl
theorem ws_rt : Ws (.rt d o) D ↔ D.rt d o := Iff.rfl
theorem ws_bk : Ws (.bk ps o) D ↔ D.bk ps o := Iff.rfl
theorem ws_ct : Ws (.ct ps o) D ↔ D.ct ps o := Iff.rfl
theorem ws_no : Ws .no D ↔ False := Iff.rfl
theorem ws_seq : Ws (pSeq p q ps o) D ↔ Ws (p ps o) { D with nx := fun s o => Ws (q s o) D } := by
  unfold pSeq
  cases p ps o <;> exact Iff.rfl
theorem ws_skip : Ws (pSkip ps o) D ↔ D.nx ps o := Iff.rfl
theorem ws_break : Ws (pBreak ps o) D ↔ D.bk ps o := Iff.rfl
theorem ws_cont : Ws (pCont ps o) D ↔ D.ct ps o := Iff.rfl
theorem ws_if : Ws (pIf t p q ps o) D ↔ Wq (t ps o) fun x o => if x = true then Ws (p ps o) D else Ws (q ps o) D := by
  unfold pIf
  rw [wq_bindS]
  cases t ps o with
  | ok x o => cases x <;> exact Iff.rfl
  | _ => exact Iff.rfl
theorem ws_ifx {x : Ps → Pool → PR (Bool × Ps)} : Ws (pIfX x p q ps o) D ↔ Wq (x ps o) fun r o => if r.1 = true then Ws (p r.2 o) D else Ws (q r.2 o) D := by
  unfold pIfX
  cases x ps o with
  | ok x o => obtain ⟨x, s⟩ := x; cases x <;> exact Iff.rfl
  | _ => exact Iff.rfl
theorem ws_expr : Ws (pExpr pe ps o) D ↔ Wq (pe ps o) fun _ o => D.nx ps o := by unfold pExpr; rw [wq_bindS]; exact Iff.rfl
theorem ws_ret : Ws (pRet pe ps o) D ↔ Wq (pe ps o) fun d o => isTok d = false ∧ D.rt d o := by
  unfold pRet
  rw [wq_bindS]
  cases pe ps o with
  | ok d o => cases d <;> simp [Wq, Ws, isTok]
  | _ => exact Iff.rfl
theorem ws_retN : Ws (pRetN ps o) D ↔ D.rt .non o := Iff.rfl
theorem ws_set : Ws (pSet i pe ps o) D ↔ Wq (pe ps o) fun d o => D.nx (ps.set i (some d)) o := by unfold pSet; rw [wq_bindS]; exact Iff.rfl
theorem ws_setx {x : Ps → Pool → PR (PV × Ps)} : Ws (pSetX i x ps o) D ↔ Wq (x ps o) fun r o => D.nx (r.2.set i (some r.1)) o := by
  unfold pSetX
  cases x ps o <;> exact Iff.rfl
theorem wq_cg {α : Type} {r : PR α} {Q Q' : α → Pool → Prop} (h : ∀ a o, Q a o ↔ Q' a o) : Wq r Q ↔ Wq r Q' := by
  cases r with
  | ok a o => exact h a o
  | _ => exact Iff.rfl
theorem ws_par : Ws (pPar i j pa pb ps o) D ↔ Wq (pa ps o) fun d o1 => Wq (pb ps o1) fun e o2 => D.nx ((ps.set i (some d)).set j (some e)) o2 := by unfold pPar; rw [wq_bindS]; refine wq_cg fun _ _ => ?_; rw [wq_bindS]; exact Iff.rfl
theorem ws_asg {g : Pg} : Ws (pAsg g pe ps o) D ↔ Wq (pe ps o) fun d o1 => isTok d = false ∧ WO (g [d] ps) fun s => D.nx s o1 := by
  unfold pAsg
  rw [wq_bindS]
  cases pe ps o with
  | ok d o =>
    cases d <;> first
      | simp [Wq, Ws, isTok]; done
      | (show Ws (match g [_] ps with | some ps' => .nx ps' o | none => .no) D ↔ (isTok _ = false ∧ WO (g [_] ps) fun s => D.nx s o)
         cases g [_] ps <;> simp [Ws, WO, isTok])
  | _ => exact Iff.rfl
theorem ws_aug {g : Vo2} {x : PV} (e : ps[i]? = some (some x)) : Ws (pAug i g pe ps o) D ↔ Wq (pe ps o) fun y o1 => WO (g x y) fun z => z.noL = true ∧ D.nx (ps.set i (some z)) o1 := by
  unfold pAug
  rw [e]
  show Ws ((pe ps o).bindS ps _) D ↔ _
  rw [wq_bindS]
  cases pe ps o with
  | ok y o1 =>
    show Ws (match g x y with | some z => if z.noL = true then .nx (ps.set i (some z)) o1 else .no | none => .no) D ↔ WO (g x y) _
    cases g x y with
    | none => exact Iff.rfl
    | some z =>
      show Ws (if z.noL = true then _ else _) D ↔ (z.noL = true ∧ D.nx (ps.set i (some z)) o1)
      split
      · rename_i h; simp [Ws, h]
      · rename_i h; simp [Ws, h]
  | _ => exact Iff.rfl
def pApp1 (i : Nat) (o : Option (Option PV)) (pe : Pe) (ps : Ps) (D : Ep) (op : Pool) : Prop := match o with
  | some (some (.lst xs)) => Wq (pe ps op) fun d o1 => (xs.length < LINE ∧ isTok d = false) ∧ D.nx (ps.set i (some (.lst (xs ++ [d])))) o1
  | _ => False
theorem ws_app : Ws (pApp i pe ps o) D ↔ pApp1 i ps[i]? pe ps D o := by
  unfold pApp pApp1
  split
  · rename_i xs e
    try rw [e]
    show Ws ((pe ps o).bindS ps _) D ↔ _
    rw [wq_bindS]
    cases pe ps o with
    | ok d o1 =>
      show Ws (if _ then _ else _) D ↔ (_ ∧ _)
      split
      · rename_i h; simp [Ws, h]
      · rename_i h; simp only [Ws, h, false_and]
    | _ => exact Iff.rfl
  · rename_i h
    first
    | exact Iff.rfl
    | (split
       · rename_i xs e; exact absurd e (h _)
       · exact Iff.rfl)
theorem papp1 {xs : List PV} {op : Pool} : pApp1 i (some (some (.lst xs))) pe ps D op ↔ Wq (pe ps op) fun d o1 => (xs.length < LINE ∧ isTok d = false) ∧ D.nx (ps.set i (some (.lst (xs ++ [d])))) o1 := Iff.rfl
def pExt1 (i : Nat) (o : Option (Option PV)) (pe : Pe) (ps : Ps) (D : Ep) (op : Pool) : Prop := match o with
  | some (some (.lst xs)) => Wq (pe ps op) fun d o1 => ∃ ys, d = .lst ys ∧ (xs.length + ys.length ≤ LINE ∧ PV.noLs ys = true) ∧ D.nx (ps.set i (some (.lst (xs ++ ys)))) o1
  | _ => False
theorem ws_ext : Ws (pExt i pe ps o) D ↔ pExt1 i ps[i]? pe ps D o := by
  unfold pExt pExt1
  split
  · rename_i xs e
    try rw [e]
    show Ws ((pe ps o).bindS ps _) D ↔ _
    rw [wq_bindS]
    cases pe ps o with
    | ok d o1 =>
      cases d <;> first
        | (show False ↔ ∃ ys, _; simp; done)
        | (rename_i ys
           show Ws (if _ then _ else _) D ↔ ∃ zs, PV.lst ys = .lst zs ∧ _
           split
           · rename_i h; simp [Ws, h]
           · rename_i h; simp [Ws, h])
        | simp [Wq, Ws]
    | _ => exact Iff.rfl
  · rename_i h
    first
    | exact Iff.rfl
    | (split
       · rename_i xs e; exact absurd e (h _)
       · exact Iff.rfl)
theorem pext1 {xs : List PV} {op : Pool} : pExt1 i (some (some (.lst xs))) pe ps D op ↔ Wq (pe ps op) fun d o1 => ∃ ys, d = .lst ys ∧ (xs.length + ys.length ≤ LINE ∧ PV.noLs ys = true) ∧ D.nx (ps.set i (some (.lst (xs ++ ys)))) o1 := Iff.rfl
def pMut1 (i : Nat) (o : Option (Option PV)) (f : List PV → Option (List PV)) (ps : Ps) (D : Ep) (op : Pool) : Prop := match o with
  | some (some (.lst xs)) => WO (f xs) fun ys => PV.noLs xs = true ∧ D.nx (ps.set i (some (.lst ys))) op
  | _ => False
theorem ws_mut {f : List PV → Option (List PV)} : Ws (pMut i f ps o) D ↔ pMut1 i ps[i]? f ps D o := by
  unfold pMut pMut1
  split
  · rename_i xs e
    try rw [e]
    try simp only
    cases f xs with
    | none => exact Iff.rfl
    | some ys =>
      show Ws (if _ then _ else _) D ↔ (_ ∧ _)
      split
      · rename_i h; simp [Ws, h]
      · rename_i h; simp [Ws, h]
  · rename_i h
    first
    | exact Iff.rfl
    | (split
       · rename_i xs e; exact absurd e (h _)
       · exact Iff.rfl)
theorem pmut1 {xs : List PV} {f : List PV → Option (List PV)} {op : Pool} : pMut1 i (some (some (.lst xs))) f ps D op ↔ WO (f xs) fun ys => PV.noLs xs = true ∧ D.nx (ps.set i (some (.lst ys))) op := Iff.rfl
def pStore1 (x : Nat) (dx : Option (Option PV)) (d j : PV) (ps : Ps) (D : Ep) (op : Pool) : Prop := match dx with
  | some (some e) => WO (vPut e j d) fun r => D.nx (ps.set x (some r)) op
  | _ => False
theorem pstore1 {x : Nat} {e d j : PV} {op : Pool} : pStore1 x (some (some e)) d j ps D op ↔ WO (vPut e j d) fun r => D.nx (ps.set x (some r)) op := Iff.rfl
theorem ws_store {x : Nat} {pi : Pe} : Ws (pStore x pi pe ps o) D ↔ Wq (pe ps o) fun d o1 => Wq (pi ps o1) fun j o2 => pStore1 x ps[x]? d j ps D o2 := by
  unfold pStore
  rw [wq_bindS]
  cases pe ps o with
  | ok d o1 =>
    show Ws (match ps[x]? with
      | some (some dx) => match pi ps o1 with
        | .ok j o2 => match vPut dx j d with
          | some r => .nx (ps.set x (some r)) o2
          | none => .no
        | _ => .no
      | _ => .no) D ↔ Wq (pi ps o1) fun j o2 => pStore1 x ps[x]? d j ps D o2
    unfold pStore1
    cases ps[x]? with
    | none => cases pi ps o1 <;> exact Iff.rfl
    | some dz => cases dz with
      | none => cases pi ps o1 <;> exact Iff.rfl
      | some dx =>
        cases pi ps o1 with
        | ok j o2 =>
          show Ws (match vPut dx j d with | some r => .nx (ps.set x (some r)) o2 | none => .no) D ↔ WO (vPut dx j d) _
          cases vPut dx j d <;> exact Iff.rfl
        | _ => exact Iff.rfl
  | _ => exact Iff.rfl
theorem ws_storex {x : Nat} {pi : Pe} {a : Ps → Pool → PR (PV × Ps)} : Ws (pStoreX x pi a ps o) D ↔ Wq (a ps o) fun r o1 => Wq (pi r.2 o1) fun j o2 => pStore1 x r.2[x]? r.1 j r.2 D o2 := by
  unfold pStoreX
  cases a ps o with
  | ok d o1 =>
    obtain ⟨d, ps1⟩ := d
    show Ws (match ps1[x]? with
      | some (some dx) => match pi ps1 o1 with
        | .ok j o2 => match vPut dx j d with
          | some r => .nx (ps1.set x (some r)) o2
          | none => .no
        | _ => .no
      | _ => .no) D ↔ Wq (pi ps1 o1) fun j o2 => pStore1 x ps1[x]? d j ps1 D o2
    unfold pStore1
    cases ps1[x]? with
    | none => cases pi ps1 o1 <;> exact Iff.rfl
    | some dz => cases dz with
      | none => cases pi ps1 o1 <;> exact Iff.rfl
      | some dx =>
        cases pi ps1 o1 with
        | ok j o2 =>
          show Ws (match vPut dx j d with | some r => .nx (ps1.set x (some r)) o2 | none => .no) D ↔ WO (vPut dx j d) _
          cases vPut dx j d <;> exact Iff.rfl
        | _ => exact Iff.rfl
  | _ => exact Iff.rfl
theorem ws_for {src : Pi} {g : Pg} : Ws (pFor src g p ps o) D ↔ Wq (src ps o) fun its o1 => Ws (pLoop g p its ps o1) D := by unfold pFor; rw [wq_bindS]
theorem ws_forN {src : Pi} {g : Pg} : Ws (pForN src g p ps o) D ↔ Wq (src ps o) fun its o1 => its.all PV.noLs = true ∧ Ws (pLoop g p its ps o1) D := by
  unfold pForN
  rw [wq_bindS]
  cases src ps o with
  | ok its o1 =>
    show Ws (if _ then _ else _) D ↔ (_ ∧ _)
    split
    · rename_i h; simp [h]
    · rename_i h; simp only [Ws, h, false_and]; simp
  | _ => exact Iff.rfl
theorem wq_C : Wq (pC d ps o) Q ↔ Q d o := Iff.rfl
theorem wq_n : Wq (pN pe ps o) Q ↔ Wq (pe ps o) fun d o => d.noL = true ∧ Q d o := by
  unfold pN
  rw [wq_bind]
  cases pe ps o with
  | ok d o =>
    show Wq (if _ then _ else _) Q ↔ (_ ∧ _)
    split
    · rename_i h; simp [h, Wq]
    · rename_i h; simp [h, Wq]
  | _ => exact Iff.rfl
theorem wq_bin {f : Vo2} : Wq (pBin f pa pb ps o) Q ↔ Wq (pa ps o) fun x o1 => Wq (pb ps o1) fun y o2 => WO (f x y) fun z => Q z o2 := by unfold pBin; rw [wq_bind]; refine wq_cg fun _ _ => ?_; rw [wq_bind]; exact wq_cg fun _ _ => wq_of
theorem wq_un {f : PV → Option PV} : Wq (pUn f pa ps o) Q ↔ Wq (pa ps o) fun x o1 => WO (f x) fun z => Q z o1 := by unfold pUn; rw [wq_bind]; exact wq_cg fun _ _ => wq_of
theorem wq_b1 {f : List PV → Option PV} : Wq (pB1 f ea ps o) Q ↔ Wq (ea ps o) fun x o1 => WO (f x) fun z => Q z o1 := by unfold pB1; rw [wq_bind]; exact wq_cg fun _ _ => wq_of
theorem wq_nil {Q : List PV → Pool → Prop} : Wq (pNil ps o) Q ↔ Q [] o := Iff.rfl
theorem wq_cons {Q : List PV → Pool → Prop} : Wq (pCons pe ea ps o) Q ↔ Wq (pe ps o) fun v o1 => Wq (ea ps o1) fun vs o2 => Q (v :: vs) o2 := by unfold pCons; rw [wq_bind]; refine wq_cg fun _ _ => ?_; rw [wq_bind]; exact Iff.rfl
theorem wq_consD {Q : List PV → Pool → Prop} : Wq (pConsD pe ea ps o) Q ↔ Wq (pe ps o) fun v o1 => Wq (ea ps o1) fun vs o2 => isTok v = false ∧ Q (v :: vs) o2 := by
  unfold pConsD
  rw [wq_bind]
  cases pe ps o with
  | ok d o1 =>
    show Wq (PR.bind (ea ps o1) _) _ ↔ _
    rw [wq_bind]
    show Wq (ea ps o1) _ ↔ Wq (ea ps o1) _
    cases ea ps o1 with
    | ok ds o2 => cases d <;> simp [Wq, isTok]
    | _ => exact Iff.rfl
  | _ => exact Iff.rfl
theorem wq_tup : Wq (pTup ea ps o) Q ↔ Wq (ea ps o) fun vs o1 => vs.length ≤ LINE ∧ Q (.tup vs) o1 := by
  unfold pTup
  rw [wq_bind]
  cases ea ps o with
  | ok vs o1 =>
    show Wq (if vs.length ≤ LINE then _ else _) Q ↔ (vs.length ≤ LINE ∧ _)
    split
    · rename_i hl; simp [hl, Wq]
    · rename_i hl; simp [hl, Wq]
  | _ => exact Iff.rfl
theorem wq_lst : Wq (pLst ea ps o) Q ↔ Wq (ea ps o) fun vs o1 => vs.length ≤ LINE ∧ Q (.lst vs) o1 := by
  unfold pLst
  rw [wq_bind]
  cases ea ps o with
  | ok vs o1 =>
    show Wq (if vs.length ≤ LINE then _ else _) Q ↔ (vs.length ≤ LINE ∧ _)
    split
    · rename_i hl; simp [hl, Wq]
    · rename_i hl; simp [hl, Wq]
  | _ => exact Iff.rfl
theorem wq_B : Wq (pB pe ps o) Qb ↔ Wq (pe ps o) fun v o1 => ∃ b, v = .bl b ∧ Qb b o1 := by
  unfold pB
  rw [wq_bind]
  cases pe ps o with
  | ok v o1 => cases v <;> simp [Wq]
  | _ => exact Iff.rfl
theorem wq_andV : Wq (pAndV pa pb ps o) Q ↔ Wq (pa ps o) fun v o1 => ∃ b, v = .bl b ∧ if b = true then Wq (pb ps o1) Q else Q (.bl false) o1 := by
  unfold pAndV
  rw [wq_bind]
  cases pa ps o with
  | ok v o1 => cases v with
    | bl b => cases b <;> simp [Wq]
    | _ => simp [Wq]
  | _ => exact Iff.rfl
theorem wq_orV : Wq (pOrV pa pb ps o) Q ↔ Wq (pa ps o) fun v o1 => ∃ b, v = .bl b ∧ if b = true then Q (.bl true) o1 else Wq (pb ps o1) Q := by
  unfold pOrV
  rw [wq_bind]
  cases pa ps o with
  | ok v o1 => cases v with
    | bl b => cases b <;> simp [Wq]
    | _ => simp [Wq]
  | _ => exact Iff.rfl
theorem wq_notV : Wq (pNotV pa ps o) Q ↔ Wq (pa ps o) fun v o1 => ∃ b, v = .bl b ∧ Q (.bl (!b)) o1 := by
  unfold pNotV
  rw [wq_bind]
  cases pa ps o with
  | ok v o1 => cases v <;> simp [Wq]
  | _ => exact Iff.rfl
theorem wq_and : Wq (pAnd ta tb ps o) Qb ↔ Wq (ta ps o) fun b o1 => if b = true then Wq (tb ps o1) Qb else Qb false o1 := by
  unfold pAnd
  rw [wq_bind]
  cases ta ps o with
  | ok b o1 => cases b <;> exact Iff.rfl
  | _ => exact Iff.rfl
theorem wq_or : Wq (pOr ta tb ps o) Qb ↔ Wq (ta ps o) fun b o1 => if b = true then Qb true o1 else Wq (tb ps o1) Qb := by
  unfold pOr
  rw [wq_bind]
  cases ta ps o with
  | ok b o1 => cases b <;> exact Iff.rfl
  | _ => exact Iff.rfl
theorem wq_not : Wq (pNot ta ps o) Qb ↔ Wq (ta ps o) fun b o1 => Qb (!b) o1 := by unfold pNot; rw [wq_bind]; exact Iff.rfl
theorem wq_ifE : Wq (pIfE t pa pb ps o) Q ↔ Wq (t ps o) fun b o1 => if b = true then Wq (pa ps o1) Q else Wq (pb ps o1) Q := by
  unfold pIfE
  rw [wq_bind]
  cases t ps o with
  | ok b o1 => cases b <;> exact Iff.rfl
  | _ => exact Iff.rfl
theorem wq_yes : Wq (pYes ps o) Qb ↔ Qb true o := Iff.rfl
theorem wq_chain {f g : Vo2} : Wq (pChain f g pa pb pc ps o) Q ↔ Wq (pa ps o) fun x o1 => Wq (pb ps o1) fun y o2 => WO (f x y) fun r => ∃ b, r = .bl b ∧ if b = true then Wq (pc ps o2) fun z o3 => WO (g y z) fun w => Q w o3 else Q (.bl false) o2 := by
  unfold pChain
  rw [wq_bind]
  cases pa ps o with
  | ok x o1 =>
    show Wq (PR.bind (pb ps o1) _) _ ↔ _
    rw [wq_bind]
    show Wq (pb ps o1) _ ↔ Wq (pb ps o1) _
    cases pb ps o1 with
    | ok y o2 =>
      show Wq (PR.bind (PR.of o2 (f x y)) _) Q ↔ WO (f x y) _
      rw [wq_bind]
      show Wq (PR.of o2 (f x y)) _ ↔ WO (f x y) _
      cases f x y with
      | none => exact Iff.rfl
      | some r => cases r with
        | bl b => cases b with
          | false => simp [Wq, WO, PR.of]
          | true =>
            show Wq ((pc ps o2).bind fun z o4 => PR.of o4 (g y z)) Q ↔ ∃ b, PV.bl true = .bl b ∧ if b = true then Wq (pc ps o2) (fun z o3 => WO (g y z) fun w => Q w o3) else Q (.bl false) o2
            rw [wq_bind]; exact (wq_cg fun _ _ => wq_of).trans (by simp)
        | _ => simp [Wq, WO, PR.of]
    | _ => exact Iff.rfl
  | _ => exact Iff.rfl
theorem wq_call {f : Pf} : Wq (pCall f ea ps o) Q ↔ Wq (ea ps o) fun vs o1 => Wq (f vs o1) Q := by unfold pCall; rw [wq_bind]
theorem wq_callK {f : Pf} {pp : List Nat} {n k : Nat} : Wq (pCallK f pp n k ea ka ps o) Q ↔ Wq (ea ps o) fun vs o1 => Wq (ka ps o1) fun zs o2 => (perm pp n k vs zs).length = pp.length ∧ Wq (f (perm pp n k vs zs) o2) Q := by
  unfold pCallK
  rw [wq_bind]
  cases ea ps o with
  | ok vs o1 =>
    show Wq (PR.bind (ka ps o1) _) _ ↔ _
    rw [wq_bind]
    show Wq (ka ps o1) _ ↔ Wq (ka ps o1) _
    cases ka ps o1 with
    | ok zs o2 =>
      show Wq (if _ then _ else _) Q ↔ (_ ∧ _)
      split
      · rename_i h; simp [h]
      · rename_i h; simp [h, Wq]
    | _ => exact Iff.rfl
  | _ => exact Iff.rfl
theorem wq_callP {f : Pf} : Wq (pCallP f pe ea ps o) Q ↔ Wq (pe ps o) fun d o1 => Wq (ea ps o1) fun ds o2 => WO ((match d with | .lst es => some es | _ => none).bind pints) fun xs => Wq (f (.tok :: ds) (some xs)) fun z _ => Q z o2 := by
  unfold pCallP
  rw [wq_bind]
  cases pe ps o with
  | ok d o1 =>
    show Wq (PR.bind (ea ps o1) _) _ ↔ _
    rw [wq_bind]
    show Wq (ea ps o1) _ ↔ Wq (ea ps o1) _
    cases ea ps o1 with
    | ok ds o2 =>
      cases d with
      | lst es =>
        show Wq (match pints es with | some xs => _ | none => .no) Q ↔ WO (pints es) _
        cases pints es with
        | none => exact Iff.rfl
        | some xs =>
          show Wq (match f (.tok :: ds) (some xs) with | .ok z _ => .ok z o2 | _ => .no) Q ↔ Wq (f (.tok :: ds) (some xs)) _
          cases f (.tok :: ds) (some xs) <;> exact Iff.rfl
      | _ => exact Iff.rfl
    | _ => exact Iff.rfl
  | _ => exact Iff.rfl
theorem wq_meth {T : String} {g : PV → List PV → Option PV} : Wq (pMeth T g pe ea ps o) Q ↔ Wq (pe ps o) fun d o1 => isPT T d = true ∧ Wq (ea ps o1) fun ds o2 => WO (g d ds) fun z => Q z o2 := by
  unfold pMeth
  rw [wq_bind]
  cases pe ps o with
  | ok d o1 =>
    show Wq (if _ then _ else _) Q ↔ (_ ∧ _)
    split
    · rename_i h; rw [wq_bind]; exact (wq_cg fun _ _ => wq_of).trans ⟨fun q => ⟨h, q⟩, fun q => q.2⟩
    · rename_i h; simp [h, Wq]
  | _ => exact Iff.rfl
theorem wq_iter {Q : List (List PV) → Pool → Prop} : Wq (pIter pe ps o) Q ↔ Wq (pe ps o) fun d o1 => WO (pSrc d) fun its => Q its o1 := by unfold pIter; rw [wq_bind]; exact wq_cg fun _ _ => wq_of
theorem wq_enum {Q : List (List PV) → Pool → Prop} : Wq (pEnum pe ps o) Q ↔ Wq (pe ps o) fun d o1 => WO (pEnumS d) fun its => Q its o1 := by unfold pEnum; rw [wq_bind]; exact wq_cg fun _ _ => wq_of
theorem wq_range1 {Q : List (List PV) → Pool → Prop} : Wq (pRange1 pe ps o) Q ↔ Wq (pe ps o) fun d o1 => ∃ j, d = .int j ∧ small60 j = true ∧ Q (rangeP 0 j.toNat) o1 := by
  unfold pRange1
  rw [wq_bind]
  cases pe ps o with
  | ok d o1 => cases d with
    | int j =>
      show Wq (if _ then _ else _) Q ↔ _
      split
      · rename_i h; simp [h, Wq]
      · rename_i h; simp [h, Wq]
    | _ => simp [Wq]
  | _ => exact Iff.rfl
theorem wq_range2 {Q : List (List PV) → Pool → Prop} : Wq (pRange2 pa pb ps o) Q ↔ Wq (pa ps o) fun d o1 => Wq (pb ps o1) fun e o2 => ∃ i j, d = .int i ∧ e = .int j ∧ (small60 i = true ∧ small60 j = true) ∧ Q (rangeP i (j - i).toNat) o2 := by
  unfold pRange2
  rw [wq_bind]
  cases pa ps o with
  | ok d o1 =>
    show Wq (PR.bind (pb ps o1) _) _ ↔ _
    rw [wq_bind]
    show Wq (pb ps o1) _ ↔ Wq (pb ps o1) _
    cases pb ps o1 with
    | ok e o2 =>
      cases d with
      | int i => cases e with
        | int j =>
          show Wq (if _ then _ else _) Q ↔ _
          split
          · rename_i h
            rw [Bool.and_eq_true] at h
            simp [h, Wq]
          · rename_i h
            rw [Bool.and_eq_true] at h
            simp [Wq]
            intro a b
            exact absurd ⟨a, b⟩ h
        | _ => simp [Wq]
      | _ => simp [Wq]
    | _ => exact Iff.rfl
  | _ => exact Iff.rfl
theorem wq_range3 {Q : List (List PV) → Pool → Prop} : Wq (pRange3 pa pb pc ps o) Q ↔ Wq (pa ps o) fun d o1 => Wq (pb ps o1) fun e o2 => Wq (pc ps o2) fun f o3 => ∃ i j, d = .int i ∧ e = .int j ∧ f = .int (-1) ∧ (small60 i = true ∧ small60 j = true) ∧ Q ((List.range (i - j).toNat).map fun (k : Nat) => [.int (i + (k : Int) * (-1))]) o3 := by
  unfold pRange3
  rw [wq_bind]
  cases pa ps o with
  | ok d o1 =>
    show Wq (PR.bind (pb ps o1) _) _ ↔ _
    rw [wq_bind]
    show Wq (pb ps o1) _ ↔ Wq (pb ps o1) _
    cases pb ps o1 with
    | ok e o2 =>
      show Wq (PR.bind (pc ps o2) _) _ ↔ _
      rw [wq_bind]
      show Wq (pc ps o2) _ ↔ Wq (pc ps o2) _
      cases pc ps o2 with
      | ok f o3 =>
        cases d with
        | int i => cases e with
          | int j => cases f with
            | int k =>
              show Wq (if _ then _ else _) Q ↔ _
              split
              · rename_i h
                rw [Bool.and_eq_true, Bool.and_eq_true, decide_eq_true_eq] at h
                simp [h, Wq]
              · rename_i h
                rw [Bool.and_eq_true, Bool.and_eq_true, decide_eq_true_eq] at h
                simp [Wq]
                intro a b c
                exact absurd ⟨⟨b, c⟩, a⟩ h
            | _ => simp [Wq]
          | _ => simp [Wq]
        | _ => simp [Wq]
      | _ => exact Iff.rfl
    | _ => exact Iff.rfl
  | _ => exact Iff.rfl
theorem wq_zipL {Q : List (List PV) → Pool → Prop} : Wq (pZip pa pb ps o) Q ↔ Wq (pa ps o) fun d o1 => Wq (pb ps o1) fun e o2 => ∃ xs ys, pseq d = some xs ∧ pseq e = some ys ∧ (pls d).isSome = (pls e).isSome ∧ Q (zipP xs ys) o2 := by
  unfold pZip
  rw [wq_bind]
  cases pa ps o with
  | ok d o1 =>
    show Wq (PR.bind (pb ps o1) _) _ ↔ _
    rw [wq_bind]
    show Wq (pb ps o1) _ ↔ Wq (pb ps o1) _
    cases pb ps o1 with
    | ok e o2 =>
      show Wq (match pseq d, pseq e with | some xs, some ys => _ | _, _ => _) Q ↔ ∃ xs ys, pseq d = some xs ∧ pseq e = some ys ∧ _
      cases pseq d with
      | none => simp [Wq]
      | some xs => cases pseq e with
        | none => simp [Wq]
        | some ys => cases (pls d).isSome <;> cases (pls e).isSome <;> simp [Wq]
    | _ => exact Iff.rfl
  | _ => exact Iff.rfl
theorem wq_slice {pl ph : Po} : Wq (pSlice pe pl ph ps o) Q ↔ Wq (pe ps o) fun x o1 => Wq (pl ps o1) fun l o2 => Wq (ph ps o2) fun u o3 => WO (vSlice x l u) fun z => Q z o3 := by unfold pSlice; rw [wq_bind]; refine wq_cg fun _ _ => ?_; rw [wq_bind]; refine wq_cg fun _ _ => ?_; rw [wq_bind]; exact wq_cg fun _ _ => wq_of
theorem wq_noO {Q : Option Int → Pool → Prop} : Wq (pNo ps o) Q ↔ Q none o := Iff.rfl
theorem wq_someO {Q : Option Int → Pool → Prop} : Wq (pSome pe ps o) Q ↔ Wq (pe ps o) fun d o1 => ∃ i, d = .int i ∧ Q (some i) o1 := by
  unfold pSome
  rw [wq_bind]
  cases pe ps o with
  | ok d o1 => cases d <;> simp [Wq]
  | _ => exact Iff.rfl
theorem wq_isi {ts : List Ty} : Wq (pIsi ts pe ps o) Q ↔ Wq (pe ps o) fun d o1 => WO (pty d) fun t => Q (.bl (ts.any fun u => t.sub u)) o1 := by
  unfold pIsi
  rw [wq_bind]
  cases pe ps o with
  | ok d o1 =>
    show Wq (match pty d with | some t => _ | none => .no) Q ↔ WO (pty d) _
    cases pty d <;> exact Iff.rfl
  | _ => exact Iff.rfl
theorem wq_revL : Wq (pRevL pe ps o) Q ↔ Wq (pe ps o) fun d o1 => WO (pls d) fun xs => PV.noLs xs = true ∧ Q (.lst xs.reverse) o1 := by
  unfold pRevL
  rw [wq_bind]
  cases pe ps o with
  | ok d o1 =>
    show Wq (match pls d with | some xs => _ | none => .no) Q ↔ WO (pls d) _
    cases pls d with
    | none => exact Iff.rfl
    | some xs =>
      show Wq (if _ then _ else _) Q ↔ (_ ∧ _)
      split
      · rename_i h; simp [h, Wq]
      · rename_i h; simp [h, Wq]
  | _ => exact Iff.rfl
theorem wq_lc {src : Pi} {vs : List Nat} {g : Pg} : Wq (pLc src vs g t pe ps o) Q ↔ Wq (src ps o) fun its o1 => Wq (pLoopC (pwipe ps vs) g t pe its [] o1) Q := by unfold pLc; rw [wq_bind]
theorem wq_lcN {src : Pi} {vs : List Nat} {g : Pg} : Wq (pLcN src vs g t pe ps o) Q ↔ Wq (src ps o) fun its o1 => its.all PV.noLs = true ∧ Wq (pLoopC (pwipe ps vs) g t pe its [] o1) Q := by
  unfold pLcN
  rw [wq_bind]
  cases src ps o with
  | ok its o1 =>
    show Wq (if _ then _ else _) Q ↔ (_ ∧ _)
    split
    · rename_i h; simp [h]
    · rename_i h; simp only [h, false_and, Wq]; simp
  | _ => exact Iff.rfl
def pPop1 (x : Nat) (e : Option (Option PV)) (ps : Ps) (o : Pool) (Q : PV × Ps → Pool → Prop) : Prop := match e with
  | some (some (.lst xs)) => WO xs.getLast? fun d => PV.noLs xs = true ∧ Q (d, ps.set x (some (.lst xs.dropLast))) o
  | _ => False
theorem ppop1 {x : Nat} {xs : List PV} {Q : PV × Ps → Pool → Prop} : pPop1 x (some (some (.lst xs))) ps o Q ↔ WO xs.getLast? fun d => PV.noLs xs = true ∧ Q (d, ps.set x (some (.lst xs.dropLast))) o := Iff.rfl
theorem wq_pop {Q : PV × Ps → Pool → Prop} {x : Nat} : Wq (pPop x ps o) Q ↔ pPop1 x ps[x]? ps o Q := by
  unfold pPop pPop1
  split
  · rename_i xs e
    try rw [e]
    show Wq (match xs.getLast? with | some d => _ | none => .no) Q ↔ WO xs.getLast? _
    cases xs.getLast? with
    | none => exact Iff.rfl
    | some d =>
      show Wq (if _ then _ else _) Q ↔ (_ ∧ _)
      split
      · rename_i h; simp [h, Wq]
      · rename_i h; simp [h, Wq]
  · rename_i h
    first
    | exact Iff.rfl
    | (split
       · rename_i xs e; exact absurd e (h _)
       · exact Iff.rfl)
theorem wq_binx {Q : PV × Ps → Pool → Prop} {g : Vo2} {a : Ps → Pool → PR (PV × Ps)} : Wq (pBinX g a pb ps o) Q ↔ Wq (a ps o) fun r o1 => Wq (pb r.2 o1) fun e o2 => WO (g r.1 e) fun z => z.noL = true ∧ Q (z, r.2) o2 := by
  unfold pBinX
  cases a ps o with
  | ok r o1 =>
    obtain ⟨d, ps1⟩ := r
    show Wq (match pb ps1 o1 with | .ok e o2 => _ | _ => .no) Q ↔ Wq (pb ps1 o1) _
    cases pb ps1 o1 with
    | ok e o2 =>
      show Wq (match g d e with | some r => _ | none => .no) Q ↔ WO (g d e) _
      cases g d e with
      | none => exact Iff.rfl
      | some z =>
        show Wq (if _ then _ else _) Q ↔ (_ ∧ _)
        split
        · rename_i h; simp [h, Wq]
        · rename_i h; simp [h, Wq]
    | _ => exact Iff.rfl
  | _ => exact Iff.rfl
theorem wq_bx {Q : Bool × Ps → Pool → Prop} {a : Ps → Pool → PR (PV × Ps)} : Wq (pBX a ps o) Q ↔ Wq (a ps o) fun r o1 => ∃ b, r.1 = .bl b ∧ Q (b, r.2) o1 := by
  unfold pBX
  cases a ps o with
  | ok r o1 =>
    obtain ⟨d, ps1⟩ := r
    cases d <;> simp [Wq]
  | _ => exact Iff.rfl
theorem wq_orx {Q : Bool × Ps → Pool → Prop} {b : Ps → Pool → PR (Bool × Ps)} : Wq (pOrX ta b ps o) Q ↔ Wq (ta ps o) fun x o1 => if x = true then Q (true, ps) o1 else Wq (b ps o1) Q := by
  unfold pOrX
  cases ta ps o with
  | ok x o1 => cases x <;> simp [Wq]
  | _ => exact Iff.rfl
theorem wq_tokIx {k : Int} : Wq (pTokIx i k ps o) Q ↔ ps[i]? = some (some .tok) ∧ WO o fun xs => WO (atA xs k) fun z => Q (.int z) o := by
  unfold pTokIx
  split
  · rename_i e
    simp only [e, true_and]
    cases o with
    | none => exact Iff.rfl
    | some xs =>
      show Wq (match atA xs k with | some z => _ | none => .no) Q ↔ WO (atA xs k) _
      cases atA xs k <;> exact Iff.rfl
  · rename_i h
    constructor
    · exact fun q => q.elim
    · exact fun q => absurd q.1 h
theorem ws_tokSet {k : Nat} : Ws (pTokSet i k pe ps o) D ↔ Wq (pe ps o) fun d o1 => ps[i]? = some (some .tok) ∧ WO o1 fun xs => ∃ z, d = .int z ∧ k < xs.length ∧ D.nx ps (some (xs.set k z)) := by
  unfold pTokSet
  rw [wq_bindS]
  cases pe ps o with
  | ok d o1 =>
    show Ws (match ps[i]? with | some (some .tok) => _ | _ => .no) D ↔ (ps[i]? = some (some .tok) ∧ _)
    split
    · rename_i e
      simp only [e, true_and]
      cases o1 with
      | none => exact Iff.rfl
      | some xs =>
        cases d with
        | int z =>
          show Ws (if _ then _ else _) D ↔ ∃ z', PV.int z = .int z' ∧ _
          split
          · rename_i h; simp [h, Ws]
          · rename_i h; simp [h, Ws]
        | _ => simp [Ws, WO]
    · rename_i h
      constructor
      · exact fun q => q.elim
      · exact fun q => absurd q.1 h
  | _ => exact Iff.rfl
theorem ws_pool : Ws (pPool i pe ps o) D ↔ Wq (pe ps o) fun d o1 => WO ((match d with | .lst es => some es | _ => none).bind pints) fun xs => (ps.set i none).all ntO = true ∧ D.nx (ps.set i (some .tok)) (some xs) := by
  unfold pPool
  rw [wq_bindS]
  cases pe ps o with
  | ok d o1 =>
    cases d with
    | lst es =>
      show Ws (match pints es with | some xs => _ | none => .no) D ↔ WO (pints es) _
      cases pints es with
      | none => exact Iff.rfl
      | some xs =>
        by_cases h : (ps.set i none).all ntO = true
        · show Ws (if _ then _ else _) D ↔ (_ ∧ _)
          rw [if_pos h]
          exact ⟨fun q => ⟨h, q⟩, fun q => q.2⟩
        · show Ws (if _ then _ else _) D ↔ (_ ∧ _)
          rw [if_neg h]
          exact ⟨fun q => q.elim, fun q => absurd q.1 h⟩
    | _ => exact Iff.rfl
  | _ => exact Iff.rfl
end
end Det

set_option exponentiation.threshold 5000
/-! Val12: values at known shapes. -/
namespace Det
open PySem PySem.Spec PyProof.Rows L2
section
variable {i j k : Int} {s t : List Nat} {a b : Bool} {xs ys : List PV} {x y d e : PV} {n m : Nat} {o : Pool} {ps : Ps} {ns : List Int} {ch : Nat} {ks : List AKey}
theorem pvar0 {r : Ps} : pVar 0 (some d :: r) o = .ok d o := Eq.trans rfl rfl
theorem pvarS {z : Option PV} {r : Ps} : pVar (n + 1) (z :: r) o = pVar n r o := by unfold pVar; rw [List.getElem?_cons_succ]
theorem vadd_ii : vAdd (.int i) (.int j) = some (.int (i + j)) := Eq.trans rfl rfl
theorem vadd_ss : vAdd (.str s) (.str t) = if s.length + t.length ≤ LINE then some (.str (s ++ t)) else none := Eq.trans rfl rfl
theorem vadd_ll : vAdd (.lst xs) (.lst ys) = if xs.length + ys.length ≤ LINE ∧ PV.noLs xs = true ∧ PV.noLs ys = true then some (.lst (xs ++ ys)) else none := Eq.trans rfl rfl
theorem vadd_sl : vAdd (.scr ns) (.lst ys) = if (ns.map PV.int).length + ys.length ≤ LINE ∧ PV.noLs (ns.map PV.int) = true ∧ PV.noLs ys = true then some (.lst (ns.map PV.int ++ ys)) else none := Eq.trans rfl rfl
theorem viadd_ii : vIAdd (.int i) (.int j) = some (.int (i + j)) := Eq.trans rfl rfl
theorem viadd_ss : vIAdd (.str s) (.str t) = if s.length + t.length ≤ LINE then some (.str (s ++ t)) else none := Eq.trans rfl rfl
theorem vsub_ii : vSub (.int i) (.int j) = some (.int (i - j)) := Eq.trans rfl rfl
theorem vmul_ii : vMul (.int i) (.int j) = if (fits i && fits j) = true then some (.int (i * j)) else none := Eq.trans rfl rfl
theorem vmul_si : vMul (.str s) (.int i) = if i ≤ 1048576 ∧ -1048576 ≤ i ∧ s.length * i.toNat ≤ LINE then some (.str (List.replicate i.toNat s).flatten) else none := Eq.trans rfl rfl
theorem vmul_li : vMul (.lst xs) (.int i) = if i ≤ 1048576 ∧ -1048576 ≤ i ∧ xs.length * i.toNat ≤ LINE ∧ PV.noLs xs = true then some (.lst (List.replicate i.toNat xs).flatten) else none := Eq.trans rfl rfl
theorem vdiv_ii : vDiv (.int i) (.int j) = if 0 < j ∧ fits j = true then some (.int (i / j)) else none := Eq.trans rfl rfl
theorem vmod_ii : vMod (.int i) (.int j) = if 0 < j then some (.int (i % j)) else none := Eq.trans rfl rfl
theorem vpow_ii : vPow (.int i) (.int j) = if 0 ≤ j ∧ j ≤ 1000 ∧ fits i = true then some (.int (i ^ j.toNat)) else none := Eq.trans rfl rfl
theorem vneg_i : vNeg (.int i) = some (.int (-i)) := Eq.trans rfl rfl
theorem veq_ii : vEq (.int i) (.int j) = some (.bl (i == j)) := Eq.trans rfl rfl
theorem veq_ss : vEq (.str s) (.str t) = some (.bl (s == t)) := Eq.trans rfl rfl
theorem veq_bb : vEq (.bl a) (.bl b) = some (.bl (a == b)) := Eq.trans rfl rfl
theorem vne_ii : vNe (.int i) (.int j) = some (.bl (!(i == j))) := Eq.trans rfl rfl
theorem vne_ss : vNe (.str s) (.str t) = some (.bl (!(s == t))) := Eq.trans rfl rfl
theorem vne_bb : vNe (.bl a) (.bl b) = some (.bl (!(a == b))) := Eq.trans rfl rfl
theorem mapif {c : Prop} [Decidable c] {α β : Type} {f : α → β} {z : α} : (if c then some z else none).map f = if c then some (f z) else none := by split <;> rfl
/-- == of things one of which is a list, a tuple, None -/
def cplx : PV → Bool
  | .lst _ => true | .tup _ => true | .non => true | .scr _ => true | _ => false
theorem vEqB_g (h : (cplx x || cplx y) = true) : vEqB x y = if (okd 38 x && okd 38 y) = true then some (PV.eqv x y) else none := by
  cases x <;> cases y <;> first | rfl | cases h
theorem veq_g (h : (cplx x || cplx y) = true) : vEq x y = if (okd 38 x && okd 38 y) = true then some (.bl (PV.eqv x y)) else none := by unfold vEq; rw [vEqB_g h, mapif]
theorem vne_g (h : (cplx x || cplx y) = true) : vNe x y = if (okd 38 x && okd 38 y) = true then some (.bl (!PV.eqv x y)) else none := by unfold vNe; rw [vEqB_g h, mapif]
theorem cplx_l : cplx (.lst xs) = true := Eq.trans rfl rfl
theorem cplx_t : cplx (.tup xs) = true := Eq.trans rfl rfl
theorem cplx_n : cplx .non = true := Eq.trans rfl rfl
theorem cplx_c : cplx (.scr ns) = true := Eq.trans rfl rfl
theorem okd_l : okd (n + 1) (.lst xs) = xs.all (okd n) := Eq.trans rfl rfl
theorem okd_t : okd (n + 1) (.tup xs) = xs.all (okd n) := Eq.trans rfl rfl
theorem okd_s : okd (n + 1) (.str s) = true := Eq.trans rfl rfl
theorem okd_i : okd (n + 1) (.int i) = true := Eq.trans rfl rfl
theorem okd_b : okd (n + 1) (.bl a) = true := Eq.trans rfl rfl
theorem okd_n : okd (n + 1) .non = true := Eq.trans rfl rfl
theorem okd_c : okd (n + 1) (.scr ns) = true := Eq.trans rfl rfl
theorem eqv_refl : PV.eqv x x = true := D.eqv_refl _
def PV.eqvs (xs ys : List PV) : Bool := D.eqvs (PV.toDs xs) (PV.toDs ys)
theorem eqv_ll : PV.eqv (.lst xs) (.lst ys) = PV.eqvs xs ys := Eq.trans rfl rfl
theorem eqv_tt : PV.eqv (.tup xs) (.tup ys) = PV.eqvs xs ys := Eq.trans rfl rfl
theorem eqv_lt : PV.eqv (.lst xs) (.tup ys) = false := Eq.trans rfl rfl
theorem eqv_tl : PV.eqv (.tup xs) (.lst ys) = false := Eq.trans rfl rfl
theorem eqv_ii : PV.eqv (.int i) (.int j) = (i == j) := Eq.trans rfl rfl
theorem eqv_ss : PV.eqv (.str s) (.str t) = (s == t) := Eq.trans rfl rfl
theorem eqv_bb : PV.eqv (.bl a) (.bl b) = (a == b) := Eq.trans rfl rfl
theorem eqv_nn : PV.eqv .non .non = true := Eq.trans rfl rfl
theorem eqv_nt : PV.eqv .non (.tup xs) = false := Eq.trans rfl rfl
theorem eqv_tn : PV.eqv (.tup xs) .non = false := Eq.trans rfl rfl
theorem eqv_ns : PV.eqv .non (.str s) = false := Eq.trans rfl rfl
theorem eqv_sn : PV.eqv (.str s) .non = false := Eq.trans rfl rfl
theorem eqv_st : PV.eqv (.str s) (.tup xs) = false := Eq.trans rfl rfl
theorem eqv_ts : PV.eqv (.tup xs) (.str s) = false := Eq.trans rfl rfl
theorem eqv_si : PV.eqv (.str s) (.int i) = false := Eq.trans rfl rfl
theorem eqv_is : PV.eqv (.int i) (.str s) = false := Eq.trans rfl rfl
theorem eqv_in : PV.eqv (.int i) .non = false := Eq.trans rfl rfl
theorem eqv_ni : PV.eqv .non (.int i) = false := Eq.trans rfl rfl
theorem eqv_sl : PV.eqv (.str s) (.lst xs) = false := Eq.trans rfl rfl
theorem eqv_ls : PV.eqv (.lst xs) (.str s) = false := Eq.trans rfl rfl
theorem eqv_nl : PV.eqv .non (.lst xs) = false := Eq.trans rfl rfl
theorem eqv_ln : PV.eqv (.lst xs) .non = false := Eq.trans rfl rfl
theorem eqv_cl0 : PV.eqv (.scr ns) (.lst []) = decide (ns = []) := by cases ns <;> rfl
theorem eqvs_nil : PV.eqvs [] [] = true := Eq.trans rfl rfl
theorem eqvs_cons : PV.eqvs (x :: xs) (y :: ys) = (PV.eqv x y && PV.eqvs xs ys) := Eq.trans rfl rfl
theorem eqvs_n1 : PV.eqvs [] (y :: ys) = false := Eq.trans rfl rfl
theorem eqvs_1n : PV.eqvs (x :: xs) [] = false := Eq.trans rfl rfl
theorem eqvs_nl : PV.eqvs xs [] = decide (xs = []) := by cases xs <;> simp [PV.eqvs, PV.toDs, D.eqvs]
theorem eqvs_refl : PV.eqvs xs xs = true := D.eqvs_refl _
theorem eqvs_map {α : Type} [DecidableEq α] {f : α → PV} (h : ∀ a b, PV.eqv (f a) (f b) = decide (a = b)) : ∀ {l r : List α}, PV.eqvs (l.map f) (r.map f) = decide (l = r)
  | [], [] => rfl
  | [], _ :: _ => rfl
  | _ :: _, [] => rfl
  | c :: l, d :: r => by
    rw [List.map_cons, List.map_cons, eqvs_cons, h, eqvs_map h]
    by_cases h1 : c = d <;> by_cases h2 : l = r <;> simp [h1, h2]
theorem vlt_ii : vLt (.int i) (.int j) = some (.bl (decide (i < j))) := Eq.trans rfl rfl
theorem vle_ii : vLe (.int i) (.int j) = some (.bl (decide (i ≤ j))) := Eq.trans rfl rfl
theorem vgt_ii : vGt (.int i) (.int j) = some (.bl (decide (j < i))) := Eq.trans rfl rfl
theorem vge_ii : vGe (.int i) (.int j) = some (.bl (decide (j ≤ i))) := Eq.trans rfl rfl
theorem vlt_ss : vLt (.str s) (.str t) = some (.bl (decide (s < t))) := Eq.trans rfl rfl
theorem vle_ss : vLe (.str s) (.str t) = some (.bl (!decide (t < s))) := Eq.trans rfl rfl
theorem vgt_ss : vGt (.str s) (.str t) = some (.bl (decide (t < s))) := Eq.trans rfl rfl
theorem vge_ss : vGe (.str s) (.str t) = some (.bl (!decide (s < t))) := Eq.trans rfl rfl
theorem vis_n : vIs x .non = some (.bl (isNon x)) := Eq.trans rfl rfl
theorem visNot_n : vIsNot x .non = some (.bl (!isNon x)) := Eq.trans rfl rfl
theorem vis_b : vIs (.bl a) (.bl b) = some (.bl (decide (a = b))) := Eq.trans rfl rfl
theorem visNot_b : vIsNot (.bl a) (.bl b) = some (.bl (!decide (a = b))) := Eq.trans rfl rfl
theorem isNon_n : isNon .non = true := Eq.trans rfl rfl
theorem isNon_t : isNon (.tup xs) = false := Eq.trans rfl rfl
theorem isNon_l : isNon (.lst xs) = false := Eq.trans rfl rfl
theorem isNon_s : isNon (.str s) = false := Eq.trans rfl rfl
theorem isNon_i : isNon (.int i) = false := Eq.trans rfl rfl
theorem vix_s : vIx (.str s) (.int i) = if s.length ≤ LINE then (atA s i).map fun ch => .str [ch] else none := Eq.trans rfl rfl
theorem vix_l : vIx (.lst xs) (.int i) = atA xs i := Eq.trans rfl rfl
theorem vix_t : vIx (.tup xs) (.int i) = atA xs i := Eq.trans rfl rfl
theorem vix_c : vIx (.scr ns) (.int i) = atA (ns.map .int) i := Eq.trans rfl rfl
theorem vix_d : vIx (.dic ks xs) y = match keyP y with
    | some k => valP ks xs k
    | none => none := by cases y <;> rfl
theorem keyP_i : keyP (.int i) = some (.inl i) := Eq.trans rfl rfl
theorem keyP_s : keyP (.str s) = some (.inr s) := Eq.trans rfl rfl
theorem vin_ss : vIn (.str [ch]) (.str t) = some (.bl (decide (ch ∈ t))) := Eq.trans rfl rfl
theorem vnin_ss : vNotIn (.str [ch]) (.str t) = some (.bl (!decide (ch ∈ t))) := Eq.trans rfl rfl
theorem vInB_l : vInB x (.lst ys) = if (okd 38 x && ys.all (okd 38)) = true then some (ys.any fun z => PV.eqv z x) else none := by cases x <;> rfl
theorem vin_l : vIn x (.lst ys) = if (okd 38 x && ys.all (okd 38)) = true then some (.bl (ys.any fun z => PV.eqv z x)) else none := by unfold vIn; rw [vInB_l, mapif]
theorem vnin_l : vNotIn x (.lst ys) = if (okd 38 x && ys.all (okd 38)) = true then some (.bl (!ys.any fun z => PV.eqv z x)) else none := by unfold vNotIn; rw [vInB_l, mapif]
theorem vin_d {k : AKey} (hk : keyP x = some k) (hl : ks.length = xs.length) : vIn x (.dic ks xs) = some (.bl (valP ks xs k).isSome) := by
  have : vInB x (.dic ks xs) = match keyP x with
    | some k => if ks.length = xs.length then some (valP ks xs k).isSome else none
    | none => none := by cases x <;> rfl
  unfold vIn
  rw [this, hk]
  simp only [if_pos hl]
  rfl
theorem vcut_s {lo hi : Option Int} : vSlice (.str s) lo hi = if s.length ≤ LINE then some (.str (cutA s lo hi)) else none := Eq.trans rfl rfl
theorem vcut_l {lo hi : Option Int} : vSlice (.lst xs) lo hi = if PV.noLs xs = true then some (.lst (cutA xs lo hi)) else none := Eq.trans rfl rfl
theorem vcut_c {lo hi : Option Int} : vSlice (.scr ns) lo hi = if PV.noLs (ns.map PV.int) = true then some (.lst (cutA (ns.map PV.int) lo hi)) else none := Eq.trans rfl rfl
theorem vcut_t {lo hi : Option Int} : vSlice (.tup xs) lo hi = if PV.noLs xs = true ∧ ¬(cutIx xs.length 0 lo = 0 ∧ cutIx xs.length xs.length hi = xs.length) then some (.tup (cutA xs lo hi)) else none := Eq.trans rfl rfl
theorem vlen_s : vLen [.str s] = if s.length ≤ LINE then some (.int s.length) else none := Eq.trans rfl rfl
theorem vlen_l : vLen [.lst xs] = some (.int xs.length) := Eq.trans rfl rfl
theorem vlen_t : vLen [.tup xs] = some (.int xs.length) := Eq.trans rfl rfl
theorem vlen_c : vLen [.scr ns] = some (.int ns.length) := by show some (PV.int ((ns.map PV.int).length : Nat)) = _; simp
theorem vlen_d : vLen [.dic ks xs] = some (.int xs.length) := Eq.trans rfl rfl
theorem vint_b : vInt [.bl a] = some (.int (if a then 1 else 0)) := Eq.trans rfl rfl
theorem vint_i : vInt [.int i] = some (.int i) := Eq.trans rfl rfl
theorem vabs_i : vAbs [.int i] = some (.int (if i < 0 then -i else i)) := Eq.trans rfl rfl
theorem vmax_ii : vMax [.int i, .int j] = some (.int (if j > i then j else i)) := Eq.trans rfl rfl
theorem vmin_ii : vMin [.int i, .int j] = some (.int (if j < i then j else i)) := Eq.trans rfl rfl
theorem vmax_l : vMax [.lst (ns.map .int)] = if ns = [] then none else some (.int (maxL ns)) := by
  show (match (some (ns.map PV.int)).bind pints with
    | some ns => if ns = [] then none else some (PV.int (maxL ns))
    | none => none) = _
  rw [Option.bind_some, pints_map]
theorem vmin_l : vMin [.lst (ns.map .int)] = if ns = [] then none else some (.int (minL ns)) := by
  show (match (some (ns.map PV.int)).bind pints with
    | some ns => if ns = [] then none else some (PV.int (minL ns))
    | none => none) = _
  rw [Option.bind_some, pints_map]
theorem vsum_l : vSum [.lst (ns.map .int)] = some (.int ns.sum) := by
  show (match (some (ns.map PV.int)).bind pints with
    | some ns => some (PV.int ns.sum)
    | none => none) = _
  rw [Option.bind_some, pints_map]
theorem vall_l {bs : List Bool} : vAll [.lst (bs.map .bl)] = some (.bl (bs.all id)) := by
  show (match (some (bs.map PV.bl)).bind pbls with
    | some ns => some (PV.bl (ns.all id))
    | none => none) = _
  rw [Option.bind_some, pbls_map]
theorem vany_l {bs : List Bool} : vAny [.lst (bs.map .bl)] = some (.bl (bs.any id)) := by
  show (match (some (bs.map PV.bl)).bind pbls with
    | some ns => some (PV.bl (ns.any id))
    | none => none) = _
  rw [Option.bind_some, pbls_map]
theorem vlist_s : vList [.str s] = if s.length ≤ LINE then some (.lst (s.map fun ch => .str [ch])) else none := Eq.trans rfl rfl
theorem vlist_l : vList [.lst xs] = if PV.noLs xs = true then some (.lst xs) else none := Eq.trans rfl rfl
theorem vlist_t : vList [.tup xs] = if PV.noLs xs = true then some (.lst xs) else none := Eq.trans rfl rfl
theorem vtuple_l : vTuple [.lst xs] = if PV.noLs xs = true then some (.tup xs) else none := Eq.trans rfl rfl
theorem psrc_s : pSrc (.str s) = some (s.map fun ch => [.str [ch]]) := Eq.trans rfl rfl
theorem psrc_l : pSrc (.lst xs) = some (oneP xs) := Eq.trans rfl rfl
theorem psrc_t : pSrc (.tup xs) = some (oneP xs) := Eq.trans rfl rfl
theorem psrc_c : pSrc (.scr ns) = some (oneP (ns.map .int)) := Eq.trans rfl rfl
theorem penum_s : pEnumS (.str s) = some (pairP 0 (s.map fun ch => .str [ch])) := Eq.trans rfl rfl
theorem penum_l : pEnumS (.lst xs) = some (pairP 0 xs) := Eq.trans rfl rfl
theorem penum_c : pEnumS (.scr ns) = some (pairP 0 (ns.map .int)) := Eq.trans rfl rfl
theorem pgn_1 : pGn n [d] ps = some (ps.set n (some d)) := Eq.trans rfl rfl
theorem pgnN_1 : pGnN n [d] ps = if d.noL = true then some (ps.set n (some d)) else none := Eq.trans rfl rfl
theorem pgt_2 {gs : List Pg} : pGt gs [x, y] ps = pGs gs [x, y] ps := Eq.trans rfl rfl
theorem pgt_t {gs : List Pg} : pGt gs [.tup xs] ps = pGs gs xs ps := Eq.trans rfl rfl
theorem pvgs_nil : pGs [] [] ps = some ps := Eq.trans rfl rfl
theorem wo_gs {g : Pg} {gs : List Pg} {Q : Ps → Prop} : WO (pGs (g :: gs) (d :: xs) ps) Q ↔ WO (g [d] ps) fun s => WO (pGs gs xs s) Q := by
  show WO (match g [d] ps with | some ps1 => pGs gs xs ps1 | none => none) Q ↔ _
  cases g [d] ps <;> exact Iff.rfl
theorem vjoin_s {sep : List Nat} {ss : List (List Nat)} : vJoin (.str sep) [.lst (ss.map .str)] = if sumLen ss + ss.length * sep.length ≤ LINE then some (.str (joinA sep ss)) else none := by
  show (match (some (ss.map PV.str)).bind pstrs with
    | some ss => if sumLen ss + ss.length * sep.length ≤ LINE then some (PV.str (joinA sep ss)) else none
    | none => none) = _
  rw [Option.bind_some, pstrs_map]
theorem sumLen1 : ∀ {s : List Nat}, sumLen (s.map fun c => [c]) = s.length
  | [] => rfl
  | c :: s => by show 1 + sumLen (s.map _) = _; rw [sumLen1]; simp; omega
theorem join1 : ∀ {s : List Nat}, joinA [] (s.map fun c => [c]) = s
  | [] => rfl
  | [c] => rfl
  | c :: d :: s => by show [c] ++ ([] ++ joinA [] ((d :: s).map _)) = _; rw [join1]; rfl
theorem vjoin_c : vJoin (.str []) [.lst (s.map fun c => .str [c])] = if s.length ≤ LINE then some (.str s) else none := by
  have : (s.map fun c => PV.str [c]) = (s.map fun c => [c]).map PV.str := by rw [List.map_map]; rfl
  rw [this, vjoin_s, sumLen1, join1]
  simp
theorem vsindex : vSIndex (.str s) [.str [ch]] = match s.findIdx? (fun d => d == ch) with
    | some i => some (.int (i : Nat))
    | none => none := Eq.trans rfl rfl
theorem isPT_s : isPT "str" (.str s) = true := Eq.trans rfl rfl
theorem isPT_l : isPT "list" (.lst xs) = true := Eq.trans rfl rfl
theorem pty_n : pty .non = some .non := Eq.trans rfl rfl
theorem pty_b : pty (.bl a) = some .bool := Eq.trans rfl rfl
theorem pty_i : pty (.int i) = some .int := Eq.trans rfl rfl
theorem pty_s : pty (.str s) = some .str := Eq.trans rfl rfl
theorem pty_l : pty (.lst xs) = some .list := Eq.trans rfl rfl
theorem pty_t : pty (.tup xs) = some .tuple := Eq.trans rfl rfl
theorem pty_d : pty (.dic ks xs) = some .dict := Eq.trans rfl rfl
theorem isTok_n : isTok .non = false := Eq.trans rfl rfl
theorem isTok_b : isTok (.bl a) = false := Eq.trans rfl rfl
theorem isTok_i : isTok (.int i) = false := Eq.trans rfl rfl
theorem isTok_s : isTok (.str s) = false := Eq.trans rfl rfl
theorem isTok_l : isTok (.lst xs) = false := Eq.trans rfl rfl
theorem isTok_t : isTok (.tup xs) = false := Eq.trans rfl rfl
theorem isTok_d : isTok (.dic ks xs) = false := Eq.trans rfl rfl
theorem noL_n : PV.noL .non = true := Eq.trans rfl rfl
theorem noL_b : PV.noL (.bl a) = true := Eq.trans rfl rfl
theorem noL_i : PV.noL (.int i) = true := Eq.trans rfl rfl
theorem noL_s : PV.noL (.str s) = true := Eq.trans rfl rfl
theorem noL_t : PV.noL (.tup xs) = PV.noLs xs := Eq.trans rfl rfl
theorem noLs_nl : PV.noLs [] = true := Eq.trans rfl rfl
theorem noLs_c : PV.noLs (x :: xs) = (x.noL && PV.noLs xs) := Eq.trans rfl rfl
theorem pnoLs_app : PV.noLs (xs ++ ys) = (PV.noLs xs && PV.noLs ys) := by rw [noLs_all, noLs_all, noLs_all, List.all_append]
theorem noLs_mk {α : Type} {f : α → PV} (h : ∀ a, (f a).noL = true) {l : List α} : PV.noLs (l.map f) = true := by
  rw [noLs_all, List.all_map, List.all_eq_true]
  exact fun x _ => h x
theorem noLs_ints : PV.noLs (ns.map .int) = true := noLs_mk fun _ => rfl
theorem noLs_chs : PV.noLs (s.map fun c => .str [c]) = true := noLs_mk fun _ => rfl
theorem noLs_strs {ss : List (List Nat)} : PV.noLs (ss.map .str) = true := noLs_mk fun _ => rfl
theorem noLs_rev : PV.noLs xs.reverse = PV.noLs xs := by rw [noLs_all, noLs_all, List.all_reverse]
theorem perm_1 {α : Type} {a : α} : perm [0] 0 1 [] [a] = [a] := Eq.trans rfl rfl
theorem perm_11 {α : Type} {a b : α} : perm [0, 1] 1 1 [a] [b] = [a, b] := Eq.trans rfl rfl
theorem perm_02 {α : Type} {a b : α} : perm [0, 1] 0 2 [] [a, b] = [a, b] := Eq.trans rfl rfl
theorem perm_20 {α : Type} {a b : α} : perm [1, 0] 0 2 [] [a, b] = [b, a] := Eq.trans rfl rfl
theorem line_t (h : n ≤ 10000000) : (n ≤ LINE) = True := eq_true (Nat.le_trans h (by decide))
theorem line_l (h : n < 10000000) : (n < LINE) = True := eq_true (Nat.lt_of_lt_of_le h (by decide))
theorem small_t (h1 : -1000000000000000000 ≤ i) (h2 : i ≤ 1000000000000000000) : small60 i = true := by unfold small60; rw [Bool.and_eq_true, decide_eq_true_eq, decide_eq_true_eq]; omega
theorem fits_t (h1 : -(10 ^ 200) ≤ i) (h2 : i ≤ 10 ^ 200) : fits i = true := by
  unfold fits
  have hb : (10 : Nat) ^ 200 < 2 ^ BIG := by show (10 : Nat) ^ 200 < 2 ^ 4096; decide +kernel
  refine decide_eq_true (Nat.lt_of_le_of_lt ?_ hb)
  have e : ((10 : Int) ^ 200).natAbs = 10 ^ 200 := by decide +kernel
  omega
theorem atA_n {α : Type} {xs : List α} {m : Nat} : atA xs (m : Int) = xs[m]? := by
  unfold atA
  rw [if_pos (by omega)]
  simp
end
end Det

/-! Val13: dict displays. -/
namespace Det
open PySem PySem.Spec PyProof.Rows L2
variable {O U U1 U2 : List Nat} {ma mb : Ev} {pa pb : Pe}
theorem se_sub {m : Ev} {p : Pe} (hU : U1.Sublist U) (a : SE O U1 m p) : SE O U m p := fun T h0 B φ ps o sl h s => (a s).mono fun d v h' k ⟨F, r, l⟩ => ⟨F, r, l.nb, fun n hn => (l.loc n hn).imp id (fun ⟨i, hi, q⟩ => ⟨i, hU.subset hi, q⟩), fun hu ho => l.nd (hu.sublist hU) fun i hi => ho i (hU.subset hi)⟩
theorem se_dict0 : SE O U mDict0 (pC (.dic [] [])) := fun T h0 B φ ps o sl h s =>
  sd_of s.pl kq_new (F := [h.length]) (by simp only [Rf]; exact ⟨_, [], [], rfl, get_new _ _, rfl, RfL.nil, rfl⟩) (by simp) (by simp) (Nat.le_refl _)
def pPairs : List (Pe × Pe) → Ps → Pool → PR (List (PV × PV))
  | [], _, o => .ok [] o
  | (a, b) :: r, ps, o => (a ps o).bind fun x o1 => (b ps o1).bind fun y o2 => (pPairs r ps o2).bind fun l o3 => if y.noL = true then .ok ((x, y) :: l) o3 else .no
def mergeP : List (PV × PV) → List AKey → List PV → Option (List AKey × List PV)
  | [], ks, vs => some (ks, vs)
  | (x, y) :: r, ks, vs => match keyP x with
    | some k => mergeP r (putP ks vs k y).1 (putP ks vs k y).2
    | none => none
def pDisp (l : List (Pe × Pe)) : Pe := fun ps o => (pPairs l ps o).bind fun kvs o1 => if kvs.length ≤ 15 then match mergeP kvs [] [] with
  | some r => .ok (.dic r.1 r.2) o1
  | none => .no
  else .no
inductive SPr (O : List Nat) : List (Ev × Ev) → List (Pe × Pe) → Prop where
  | nil : SPr O [] []
  | cons {ma mb : Ev} {pa pb : Pe} {ms : List (Ev × Ev)} {ps : List (Pe × Pe)} {U1 U2 : List Nat} (a : SE O U1 ma pa) (b : SE O U2 mb pb) (r : SPr O ms ps) : SPr O ((ma, mb) :: ms) ((pa, pb) :: ps)
inductive RPq (B : List Nat) (h : Hh) : List (PV × PV) → List (AV × AV) → Prop where
  | nil : RPq B h [] []
  | cons {x y : PV} {u v : AV} {F : List Nat} {l : List (PV × PV)} {r : List (AV × AV)} (a : Rs B h x u F) (hF : ∀ n ∈ F, n ∉ B) (b : Rf h y v []) (t : RPq B h l r) : RPq B h ((x, y) :: l) ((u, v) :: r)
theorem pairs_ok {ms : List (Ev × Ev)} {ps : List (Pe × Pe)} (a : SPr O ms ps) : ∀ {T : Bool} {h0 : Hh} {B : List Nat} {φ : Nat → List Nat} {st : Ps} {o : Pool} {sl : Sl} {h : Hh}, SR T h0 B O φ st o sl h → Sd B h (fun h' l kvs => RPq B h' l kvs) (pPairs ps st o) (mPairs ms sl h) := by
  induction a with
  | nil => intro T h0 B φ st o sl h s; exact ⟨[], h, rfl, Kq.rfl', s.pl, .nil⟩
  | cons a b r ih =>
    intro T h0 B φ st o sl h s
    exact (a s).bind fun x u o1 h1 k1 p1 ⟨F, rx, lF⟩ => (b (s.kqB k1 p1)).bind fun y v o2 h2 k2 p2 ⟨G, ry, lG⟩ => (ih ((s.kqB k1 p1).kqB k2 p2)).bind fun l kvs o3 h3 k3 p3 q => by
      split
      · rename_i hn
        have z := Rs.noL hn ry
        subst z
        have : isTok y = false := by cases y <;> first | rfl | cases hn
        exact ⟨_, h3, rfl, Kq.rfl', p3, .cons (rx.kq (k2.transM k3) lF.nb) lF.nb ((ry.nt this).kq k3 (by simp)) q⟩
      · trivial
theorem merge_rf {B : List Nat} {h : Hh} {l : List (PV × PV)} {kvs : List (AV × AV)} (r : RPq B h l kvs) : ∀ {acc : List (AKey × AV)} {vs : List PV} {res : List AKey × List PV}, RfL h vs (acc.map (·.2)) [] → mergeP l (acc.map (·.1)) vs = some res →
    ∃ l', mapO keyed kvs = some l' ∧ l'.length = l.length ∧ res.1 = (l'.foldl (fun a p => putA a p.1 p.2) acc).map (·.1) ∧ RfL h res.2 ((l'.foldl (fun a p => putA a p.1 p.2) acc).map (·.2)) [] := by
  induction r with
  | nil => intro acc vs res ra e; cases e; exact ⟨[], rfl, rfl, rfl, ra⟩
  | @cons x y u v F l kvs a hF b t ih =>
    intro acc vs res ra e
    unfold mergeP at e
    split at e
    · rename_i k hk
      obtain ⟨G', e1, r', hs⟩ := putP_ok (k := k) b ra
      have z : G' = [] := List.sublist_nil.mp hs
      subst z
      rw [e1] at e
      obtain ⟨l', q1, q2, q3, q4⟩ := ih r' e
      refine ⟨(k, v) :: l', ?_, by simp [q2], q3, q4⟩
      unfold mapO
      unfold keyed
      simp only [(keyP_ok a hk).1, Option.map_some]
      have q1' : mapO keyed kvs = some l' := q1
      unfold keyed at q1'
      rw [q1']
    · cases e
theorem se_disp {ms : List (Ev × Ev)} {l : List (Pe × Pe)} (a : SPr O ms l) : SE O U (mDisp ms) (pDisp l) := fun T h0 B φ ps o sl h s => by
  have s1 := s.kqB (kq_new (o := AO.dic [])) (s.pl.app [AO.dic []])
  unfold mDisp pDisp
  exact Sd.bindA kq_new (pairs_ok a s1) fun kvs avs o1 h1 k1 p1 q => by
    split
    · rename_i hl
      split
      · rename_i res hres
        obtain ⟨l', q1, q2, q3, q4⟩ := merge_rf (acc := []) q RfL.nil hres
        have hnB : h.length ∉ B := fun z => by have := s.pl.lt _ z; omega
        have e1 := k1.get (get_new h (AO.dic [])) hnB
        rw [q1]
        simp only
        rw [if_pos ⟨by rw [q2]; exact hl, e1⟩]
        have kd : Kq [h.length] h1 (h1.set h.length (.dic (mergeA l'))) := Kq.set e1 (by simp) (by simp)
        refine ⟨.ref h.length, _, rfl, ?_, p1.kq kd fun b hb => by simp; exact fun z => hnB (z ▸ hb), [h.length], Rs.of ?_, by simpa using hnB, fun n hn => ?_, fun _ _ => by simp⟩
        · have k0 : Kq B h h1 := Kq.transM (h1 := h ++ [AO.dic []]) kq_new k1
          exact k0.trans kd fun m hm => .inr (by have : m = h.length := by simpa using hm
                                                 omega)
        · simp only [Rf]
          exact ⟨h.length, mergeA l', [], rfl, get_set_eq e1, q3, q4.kq kd (by simp), rfl⟩
        · have : n = h.length := by simpa using hn
          subst this
          exact .inl ⟨Nat.le_refl _, by rw [List.length_set]; exact lt_of_get e1⟩
      · trivial
    · trivial
theorem wq_pnil {Q : List (PV × PV) → Pool → Prop} {ps : Ps} {o : Pool} : Wq (pPairs [] ps o) Q ↔ Q [] o := Iff.rfl
theorem wq_pcons {Q : List (PV × PV) → Pool → Prop} {l : List (Pe × Pe)} {ps : Ps} {o : Pool} : Wq (pPairs ((pa, pb) :: l) ps o) Q ↔ Wq (pa ps o) fun x o1 => Wq (pb ps o1) fun y o2 => Wq (pPairs l ps o2) fun l o3 => y.noL = true ∧ Q ((x, y) :: l) o3 := by
  show Wq ((pa ps o).bind _) Q ↔ _
  rw [wq_bind]
  cases pa ps o with
  | ok x o1 =>
    show Wq (PR.bind (pb ps o1) _) Q ↔ _
    rw [wq_bind]
    show Wq (pb ps o1) _ ↔ Wq (pb ps o1) _
    cases pb ps o1 with
    | ok y o2 =>
      show Wq (PR.bind (pPairs l ps o2) _) Q ↔ _
      rw [wq_bind]
      show Wq (pPairs l ps o2) _ ↔ Wq (pPairs l ps o2) _
      cases pPairs l ps o2 with
      | ok l o3 =>
        show Wq (if _ then _ else _) Q ↔ (_ ∧ _)
        split
        · rename_i h; simp [h, Wq]
        · rename_i h; simp [h, Wq]
      | _ => exact Iff.rfl
    | _ => exact Iff.rfl
  | _ => exact Iff.rfl
theorem wq_disp {Q : PV → Pool → Prop} {l : List (Pe × Pe)} {ps : Ps} {o : Pool} : Wq (pDisp l ps o) Q ↔ Wq (pPairs l ps o) fun kvs o1 => kvs.length ≤ 15 ∧ WO (mergeP kvs [] []) fun r => Q (.dic r.1 r.2) o1 := by
  unfold pDisp
  rw [wq_bind]
  cases pPairs l ps o with
  | ok kvs o1 =>
    show Wq (if kvs.length ≤ 15 then _ else _) Q ↔ (kvs.length ≤ 15 ∧ _)
    split
    · rename_i h
      simp only [h, true_and]
      cases mergeP kvs [] [] <;> exact Iff.rfl
    · rename_i h; simp [h, Wq]
  | _ => exact Iff.rfl
section
variable {p : Pst} {pe : Pe} {ps : Ps} {o : Pool} {D : Ep} {i : Nat}
def pAug1 (i : Nat) (e : Option (Option PV)) (g : Vo2) (pe : Pe) (ps : Ps) (D : Ep) (o : Pool) : Prop := match e with
  | some (some x) => Wq (pe ps o) fun y o1 => WO (g x y) fun z => z.noL = true ∧ D.nx (ps.set i (some z)) o1
  | _ => False
theorem ws_aug' {g : Vo2} : Ws (pAug i g pe ps o) D ↔ pAug1 i ps[i]? g pe ps D o := by
  cases e : ps[i]? with
  | none => unfold pAug; rw [e]; exact Iff.rfl
  | some x => cases x with
    | none => unfold pAug; rw [e]; exact Iff.rfl
    | some x => exact ws_aug e
theorem paug1 {g : Vo2} {x : PV} : pAug1 i (some (some x)) g pe ps D o ↔ Wq (pe ps o) fun y o1 => WO (g x y) fun z => z.noL = true ∧ D.nx (ps.set i (some z)) o1 := Iff.rfl
end
end Det

/-! Val14: rules that look at the head alone. -/
namespace Det
open PySem PySem.Spec PyProof.Rows L2
def asB : PV → Option Bool
  | .bl b => some b | _ => none
def asI : PV → Option Int
  | .int b => some b | _ => none
def asL : PV → Option (List PV)
  | .lst b => some b | _ => none
def lsP (ps : Ps) (i : Nat) : Option (List PV) := match ps[i]? with
  | some (some (.lst xs)) => some xs
  | _ => none
def slP (ps : Ps) (i : Nat) : Option PV := match ps[i]? with
  | some (some x) => some x
  | _ => none
/-- the slots with one changed, handed on -/
def stS (n : Nat) (d : Option PV) (ps : Ps) (Q : Ps → Prop) : Prop := Q (ps.set n d)
theorem sts_0 {d z : Option PV} {r : Ps} {Q : Ps → Prop} : stS 0 d (z :: r) Q ↔ Q (d :: r) := Iff.rfl
theorem sts_S {n : Nat} {d z : Option PV} {r : Ps} {Q : Ps → Prop} : stS (n + 1) d (z :: r) Q ↔ stS n d r fun s => Q (z :: s) := Iff.rfl
section
variable {p q : Pst} {pe pa pb pc : Pe} {ea ka : Pa} {t ta tb : Pt} {ps : Ps} {o : Pool} {D : Ep} {Q : PV → Pool → Prop} {Qb : Bool → Pool → Prop} {i j n : Nat} {d x y : PV} {xs ys : List PV} {b : Bool} {k : Int}
theorem pat0 : atA (x :: xs) 0 = some x := Eq.trans rfl rfl
theorem pat1 : atA (d :: x :: xs) 1 = some x := Eq.trans rfl rfl
theorem pat2 {e : PV} : atA (d :: e :: x :: xs) 2 = some x := Eq.trans rfl rfl
theorem pat3 {e f : PV} : atA (d :: e :: f :: x :: xs) 3 = some x := Eq.trans rfl rfl
theorem iat0 {a : Int} {l : List Int} : atA (a :: l) 0 = some a := Eq.trans rfl rfl
theorem iat1 {a b : Int} {l : List Int} : atA (a :: b :: l) 1 = some b := Eq.trans rfl rfl
theorem iat2 {a b c : Int} {l : List Int} : atA (a :: b :: c :: l) 2 = some c := Eq.trans rfl rfl
theorem asB_b : asB (.bl b) = some b := Eq.trans rfl rfl
theorem asI_i : asI (.int k) = some k := Eq.trans rfl rfl
theorem asL_l : asL (.lst xs) = some xs := Eq.trans rfl rfl
theorem lsP_0 {r : Ps} : lsP (some (.lst xs) :: r) 0 = some xs := Eq.trans rfl rfl
theorem lsP_S {z : Option PV} {r : Ps} : lsP (z :: r) (n + 1) = lsP r n := by unfold lsP; rw [List.getElem?_cons_succ]
theorem slP_0 {r : Ps} : slP (some x :: r) 0 = some x := Eq.trans rfl rfl
theorem slP_S {z : Option PV} {r : Ps} : slP (z :: r) (n + 1) = slP r n := by unfold slP; rw [List.getElem?_cons_succ]
theorem wo_cg {α : Type} {r : Option α} {Q Q' : α → Prop} (h : ∀ a, Q a ↔ Q' a) : WO r Q ↔ WO r Q' := by
  cases r with
  | some a => exact h a
  | none => exact Iff.rfl
theorem ex_b {Q : Bool → Prop} : (∃ b, x = .bl b ∧ Q b) ↔ WO (asB x) Q := by cases x <;> simp [asB, WO]
theorem ex_i {Q : Int → Prop} : (∃ b, x = .int b ∧ Q b) ↔ WO (asI x) Q := by cases x <;> simp [asI, WO]
theorem ex_l {Q : List PV → Prop} : (∃ b, x = .lst b ∧ Q b) ↔ WO (asL x) Q := by cases x <;> simp [asL, WO]
theorem wo_gn {Q : Ps → Prop} : WO (pGn n [d] ps) Q ↔ stS n (some d) ps Q := Iff.rfl
theorem wo_gnN {Q : Ps → Prop} : WO (pGnN n [d] ps) Q ↔ d.noL = true ∧ stS n (some d) ps Q := by rw [pgnN_1, wo_if, wo_some]; exact Iff.rfl
theorem wo_gt2 {Q : Ps → Prop} {gs : List Pg} : WO (pGt gs [x, y] ps) Q ↔ WO (pGs gs [x, y] ps) Q := Iff.rfl
theorem wo_gtt {Q : Ps → Prop} {gs : List Pg} : WO (pGt gs [.tup xs] ps) Q ↔ WO (pGs gs xs ps) Q := Iff.rfl
theorem wo_gs0 {Q : Ps → Prop} : WO (pGs [] [] ps) Q ↔ Q ps := Iff.rfl
theorem wq_var0 {r : Ps} : Wq (pVar 0 (some d :: r) o) Q ↔ Q d o := Iff.rfl
theorem wq_varS {z : Option PV} {r : Ps} : Wq (pVar (n + 1) (z :: r) o) Q ↔ Wq (pVar n r o) Q := by rw [pvarS]
theorem hs_set : Ws (pSet i pe ps o) D ↔ Wq (pe ps o) fun d o => stS i (some d) ps fun s => D.nx s o := ws_set
theorem hs_setx {x : Ps → Pool → PR (PV × Ps)} : Ws (pSetX i x ps o) D ↔ Wq (x ps o) fun r o => stS i (some r.1) r.2 fun s => D.nx s o := ws_setx
theorem hs_par : Ws (pPar i j pa pb ps o) D ↔ Wq (pa ps o) fun d o1 => Wq (pb ps o1) fun e o2 => stS i (some d) ps fun s1 => stS j (some e) s1 fun s => D.nx s o2 := ws_par
theorem hq_B : Wq (pB pe ps o) Qb ↔ Wq (pe ps o) fun v o1 => WO (asB v) fun b => Qb b o1 := by rw [wq_B]; exact wq_cg fun _ _ => ex_b
theorem hq_andV : Wq (pAndV pa pb ps o) Q ↔ Wq (pa ps o) fun v o1 => WO (asB v) fun b => if b = true then Wq (pb ps o1) Q else Q (.bl false) o1 := by rw [wq_andV]; exact wq_cg fun _ _ => ex_b
theorem hq_orV : Wq (pOrV pa pb ps o) Q ↔ Wq (pa ps o) fun v o1 => WO (asB v) fun b => if b = true then Q (.bl true) o1 else Wq (pb ps o1) Q := by rw [wq_orV]; exact wq_cg fun _ _ => ex_b
theorem hq_notV : Wq (pNotV pa ps o) Q ↔ Wq (pa ps o) fun v o1 => WO (asB v) fun b => Q (.bl (!b)) o1 := by rw [wq_notV]; exact wq_cg fun _ _ => ex_b
theorem hq_chain {f g : Vo2} : Wq (pChain f g pa pb pc ps o) Q ↔ Wq (pa ps o) fun x o1 => Wq (pb ps o1) fun y o2 => WO (f x y) fun r => WO (asB r) fun b => if b = true then Wq (pc ps o2) fun z o3 => WO (g y z) fun w => Q w o3 else Q (.bl false) o2 := by rw [wq_chain]; exact wq_cg fun _ _ => wq_cg fun _ _ => wo_cg fun _ => ex_b
theorem hq_range1 {Q : List (List PV) → Pool → Prop} : Wq (pRange1 pe ps o) Q ↔ Wq (pe ps o) fun d o1 => WO (asI d) fun j => small60 j = true ∧ Q (rangeP 0 j.toNat) o1 := by rw [wq_range1]; exact wq_cg fun _ _ => ex_i
theorem hq_range2 {Q : List (List PV) → Pool → Prop} : Wq (pRange2 pa pb ps o) Q ↔ Wq (pa ps o) fun d o1 => Wq (pb ps o1) fun e o2 => WO (asI d) fun i => WO (asI e) fun j => (small60 i = true ∧ small60 j = true) ∧ Q (rangeP i (j - i).toNat) o2 := by
  rw [wq_range2]
  have : ∀ (d e : PV) (o2 : Pool), (∃ i j, d = .int i ∧ e = .int j ∧ (small60 i = true ∧ small60 j = true) ∧ Q (rangeP i (j - i).toNat) o2) ↔ WO (asI d) fun i => WO (asI e) fun j => (small60 i = true ∧ small60 j = true) ∧ Q (rangeP i (j - i).toNat) o2 := fun d e o2 => by
    cases d <;> cases e <;> simp [asI, WO]
  exact wq_cg fun d _ => wq_cg fun e o2 => this d e o2
theorem hq_range3 {Q : List (List PV) → Pool → Prop} : Wq (pRange3 pa pb pc ps o) Q ↔ Wq (pa ps o) fun d o1 => Wq (pb ps o1) fun e o2 => Wq (pc ps o2) fun f o3 => WO (asI d) fun i => WO (asI e) fun j => WO (asI f) fun k => k = -1 ∧ (small60 i = true ∧ small60 j = true) ∧ Q ((List.range (i - j).toNat).map fun (k : Nat) => [.int (i + (k : Int) * (-1))]) o3 := by
  rw [wq_range3]
  have : ∀ (d e f : PV) (o3 : Pool), (∃ i j, d = .int i ∧ e = .int j ∧ f = .int (-1) ∧ (small60 i = true ∧ small60 j = true) ∧ Q ((List.range (i - j).toNat).map fun (k : Nat) => [.int (i + (k : Int) * (-1))]) o3) ↔ WO (asI d) fun i => WO (asI e) fun j => WO (asI f) fun k => k = -1 ∧ (small60 i = true ∧ small60 j = true) ∧ Q ((List.range (i - j).toNat).map fun (k : Nat) => [.int (i + (k : Int) * (-1))]) o3 := fun d e f o3 => by
    cases d <;> cases e <;> cases f <;> simp [asI, WO]
  exact wq_cg fun d _ => wq_cg fun e _ => wq_cg fun f o3 => this d e f o3
theorem hq_zipL {Q : List (List PV) → Pool → Prop} : Wq (pZip pa pb ps o) Q ↔ Wq (pa ps o) fun d o1 => Wq (pb ps o1) fun e o2 => WO (pseq d) fun xs => WO (pseq e) fun ys => (pls d).isSome = (pls e).isSome ∧ Q (zipP xs ys) o2 := by
  rw [wq_zipL]
  have : ∀ (d e : PV) (o2 : Pool), (∃ xs ys, pseq d = some xs ∧ pseq e = some ys ∧ (pls d).isSome = (pls e).isSome ∧ Q (zipP xs ys) o2) ↔ WO (pseq d) fun xs => WO (pseq e) fun ys => (pls d).isSome = (pls e).isSome ∧ Q (zipP xs ys) o2 := fun d e o2 => by
    cases pseq d <;> cases pseq e <;> simp [WO]
  exact wq_cg fun d _ => wq_cg fun e o2 => this d e o2
theorem hq_someO {Q : Option Int → Pool → Prop} : Wq (pSome pe ps o) Q ↔ Wq (pe ps o) fun d o1 => WO (asI d) fun i => Q (some i) o1 := by rw [wq_someO]; exact wq_cg fun _ _ => ex_i
theorem hq_bx {Q : Bool × Ps → Pool → Prop} {a : Ps → Pool → PR (PV × Ps)} : Wq (pBX a ps o) Q ↔ Wq (a ps o) fun r o1 => WO (asB r.1) fun b => Q (b, r.2) o1 := by rw [wq_bx]; exact wq_cg fun _ _ => ex_b
theorem hq_pop {Q : PV × Ps → Pool → Prop} {x : Nat} : Wq (pPop x ps o) Q ↔ WO (lsP ps x) fun xs => WO xs.getLast? fun d => PV.noLs xs = true ∧ stS x (some (.lst xs.dropLast)) ps fun s => Q (d, s) o := by
  rw [wq_pop]
  unfold pPop1 lsP
  split
  · rename_i e; (try rw [e]); exact Iff.rfl
  · rename_i h
    first
    | exact Iff.rfl
    | (split
       · rename_i e; exact absurd e (h _)
       · exact Iff.rfl)
theorem hs_app : Ws (pApp i pe ps o) D ↔ WO (lsP ps i) fun xs => Wq (pe ps o) fun d o1 => (xs.length < LINE ∧ isTok d = false) ∧ (stS i (some (.lst (xs ++ [d]))) ps fun s => D.nx s o1) := by
  rw [ws_app]
  unfold pApp1 lsP
  split
  · rename_i e; (try rw [e]); exact Iff.rfl
  · rename_i h
    first
    | exact Iff.rfl
    | (split
       · rename_i e; exact absurd e (h _)
       · exact Iff.rfl)
theorem hs_ext : Ws (pExt i pe ps o) D ↔ WO (lsP ps i) fun xs => Wq (pe ps o) fun d o1 => WO (asL d) fun ys => (xs.length + ys.length ≤ LINE ∧ PV.noLs ys = true) ∧ (stS i (some (.lst (xs ++ ys))) ps fun s => D.nx s o1) := by
  rw [ws_ext]
  unfold pExt1 lsP
  split
  · rename_i e; (try rw [e]); exact wq_cg fun _ _ => ex_l
  · rename_i h
    first
    | exact Iff.rfl
    | (split
       · rename_i e; exact absurd e (h _)
       · exact Iff.rfl)
theorem hs_mut {f : List PV → Option (List PV)} : Ws (pMut i f ps o) D ↔ WO (lsP ps i) fun xs => WO (f xs) fun ys => PV.noLs xs = true ∧ (stS i (some (.lst ys)) ps fun s => D.nx s o) := by
  rw [ws_mut]
  unfold pMut1 lsP
  split
  · rename_i e; (try rw [e]); exact Iff.rfl
  · rename_i h
    first
    | exact Iff.rfl
    | (split
       · rename_i e; exact absurd e (h _)
       · exact Iff.rfl)
theorem st1 {x : Nat} {dx : Option (Option PV)} {d j : PV} : pStore1 x dx d j ps D o ↔ WO (match dx with | some (some x) => some x | _ => none) fun e => WO (vPut e j d) fun r => D.nx (ps.set x (some r)) o := by
  unfold pStore1
  split
  · exact Iff.rfl
  · rename_i h
    first
    | exact Iff.rfl
    | (split
       · exact absurd rfl (h _)
       · exact Iff.rfl)
theorem hs_store {x : Nat} {pi : Pe} : Ws (pStore x pi pe ps o) D ↔ Wq (pe ps o) fun d o1 => Wq (pi ps o1) fun j o2 => WO (slP ps x) fun e => WO (vPut e j d) fun r => (stS x (some r) ps fun s => D.nx s o2) := by
  rw [ws_store]
  exact wq_cg fun _ _ => wq_cg fun _ _ => st1
theorem hs_storex {x : Nat} {pi : Pe} {a : Ps → Pool → PR (PV × Ps)} : Ws (pStoreX x pi a ps o) D ↔ Wq (a ps o) fun r o1 => Wq (pi r.2 o1) fun j o2 => WO (slP r.2 x) fun e => WO (vPut e j r.1) fun z => (stS x (some z) r.2 fun s => D.nx s o2) := by
  rw [ws_storex]
  exact wq_cg fun _ _ => wq_cg fun _ _ => st1
theorem hs_aug {g : Vo2} : Ws (pAug i g pe ps o) D ↔ WO (slP ps i) fun x => Wq (pe ps o) fun y o1 => WO (g x y) fun z => z.noL = true ∧ (stS i (some z) ps fun s => D.nx s o1) := by
  rw [ws_aug']
  unfold pAug1 slP
  split
  · rename_i e; (try rw [e]); exact Iff.rfl
  · rename_i h
    first
    | exact Iff.rfl
    | (split
       · rename_i e; exact absurd e (h _)
       · exact Iff.rfl)
def isTokS (ps : Ps) (i : Nat) : Bool := match slP ps i with
  | some .tok => true
  | _ => false
theorem isTokS_iff : isTokS ps i = true ↔ ps[i]? = some (some .tok) := by
  unfold isTokS slP
  constructor
  · intro h
    split at h
    · rename_i e
      split at e
      · rename_i e2; cases e; exact e2
      · cases e
    · cases h
  · intro h; rw [h]
theorem tok_0 {r : Ps} : isTokS (some .tok :: r) 0 = true := Eq.trans rfl rfl
theorem tok_S {z : Option PV} {r : Ps} : isTokS (z :: r) (n + 1) = isTokS r n := by unfold isTokS; rw [slP_S]
theorem hq_tokIx {k : Int} : Wq (pTokIx i k ps o) Q ↔ isTokS ps i = true ∧ WO o fun xs => WO (atA xs k) fun z => Q (.int z) o := by rw [wq_tokIx, isTokS_iff]
theorem hs_tokSet {k : Nat} : Ws (pTokSet i k pe ps o) D ↔ Wq (pe ps o) fun d o1 => isTokS ps i = true ∧ WO o1 fun xs => WO (asI d) fun z => k < xs.length ∧ D.nx ps (some (xs.set k z)) := by
  rw [ws_tokSet]
  refine wq_cg fun _ _ => ?_
  rw [isTokS_iff]
  refine and_congr Iff.rfl (wo_cg fun _ => ?_)
  exact ex_i
def asP (d : PV) : Option (List Int) := (asL d).bind pints
theorem asP_ints {ns : List Int} : asP (.lst (ns.map .int)) = some ns := by show pints _ = _; rw [pints_map]
theorem asP_3 {a b c : Int} : asP (.lst [.int a, .int b, .int c]) = some [a, b, c] := Eq.trans rfl rfl
theorem hs_pool : Ws (pPool i pe ps o) D ↔ Wq (pe ps o) fun d o1 => WO (asP d) fun xs => (ps.set i none).all ntO = true ∧ (stS i (some .tok) ps fun s => D.nx s (some xs)) := by
  rw [ws_pool]
  have : ∀ d : PV, asP d = (match d with | .lst es => some es | _ => none).bind pints := fun d => by cases d <;> rfl
  exact wq_cg fun d _ => by rw [this]; first | done | exact Iff.rfl
theorem hq_callP {f : Pf} : Wq (pCallP f pe ea ps o) Q ↔ Wq (pe ps o) fun d o1 => Wq (ea ps o1) fun ds o2 => WO (asP d) fun xs => Wq (f (.tok :: ds) (some xs)) fun z _ => Q z o2 := by
  rw [wq_callP]
  have : ∀ d : PV, asP d = (match d with | .lst es => some es | _ => none).bind pints := fun d => by cases d <;> rfl
  exact wq_cg fun d _ => wq_cg fun _ _ => by rw [this]; first | done | exact Iff.rfl
end
end Det

/-! Val15: replace, ranges that go up. -/
namespace Det
open PySem PySem.Spec PyProof.Rows L2
def vRepl (y z : List Nat) : PV → Option PV
  | .str s => if s.length ≤ 1000000 ∧ z.length ≤ 10 then some (.str (StrLaws.replL y z s)) else none
  | _ => none
theorem okS_repl {y z : List Nat} (hz : okS z = true) : ∀ (s : List Nat) (n : Nat), okS s = true → okS (StrLaws.replS y z n s) = true
  | [], n, h => by unfold StrLaws.replS; rfl
  | c :: r, 0, h => by
    unfold StrLaws.replS
    have h1 : okS [c] = true := okS_sub h (by simp)
    have h2 : okS r = true := okS_sub h fun x hx => by simp [hx]
    split
    · exact okS_app hz (okS_repl hz r _ h2)
    · exact okS_app h1 (okS_repl hz r _ h2)
  | c :: r, n + 1, h => by
    unfold StrLaws.replS
    exact okS_repl hz r _ (okS_sub h fun x hx => by simp [hx])
theorem so_repl (y z : List Nat) (hz : okS z = true := by decide +kernel) : SO1 (opRepl y z) (vRepl y z) := fun B h d v r F hB r1 q => by
  unfold vRepl at q
  split at q
  · split at q
    · rename_i hl
      cases q; obtain ⟨rfl, o1, _⟩ := r1.str_inv; exact ⟨_, h, if_pos hl, Kq.rfl', [], Rf.str (okS_repl hz _ _ o1), List.nodup_nil, by simp⟩
    · cases q
  · cases q
theorem vrepl_s {y z s : List Nat} : vRepl y z (.str s) = if s.length ≤ 1000000 ∧ z.length ≤ 10 then some (.str (StrLaws.replL y z s)) else none := Eq.trans rfl rfl
def pRange3p (a b c : Pe) : Pi := fun ps o => (a ps o).bind fun d o1 => (b ps o1).bind fun e o2 => (c ps o2).bind fun f o3 => match d, e, f with
  | .int i, .int j, .int k => if (small60 i && small60 j && decide (0 < k ∧ k ≤ 1000000)) = true then .ok ((List.range (upN i j k)).map fun (m : Nat) => [.int (i + (m : Int) * k)]) o3 else .no
  | _, _, _ => .no
section
variable {O U U1 U2 U3 : List Nat} {ma mb mc : Ev} {pa pb pc : Pe}
theorem si_range3p (a : SE O U1 ma pa) (b : SE O U2 mb pb) (c : SE O U3 mc pc) : SI O U (mRange3p ma mb mc) (pRange3p pa pb pc) := fun T h0 B φ ps o sl h s =>
  (a s).bind fun d v o1 h1 k1 p1 ⟨F, rd, lF⟩ => (b (s.kqB k1 p1)).bind fun e u o2 h2 k2 p2 ⟨G, re, lG⟩ => (c ((s.kqB k1 p1).kqB k2 p2)).bind fun f w o3 h3 k3 p3 ⟨H, rf, lH⟩ => by
    split
    · obtain ⟨rfl, _⟩ := rd.int_inv
      obtain ⟨rfl, _⟩ := re.int_inv
      obtain ⟨rfl, _⟩ := rf.int_inv
      split
      · rename_i hj
        exact ⟨_, h3, by simp only [hj]; rfl, Kq.rfl', p3, [], Lc.nil, itr_ints _ _, chr_nil⟩
      · trivial
    · trivial
variable {ps : Ps} {o : Pool}
theorem wq_bind' {α β : Type} {r : PR α} {f : α → Pool → PR β} {Q : β → Pool → Prop} : Wq (r.bind f) Q ↔ Wq r fun a o => Wq (f a o) Q := wq_bind
theorem hq_range3p {Q : List (List PV) → Pool → Prop} : Wq (pRange3p pa pb pc ps o) Q ↔ Wq (pa ps o) fun d o1 => Wq (pb ps o1) fun e o2 => Wq (pc ps o2) fun f o3 => WO (asI d) fun i => WO (asI e) fun j => WO (asI f) fun k => (small60 i = true ∧ small60 j = true ∧ 0 < k ∧ k ≤ 1000000) ∧ Q ((List.range (upN i j k)).map fun (m : Nat) => [.int (i + (m : Int) * k)]) o3 := by
  unfold pRange3p
  rw [wq_bind]
  refine wq_cg fun d o1 => ?_
  rw [wq_bind]
  refine wq_cg fun e o2 => ?_
  rw [wq_bind]
  refine wq_cg fun f o3 => ?_
  cases d <;> cases e <;> cases f <;> try exact Iff.rfl
  rename_i i j k
  show Wq (if _ then _ else _) Q ↔ _
  by_cases h : (small60 i && small60 j && decide (0 < k ∧ k ≤ 1000000)) = true
  · rw [if_pos h]
    rw [Bool.and_eq_true, Bool.and_eq_true, decide_eq_true_eq] at h
    exact ⟨fun q => ⟨⟨h.1.1, h.1.2, h.2⟩, q⟩, fun q => q.2⟩
  · rw [if_neg h]
    rw [Bool.and_eq_true, Bool.and_eq_true, decide_eq_true_eq] at h
    exact ⟨fun q => q.elim, fun q => absurd ⟨⟨q.1.1, q.1.2.1⟩, q.1.2.2⟩ h⟩
end
end Det

/-! Val16: sorted ints. -/
namespace Det
open PySem PySem.Spec PyProof.Rows L2
def vSorted : List PV → Option PV := fun ds => match ds with
  | [x] => match (pls x).bind pints with
    | some ns => some (PV.lst ((sortZ ns).map PV.int))
    | none => none
  | _ => none
theorem rfl_ints {h : Hh} : ∀ ns : List Int, RfL h (ns.map .int) (ns.map .int) []
  | [] => RfL.nil
  | n :: r => RfL.cons (F := []) (G := []) Rf.int (rfl_ints r)
theorem bSorted_one (v : AV) (h : Hh) : bSorted [v] h = (match (rdL h v).bind intsOf with
          | some ns => some (.ref h.length, h ++ [.lst ((sortZ ns).map .int)])
          | none => none) := by cases v <;> rfl
theorem son_sorted : SOn bSorted vSorted := fun B h ds vs r hB r1 q => by
  unfold vSorted at q
  split at q
  · split at q
    · rename_i ns hns
      cases q
      obtain ⟨v, F, rfl, r2⟩ := rsl1 r1
      refine ⟨_, _, ?_, kq_new, _, rf_new (rfl_ints _), by simp, by simp⟩
      rw [bSorted_one, (bind_ints r2 hns).1]
    · cases q
  · cases q
theorem vsorted_l {ns : List Int} : vSorted [.lst (ns.map .int)] = some (.lst ((sortZ ns).map .int)) := by
  show (match (some (ns.map PV.int)).bind pints with
    | some ns => some (PV.lst ((sortZ ns).map PV.int))
    | none => none) = _
  rw [Option.bind_some, pints_map]
end Det

/-! Val17: d.get(k, x); a text turned. -/
namespace Det
open PySem PySem.Spec PyProof.Rows L2
def vGet : PV → List PV → Option PV := fun x as => match as with
  | [y, d] => match x with
    | .dic ks vs => match keyP y with
      | some k => if ((valP ks vs k).getD d).noL = true then some ((valP ks vs k).getD d) else none
      | none => none
    | _ => none
  | _ => none
theorem valP_none : ∀ {kvs : List (AKey × AV)} {ds : List PV} {h : Hh} {F : List Nat} {k : AKey}, RfL h ds (kvs.map (·.2)) F → valP (kvs.map (·.1)) ds k = none → valA kvs k = none
  | [], ds, h, _, k, r, e => rfl
  | (a, b) :: kvs, [], h, _, k, r, e => by
    have := r.nil_inv.1
    cases this
  | (a, b) :: kvs, c :: ds, h, _, k, r, e => by
    obtain ⟨y, ys, G1, G2, e1, q, rs, rfl⟩ := r.cons_inv
    obtain ⟨rfl, rfl⟩ := List.cons.inj e1
    by_cases hk : a = k
    · simp [valP, hk] at e
    · have e2 : valP (kvs.map (·.1)) ds k = none := by simpa [valP, hk] using e
      have := valP_none rs e2
      simpa [valA, List.find?_cons, hk] using this
theorem som_get : SOm mGet vGet := som_flat fun {B h d ds v vs r F} r1 r2 q => by
  unfold vGet at q
  split at q
  · rename_i y dd
    split at q
    · rename_i ks xs
      split at q
      · rename_i k hk
        split at q
        · rename_i hn
          cases q
          obtain ⟨u, w, G1, G2, rfl, r3, r4⟩ := rsl2 r2
          obtain ⟨k1, k2⟩ := keyP_ok r3 hk
          obtain ⟨n, kvs, G', rfl, en, rfl, rs, rfl⟩ := r1.dic_inv
          have e5 : dicOf h (.ref n) = some kvs := by simp [dicOf, en]
          have eg : ∀ z, mGet (.ref n) [u, w] h = some (z, h) ↔ (valA kvs k).getD w = z := fun z => by
            unfold mGet
            simp only [e5, k1]
            constructor
            · intro e; cases e; rfl
            · intro e; rw [e]
          cases hv : valP (kvs.map (·.1)) xs k with
          | none =>
            rw [hv] at hn
            have e6 := valP_none rs hv
            have hz : dd.noL = true := hn
            have ht : isTok dd = false := by cases dd <;> first | rfl | cases hz
            have r5 : Rf h dd w G2 := Rs.nt ht r4
            have : G2 = [] := noL_nil hz r5
            subst this
            exact ⟨w, (eg w).mpr (by rw [e6]; rfl), r5⟩
          | some z =>
            rw [hv] at hn
            obtain ⟨x, G3, e6, q2, _⟩ := valP_dic rs hv
            have hz : z.noL = true := hn
            have : G3 = [] := noL_nil hz q2
            subst this
            exact ⟨x, (eg x).mpr (by rw [e6]; rfl), q2⟩
        · cases q
      · cases q
    · cases q
  · cases q
def vRevS : PV → Option PV
  | .str s => if s.length ≤ LINE then some (.str s.reverse) else none
  | _ => none
theorem so_revS : SO1 opRevS vRevS := fun B h d v r F hB r1 q => by
  unfold vRevS at q
  split at q
  · split at q
    · rename_i hl
      cases q; obtain ⟨rfl, o1, _⟩ := r1.str_inv; exact ⟨_, h, if_pos hl, Kq.rfl', [], Rf.str (okS_sub o1 fun c hc => List.mem_reverse.mp hc), List.nodup_nil, by simp⟩
    · cases q
  · cases q
theorem vrevs_s {s : List Nat} : vRevS (.str s) = if s.length ≤ LINE then some (.str s.reverse) else none := Eq.trans rfl rfl
def isPD : PV → Bool
  | .dic _ _ => true | _ => false
theorem isPD_d {ks : List AKey} {xs : List PV} : isPD (.dic ks xs) = true := Eq.trans rfl rfl
theorem isPD_ok {B : List Nat} {h : Hh} {d : PV} {v : AV} {F : List Nat} (r : Rs B h d v F) (e : isPD d = true) : isTy "dict" h v = true := by
  unfold isPD at e
  split at e
  · obtain ⟨n, kvs, G, rfl, q, _⟩ := r.dic_inv
    simp [isTy, dicOf, q]
  · cases e
def pMethD (g : PV → List PV → Option PV) (pa : Pe) (ra : Pa) : Pe := fun ps o => (pa ps o).bind fun d o1 => if isPD d = true then (ra ps o1).bind fun ds o2 => PR.of o2 (g d ds) else .no
section
variable {O U U1 : List Nat} {me : Ev} {pe : Pe} {ea : Ea} {ra : Pa} {ps : Ps} {o : Pool} {Q : PV → Pool → Prop}
theorem se_methD {f : OpM} {g : PV → List PV → Option PV} (hs : SOm f g) (b : SE O U1 me pe) (a : SAr O ea ra) : SE O U (mMeth "dict" f me ea) (pMethD g pe ra) := fun T' h0 B φ ps o sl h s =>
  (b s).bind fun d v o1 h1 k1 p1 ⟨F, rd, lF⟩ => by
    split
    · rename_i ht
      rw [if_pos (isPD_ok rd ht)]
      exact (a (s.kqB k1 p1)).bind fun ds vs o2 h2 k2 p2 q => by
        cases e : g d ds with
        | none => trivial
        | some r =>
          obtain ⟨w, h', e1, k3, F', rr, nd, hf⟩ := hs p2.lt (rd.kq k2 lF.nb) q e
          show Sd B h2 _ (.ok r o2) (R.of (f v vs h2))
          rw [e1]
          exact sd_of p2 k3 rr nd hf (Nat.le_trans k1.1 k2.1)
    · trivial
theorem wq_methD {g : PV → List PV → Option PV} : Wq (pMethD g pe ra ps o) Q ↔ Wq (pe ps o) fun d o1 => isPD d = true ∧ Wq (ra ps o1) fun ds o2 => WO (g d ds) fun z => Q z o2 := by
  unfold pMethD
  rw [wq_bind]
  refine wq_cg fun d o1 => ?_
  show Wq (if isPD d = true then _ else _) Q ↔ _
  by_cases h : isPD d = true
  · rw [if_pos h, wq_bind]
    refine Iff.trans ?_ (and_iff_right h).symm
    exact wq_cg fun ds o2 => wq_of
  · rw [if_neg h]
    exact ⟨fun q => q.elim, fun q => absurd q.1 h⟩
theorem vget_d {ks : List AKey} {xs : List PV} {y d : PV} : vGet (.dic ks xs) [y, d] = match keyP y with
      | some k => if ((valP ks xs k).getD d).noL = true then some ((valP ks xs k).getD d) else none
      | none => none := Eq.trans rfl rfl
end
end Det

/-! Val18: s.split(sign). -/
namespace Det
open PySem PySem.Spec PyProof.Rows L2
def vSplit : PV → List PV → Option PV := fun x as => match x, as with
  | .str s, [.str [ch]] => if s.length ≤ 10000000 ∧ ch < 256 then some (.lst ((splC ch [] s).map .str)) else none
  | _, _ => none
theorem splC_ok (c : Nat) : ∀ (s acc : List Nat), okS acc = true → okS s = true → ∀ t ∈ splC c acc s, okS t = true
  | [], acc, h1, h2, t, ht => by
    have : t = acc := by simpa [splC] using ht
    rw [this]; exact h1
  | d :: r, acc, h1, h2, t, ht => by
    have hr : okS r = true := okS_sub h2 fun x hx => by simp [hx]
    have hd : okS [d] = true := okS_sub h2 (by simp)
    unfold splC at ht
    split at ht
    · rcases List.mem_cons.mp ht with rfl | ht
      · exact h1
      · exact splC_ok c r [] rfl hr t ht
    · exact splC_ok c r (acc ++ [d]) (okS_app h1 hd) hr t ht
theorem rfl_strs {h : Hh} : ∀ ss : List (List Nat), (∀ t ∈ ss, okS t = true) → RfL h (ss.map .str) (ss.map .str) []
  | [], _ => RfL.nil
  | n :: r, hk => RfL.cons (F := []) (G := []) (Rf.str (hk n (by simp))) (rfl_strs r fun t ht => hk t (by simp [ht]))
theorem som_split : SOm mSplit vSplit := fun B h d ds v vs r F hB r1 r2 q => by
  unfold vSplit at q
  split at q
  · split at q
    · rename_i hl
      cases q
      obtain ⟨rfl, o1, _⟩ := r1.str_inv
      obtain ⟨u, G, rfl, r3⟩ := rsl1 r2
      obtain ⟨rfl, _⟩ := r3.str_inv
      exact ⟨_, _, if_pos hl, kq_new, _, rf_new (rfl_strs _ (splC_ok _ _ _ rfl o1)), by simp, by simp⟩
    · cases q
  · cases q
theorem vsplit_s {s : List Nat} {ch : Nat} : vSplit (.str s) [.str [ch]] = if s.length ≤ 10000000 ∧ ch < 256 then some (.lst ((splC ch [] s).map .str)) else none := Eq.trans rfl rfl
end Det

/-! Val19: the layer's end. -/

/-! Val20: repr(v). -/
namespace Det
open PySem PySem.Spec PyProof.Rows L2
mutual
def PV.toP : PV → PyData
  | .bl b => .bool b | .int i => .int i | .str s => .str (mkS s)
  | .lst xs => .list (PV.toPs xs) | .tup xs => .tuple (PV.toPs xs)
  | .dic _ _ => .dict []
  | _ => .none
def PV.toPs : List PV → List PyData
  | [] => []
  | x :: xs => PV.toP x :: PV.toPs xs
end
theorem toPs_map : ∀ xs : List PV, PV.toPs xs = xs.map PV.toP
  | [] => rfl
  | x :: xs => by show PV.toP x :: PV.toPs xs = _; rw [toPs_map xs]; rfl
def okr : Nat → PV → Bool
  | 0, _ => false
  | n + 1, d => match d with
    | .lst xs => xs.all (okr n)
    | .tup xs => xs.all (okr n)
    | .dic ks xs => ks.isEmpty && xs.isEmpty
    | .non | .bl _ | .int _ | .str _ => true
    | _ => false
theorem shP_succ (f : Nat) (h : Hh) (v : AV) : shP (f + 1) h v = (match v with
    | .non => some .none
    | .bl b => some (.bool b)
    | .int i => some (.int i)
    | .str s => some (.str (mkS s))
    | .ref n => match h[n]? with
      | some (.lst xs) => (mapO (shP f h) xs).map .list
      | some (.tup xs) => (mapO (shP f h) xs).map .tuple
      | some (.dic []) => some (.dict [])
      | _ => none
    | .con k => match k.tup? with
      | some xs => (mapO (shP f h) xs).map .tuple
      | none => none
    | .scr _ => none) := rfl
theorem rf_shP {h : Hh} : ∀ (f : Nat) {d : PV} {v : AV} {F : List Nat}, okr f d = true → Rf h d v F → shP f h v = some d.toP ∧ pOk d.toP = true
  | 0, _, _, _, hk, _ => by cases hk
  | f + 1, d, v, F, hk, r => by
    have all : ∀ {ds : List PV} {xs : List AV} {F : List Nat}, ds.all (okr f) = true → RfL h ds xs F → mapO (shP f h) xs = some (PV.toPs ds) ∧ pOks (PV.toPs ds) = true := by
      intro ds
      induction ds with
      | nil => intro xs F _ r; rw [r.nil_inv.1]; exact ⟨rfl, rfl⟩
      | cons d ds ih =>
        intro xs F hk r
        obtain ⟨y, ys, G1, G2, rfl, q, rs, rfl⟩ := r.cons_inv
        rw [List.all_cons, Bool.and_eq_true] at hk
        obtain ⟨a1, a2⟩ := rf_shP f hk.1 q
        obtain ⟨b1, b2⟩ := ih hk.2 rs
        refine ⟨?_, ?_⟩
        · unfold mapO; rw [a1, b1]; rfl
        · show (pOk d.toP && pOks (PV.toPs ds)) = true
          rw [a2, b2]; rfl
    have key := shP_succ f h v
    cases d with
    | non => obtain ⟨rfl, _⟩ := r.non_inv; exact ⟨rfl, rfl⟩
    | bl b => obtain ⟨rfl, _⟩ := r.bl_inv; exact ⟨rfl, rfl⟩
    | int b => obtain ⟨rfl, _⟩ := r.int_inv; exact ⟨rfl, rfl⟩
    | str b =>
      obtain ⟨rfl, hs, _⟩ := r.str_inv
      refine ⟨rfl, ?_⟩
      show (mkS b).cps.toList.all (· < 1114112) = true
      have : (mkS b).cps.toList = b := by simp [mkS]
      rw [this]
      exact hs
    | lst ds =>
      obtain ⟨n, xs, G, rfl, e, rs, _⟩ := r.lst_inv
      obtain ⟨b1, b2⟩ := all hk rs
      refine ⟨?_, b2⟩
      rw [key]
      simp only [e, b1]
      rfl
    | scr ns => cases hk
    | tup ds =>
      obtain ⟨xs, e, rs⟩ := r.tup_inv
      obtain ⟨b1, b2⟩ := all hk rs
      refine ⟨?_, b2⟩
      rw [key]
      unfold rdT at e
      split at e
      · split at e
        · rename_i q
          cases e
          simp only [q, b1]
          rfl
        · cases e
      · simp only [e, b1]
        rfl
      · cases e
    | dic ks ds =>
      have hk' : (ks.isEmpty && ds.isEmpty) = true := hk
      rw [Bool.and_eq_true, List.isEmpty_iff, List.isEmpty_iff] at hk'
      obtain ⟨rfl, rfl⟩ := hk'
      obtain ⟨n, kvs, G, rfl, e, ek, _⟩ := r.dic_inv
      have : kvs = [] := by
        cases kvs with
        | nil => rfl
        | cons a b => simp at ek
      subst this
      refine ⟨?_, rfl⟩
      rw [key]
      simp only [e]
      rfl
    | cdc _ => cases hk
    | obj _ _ _ => cases hk
    | tok => cases hk
def vRepr : List PV → Option PV := fun ds => match ds with
  | [x] => if (okr 38 x && shOk x.toP) = true then some (.str (shS x.toP)) else none
  | _ => none
theorem okr_up : ∀ {n : Nat} {d : PV}, okr n d = true → okr (n + 1) d = true
  | 0, _, h => by cases h
  | n + 1, d, h => by
    have all : ∀ {xs : List PV}, xs.all (okr n) = true → xs.all (okr (n + 1)) = true := fun {xs} h => by
      rw [List.all_eq_true] at h ⊢
      exact fun x hx => okr_up (h x hx)
    cases d <;> first | exact all h | exact h
theorem son_repr : SOn bRepr vRepr := son_flat fun {B h ds vs r} r1 q => by
  unfold vRepr at q
  split at q
  · rename_i x
    split at q
    · rename_i hk
      rw [Bool.and_eq_true] at hk
      cases q
      obtain ⟨v, F, rfl, r2⟩ := rsl1 r1
      have hf : Rf h x v F := by
        have hx := hk.1
        cases x <;> first | exact r2 | cases hx
      obtain ⟨e1, e2⟩ := rf_shP 40 (okr_up (okr_up hk.1)) hf
      refine ⟨.str (shS x.toP), ?_, Rf.str ?_⟩
      · unfold bRepr
        simp only [e1]
        rw [if_pos hk.2]
      · unfold okS
        rw [List.all_eq_true]
        exact fun ch hc => decide_eq_true (shown_ok _ e2 ch hc)
    · cases q
  · cases q
theorem vrepr_s {x : PV} (h : (okr 38 x && shOk x.toP) = true) : vRepr [x] = some (.str (shS x.toP)) := by
  unfold vRepr
  exact if_pos h
/-! the repr of the shapes that the laws ask -/
theorem shOk_of {p : PyData} (h1 : p.showable = true) (h2 : (!p.hasDict || !hasL p) = true) (h3 : p.leavesShort 60 = true) (h4 : p.bulk ≤ 100000) : shOk p = true := by
  have := PyData.shown_le_bulk 60 (by decide) p h3
  unfold shOk
  rw [h1, h2, decide_eq_true (Nat.le_trans this (Nat.le_trans (show _ ≤ 10000000 by omega) (by decide)))]
  rfl
end Det

/-! Val21: tuple(text). -/
namespace Det
open PySem PySem.Spec PyProof.Rows L2
def vTupleA : List PV → Option PV := fun ds => match ds with
  | [.str s] => if s.length ≤ LINE then some (.tup (s.map fun ch => .str [ch])) else none
  | ds => vTuple ds
theorem son_tupleA : SOn bTupleA vTupleA := fun B h ds vs r hB r1 q => by
  unfold vTupleA at q
  split at q
  · split at q
    · rename_i hl
      cases q
      obtain ⟨v, F, rfl, r2⟩ := rsl1 r1
      obtain ⟨rfl, o1, _⟩ := r2.str_inv
      exact ⟨_, _, by rw [tupleA_s, if_pos hl], kq_new, _, Rf.tup (get_new _ _) (RfL.signs o1), by simp, by simp⟩
    · cases q
  · rename_i hn
    obtain ⟨w, h', e, z⟩ := son_tuple hB r1 q
    refine ⟨w, h', ?_, z⟩
    unfold bTupleA
    split
    · rename_i s
      exfalso
      unfold bTuple at e
      simp [rdL, rdT] at e
    · exact e
theorem vtupleA_s {s : List Nat} : vTupleA [.str s] = if s.length ≤ LINE then some (.tup (s.map fun ch => .str [ch])) else none := Eq.trans rfl rfl
theorem vtupleA_l {xs : List PV} : vTupleA [.lst xs] = if PV.noLs xs = true then some (.tup xs) else none := Eq.trans rfl rfl
/-! list + list, where the right one is new and may hold lists -/
section
variable {O U1 U2 : List Nat} {ma mb : Ev} {pa pb : Pe}
def SOr (f : Op2) (g : Vo2) : Prop := ∀ ⦃B : List Nat⦄ ⦃h : Hh⦄ ⦃d e : PV⦄ ⦃v u : AV⦄ ⦃F G : List Nat⦄ ⦃r : PV⦄, (∀ b ∈ B, b < h.length) → Rs B h d v F → Rs B h e u G → g d e = some r → ∃ w h', f v u h = some (w, h') ∧ Kq [] h h' ∧ ∃ G', Rf h' r w (h.length :: G') ∧ G'.Sublist G ∧ h.length < h'.length
theorem se_binr {f : Op2} {g : Vo2} (hs : SOr f g) (a : SE O U1 ma pa) (b : SE O [] mb pb) : SE O [] (mBin f ma mb) (pBin g pa pb) := fun T h0 B φ ps o sl h s =>
  (a s).bind fun d v o1 h1 k1 p1 ⟨F, rd, lF⟩ => by
    have s1 := s.kqB k1 p1
    exact (b s1).bind fun e u o2 h2 k2 p2 ⟨G, re, lG⟩ => by
      cases q : g d e with
      | none => trivial
      | some r =>
        obtain ⟨w, h', e1, k3, G', rr, hG, hl⟩ := hs p2.lt (rd.kq k2 lF.nb) re q
        show Sd B h2 _ (.ok r o2) (R.of (f v u h2))
        rw [e1]
        have fr := lG.fresh
        have lt2 : ∀ n ∈ G', h1.length ≤ n ∧ n < h2.length := fun n hn => fr.2 n (hG.subset hn)
        have k12 : h1.length ≤ h2.length := k2.1
        have k01 : h.length ≤ h1.length := k1.1
        refine ⟨w, h', rfl, k3.nil, p2.kq0 k3, _, Rs.of rr, fun n hn hb => ?_, fun n hn => .inl ?_, fun _ _ => ?_⟩
        · rcases List.mem_cons.mp hn with rfl | hn
          · exact absurd (p2.lt _ hb) (by omega)
          · exact lG.nb n (hG.subset hn) hb
        · rcases List.mem_cons.mp hn with rfl | hn
          · exact ⟨by omega, hl⟩
          · have := lt2 n hn
            exact ⟨by omega, by omega⟩
        · refine List.nodup_cons.mpr ⟨fun z => ?_, fr.1.sublist hG⟩
          have := lt2 _ z
          omega
def vAddR : Vo2 := fun x y => match x, y with
  | .lst xs, .lst ys => if xs.length + ys.length ≤ LINE ∧ PV.noLs xs = true then some (.lst (xs ++ ys)) else none
  | _, _ => none
theorem sor_add : SOr opAdd vAddR := fun B h d e v u F G r hB r1 r2 q => by
  unfold vAddR at q
  split at q
  · rename_i xs ys
    split at q
    · rename_i hl
      obtain ⟨hl, n1⟩ := hl
      cases q
      obtain ⟨n, as, G1, rfl, e1, q1, rfl⟩ := Rf.lst_inv (h := h) r1
      obtain ⟨m, bs, G2, rfl, e2, q2, rfl⟩ := Rf.lst_inv (h := h) r2
      have z1 := noLs_nil n1 q1
      subst z1
      have a1 : rdL h (.ref n) = some as := by unfold rdL; simp only [e1]
      have a2 : rdL h (.ref m) = some bs := by unfold rdL; simp only [e2]
      refine ⟨_, _, by rw [add_lists a1 a2, if_pos (by rw [← q1.len, ← q2.len]; exact hl)], kq_new, G2, ?_, List.sublist_cons_self _ _, by simp⟩
      have := q1.app q2
      exact Rf.lst (get_new _ _) (RfL.kq (M := []) kq_new (by simpa using this) (by simp))
    · cases q
  · cases q
theorem vaddr_ll {xs ys : List PV} : vAddR (.lst xs) (.lst ys) = if xs.length + ys.length ≤ LINE ∧ PV.noLs xs = true then some (.lst (xs ++ ys)) else none := Eq.trans rfl rfl
end
end Det


namespace Lk15
open PySem PySem.Spec PyProof.Rows L2 Det
def topS (i : Nat) : Stmt := PySem.Challenge.pw_autoclosing_k15_key_lists_recognized.main.body.getD i (.Pass ⟨0, 0, 0, 0⟩)
structure Ad where
  (is_key_list _law_source _law_draw _law_cells _law_is_typed _law_variant _law_judged law : Addr)
structure Fd where
  (is_key_list _law_source _law_draw _law_cells _law_is_typed _law_variant _law_judged law : FuncData)
abbrev t_is_key_list : Stmt := topS 9
abbrev t__law_source : Stmt := topS 11
abbrev t__law_draw : Stmt := topS 12
abbrev t__law_cells : Stmt := topS 13
abbrev t__law_is_typed : Stmt := topS 14
abbrev t__law_variant : Stmt := topS 15
abbrev t__law_judged : Stmt := topS 16
abbrev t_law : Stmt := topS 17
def hasC : CK → Bool := fun _ => false
structure Tp (w : World) (K : PySem.W.Frag) (mg : Str → Option Value) (c : Ct) (A : Ad) (D : Fd) : Prop where
  F_is_key_list : Fun K "is_key_list" "is_key_list" t_is_key_list A.is_key_list D.is_key_list
  G_is_key_list : mg "is_key_list" = some (.ref A.is_key_list)
  B_is_key_list : Binds K D.is_key_list ["value"] []
  F__law_source : Fun K "_law_source" "_law_source" t__law_source A._law_source D._law_source
  G__law_source : mg "_law_source" = some (.ref A._law_source)
  B__law_source : Binds K D._law_source ["cell", "index"] []
  F__law_draw : Fun K "_law_draw" "_law_draw" t__law_draw A._law_draw D._law_draw
  G__law_draw : mg "_law_draw" = some (.ref A._law_draw)
  B__law_draw : Binds K D._law_draw ["source", "count"] []
  F__law_cells : Fun K "_law_cells" "_law_cells" t__law_cells A._law_cells D._law_cells
  G__law_cells : mg "_law_cells" = some (.ref A._law_cells)
  B__law_cells : Binds K D._law_cells ["script", "count"] []
  F__law_is_typed : Fun K "_law_is_typed" "_law_is_typed" t__law_is_typed A._law_is_typed D._law_is_typed
  G__law_is_typed : mg "_law_is_typed" = some (.ref A._law_is_typed)
  B__law_is_typed : Binds K D._law_is_typed ["item"] []
  F__law_variant : Fun K "_law_variant" "_law_variant" t__law_variant A._law_variant D._law_variant
  G__law_variant : mg "_law_variant" = some (.ref A._law_variant)
  B__law_variant : Binds K D._law_variant ["source", "typed"] []
  F__law_judged : Fun K "_law_judged" "_law_judged" t__law_judged A._law_judged D._law_judged
  G__law_judged : mg "_law_judged" = some (.ref A._law_judged)
  B__law_judged : Binds K D._law_judged ["item"] []
  F_law : Fun K "law" "law" t_law A.law D.law
  K_is_key_list_0_value : KBinds K D.is_key_list ["value"] ["value"] (perm [0] 0 1) (perm [0] 0 1)
  z_all : mg "all" = none
  z_enumerate : mg "enumerate" = none
  z_int : mg "int" = none
  z_isinstance : mg "isinstance" = none
  z_len : mg "len" = none
  z_list : mg "list" = none
  z_max : mg "max" = none
  z_range : mg "range" = none
  z_repr : mg "repr" = none
  z_str : mg "str" = none
  z_tuple : mg "tuple" = none
  s_KEYS : ∃ t, mg "KEYS" = some (.str (mkS [97, 98, 99, 100, 101, 102, 103, 104, 105, 106, 107, 108, 109, 110, 111, 112, 113, 114, 115, 116, 117, 118, 119, 120, 121, 122, 40, 91, 123, 41, 93, 125, 60, 62, 45]) t)
  hw : w.params = c.P
  hc : c.has = hasC
section
variable {P : Program} {w : World} {K : PySem.W.Frag} {mg : Str → Option Value} {base : Heap} {c : Ct} {A : Ad} {D : Fd}
abbrev s_is_key_list : Stmt := topS 9
abbrev N_is_key_list : List Str := ["value", "key"]
theorem sc_is_key_list : FnScope N_is_key_list ["value"] (defScope s_is_key_list) := ⟨rfl, rfl, rfl, by decide +kernel, rfl, by decide +kernel, by decide +kernel⟩
def b_is_key_list : Es := mRet (mAndV (mIsi [.str] (mVar 0)) (mB1 bAll (mCons (mLc (mIter (mVar 0)) [1] (mGn 1) (mYes) (mBin opIn (mVar 1) (mC (.str [97, 98, 99, 100, 101, 102, 103, 104, 105, 106, 107, 108, 109, 110, 111, 112, 113, 114, 115, 116, 117, 118, 119, 120, 121, 122, 40, 91, 123, 41, 93, 125, 60, 62, 45])))) (mNil))))
def m_is_key_list : Fn := mFn 2 b_is_key_list
theorem ok_is_key_list (T : Tp w K mg c A D) {j : Nat} : FnOk P w K mg base (L2.CX P w) (j + 1) A.is_key_list D.is_key_list ["value"] (spM K c 1 m_is_key_list) :=
  fnD (k := j + 0) T.F_is_key_list sc_is_key_list fun cdv A1 outer s H E hr =>
    (dss_one (ds_ret (de_and (de_isi (t := .str) (by decide) rfl (by rfl) T.z_isinstance (de_var 0 (pv 0)) (by rfl) T.z_str rfl) (de_one (de_callB (dl_all rfl) (by rfl) T.z_all rfl (da_cons (de_lc (own := [("key", 1)]) (vs := [1]) rfl sc_is_key_list.nd (di_iter (de_var 0 (pv 0))) (by show BlkOk N_is_key_list (defScope s_is_key_list) _ [("key", 1)]; exact ⟨rfl, by decide +kernel, by decide +kernel, by decide +kernel, by decide +kernel⟩) rfl (fun s H C cl fp => dg_name (i := 1) (by decide) sc_is_key_list.nd rfl (by first | exact .inl rfl | exact .inr rfl)) (fun s H C cl fp => dts_nil) (fun s H C cl fp => de_cmp (do_in (hu65 hr) T.hw) (de_var 1 (pv 1)) (de_gstr (by rfl) T.s_KEYS) (by with_unfolding_all rfl))) (da_nil)))))))
abbrev s__law_source : Stmt := topS 11
abbrev N__law_source : List Str := ["cell", "index"]
theorem sc__law_source : FnScope N__law_source ["cell", "index"] (defScope s__law_source) := ⟨rfl, rfl, rfl, by decide +kernel, rfl, by decide +kernel, by decide +kernel⟩
def b__law_source : Es := mRet (mLst (mCons (mB1 bMax (mCons (mC (.int 0)) (mCons (mBin opSub (mVar 0) (mBin opPow (mC (.int 10)) (mC (.int 18)))) (mNil)))) (mCons (mBin opAdd (mBin opAdd (mBin opPow (mBin opMod (mVar 0) (mBin opAdd (mBin opPow (mC (.int 10)) (mC (.int 38))) (mC (.int 133)))) (mC (.int 3))) (mBin opMul (mC (.int 823547)) (mVar 1))) (mC (.int 331662479035539984))) (mCons (mC (.int 0)) (mNil)))))
def m__law_source : Fn := mFn 2 b__law_source
theorem ok__law_source (T : Tp w K mg c A D) {j : Nat} : FnOk P w K mg base (L2.CX P w) (j + 1) A._law_source D._law_source ["cell", "index"] (spM K c 2 m__law_source) :=
  fnD (k := j + 0) T.F__law_source sc__law_source fun cdv A1 outer s H E hr =>
    (dss_one (ds_ret (de_lst (da_cons (de_callB (dl_max rfl) (by rfl) T.z_max rfl (da_cons (de_int) (da_cons (de_bin do_sub (de_var 0 (pv 0)) (de_bin do_pow (de_int) (de_int))) (da_nil)))) (da_cons (de_bin do_add (de_bin do_add (de_bin do_pow (de_bin do_mod (de_var 0 (pv 0)) (de_bin do_add (de_bin do_pow (de_int) (de_int)) (de_int))) (de_int)) (de_bin do_mul (de_int) (de_var 1 (pv 1)))) (de_int)) (da_cons (de_int) (da_nil)))))))
abbrev s__law_draw : Stmt := topS 12
abbrev N__law_draw : List Str := ["source", "count", "digit"]
theorem sc__law_draw : FnScope N__law_draw ["source", "count"] (defScope s__law_draw) := ⟨rfl, rfl, rfl, by decide +kernel, rfl, by decide +kernel, by decide +kernel⟩
def b__law_draw : Es := mSeq (mIf (mB (mBin opGt (mBin opIx (mVar 0) (mC (.int 0))) (mC (.int 0)))) (mSeq (mSet 2 (mBin opMod (mBin opIx (mVar 0) (mC (.int 0))) (mVar 1)))
    (mSeq (mAsg (mGsub (mVar 0) (mC (.int 0))) (mBin opDiv (mBin opIx (mVar 0) (mC (.int 0))) (mVar 1)))
    (mRet (mVar 2)))) (mSkip))
    (mSeq (mAsg (mGsub (mVar 0) (mC (.int 2))) (mBin opAdd (mBin opIx (mVar 0) (mC (.int 2))) (mC (.int 1))))
    (mSeq (mAsg (mGsub (mVar 0) (mC (.int 1))) (mBin opMod (mBin opAdd (mBin opAdd (mBin opPow (mBin opIx (mVar 0) (mC (.int 1))) (mC (.int 3))) (mBin opMul (mC (.int 479001599)) (mBin opIx (mVar 0) (mC (.int 2))))) (mC (.int 5))) (mBin opAdd (mBin opPow (mC (.int 10)) (mC (.int 33))) (mC (.int 61)))))
    (mRet (mBin opMod (mBin opDiv (mBin opIx (mVar 0) (mC (.int 1))) (mBin opPow (mC (.int 10)) (mC (.int 8)))) (mVar 1)))))
def m__law_draw : Fn := mFn 3 b__law_draw
theorem ok__law_draw (T : Tp w K mg c A D) {j : Nat} : FnOk P w K mg base (L2.CX P w) (j + 1) A._law_draw D._law_draw ["source", "count"] (spM K c 2 m__law_draw) :=
  fnD (k := j + 0) T.F__law_draw sc__law_draw fun cdv A1 outer s H E hr =>
    (dss_cons (ds_if (dt_cmp do_gt (de_ix (hu64 hr) T.hw (de_var 0 (pv 0)) (de_int) (fun _ _ => rfl)) (de_int) (nomark _)) (dss_cons (ds_set (i := 2) sc__law_draw.nd rfl (by first | exact .inl rfl | exact .inr rfl) (de_bin do_mod (de_ix (hu64 hr) T.hw (de_var 0 (pv 0)) (de_int) (fun _ _ => rfl)) (de_var 1 (pv 1))))
    (dss_cons (ds_asg (vs := []) (de_bin do_div (de_ix (hu64 hr) T.hw (de_var 0 (pv 0)) (de_int) (fun _ _ => rfl)) (de_var 1 (pv 1))) (dg_sub (W := W0) (hu64 hr) (de_var 0 (pv 0)) (de_int) (fun _ => rfl)))
    (dss_one (ds_ret (de_var 2 (pv 2)))))) (dss_nil))
    (dss_cons (ds_asg (vs := []) (de_bin do_add (de_ix (hu64 hr) T.hw (de_var 0 (pv 0)) (de_int) (fun _ _ => rfl)) (de_int)) (dg_sub (W := W0) (hu64 hr) (de_var 0 (pv 0)) (de_int) (fun _ => rfl)))
    (dss_cons (ds_asg (vs := []) (de_bin do_mod (de_bin do_add (de_bin do_add (de_bin do_pow (de_ix (hu64 hr) T.hw (de_var 0 (pv 0)) (de_int) (fun _ _ => rfl)) (de_int)) (de_bin do_mul (de_int) (de_ix (hu64 hr) T.hw (de_var 0 (pv 0)) (de_int) (fun _ _ => rfl)))) (de_int)) (de_bin do_add (de_bin do_pow (de_int) (de_int)) (de_int))) (dg_sub (W := W0) (hu64 hr) (de_var 0 (pv 0)) (de_int) (fun _ => rfl)))
    (dss_one (ds_ret (de_bin do_mod (de_bin do_div (de_ix (hu64 hr) T.hw (de_var 0 (pv 0)) (de_int) (fun _ _ => rfl)) (de_bin do_pow (de_int) (de_int))) (de_var 1 (pv 1))))))))
abbrev s__law_cells : Stmt := topS 13
abbrev N__law_cells : List Str := ["script", "count"]
theorem sc__law_cells : FnScope N__law_cells ["script", "count"] (defScope s__law_cells) := ⟨rfl, rfl, rfl, by decide +kernel, rfl, by decide +kernel, by decide +kernel⟩
def b__law_cells : Es := mRet (mBin opAdd (mSlice (mVar 0) (mNo) (mSome (mVar 1))) (mBin opMul (mLst (mCons (mC (.int 0)) (mNil))) (mB1 bInt (mCons (mBin opEq (mVar 0) (mLst (mNil))) (mNil)))))
def m__law_cells : Fn := mFn 2 b__law_cells
theorem ok__law_cells (T : Tp w K mg c A D) {j : Nat} : FnOk P w K mg base (L2.CX P w) (j + 1) A._law_cells D._law_cells ["script", "count"] (spM K c 2 m__law_cells) :=
  fnD (k := j + 0) T.F__law_cells sc__law_cells fun cdv A1 outer s H E hr =>
    (dss_one (ds_ret (de_bin do_add (de_slice (de_var 0 (pv 0)) (do_none) (do_some (de_var 1 (pv 1)))) (de_bin do_mul (de_lst (da_cons (de_int) (da_nil))) (de_callTy dl_int (by rfl) T.z_int rfl (da_cons (de_cmp (do_eq (hu64 hr)) (de_var 0 (pv 0)) (de_lst (da_nil)) (nomark _)) (da_nil)))))))
abbrev s__law_is_typed : Stmt := topS 14
abbrev N__law_is_typed : List Str := ["item", "sign"]
theorem sc__law_is_typed : FnScope N__law_is_typed ["item"] (defScope s__law_is_typed) := ⟨rfl, rfl, rfl, by decide +kernel, rfl, by decide +kernel, by decide +kernel⟩
def b__law_is_typed : Es := mSeq (mIf (mNot (mB (mIsi [.str] (mVar 0)))) (mRet (mC (.bl false))) (mSkip))
    (mRet (mBin opEq (mLc (mIter (mVar 0)) [1] (mGn 1) (mAnd (mNot (mB (mChain opLe opLe (mC (.str [97])) (mVar 1) (mC (.str [122]))))) (mB (mBin opNotIn (mVar 1) (mC (.str [40, 41, 91, 93, 123, 125, 60, 62, 45]))))) (mVar 1)) (mLst (mNil))))
def m__law_is_typed : Fn := mFn 2 b__law_is_typed
theorem ok__law_is_typed (T : Tp w K mg c A D) {j : Nat} : FnOk P w K mg base (L2.CX P w) (j + 1) A._law_is_typed D._law_is_typed ["item"] (spM K c 1 m__law_is_typed) :=
  fnD (k := j + 0) T.F__law_is_typed sc__law_is_typed fun cdv A1 outer s H E hr =>
    (dss_cons (ds_if (dt_not (dt_val (de_isi (t := .str) (by decide) rfl (by rfl) T.z_isinstance (de_var 0 (pv 0)) (by rfl) T.z_str rfl))) (dss_one (ds_ret (de_bl))) (dss_nil))
    (dss_one (ds_ret (de_cmp (do_eq (hu64 hr)) (de_lc (own := [("sign", 1)]) (vs := [1]) rfl sc__law_is_typed.nd (di_iter (de_var 0 (pv 0))) (by show BlkOk N__law_is_typed (defScope s__law_is_typed) _ [("sign", 1)]; exact ⟨rfl, by decide +kernel, by decide +kernel, by decide +kernel, by decide +kernel⟩) rfl (fun s H C cl fp => dg_name (i := 1) (by decide) sc__law_is_typed.nd rfl (by first | exact .inl rfl | exact .inr rfl)) (fun s H C cl fp => dts_one (dt_w (dw_and (dt_not (dt_chain do_le do_le (de_str [97]) (de_var 1 (pv 1)) (de_str [122]))) (dw_and1 (dt_cmp (do_notIn (hu65 hr) T.hw) (de_var 1 (pv 1)) (de_str [40, 41, 91, 93, 123, 125, 60, 62, 45]) (by with_unfolding_all rfl)))))) (fun s H C cl fp => de_var 1 (pv 1))) (de_lst (da_nil)) (nomark _)))))
abbrev s__law_variant : Stmt := topS 15
abbrev N__law_variant : List Str := ["source", "typed", "at", "sign", "some"]
theorem sc__law_variant : FnScope N__law_variant ["source", "typed"] (defScope s__law_variant) := ⟨rfl, rfl, rfl, by decide +kernel, rfl, by decide +kernel, by decide +kernel⟩
def b__law_variant : Es := mSeq (mSet 2 (mCall m__law_draw (mCons (mVar 0) (mCons (mBin opAdd (mB1 bLen (mCons (mVar 1) (mNil))) (mC (.int 1))) (mNil)))))
    (mSeq (mSet 3 (mBin opIx (mLst (mCons (mC (.str [65])) (mCons (mC (.str [90])) (mCons (mC (.str [48])) (mCons (mC (.str [32])) (mCons (mC (.str [95])) (mCons (mC (.str [96])) (mCons (mC (.str [124])) (mCons (mC (.str [126])) (mCons (mC (.str [10])) (mCons (mC (.str [61])) (mCons (mC (.str [9])) (mCons (mC (.str [97])) (mCons (mC (.str [60])) (mCons (mC (.str [66])) (mNil)))))))))))))))) (mCall m__law_draw (mCons (mVar 0) (mCons (mC (.int 13)) (mNil))))))
    (mSeq (mSet 4 (mLst (mCons (mBin opAdd (mBin opAdd (mSlice (mVar 1) (mNo) (mSome (mVar 2))) (mVar 3)) (mSlice (mVar 1) (mSome (mVar 2)) (mNo))) (mCons (mBin opAdd (mSlice (mVar 1) (mNo) (mSome (mVar 2))) (mSlice (mVar 1) (mSome (mBin opAdd (mVar 2) (mC (.int 1)))) (mNo))) (mCons (mVar 3) (mCons (mUn opRevS (mVar 1)) (mNil)))))))
    (mSeq (mSet 4 (mBin opAdd (mVar 4) (mLst (mCons (mB1 bListA (mCons (mVar 1) (mNil))) (mCons (mB1 bTupleA (mCons (mVar 1) (mNil))) (mCons (mC .non) (mCons (mC (.int 5)) (mCons (mC (.bl true)) (mCons (mLst (mCons (mVar 1) (mNil))) (mCons (mDict0) (mCons (mTup (mCons (mVar 1) (mCons (mC (.int 0)) (mNil)))) (mNil))))))))))))
    (mRet (mBin opIx (mVar 4) (mBin opIx (mLst (mCons (mCall m__law_draw (mCons (mVar 0) (mCons (mC (.int 12)) (mNil)))) (mCons (mC (.int 0)) (mNil)))) (mCall m__law_draw (mCons (mVar 0) (mCons (mC (.int 2)) (mNil))))))))))
def m__law_variant : Fn := mFn 5 b__law_variant
theorem ok__law_variant (T : Tp w K mg c A D) {j : Nat} : FnOk P w K mg base (L2.CX P w) (j + 2) A._law_variant D._law_variant ["source", "typed"] (spM K c 2 m__law_variant) :=
  fnD (k := j + 1) T.F__law_variant sc__law_variant fun cdv A1 outer s H E hr =>
    (dss_cons (ds_set (i := 2) sc__law_variant.nd rfl (by first | exact .inl rfl | exact .inr rfl) (de_call (ok__law_draw T) hr (by rfl) T.G__law_draw T.F__law_draw.kp T.B__law_draw (takes_of rfl rfl rfl rfl) (da_cons (de_var 0 (pv 0)) (da_cons (de_bin do_add (de_callB dl_len (by rfl) T.z_len rfl (da_cons (de_var 1 (pv 1)) (da_nil))) (de_int)) (da_nil))) (alen_cons (alen_cons alen_nil))))
    (dss_cons (ds_set (i := 3) sc__law_variant.nd rfl (by first | exact .inl rfl | exact .inr rfl) (de_ix (hu64 hr) T.hw (de_lst (da_cons (de_str [65]) (da_cons (de_str [90]) (da_cons (de_str [48]) (da_cons (de_str [32]) (da_cons (de_str [95]) (da_cons (de_str [96]) (da_cons (de_str [124]) (da_cons (de_str [126]) (da_cons (de_str [10]) (da_cons (de_str [61]) (da_cons (de_str [9]) (da_cons (de_str [97]) (da_cons (de_str [60]) (da_cons (de_str [66]) (da_nil)))))))))))))))) (de_call (ok__law_draw T) hr (by rfl) T.G__law_draw T.F__law_draw.kp T.B__law_draw (takes_of rfl rfl rfl rfl) (da_cons (de_var 0 (pv 0)) (da_cons (de_int) (da_nil))) (alen_cons (alen_cons alen_nil))) (fun _ _ => rfl)))
    (dss_cons (ds_set (i := 4) sc__law_variant.nd rfl (by first | exact .inl rfl | exact .inr rfl) (de_lst (da_cons (de_bin do_add (de_bin do_add (de_slice (de_var 1 (pv 1)) (do_none) (do_some (de_var 2 (pv 2)))) (de_var 3 (pv 3))) (de_slice (de_var 1 (pv 1)) (do_some (de_var 2 (pv 2))) (do_none))) (da_cons (de_bin do_add (de_slice (de_var 1 (pv 1)) (do_none) (do_some (de_var 2 (pv 2)))) (de_slice (de_var 1 (pv 1)) (do_some (de_bin do_add (de_var 2 (pv 2)) (de_int))) (do_none))) (da_cons (de_var 3 (pv 3)) (da_cons (de_revS (de_var 1 (pv 1))) (da_nil)))))))
    (dss_cons (ds_set (i := 4) sc__law_variant.nd rfl (by first | exact .inl rfl | exact .inr rfl) (de_bin do_add (de_var 4 (pv 4)) (de_lst (da_cons (de_callTy (dl_listA hr.hd) (by rfl) T.z_list rfl (da_cons (de_var 1 (pv 1)) (da_nil))) (da_cons (de_callTy (dl_tupleA hr.hd) (by rfl) T.z_tuple rfl (da_cons (de_var 1 (pv 1)) (da_nil))) (da_cons (de_non) (da_cons (de_int) (da_cons (de_bl) (da_cons (de_lst (da_cons (de_var 1 (pv 1)) (da_nil))) (da_cons (de_dict0) (da_cons (de_tup (da_cons (de_var 1 (pv 1)) (da_cons (de_int) (da_nil)))) (da_nil))))))))))))
    (dss_one (ds_ret (de_ix (hu64 hr) T.hw (de_var 4 (pv 4)) (de_ix (hu64 hr) T.hw (de_lst (da_cons (de_call (ok__law_draw T) hr (by rfl) T.G__law_draw T.F__law_draw.kp T.B__law_draw (takes_of rfl rfl rfl rfl) (da_cons (de_var 0 (pv 0)) (da_cons (de_int) (da_nil))) (alen_cons (alen_cons alen_nil))) (da_cons (de_int) (da_nil)))) (de_call (ok__law_draw T) hr (by rfl) T.G__law_draw T.F__law_draw.kp T.B__law_draw (takes_of rfl rfl rfl rfl) (da_cons (de_var 0 (pv 0)) (da_cons (de_int) (da_nil))) (alen_cons (alen_cons alen_nil))) (fun _ _ => rfl)) (fun _ _ => rfl))))))))
abbrev s__law_judged : Stmt := topS 16
abbrev N__law_judged : List Str := ["item", "expected", "kept"]
theorem sc__law_judged : FnScope N__law_judged ["item"] (defScope s__law_judged) := ⟨rfl, rfl, rfl, by decide +kernel, rfl, by decide +kernel, by decide +kernel⟩
def b__law_judged : Es := mSeq (mSet 1 (mCall m__law_is_typed (mCons (mVar 0) (mNil))))
    (mSeq (mSet 2 (mB1 bRepr (mCons (mVar 0) (mNil))))
    (mRet (mAndV (mBin opEq (mB1 bRepr (mCons (mLst (mCons (mCall m_is_key_list (mCons (mVar 0) (mNil))) (mCons (mCallK m_is_key_list [0] 0 1 mNil (mCons (mVar 0) (mNil))) (mNil)))) (mNil))) (mB1 bRepr (mCons (mBin opMul (mLst (mCons (mVar 1) (mNil))) (mC (.int 2))) (mNil)))) (mBin opEq (mB1 bRepr (mCons (mVar 0) (mNil))) (mVar 2)))))
def m__law_judged : Fn := mFn 3 b__law_judged
theorem ok__law_judged (T : Tp w K mg c A D) {j : Nat} : FnG P w K mg base (L2.CX P w) (j + 2) A._law_judged D._law_judged ["item"] (spM K c 1 m__law_judged) :=
  fnDG (k := j + 1) T.F__law_judged sc__law_judged fun cdv A1 outer s H E gd hr =>
    (dss_cons (ds_set (i := 1) sc__law_judged.nd rfl (by first | exact .inl rfl | exact .inr rfl) (de_call (ok__law_is_typed T) hr (by rfl) T.G__law_is_typed T.F__law_is_typed.kp T.B__law_is_typed (takes_of rfl rfl rfl rfl) (da_cons (de_var 0 (pv 0)) (da_nil)) (alen_cons alen_nil)))
    (dss_cons (ds_set (i := 2) sc__law_judged.nd rfl (by first | exact .inl rfl | exact .inr rfl) (de_callB (dl_repr gd (hu64 hr)) (by rfl) T.z_repr rfl (da_cons (de_var 0 (pv 0)) (da_nil))))
    (dss_one (ds_ret (de_and (de_cmp (do_eq (hu64 hr)) (de_callB (dl_repr gd (hu64 hr)) (by rfl) T.z_repr rfl (da_cons (de_lst (da_cons (de_call (ok_is_key_list T) hr (by rfl) T.G_is_key_list T.F_is_key_list.kp T.B_is_key_list (takes_of rfl rfl rfl rfl) (da_cons (de_var 0 (pv 0)) (da_nil)) (alen_cons alen_nil)) (da_cons (de_callK0 (ok_is_key_list T) hr (by rfl) T.G_is_key_list T.F_is_key_list.kp T.K_is_key_list_0_value (takes_of rfl rfl rfl rfl) (dk_cons (de_var 0 (pv 0)) (dk_nil) (fun a b => pk_cons a b))) (da_nil)))) (da_nil))) (de_callB (dl_repr gd (hu64 hr)) (by rfl) T.z_repr rfl (da_cons (de_bin do_mul (de_lst (da_cons (de_var 1 (pv 1)) (da_nil))) (de_int)) (da_nil))) (nomark _)) (de_one (de_cmp (do_eq (hu64 hr)) (de_callB (dl_repr gd (hu64 hr)) (by rfl) T.z_repr rfl (da_cons (de_var 0 (pv 0)) (da_nil))) (de_var 2 (pv 2)) (nomark _))))))))
abbrev s_law : Stmt := topS 17
abbrev N_law : List Str := ["script", "signs", "sign", "k", "cell", "source", "turn", "size", "menu", "typed", "item", "step"]
theorem sc_law : FnScope N_law ["script"] (defScope s_law) := ⟨rfl, rfl, rfl, by decide +kernel, rfl, by decide +kernel, by decide +kernel⟩
def b_law_1 : Es := mIf (mB (mBin opNe (mLc (mIter (mLst (mCons (mVar 2) (mCons (mBin opAdd (mC (.str [97])) (mVar 2)) (mCons (mBin opAdd (mVar 2) (mC (.str [60]))) (mCons (mBin opAdd (mBin opAdd (mC (.str [40])) (mVar 2)) (mC (.str [62]))) (mNil))))))) [10] (mGn 10) (mNot (mB (mCall m__law_judged (mCons (mVar 10) (mNil))))) (mVar 10)) (mLst (mNil)))) (mRet (mC (.bl false))) (mSkip)
def b_law_2 : Es := mSeq (mSet 7 (mIfE (mB (mBin opEq (mVar 0) (mLst (mNil)))) (mC (.int 5)) (mBin opIx (mLst (mCons (mCall m__law_draw (mCons (mVar 5) (mCons (mC (.int 20)) (mNil)))) (mCons (mC (.int 400)) (mNil)))) (mCall m__law_draw (mCons (mVar 5) (mCons (mC (.int 2)) (mNil)))))))
    (mSeq (mSet 8 (mC (.str [97, 98, 99, 100, 101, 102, 103, 104, 105, 106, 107, 108, 109, 110, 111, 112, 113, 114, 115, 116, 117, 118, 119, 120, 121, 122, 40, 41, 91, 93, 123, 125, 60, 62, 45])))
    (mSeq (mSet 9 (mMeth "str" mJoin (mC (.str [])) (mCons (mLc (mRange1 (mVar 7)) [11] (mGn 11) (mYes) (mBin opIx (mVar 8) (mCall m__law_draw (mCons (mVar 5) (mCons (mC (.int 35)) (mNil)))))) (mNil))))
    (mIf (mOr (mNot (mB (mCall m__law_judged (mCons (mVar 9) (mNil))))) (mNot (mB (mCall m__law_judged (mCons (mCall m__law_variant (mCons (mVar 5) (mCons (mVar 9) (mNil)))) (mNil)))))) (mRet (mC (.bl false))) (mSkip))))
def b_law_3 : Es := mSeq (mSet 5 (mCall m__law_source (mCons (mVar 4) (mCons (mVar 3) (mNil)))))
    (mFor (mRange1 (mC (.int 4))) (mGn 6) (b_law_2))
def b_law : Es := mSeq (mSet 1 (mC (.str [32, 33, 34, 35, 36, 38, 39, 40, 41, 42, 43, 44, 45, 46, 47, 48, 49, 50, 51, 52, 53, 54, 55, 56, 57, 58, 59, 60, 61, 62, 63, 64, 65, 66, 67, 68, 69, 70, 71, 72, 73, 74, 75, 76, 77, 78, 79, 80, 81, 82, 83, 84, 85, 86, 87, 88, 89, 90, 91, 92, 93, 94, 95, 96, 97, 98, 99, 100, 101, 102, 103, 104, 105, 106, 107, 108, 109, 110, 111, 112, 113, 114, 115, 116, 117, 118, 119, 120, 121, 122, 123, 124, 125, 126, 9, 10])))
    (mSeq (mFor (mIter (mVar 1)) (mGn 2) (b_law_1))
    (mSeq (mFor (mEnum (mCall m__law_cells (mCons (mVar 0) (mCons (mC (.int 8)) (mNil))))) (mGt [mGn 3, mGn 4]) (b_law_3))
    (mRet (mC (.bl true)))))
def m_law : Fn := mFn 12 b_law
theorem ok_law (T : Tp w K mg c A D) {j : Nat} : FnG P w K mg base (L2.CX P w) (j + 3) A.law D.law ["script"] (spM K c 1 m_law) :=
  fnDG (k := j + 2) T.F_law sc_law fun cdv A1 outer s H E gd hr =>
    (dss_cons (ds_set (i := 1) sc_law.nd rfl (by first | exact .inl rfl | exact .inr rfl) (de_str [32, 33, 34, 35, 36, 38, 39, 40, 41, 42, 43, 44, 45, 46, 47, 48, 49, 50, 51, 52, 53, 54, 55, 56, 57, 58, 59, 60, 61, 62, 63, 64, 65, 66, 67, 68, 69, 70, 71, 72, 73, 74, 75, 76, 77, 78, 79, 80, 81, 82, 83, 84, 85, 86, 87, 88, 89, 90, 91, 92, 93, 94, 95, 96, 97, 98, 99, 100, 101, 102, 103, 104, 105, 106, 107, 108, 109, 110, 111, 112, 113, 114, 115, 116, 117, 118, 119, 120, 121, 122, 123, 124, 125, 126, 9, 10]))
    (dss_cons (ds_for (vs := [2]) (passes_of rfl) rfl (di_iter (de_var 1 (pv 1))) (dg_name (i := 2) (by decide) sc_law.nd rfl (by first | exact .inl rfl | exact .inr rfl)) (dss_one (ds_if (dt_cmp (do_ne (hu64 hr)) (de_lc (own := [("item", 10)]) (vs := [10]) rfl sc_law.nd (di_iter (de_lst (da_cons (de_var 2 (pv 2)) (da_cons (de_bin do_add (de_str [97]) (de_var 2 (pv 2))) (da_cons (de_bin do_add (de_var 2 (pv 2)) (de_str [60])) (da_cons (de_bin do_add (de_bin do_add (de_str [40]) (de_var 2 (pv 2))) (de_str [62])) (da_nil))))))) (by show BlkOk N_law (defScope s_law) _ [("item", 10)]; exact ⟨rfl, by decide +kernel, by decide +kernel, by decide +kernel, by decide +kernel⟩) rfl (fun s H C cl fp => dg_name (i := 10) (by decide) sc_law.nd rfl (by first | exact .inl rfl | exact .inr rfl)) (fun s H C cl fp => dts_one (dt_not (dt_val (de_callG (ok__law_judged T) gd hr (by rfl) T.G__law_judged T.F__law_judged.kp T.B__law_judged takes0 (da_cons (de_var 10 (pv 10)) (da_nil)) (alen_cons alen_nil))))) (fun s H C cl fp => de_var 10 (pv 10))) (de_lst (da_nil)) (nomark _)) (dss_one (ds_ret (de_bl))) (dss_nil))))
    (dss_cons (ds_for (vs := [3, 4]) (passes_of rfl) rfl (di_enum (by rfl) T.z_enumerate (de_call (ok__law_cells T) hr (by rfl) T.G__law_cells T.F__law_cells.kp T.B__law_cells (takes_of rfl rfl rfl rfl) (da_cons (de_var 0 (pv 0)) (da_cons (de_int) (da_nil))) (alen_cons (alen_cons alen_nil)))) (dg_tup rfl (dgs_cons (dg_name (i := 3) (by decide) sc_law.nd rfl (by first | exact .inl rfl | exact .inr rfl)) (dgs_cons (dg_name (i := 4) (by decide) sc_law.nd rfl (by first | exact .inl rfl | exact .inr rfl)) (dgs_nil)))) (dss_cons (ds_set (i := 5) sc_law.nd rfl (by first | exact .inl rfl | exact .inr rfl) (de_call (ok__law_source T) hr (by rfl) T.G__law_source T.F__law_source.kp T.B__law_source (takes_of rfl rfl rfl rfl) (da_cons (de_var 4 (pv 4)) (da_cons (de_var 3 (pv 3)) (da_nil))) (alen_cons (alen_cons alen_nil))))
    (dss_one (ds_for (vs := [6]) (passes_of rfl) rfl (di_range1 (by rfl) T.z_range (de_int)) (dg_name (i := 6) (by decide) sc_law.nd rfl (by first | exact .inl rfl | exact .inr rfl)) (dss_cons (ds_set (i := 7) sc_law.nd rfl (by first | exact .inl rfl | exact .inr rfl) (de_if (dt_cmp (do_eq (hu64 hr)) (de_var 0 (pv 0)) (de_lst (da_nil)) (nomark _)) (de_int) (de_ix (hu64 hr) T.hw (de_lst (da_cons (de_call (ok__law_draw T) hr (by rfl) T.G__law_draw T.F__law_draw.kp T.B__law_draw (takes_of rfl rfl rfl rfl) (da_cons (de_var 5 (pv 5)) (da_cons (de_int) (da_nil))) (alen_cons (alen_cons alen_nil))) (da_cons (de_int) (da_nil)))) (de_call (ok__law_draw T) hr (by rfl) T.G__law_draw T.F__law_draw.kp T.B__law_draw (takes_of rfl rfl rfl rfl) (da_cons (de_var 5 (pv 5)) (da_cons (de_int) (da_nil))) (alen_cons (alen_cons alen_nil))) (fun _ _ => rfl))))
    (dss_cons (ds_set (i := 8) sc_law.nd rfl (by first | exact .inl rfl | exact .inr rfl) (de_str [97, 98, 99, 100, 101, 102, 103, 104, 105, 106, 107, 108, 109, 110, 111, 112, 113, 114, 115, 116, 117, 118, 119, 120, 121, 122, 40, 41, 91, 93, 123, 125, 60, 62, 45]))
    (dss_cons (ds_set (i := 9) sc_law.nd rfl (by first | exact .inl rfl | exact .inr rfl) (de_meth PySem.F.plainAttrs_str PySem.F.slot_str_join PySem.F.type_str_join dm_join (de_str []) (da_cons (de_lc (own := [("step", 11)]) (vs := [11]) rfl sc_law.nd (di_range1 (by rfl) T.z_range (de_var 7 (pv 7))) (by show BlkOk N_law (defScope s_law) _ [("step", 11)]; exact ⟨rfl, by decide +kernel, by decide +kernel, by decide +kernel, by decide +kernel⟩) rfl (fun s H C cl fp => dg_name (i := 11) (by decide) sc_law.nd rfl (by first | exact .inl rfl | exact .inr rfl)) (fun s H C cl fp => dts_nil) (fun s H C cl fp => de_ix (hu64 hr) T.hw (de_var 8 (pv 8)) (de_call (ok__law_draw T) hr (by rfl) T.G__law_draw T.F__law_draw.kp T.B__law_draw takes0 (da_cons (de_var 5 (pv 5)) (da_cons (de_int) (da_nil))) (alen_cons (alen_cons alen_nil))) (fun _ _ => rfl))) (da_nil))))
    (dss_one (ds_if (dt_w (dw_or (dt_not (dt_val (de_callG (ok__law_judged T) gd hr (by rfl) T.G__law_judged T.F__law_judged.kp T.B__law_judged (takes_of rfl rfl rfl rfl) (da_cons (de_var 9 (pv 9)) (da_nil)) (alen_cons alen_nil)))) (dw_or1 (dt_not (dt_val (de_callG (ok__law_judged T) gd hr (by rfl) T.G__law_judged T.F__law_judged.kp T.B__law_judged (takes_of rfl rfl rfl rfl) (da_cons (de_call (ok__law_variant T) hr (by rfl) T.G__law_variant T.F__law_variant.kp T.B__law_variant (takes_of rfl rfl rfl rfl) (da_cons (de_var 5 (pv 5)) (da_cons (de_var 9 (pv 9)) (da_nil))) (alen_cons (alen_cons alen_nil))) (da_nil)) (alen_cons alen_nil))))))) (dss_one (ds_ret (de_bl))) (dss_nil))))))))))
    (dss_one (ds_ret (de_bl))))))
end
abbrev O_is_key_list : List Nat := []
def pb_is_key_list : Pst := pRet (pAndV (pIsi [.str] (pVar 0)) (pB1 vAll (pCons (pLc (pIter (pVar 0)) [1] (pGn 1) (pYes) (pBin vIn (pVar 1) (pC (.str [97, 98, 99, 100, 101, 102, 103, 104, 105, 106, 107, 108, 109, 110, 111, 112, 113, 114, 115, 116, 117, 118, 119, 120, 121, 122, 40, 91, 123, 41, 93, 125, 60, 62, 45])))) (pNil))))
def p_is_key_list : Pf := pFn 1 2 pb_is_key_list
theorem pw_is_key_list {x0 : PV} {o : Pool} {Q : PV → Pool → Prop} (w : Ws (pb_is_key_list [some x0, none] o) { nx := fun _ o => Q .non o, rt := Q }) : Wq (p_is_key_list [x0] o) Q := pfn_wp rfl w
theorem v_is_key_list : SF m_is_key_list p_is_key_list := sf_fn (O := O_is_key_list) (M := O_is_key_list) (by decide)
    (ss_ret (U := []) (by decide) (by decide) (se_and (se_isi (U := []) (se_var 0)) (se_b1 (U := []) son_all (sr_cons (se_lc (U := []) (U1 := [0]) (by decide) (si_iter (se_var 0)) (sg_name (by decide)) (st_yes) (se_bin (U := []) so_in (se_var 1) (se_str (U := [])))) (sr_nil)))))
abbrev O__law_source : List Nat := []
def pb__law_source : Pst := pRet (pLst (pConsD (pB1 vMax (pCons (pC (.int 0)) (pCons (pBin vSub (pVar 0) (pBin vPow (pC (.int 10)) (pC (.int 18)))) (pNil)))) (pConsD (pBin vAdd (pBin vAdd (pBin vPow (pBin vMod (pVar 0) (pBin vAdd (pBin vPow (pC (.int 10)) (pC (.int 38))) (pC (.int 133)))) (pC (.int 3))) (pBin vMul (pC (.int 823547)) (pVar 1))) (pC (.int 331662479035539984))) (pConsD (pC (.int 0)) (pNil)))))
def p__law_source : Pf := pFn 2 2 pb__law_source
theorem pw__law_source {x0 x1 : PV} {o : Pool} {Q : PV → Pool → Prop} (w : Ws (pb__law_source [some x0, some x1] o) { nx := fun _ o => Q .non o, rt := Q }) : Wq (p__law_source [x0, x1] o) Q := pfn_wp rfl w
theorem v__law_source : SF m__law_source p__law_source := sf_fn (O := O__law_source) (M := O__law_source) (by decide)
    (ss_ret (U := []) (by decide) (by decide) (se_lst (sa_cons (U1 := []) (U2 := []) (se_b1 (U := []) son_max (sr_cons (se_int (U := [])) (sr_cons (se_bin (U := []) so_sub (se_var 0) (se_bin (U := []) so_pow (se_int (U := [])) (se_int (U := [])))) (sr_nil)))) (sa_cons (U1 := []) (U2 := []) (se_bin (U := []) so_add (se_bin (U := []) so_add (se_bin (U := []) so_pow (se_bin (U := []) so_mod (se_var 0) (se_bin (U := []) so_add (se_bin (U := []) so_pow (se_int (U := [])) (se_int (U := []))) (se_int (U := [])))) (se_int (U := []))) (se_bin (U := []) so_mul (se_int (U := [])) (se_var 1))) (se_int (U := []))) (sa_cons (U1 := []) (U2 := []) (se_int (U := [])) (sa_nil))))))
abbrev O__law_draw : List Nat := []
def pb__law_draw : Pst := pSeq (pIf (pB (pBin vGt (pTokIx 0 0) (pC (.int 0)))) (pSeq (pSet 2 (pBin vMod (pTokIx 0 0) (pVar 1)))
    (pSeq (pTokSet 0 0 (pBin vDiv (pTokIx 0 0) (pVar 1)))
    (pRet (pN (pVar 2))))) (pSkip))
    (pSeq (pTokSet 0 2 (pBin vAdd (pTokIx 0 2) (pC (.int 1))))
    (pSeq (pTokSet 0 1 (pBin vMod (pBin vAdd (pBin vAdd (pBin vPow (pTokIx 0 1) (pC (.int 3))) (pBin vMul (pC (.int 479001599)) (pTokIx 0 2))) (pC (.int 5))) (pBin vAdd (pBin vPow (pC (.int 10)) (pC (.int 33))) (pC (.int 61)))))
    (pRet (pBin vMod (pBin vDiv (pTokIx 0 1) (pBin vPow (pC (.int 10)) (pC (.int 8)))) (pVar 1)))))
def p__law_draw : Pf := pFn 2 3 pb__law_draw
theorem pw__law_draw {x0 x1 : PV} {o : Pool} {Q : PV → Pool → Prop} (w : Ws (pb__law_draw [some x0, some x1, none] o) { nx := fun _ o => Q .non o, rt := Q }) : Wq (p__law_draw [x0, x1] o) Q := pfn_wp rfl w
theorem v__law_draw : SF m__law_draw p__law_draw := sf_fn (O := O__law_draw) (M := O__law_draw) (by decide)
    (ss_seq (ss_if (st_B (se_bin (U := []) so_gt (se_tokIx (U := [])) (se_int (U := [])))) (ss_seq (ss_set (U := []) (by decide) (by decide) (se_bin (U := []) so_mod (se_tokIx (U := [])) (se_var 1)))
    (ss_seq (ss_tokSet (k := 0) (by decide) (se_bin (U := []) so_div (se_tokIx (U := [])) (se_var 1)))
    (ss_ret (U := []) (by decide) (by decide) (se_n (U := []) (se_var 2))))) (ss_skip (by decide)))
    (ss_seq (ss_tokSet (k := 2) (by decide) (se_bin (U := []) so_add (se_tokIx (U := [])) (se_int (U := []))))
    (ss_seq (ss_tokSet (k := 1) (by decide) (se_bin (U := []) so_mod (se_bin (U := []) so_add (se_bin (U := []) so_add (se_bin (U := []) so_pow (se_tokIx (U := [])) (se_int (U := []))) (se_bin (U := []) so_mul (se_int (U := [])) (se_tokIx (U := [])))) (se_int (U := []))) (se_bin (U := []) so_add (se_bin (U := []) so_pow (se_int (U := [])) (se_int (U := []))) (se_int (U := [])))))
    (ss_ret (U := []) (by decide) (by decide) (se_bin (U := []) so_mod (se_bin (U := []) so_div (se_tokIx (U := [])) (se_bin (U := []) so_pow (se_int (U := [])) (se_int (U := [])))) (se_var 1))))))
abbrev O__law_cells : List Nat := []
def pb__law_cells : Pst := pRet (pBin vAdd (pSlice (pVar 0) (pNo) (pSome (pVar 1))) (pBin vMul (pLst (pConsD (pC (.int 0)) (pNil))) (pB1 vInt (pCons (pBin vEq (pVar 0) (pLst (pNil))) (pNil)))))
def p__law_cells : Pf := pFn 2 2 pb__law_cells
theorem pw__law_cells {x0 x1 : PV} {o : Pool} {Q : PV → Pool → Prop} (w : Ws (pb__law_cells [some x0, some x1] o) { nx := fun _ o => Q .non o, rt := Q }) : Wq (p__law_cells [x0, x1] o) Q := pfn_wp rfl w
theorem v__law_cells : SF m__law_cells p__law_cells := sf_fn (O := O__law_cells) (M := O__law_cells) (by decide)
    (ss_ret (U := []) (by decide) (by decide) (se_bin (U := []) so_add (se_slice (U := []) (se_var 0) (so_no) (so_some (se_var 1))) (se_bin (U := []) so_mul (se_lst (sa_cons (U1 := []) (U2 := []) (se_int (U := [])) (sa_nil))) (se_b1 (U := []) son_int (sr_cons (se_bin (U := []) so_eq (se_var 0) (se_lst (sa_nil))) (sr_nil))))))
abbrev O__law_is_typed : List Nat := []
def pb__law_is_typed : Pst := pSeq (pIf (pNot (pB (pIsi [.str] (pVar 0)))) (pRet (pC (.bl false))) (pSkip))
    (pRet (pBin vEq (pLc (pIter (pVar 0)) [1] (pGn 1) (pAnd (pNot (pB (pChain vLe vLe (pC (.str [97])) (pVar 1) (pC (.str [122]))))) (pB (pBin vNotIn (pVar 1) (pC (.str [40, 41, 91, 93, 123, 125, 60, 62, 45]))))) (pN (pVar 1))) (pLst (pNil))))
def p__law_is_typed : Pf := pFn 1 2 pb__law_is_typed
theorem pw__law_is_typed {x0 : PV} {o : Pool} {Q : PV → Pool → Prop} (w : Ws (pb__law_is_typed [some x0, none] o) { nx := fun _ o => Q .non o, rt := Q }) : Wq (p__law_is_typed [x0] o) Q := pfn_wp rfl w
theorem v__law_is_typed : SF m__law_is_typed p__law_is_typed := sf_fn (O := O__law_is_typed) (M := O__law_is_typed) (by decide)
    (ss_seq (ss_if (st_not (st_B (se_isi (U := []) (se_var 0)))) (ss_ret (U := []) (by decide) (by decide) (se_bl (U := []))) (ss_skip (by decide)))
    (ss_ret (U := []) (by decide) (by decide) (se_bin (U := []) so_eq (se_lc (U := []) (U1 := [0]) (by decide) (si_iter (se_var 0)) (sg_name (by decide)) (st_and (st_not (st_B (se_chain (U := []) so_le so_le (se_str (U := [])) (se_var 1) (se_str (U := []))))) (st_B (se_bin (U := []) so_notIn (se_var 1) (se_str (U := []))))) (se_n (U := []) (se_var 1))) (se_lst (sa_nil)))))
abbrev O__law_variant : List Nat := [4]
def pb__law_variant : Pst := pSeq (pSet 2 (pCall p__law_draw (pCons (pVar 0) (pCons (pBin vAdd (pB1 vLen (pCons (pVar 1) (pNil))) (pC (.int 1))) (pNil)))))
    (pSeq (pSet 3 (pBin vIx (pLst (pConsD (pC (.str [65])) (pConsD (pC (.str [90])) (pConsD (pC (.str [48])) (pConsD (pC (.str [32])) (pConsD (pC (.str [95])) (pConsD (pC (.str [96])) (pConsD (pC (.str [124])) (pConsD (pC (.str [126])) (pConsD (pC (.str [10])) (pConsD (pC (.str [61])) (pConsD (pC (.str [9])) (pConsD (pC (.str [97])) (pConsD (pC (.str [60])) (pConsD (pC (.str [66])) (pNil)))))))))))))))) (pCall p__law_draw (pCons (pVar 0) (pCons (pC (.int 13)) (pNil))))))
    (pSeq (pSet 4 (pLst (pConsD (pBin vAdd (pBin vAdd (pSlice (pVar 1) (pNo) (pSome (pVar 2))) (pVar 3)) (pSlice (pVar 1) (pSome (pVar 2)) (pNo))) (pConsD (pBin vAdd (pSlice (pVar 1) (pNo) (pSome (pVar 2))) (pSlice (pVar 1) (pSome (pBin vAdd (pVar 2) (pC (.int 1)))) (pNo))) (pConsD (pN (pVar 3)) (pConsD (pUn vRevS (pVar 1)) (pNil)))))))
    (pSeq (pSet 4 (pBin vAddR (pVar 4) (pLst (pConsD (pB1 vList (pCons (pVar 1) (pNil))) (pConsD (pB1 vTupleA (pCons (pVar 1) (pNil))) (pConsD (pC .non) (pConsD (pC (.int 5)) (pConsD (pC (.bl true)) (pConsD (pLst (pConsD (pN (pVar 1)) (pNil))) (pConsD (pC (.dic [] [])) (pConsD (pTup (pConsD (pN (pVar 1)) (pConsD (pC (.int 0)) (pNil)))) (pNil))))))))))))
    (pRet (pBin vIx (pVar 4) (pBin vIx (pLst (pConsD (pCall p__law_draw (pCons (pVar 0) (pCons (pC (.int 12)) (pNil)))) (pConsD (pC (.int 0)) (pNil)))) (pCall p__law_draw (pCons (pVar 0) (pCons (pC (.int 2)) (pNil))))))))))
def p__law_variant : Pf := pFn 2 5 pb__law_variant
theorem pw__law_variant {x0 x1 : PV} {o : Pool} {Q : PV → Pool → Prop} (w : Ws (pb__law_variant [some x0, some x1, none, none, none] o) { nx := fun _ o => Q .non o, rt := Q }) : Wq (p__law_variant [x0, x1] o) Q := pfn_wp rfl w
theorem v__law_variant : SF m__law_variant p__law_variant := sf_fn (O := O__law_variant) (M := O__law_variant) (by decide)
    (ss_seq (ss_set (U := []) (by decide) (by decide) (se_call (U := []) v__law_draw (sr_cons (se_var 0) (sr_cons (se_bin (U := []) so_add (se_b1 (U := []) son_len (sr_cons (se_var 1) (sr_nil))) (se_int (U := []))) (sr_nil)))))
    (ss_seq (ss_set (U := []) (by decide) (by decide) (se_binb sob_ix (se_lst (sa_cons (U1 := []) (U2 := []) (se_str (U := [])) (sa_cons (U1 := []) (U2 := []) (se_str (U := [])) (sa_cons (U1 := []) (U2 := []) (se_str (U := [])) (sa_cons (U1 := []) (U2 := []) (se_str (U := [])) (sa_cons (U1 := []) (U2 := []) (se_str (U := [])) (sa_cons (U1 := []) (U2 := []) (se_str (U := [])) (sa_cons (U1 := []) (U2 := []) (se_str (U := [])) (sa_cons (U1 := []) (U2 := []) (se_str (U := [])) (sa_cons (U1 := []) (U2 := []) (se_str (U := [])) (sa_cons (U1 := []) (U2 := []) (se_str (U := [])) (sa_cons (U1 := []) (U2 := []) (se_str (U := [])) (sa_cons (U1 := []) (U2 := []) (se_str (U := [])) (sa_cons (U1 := []) (U2 := []) (se_str (U := [])) (sa_cons (U1 := []) (U2 := []) (se_str (U := [])) (sa_nil)))))))))))))))) (se_call (U := []) v__law_draw (sr_cons (se_var 0) (sr_cons (se_int (U := [])) (sr_nil))))))
    (ss_seq (ss_set (U := []) (by decide) (by decide) (se_lst (sa_cons (U1 := []) (U2 := []) (se_bin (U := []) so_add (se_bin (U := []) so_add (se_slice (U := []) (se_var 1) (so_no) (so_some (se_var 2))) (se_var 3)) (se_slice (U := []) (se_var 1) (so_some (se_var 2)) (so_no))) (sa_cons (U1 := []) (U2 := []) (se_bin (U := []) so_add (se_slice (U := []) (se_var 1) (so_no) (so_some (se_var 2))) (se_slice (U := []) (se_var 1) (so_some (se_bin (U := []) so_add (se_var 2) (se_int (U := [])))) (so_no))) (sa_cons (U1 := []) (U2 := []) (se_n (U := []) (se_var 3)) (sa_cons (U1 := []) (U2 := []) (se_un (U := []) so_revS (se_var 1)) (sa_nil)))))))
    (ss_seq (ss_set (U := []) (by decide) (by decide) (se_binr sor_add (se_var 4) (se_lst (sa_cons (U1 := []) (U2 := []) (se_b1 (U := []) son_list (sr_cons (se_var 1) (sr_nil))) (sa_cons (U1 := []) (U2 := []) (se_b1 (U := []) son_tupleA (sr_cons (se_var 1) (sr_nil))) (sa_cons (U1 := []) (U2 := []) (se_non (U := [])) (sa_cons (U1 := []) (U2 := []) (se_int (U := [])) (sa_cons (U1 := []) (U2 := []) (se_bl (U := [])) (sa_cons (U1 := []) (U2 := []) (se_lst (sa_cons (U1 := []) (U2 := []) (se_n (U := []) (se_var 1)) (sa_nil))) (sa_cons (U1 := []) (U2 := []) (se_dict0 (U := [])) (sa_cons (U1 := []) (U2 := []) (se_tup (sa_cons (U1 := []) (U2 := []) (se_n (U := []) (se_var 1)) (sa_cons (U1 := []) (U2 := []) (se_int (U := [])) (sa_nil)))) (sa_nil))))))))))))
    (ss_ret (U := [4]) (by decide) (by decide) (se_binb sob_ix (se_var 4) (se_binb sob_ix (se_lst (sa_cons (U1 := []) (U2 := []) (se_call (U := []) v__law_draw (sr_cons (se_var 0) (sr_cons (se_int (U := [])) (sr_nil)))) (sa_cons (U1 := []) (U2 := []) (se_int (U := [])) (sa_nil)))) (se_call (U := []) v__law_draw (sr_cons (se_var 0) (sr_cons (se_int (U := [])) (sr_nil)))))))))))
abbrev O__law_judged : List Nat := []
def pb__law_judged : Pst := pSeq (pSet 1 (pCall p__law_is_typed (pCons (pVar 0) (pNil))))
    (pSeq (pSet 2 (pB1 vRepr (pCons (pVar 0) (pNil))))
    (pRet (pAndV (pBin vEq (pB1 vRepr (pCons (pLst (pConsD (pCall p_is_key_list (pCons (pVar 0) (pNil))) (pConsD (pCallK p_is_key_list [0] 0 1 (pNil) (pCons (pVar 0) (pNil))) (pNil)))) (pNil))) (pB1 vRepr (pCons (pBin vMul (pLst (pConsD (pN (pVar 1)) (pNil))) (pC (.int 2))) (pNil)))) (pBin vEq (pB1 vRepr (pCons (pVar 0) (pNil))) (pVar 2)))))
def p__law_judged : Pf := pFn 1 3 pb__law_judged
theorem pw__law_judged {x0 : PV} {o : Pool} {Q : PV → Pool → Prop} (w : Ws (pb__law_judged [some x0, none, none] o) { nx := fun _ o => Q .non o, rt := Q }) : Wq (p__law_judged [x0] o) Q := pfn_wp rfl w
theorem v__law_judged : SF m__law_judged p__law_judged := sf_fn (O := O__law_judged) (M := O__law_judged) (by decide)
    (ss_seq (ss_set (U := []) (by decide) (by decide) (se_call (U := []) v__law_is_typed (sr_cons (se_var 0) (sr_nil))))
    (ss_seq (ss_set (U := []) (by decide) (by decide) (se_b1 (U := []) son_repr (sr_cons (se_var 0) (sr_nil))))
    (ss_ret (U := []) (by decide) (by decide) (se_and (se_bin (U := []) so_eq (se_b1 (U := []) son_repr (sr_cons (se_lst (sa_cons (U1 := []) (U2 := []) (se_call (U := []) v_is_key_list (sr_cons (se_var 0) (sr_nil))) (sa_cons (U1 := []) (U2 := []) (se_callK (U := []) v_is_key_list (sr_nil) (sr_cons (se_var 0) (sr_nil))) (sa_nil)))) (sr_nil))) (se_b1 (U := []) son_repr (sr_cons (se_bin (U := []) so_mul (se_lst (sa_cons (U1 := []) (U2 := []) (se_n (U := []) (se_var 1)) (sa_nil))) (se_int (U := []))) (sr_nil)))) (se_bin (U := []) so_eq (se_b1 (U := []) son_repr (sr_cons (se_var 0) (sr_nil))) (se_var 2))))))
abbrev O_law : List Nat := []
def pb_law_1 : Pst := pIf (pB (pBin vNe (pLc (pIter (pLst (pConsD (pN (pVar 2)) (pConsD (pBin vAdd (pC (.str [97])) (pVar 2)) (pConsD (pBin vAdd (pVar 2) (pC (.str [60]))) (pConsD (pBin vAdd (pBin vAdd (pC (.str [40])) (pVar 2)) (pC (.str [62]))) (pNil))))))) [10] (pGn 10) (pNot (pB (pCall p__law_judged (pCons (pVar 10) (pNil))))) (pN (pVar 10))) (pLst (pNil)))) (pRet (pC (.bl false))) (pSkip)
def pb_law_2 : Pst := pSeq (pSet 7 (pIfE (pB (pBin vEq (pVar 0) (pLst (pNil)))) (pC (.int 5)) (pBin vIx (pLst (pConsD (pCall p__law_draw (pCons (pVar 5) (pCons (pC (.int 20)) (pNil)))) (pConsD (pC (.int 400)) (pNil)))) (pCall p__law_draw (pCons (pVar 5) (pCons (pC (.int 2)) (pNil)))))))
    (pSeq (pSet 8 (pC (.str [97, 98, 99, 100, 101, 102, 103, 104, 105, 106, 107, 108, 109, 110, 111, 112, 113, 114, 115, 116, 117, 118, 119, 120, 121, 122, 40, 41, 91, 93, 123, 125, 60, 62, 45])))
    (pSeq (pSet 9 (pMeth "str" vJoin (pC (.str [])) (pCons (pLc (pRange1 (pVar 7)) [11] (pGn 11) (pYes) (pN (pBin vIx (pVar 8) (pCall p__law_draw (pCons (pVar 5) (pCons (pC (.int 35)) (pNil))))))) (pNil))))
    (pIf (pOr (pNot (pB (pCall p__law_judged (pCons (pVar 9) (pNil))))) (pNot (pB (pCall p__law_judged (pCons (pCall p__law_variant (pCons (pVar 5) (pCons (pVar 9) (pNil)))) (pNil)))))) (pRet (pC (.bl false))) (pSkip))))
def pb_law_3 : Pst := pSeq (pPool 5 (pCall p__law_source (pCons (pVar 4) (pCons (pVar 3) (pNil)))))
    (pFor (pRange1 (pC (.int 4))) (pGn 6) (pb_law_2))
def pb_law : Pst := pSeq (pSet 1 (pC (.str [32, 33, 34, 35, 36, 38, 39, 40, 41, 42, 43, 44, 45, 46, 47, 48, 49, 50, 51, 52, 53, 54, 55, 56, 57, 58, 59, 60, 61, 62, 63, 64, 65, 66, 67, 68, 69, 70, 71, 72, 73, 74, 75, 76, 77, 78, 79, 80, 81, 82, 83, 84, 85, 86, 87, 88, 89, 90, 91, 92, 93, 94, 95, 96, 97, 98, 99, 100, 101, 102, 103, 104, 105, 106, 107, 108, 109, 110, 111, 112, 113, 114, 115, 116, 117, 118, 119, 120, 121, 122, 123, 124, 125, 126, 9, 10])))
    (pSeq (pFor (pIter (pVar 1)) (pGn 2) (pb_law_1))
    (pSeq (pFor (pEnum (pCall p__law_cells (pCons (pVar 0) (pCons (pC (.int 8)) (pNil))))) (pGt [pGn 3, pGn 4]) (pb_law_3))
    (pRet (pC (.bl true)))))
def p_law : Pf := pFnP 1 12 pb_law
theorem pw_law {x0 : PV} {Q : PV → Pool → Prop} (w : Ws (pb_law [some x0, none, none, none, none, none, none, none, none, none, none, none] none) { nx := fun _ _ => Q .non none, rt := fun v _ => Q v none }) : Wq (p_law [x0] none) Q := pfnP_wp rfl w
theorem v_law : SF m_law p_law := sf_fnP (O := O_law) (M := O_law) (by decide)
    (ss_seq (ss_set (U := []) (by decide) (by decide) (se_str (U := [])))
    (ss_seq (ss_for (M' := []) (U := [1]) (by decide) (by decide) (by decide) (si_iter (se_var 1)) (sg_name (by decide)) (ss_if (st_B (se_bin (U := []) so_ne (se_lc (U := []) (U1 := []) (by decide) (si_iter (se_lst (sa_cons (U1 := []) (U2 := []) (se_n (U := []) (se_var 2)) (sa_cons (U1 := []) (U2 := []) (se_bin (U := []) so_add (se_str (U := [])) (se_var 2)) (sa_cons (U1 := []) (U2 := []) (se_bin (U := []) so_add (se_var 2) (se_str (U := []))) (sa_cons (U1 := []) (U2 := []) (se_bin (U := []) so_add (se_bin (U := []) so_add (se_str (U := [])) (se_var 2)) (se_str (U := []))) (sa_nil))))))) (sg_name (by decide)) (st_not (st_B (se_call (U := []) v__law_judged (sr_cons (se_var 10) (sr_nil))))) (se_n (U := []) (se_var 10))) (se_lst (sa_nil)))) (ss_ret (U := []) (by decide) (by decide) (se_bl (U := []))) (ss_skip (by decide))))
    (ss_seq (ss_for (M' := []) (U := []) (by decide) (by decide) (by decide) (si_enum (se_call (U := []) v__law_cells (sr_cons (se_var 0) (sr_cons (se_int (U := [])) (sr_nil))))) (sg_tup (.cons (sg_name (by decide)) (.cons (sg_name (by decide)) (.nil)))) (ss_seq (ss_pool (by decide) (by decide) (se_call (U := []) v__law_source (sr_cons (se_var 4) (sr_cons (se_var 3) (sr_nil)))))
    (ss_for (M' := []) (U := []) (by decide) (by decide) (by decide) (si_range1 (U := []) (se_int (U := []))) (sg_name (by decide)) (ss_seq (ss_set (U := []) (by decide) (by decide) (se_if (st_B (se_bin (U := []) so_eq (se_var 0) (se_lst (sa_nil)))) (se_int (U := [])) (se_binb sob_ix (se_lst (sa_cons (U1 := []) (U2 := []) (se_call (U := []) v__law_draw (sr_cons (se_var 5) (sr_cons (se_int (U := [])) (sr_nil)))) (sa_cons (U1 := []) (U2 := []) (se_int (U := [])) (sa_nil)))) (se_call (U := []) v__law_draw (sr_cons (se_var 5) (sr_cons (se_int (U := [])) (sr_nil)))))))
    (ss_seq (ss_set (U := []) (by decide) (by decide) (se_str (U := [])))
    (ss_seq (ss_set (U := []) (by decide) (by decide) (se_meth (U := []) som_join (se_str (U := [])) (sr_cons (se_lc (U := []) (U1 := []) (by decide) (si_range1 (U := []) (se_var 7)) (sg_name (by decide)) (st_yes) (se_n (U := []) (se_binb sob_ix (se_var 8) (se_call (U := []) v__law_draw (sr_cons (se_var 5) (sr_cons (se_int (U := [])) (sr_nil))))))) (sr_nil))))
    (ss_if (st_or (st_not (st_B (se_call (U := []) v__law_judged (sr_cons (se_var 9) (sr_nil))))) (st_not (st_B (se_call (U := []) v__law_judged (sr_cons (se_call (U := []) v__law_variant (sr_cons (se_var 5) (sr_cons (se_var 9) (sr_nil)))) (sr_nil)))))) (ss_ret (U := []) (by decide) (by decide) (se_bl (U := []))) (ss_skip (by decide)))))))))
    (ss_ret (U := []) (by decide) (by decide) (se_bl (U := []))))))
theorem all_mk {l : PySem.W.OpenLaw} {w : World} {K : PySem.W.Frag} {h : Heap} {mg : Str → Option Value} {fa : Addr} (hlaw : ∀ ns : List Int, ns.length ≤ 63 → ∃ h, m_law [.scr ns] [] = .ok (.bl true) h) (X : K.In h) (G : h.Ns mainGlobals mg) (hfa : mg "law" = some (.ref fa))
    {f0 : Addr} {oc0 kV0 dc0 pm0 cd0 ct0 : Value} {od0 an0 : Option Addr} {sl0 : Array (Option Value)}
    {f1 : Addr} {oc1 kV1 dc1 pm1 cd1 ct1 : Value} {od1 an1 : Option Addr} {sl1 : Array (Option Value)}
    {f2 : Addr} {oc2 kV2 dc2 pm2 cd2 ct2 : Value} {od2 an2 : Option Addr} {sl2 : Array (Option Value)}
    {f3 : Addr} {oc3 kV3 dc3 pm3 cd3 ct3 : Value} {od3 an3 : Option Addr} {sl3 : Array (Option Value)}
    {f4 : Addr} {oc4 kV4 dc4 pm4 cd4 ct4 : Value} {od4 an4 : Option Addr} {sl4 : Array (Option Value)}
    {f5 : Addr} {oc5 kV5 dc5 pm5 cd5 ct5 : Value} {od5 an5 : Option Addr} {sl5 : Array (Option Value)}
    {f6 : Addr} {oc6 kV6 dc6 pm6 cd6 ct6 : Value} {od6 an6 : Option Addr} {sl6 : Array (Option Value)}
    {f7 : Addr} {oc7 kV7 dc7 pm7 cd7 ct7 : Value} {od7 an7 : Option Addr} {sl7 : Array (Option Value)}
    {x_KEYS : Str} {t_KEYS : Tok}
    (a0 : PySem.W.nsIn K mainGlobals "is_key_list" = some (some (.ref f0))) (l0 : K.lookup f0 = some ⟨oc0, od0, .func (PySem.W.fnOf "is_key_list" "is_key_list" (defArgs t_is_key_list) (defBody t_is_key_list) (defScope t_is_key_list) .none kV0 dc0 pm0 an0 cd0 ct0), sl0⟩) (q0 : PySem.W.codeIn K cd0 "is_key_list" = true) (k0 : PySem.W.keepIn K (.ref f0) = true)
    (a1 : PySem.W.nsIn K mainGlobals "_law_source" = some (some (.ref f1))) (l1 : K.lookup f1 = some ⟨oc1, od1, .func (PySem.W.fnOf "_law_source" "_law_source" (defArgs t__law_source) (defBody t__law_source) (defScope t__law_source) .none kV1 dc1 pm1 an1 cd1 ct1), sl1⟩) (q1 : PySem.W.codeIn K cd1 "_law_source" = true) (k1 : PySem.W.keepIn K (.ref f1) = true)
    (a2 : PySem.W.nsIn K mainGlobals "_law_draw" = some (some (.ref f2))) (l2 : K.lookup f2 = some ⟨oc2, od2, .func (PySem.W.fnOf "_law_draw" "_law_draw" (defArgs t__law_draw) (defBody t__law_draw) (defScope t__law_draw) .none kV2 dc2 pm2 an2 cd2 ct2), sl2⟩) (q2 : PySem.W.codeIn K cd2 "_law_draw" = true) (k2 : PySem.W.keepIn K (.ref f2) = true)
    (a3 : PySem.W.nsIn K mainGlobals "_law_cells" = some (some (.ref f3))) (l3 : K.lookup f3 = some ⟨oc3, od3, .func (PySem.W.fnOf "_law_cells" "_law_cells" (defArgs t__law_cells) (defBody t__law_cells) (defScope t__law_cells) .none kV3 dc3 pm3 an3 cd3 ct3), sl3⟩) (q3 : PySem.W.codeIn K cd3 "_law_cells" = true) (k3 : PySem.W.keepIn K (.ref f3) = true)
    (a4 : PySem.W.nsIn K mainGlobals "_law_is_typed" = some (some (.ref f4))) (l4 : K.lookup f4 = some ⟨oc4, od4, .func (PySem.W.fnOf "_law_is_typed" "_law_is_typed" (defArgs t__law_is_typed) (defBody t__law_is_typed) (defScope t__law_is_typed) .none kV4 dc4 pm4 an4 cd4 ct4), sl4⟩) (q4 : PySem.W.codeIn K cd4 "_law_is_typed" = true) (k4 : PySem.W.keepIn K (.ref f4) = true)
    (a5 : PySem.W.nsIn K mainGlobals "_law_variant" = some (some (.ref f5))) (l5 : K.lookup f5 = some ⟨oc5, od5, .func (PySem.W.fnOf "_law_variant" "_law_variant" (defArgs t__law_variant) (defBody t__law_variant) (defScope t__law_variant) .none kV5 dc5 pm5 an5 cd5 ct5), sl5⟩) (q5 : PySem.W.codeIn K cd5 "_law_variant" = true) (k5 : PySem.W.keepIn K (.ref f5) = true)
    (a6 : PySem.W.nsIn K mainGlobals "_law_judged" = some (some (.ref f6))) (l6 : K.lookup f6 = some ⟨oc6, od6, .func (PySem.W.fnOf "_law_judged" "_law_judged" (defArgs t__law_judged) (defBody t__law_judged) (defScope t__law_judged) .none kV6 dc6 pm6 an6 cd6 ct6), sl6⟩) (q6 : PySem.W.codeIn K cd6 "_law_judged" = true) (k6 : PySem.W.keepIn K (.ref f6) = true)
    (a7 : PySem.W.nsIn K mainGlobals "law" = some (some (.ref f7))) (l7 : K.lookup f7 = some ⟨oc7, od7, .func (PySem.W.fnOf "law" "law" (defArgs t_law) (defBody t_law) (defScope t_law) .none kV7 dc7 pm7 an7 cd7 ct7), sl7⟩) (q7 : PySem.W.codeIn K cd7 "law" = true) (k7 : PySem.W.keepIn K (.ref f7) = true)
    (z_all : PySem.W.nsIn K mainGlobals "all" = some none)
    (z_enumerate : PySem.W.nsIn K mainGlobals "enumerate" = some none)
    (z_int : PySem.W.nsIn K mainGlobals "int" = some none)
    (z_isinstance : PySem.W.nsIn K mainGlobals "isinstance" = some none)
    (z_len : PySem.W.nsIn K mainGlobals "len" = some none)
    (z_list : PySem.W.nsIn K mainGlobals "list" = some none)
    (z_max : PySem.W.nsIn K mainGlobals "max" = some none)
    (z_range : PySem.W.nsIn K mainGlobals "range" = some none)
    (z_repr : PySem.W.nsIn K mainGlobals "repr" = some none)
    (z_str : PySem.W.nsIn K mainGlobals "str" = some none)
    (z_tuple : PySem.W.nsIn K mainGlobals "tuple" = some none)
    (s_KEYS : PySem.W.nsIn K mainGlobals "KEYS" = some (some (.str x_KEYS t_KEYS))) (e_KEYS : x_KEYS = mkS [97, 98, 99, 100, 101, 102, 103, 104, 105, 106, 107, 108, 109, 110, 111, 112, 113, 114, 115, 116, 117, 118, 119, 120, 121, 122, 40, 91, 123, 41, 93, 125, 60, 62, 45])
    : ∃ fd : FuncData, (∀ (s : Shared) (u : Value), BindsTo s fd ⟨[u], []⟩ [("script", u)]) ∧ ∀ base : Heap, K.In base → base.Ns mainGlobals mg → FnG l.prog w K mg base (L2.CX l.prog w) 3 fa fd ["script"] (spLaw K) := by
  have e := hfa.symm.trans (PySem.W.mg_of X G a7)
  cases e
  have F0 := fun_mk (st := t_is_key_list) l0 q0 k0
  have F1 := fun_mk (st := t__law_source) l1 q1 k1
  have F2 := fun_mk (st := t__law_draw) l2 q2 k2
  have F3 := fun_mk (st := t__law_cells) l3 q3 k3
  have F4 := fun_mk (st := t__law_is_typed) l4 q4 k4
  have F5 := fun_mk (st := t__law_variant) l5 q5 k5
  have F6 := fun_mk (st := t__law_judged) l6 q6 k6
  have F7 := fun_mk (st := t_law) l7 q7 k7
  refine ⟨(PySem.W.fnOf "law" "law" (defArgs t_law) (defBody t_law) (defScope t_law) .none kV7 dc7 pm7 an7 cd7 ct7), fun s v => .of_eq rfl, fun base _ _ => law_fnG (fun a ns => ⟨w.params, hasC, a, ns, fun _ => 0, fun _ => 0⟩) (fun _ _ => ⟨rfl, rfl⟩) (fun a ns hl => ?_) (fun a ns => ok_law (j := 0) (A := ⟨f0, f1, f2, f3, f4, f5, f6, fa⟩) (D := ⟨(PySem.W.fnOf "is_key_list" "is_key_list" (defArgs t_is_key_list) (defBody t_is_key_list) (defScope t_is_key_list) .none kV0 dc0 pm0 an0 cd0 ct0), (PySem.W.fnOf "_law_source" "_law_source" (defArgs t__law_source) (defBody t__law_source) (defScope t__law_source) .none kV1 dc1 pm1 an1 cd1 ct1), (PySem.W.fnOf "_law_draw" "_law_draw" (defArgs t__law_draw) (defBody t__law_draw) (defScope t__law_draw) .none kV2 dc2 pm2 an2 cd2 ct2), (PySem.W.fnOf "_law_cells" "_law_cells" (defArgs t__law_cells) (defBody t__law_cells) (defScope t__law_cells) .none kV3 dc3 pm3 an3 cd3 ct3), (PySem.W.fnOf "_law_is_typed" "_law_is_typed" (defArgs t__law_is_typed) (defBody t__law_is_typed) (defScope t__law_is_typed) .none kV4 dc4 pm4 an4 cd4 ct4), (PySem.W.fnOf "_law_variant" "_law_variant" (defArgs t__law_variant) (defBody t__law_variant) (defScope t__law_variant) .none kV5 dc5 pm5 an5 cd5 ct5), (PySem.W.fnOf "_law_judged" "_law_judged" (defArgs t__law_judged) (defBody t__law_judged) (defScope t__law_judged) .none kV6 dc6 pm6 an6 cd6 ct6), (PySem.W.fnOf "law" "law" (defArgs t_law) (defBody t_law) (defScope t_law) .none kV7 dc7 pm7 an7 cd7 ct7)⟩) ?_) hlaw⟩
  · refine ⟨fun k xs hh ht => ?_, fun k kvs hh ht => ?_, hl⟩
    · cases k with
      | empty => exact absurd hh (by show ¬ hasC CK.empty = true; decide)
      | closingOf => cases ht
      | letterOf => cases ht
      | nameOf => cases ht
    · cases k with
      | empty => cases ht
      | closingOf => exact absurd hh (by show ¬ hasC CK.closingOf = true; decide)
      | letterOf => exact absurd hh (by show ¬ hasC CK.letterOf = true; decide)
      | nameOf => exact absurd hh (by show ¬ hasC CK.nameOf = true; decide)
  · constructor
    case F_is_key_list => exact F0
    case G_is_key_list => exact PySem.W.mg_of X G a0
    case B_is_key_list => exact F0.binds fun _ _ _ _ _ _ us hl => match us, hl with | [_], _ => rfl
    case F__law_source => exact F1
    case G__law_source => exact PySem.W.mg_of X G a1
    case B__law_source => exact F1.binds fun _ _ _ _ _ _ us hl => match us, hl with | [_, _], _ => rfl
    case F__law_draw => exact F2
    case G__law_draw => exact PySem.W.mg_of X G a2
    case B__law_draw => exact F2.binds fun _ _ _ _ _ _ us hl => match us, hl with | [_, _], _ => rfl
    case F__law_cells => exact F3
    case G__law_cells => exact PySem.W.mg_of X G a3
    case B__law_cells => exact F3.binds fun _ _ _ _ _ _ us hl => match us, hl with | [_, _], _ => rfl
    case F__law_is_typed => exact F4
    case G__law_is_typed => exact PySem.W.mg_of X G a4
    case B__law_is_typed => exact F4.binds fun _ _ _ _ _ _ us hl => match us, hl with | [_], _ => rfl
    case F__law_variant => exact F5
    case G__law_variant => exact PySem.W.mg_of X G a5
    case B__law_variant => exact F5.binds fun _ _ _ _ _ _ us hl => match us, hl with | [_, _], _ => rfl
    case F__law_judged => exact F6
    case G__law_judged => exact PySem.W.mg_of X G a6
    case B__law_judged => exact F6.binds fun _ _ _ _ _ _ us hl => match us, hl with | [_], _ => rfl
    case F_law => exact F7
    case K_is_key_list_0_value => exact Fun.kbinds F0 (by decide) fun _ _ _ _ _ _ us ws h1 h2 => match us, ws, h1, h2 with | [], [_], _, _ => rfl
    case z_all => exact PySem.W.mg_none_of X G z_all
    case z_enumerate => exact PySem.W.mg_none_of X G z_enumerate
    case z_int => exact PySem.W.mg_none_of X G z_int
    case z_isinstance => exact PySem.W.mg_none_of X G z_isinstance
    case z_len => exact PySem.W.mg_none_of X G z_len
    case z_list => exact PySem.W.mg_none_of X G z_list
    case z_max => exact PySem.W.mg_none_of X G z_max
    case z_range => exact PySem.W.mg_none_of X G z_range
    case z_repr => exact PySem.W.mg_none_of X G z_repr
    case z_str => exact PySem.W.mg_none_of X G z_str
    case z_tuple => exact PySem.W.mg_none_of X G z_tuple
    case s_KEYS => exact ⟨_, e_KEYS ▸ PySem.W.mg_of X G s_KEYS⟩
    case hw => rfl
    case hc => rfl
end Lk15

namespace Lk15
open PySem PySem.Spec PyProof.Rows L2 Det
def isLet (c : Nat) : Bool := decide (97 ≤ c) && decide (c ≤ 122)
theorem conA_clo (c : Nat) : conA [([40], AV.str [41]), ([91], AV.str [93]), ([123], AV.str [125])] [c] = if c = 40 then some (.str [41]) else if c = 91 then some (.str [93]) else if c = 123 then some (.str [125]) else none := by
  unfold conA
  by_cases h1 : c = 40
  · subst h1; rfl
  · by_cases h2 : c = 91
    · subst h2; rfl
    · by_cases h3 : c = 123
      · subst h3; rfl
      · rw [if_neg h1, if_neg h2, if_neg h3]
        have : ∀ k : Nat, c ≠ k → decide (([k] : List Nat) = [c]) = false := fun k hk => by simp; exact fun e => hk e.symm
        simp only [List.find?_cons, List.find?_nil, this 40 h1, this 91 h2, this 123 h3]
        rfl
theorem letB (c : Nat) : decide (c ∈ [97, 98, 99, 100, 101, 102, 103, 104, 105, 106, 107, 108, 109, 110, 111, 112, 113, 114, 115, 116, 117, 118, 119, 120, 121, 122]) = isLet c := by
  unfold isLet
  rw [← Bool.decide_and]
  apply decide_eq_decide.mpr
  simp only [List.mem_cons, List.not_mem_nil, or_false]
  omega
def cloB (c : Nat) : Bool := decide (c ∈ [41, 93, 125])
theorem cloB_def (c : Nat) : decide (c ∈ [41, 93, 125]) = cloB c := rfl
def opnB (c : Nat) : Bool := decide (c ∈ [40, 91, 123])
theorem opnB_def (c : Nat) : decide (c ∈ [40, 91, 123]) = opnB c := rfl
theorem opnB_iff (c : Nat) : opnB c = true ↔ c = 40 ∨ c = 91 ∨ c = 123 := by unfold opnB; simp
def clo (c : Nat) : Nat := if c = 40 then 41 else if c = 91 then 93 else 125
theorem cl_con (c : Nat) : conA [([40], AV.str [41]), ([91], AV.str [93]), ([123], AV.str [125])] [c] = if opnB c = true then some (.str [clo c]) else none := by
  rw [conA_clo]
  unfold clo
  cases q : opnB c with
  | true =>
    rw [opnB_iff] at q
    rcases q with rfl | rfl | rfl <;> rfl
  | false =>
    have : ¬ (c = 40 ∨ c = 91 ∨ c = 123) := fun z => by rw [(opnB_iff c).mpr z] at q; cases q
    rw [if_neg (fun z => this (.inl z)), if_neg (fun z => this (.inr (.inl z))), if_neg (fun z => this (.inr (.inr z)))]
    rfl
theorem vin_clo (c : Nat) : vIn (.str [c]) (.cdc .closingOf) = some (.bl (opnB c)) := by
  show some (PV.bl (conA [([40], AV.str [41]), ([91], AV.str [93]), ([123], AV.str [125])] [c]).isSome) = _
  rw [cl_con]
  cases opnB c <;> rfl
theorem vix_clo (c : Nat) : vIx (.cdc .closingOf) (.str [c]) = if opnB c = true then some (.str [clo c]) else none := by
  show (match conA [([40], AV.str [41]), ([91], AV.str [93]), ([123], AV.str [125])] [c] with
    | some (.str t) => if okS t = true then some (PV.str t) else none
    | _ => none) = _
  rw [cl_con]
  cases q : opnB c with
  | false => rfl
  | true =>
    simp only [if_true]
    have : okS [clo c] = true := by
      unfold clo okS
      rcases (opnB_iff c).mp q with rfl | rfl | rfl <;> decide
    rw [if_pos this]
def chP (w : List Nat) : List PV := w.map fun c => .str [c]
theorem chP_app (a b : List Nat) : chP (a ++ b) = chP a ++ chP b := by simp [chP]
theorem chP_len (a : List Nat) : (chP a).length = a.length := by simp [chP]
theorem chP_nol (a : List Nat) : PV.noLs (chP a) = true := noLs_chs
theorem chP_okd (a : List Nat) {n : Nat} : (chP a).all (okd (n + 1)) = true := by
  unfold chP
  rw [List.all_map, List.all_eq_true]
  exact fun _ _ => rfl
theorem chP_nil (a : List Nat) : decide (chP a = []) = decide (a = []) := by cases a <;> simp [chP]
theorem cut_nilP {α : Type} (lo hi : Option Int) : cutA ([] : List α) lo hi = [] := by unfold cutA; simp
/-- a comprehension over pure parts -/
theorem lc_eq {α : Type} {psw : Ps} {g : Pg} {t : Pt} {e : Pe} {o : Pool} (f : α → Bool) (q : α → PV) (enc : α → List PV) (hq : ∀ a, isTok (q a) = false) : ∀ (items : List α) (acc : List PV), acc.length + items.length ≤ 10000000 →
    (∀ a ∈ items, WO (g (enc a) psw) fun ps1 => Wq (t ps1 o) fun b o1 => b = f a ∧ o1 = o ∧ (f a = true → Wq (e ps1 o) fun d o2 => d = q a ∧ o2 = o)) → pLoopC psw g t e (items.map enc) acc o = .ok (.lst (acc ++ (items.filter f).map q)) o
  | [], acc, _, _ => by simp [pLoopC]
  | a :: items, acc, hl, h => by
    rw [List.length_cons] at hl
    have ha := h a (by simp)
    have ih := fun acc' hl' => lc_eq f q enc hq items acc' hl' fun b hb => h b (by simp [hb])
    rw [List.map_cons]
    unfold pLoopC
    cases e1 : g (enc a) psw with
    | none => rw [e1] at ha; exact ha.elim
    | some ps1 =>
      rw [e1] at ha
      obtain ⟨b, o1, e2, rfl, rfl, h3⟩ := Wq.ex (show Wq (t ps1 o) _ from ha)
      show (t ps1 o1).only _ = _
      rw [e2]
      show (if f a = true then _ else _) = _
      cases hf : f a with
      | false =>
        rw [if_neg Bool.false_ne_true, ih acc (by omega), List.filter_cons, if_neg (by simp [hf])]
      | true =>
        rw [if_pos rfl]
        obtain ⟨d, o2, e3, rfl, rfl⟩ := Wq.ex (h3 hf)
        rw [e3]
        show (if acc.length < LINE ∧ isTok (q a) = false then _ else _) = _
        rw [if_pos ⟨Nat.lt_of_lt_of_le (show acc.length < 10000000 by omega) (by decide), hq a⟩, ih (acc ++ [q a]) (by simp; omega), List.filter_cons, if_pos hf]
        simp

theorem fits_c (i : Int) (h : fits i = true := by decide +kernel) : fits i = true := h
def rP : Int → Nat → List (List PV)
  | _, 0 => []
  | i, n + 1 => [.int i] :: rP (i + 1) n
theorem rangeP_eq : ∀ (n : Nat) (i : Int), rangeP i n = rP i n
  | 0, _ => rfl
  | n + 1, i => by
    unfold rangeP rP
    rw [List.range_succ_eq_map, List.map_cons, List.map_map, ← rangeP_eq n (i + 1)]
    unfold rangeP
    congr 1
    · simp
    · apply List.map_congr_left
      intro k _
      simp only [Function.comp]
      congr 2
      omega
theorem wo_pick {α : Type} {xs : List α} {d : Int} {Q : α → Prop} (h0 : 0 ≤ d) (h1 : d < xs.length) (h : ∀ x ∈ xs, Q x) : WO (atA xs d) Q := by
  obtain ⟨x, e, hm⟩ := atA_lt h0 h1
  rw [e]; exact h x hm
theorem vjoin_P {s : List Nat} (h : s.length ≤ 10000000) : vJoin (.str []) [.lst (chP s)] = some (.str s) := by unfold chP; rw [vjoin_c, if_pos (Nat.le_trans h (by decide))]
/-- a hidden source after at most so many draws -/
def Bs (n : Int) (o : Pool) : Prop := ∃ x y z : Int, o = some [x, y, z] ∧ 0 ≤ y ∧ y < 10 ^ 118 ∧ 0 ≤ z ∧ z ≤ n
theorem Bs.le {n m : Int} {o : Pool} (b : Bs n o) (h : n ≤ m) : Bs m o := by
  obtain ⟨x, y, z, e, y0, y1, z0, z1⟩ := b
  exact ⟨x, y, z, e, y0, y1, z0, by omega⟩
theorem Bs.new {x y : Int} (h : 0 ≤ y) (h2 : y < 10 ^ 118) : Bs 0 (some [x, y, 0]) := ⟨x, y, 0, rfl, h, h2, by omega, by omega⟩
theorem wS_drawP {o : Pool} {n l : Int} (hb : Bs n o) (hn : n < 1000000000000) (h0 : 0 < l) (hl : l < 1000000000000) :
    Wq (p__law_draw [.tok, .int l] o) fun v o' => ∃ d : Int, v = .int d ∧ 0 ≤ d ∧ d < l ∧ Bs (n + 1) o' := by
  obtain ⟨x, y, z, rfl, y0, y1, z0, z1⟩ := hb
  apply pw__law_draw
  unfold pb__law_draw
  have k5 : fits l = true := fits_t (by omega) (by omega)
  have k1 : fits (z + 1) = true := fits_t (by omega) (by omega)
  have k2 : fits y = true := fits_t (by omega) (by omega)
  have c1 : fits 479001599 = true := fits_c 479001599
  have c2 : fits 10 = true := fits_c 10
  have p1 : (10 : Int) ^ (33 : Int).toNat + 61 = 1000000000000000000000000000000061 := by decide +kernel
  have p2 : (10 : Int) ^ (8 : Int).toNat = 100000000 := by decide +kernel
  have m0 : ∀ a : Int, 0 ≤ a % l := fun a => Int.emod_nonneg _ (by omega)
  have m1 : ∀ a : Int, a % l < l := fun a => Int.emod_lt_of_pos _ h0
  have c3 : fits 100000000 = true := fits_c 100000000
  by_cases hx : 0 < x
  · simp (decide := true) (disch := first | assumption | omega | (simp (decide := true) only [cplx_l, cplx_t, cplx_n, cplx_c, Bool.or_true, Bool.true_or])) only [↓reduceIte, reduceCtorEq, or_true, true_or, or_false, false_or, and_false, false_and, ↓sts_0, ↓sts_S, ↓wo_gn, ↓wo_gnN, ↓wo_gt2, ↓wo_gtt, ↓wo_gs0, ↓wq_var0, ↓wq_varS, ↓ws_seq, ↓ws_skip, ↓ws_break, ↓ws_cont, ↓ws_if, ↓ws_ifx, ↓ws_expr, ↓ws_ret, ↓ws_retN, ↓hs_set, ↓hs_setx, ↓hs_par, ↓ws_asg, ↓hs_aug, ↓hs_app, ↓hs_ext, ↓hs_mut, ↓hs_store, ↓hs_storex, ↓ws_for, ↓ws_forN, ↓ws_nx, ↓ws_rt, ↓ws_bk, ↓ws_ct, ↓ws_no, ↓hs_pool, ↓hs_tokSet, ↓wo_some, ↓wo_none, ↓wo_map, ↓wo_if, ↓wo_gs, ↓wq_ok, ↓wq_no, ↓wq_of, ↓wq_C, ↓wq_n, ↓wq_bin, ↓wq_un, ↓wq_b1, ↓wq_nil, ↓wq_cons, ↓wq_consD, ↓wq_tup, ↓wq_lst, ↓hq_B, ↓hq_andV, ↓hq_orV, ↓hq_notV, ↓wq_and, ↓wq_or, ↓wq_not, ↓wq_ifE, ↓wq_yes, ↓hq_chain, ↓wq_call, ↓wq_callK, ↓hq_callP, ↓wq_meth, ↓wq_methD, isPD_d, vget_d, vrevs_s, vsplit_s, ↓wq_iter, ↓wq_enum, ↓hq_range1, ↓hq_range2, ↓hq_range3, ↓hq_range3p, vrepl_s, ↓hq_zipL, ↓wq_slice, ↓wq_noO, ↓hq_someO, ↓wq_isi, ↓wq_revL, ↓wq_lc, ↓wq_lcN, ↓hq_pop, ↓wq_binx, ↓hq_bx, ↓wq_orx, ↓hq_tokIx, ↓wq_disp, ↓wq_pnil, ↓wq_pcons, vadd_ii, vadd_ss, vadd_ll, vadd_sl, viadd_ii, viadd_ss, vsub_ii, vmul_ii, vmul_si, vmul_li, vdiv_ii, vmod_ii, vpow_ii, vneg_i, veq_ii, veq_ss, veq_bb, vne_ii, vne_ss, vne_bb, veq_g, vne_g, cplx_l, cplx_t, cplx_n, cplx_c, okd_l, okd_t, okd_s, okd_i, okd_b, okd_n, okd_c, eqv_ll, eqv_tt, eqv_lt, eqv_tl, eqv_ii, eqv_ss, eqv_bb, eqv_nn, eqv_nt, eqv_tn, eqv_ns, eqv_sn, eqv_st, eqv_ts, eqv_si, eqv_is, eqv_in, eqv_ni, eqv_sl, eqv_ls, eqv_nl, eqv_ln, eqv_cl0, eqvs_nil, eqvs_cons, eqvs_n1, eqvs_1n, eqvs_nl, vlt_ii, vle_ii, vgt_ii, vge_ii, vlt_ss, vle_ss, vgt_ss, vge_ss, vis_n, visNot_n, vis_b, visNot_b, isNon_n, isNon_t, isNon_l, isNon_s, isNon_i, vix_s, vix_l, vix_t, vix_c, vix_d, keyP_i, keyP_s, vin_ss, vnin_ss, vin_l, vnin_l, vcut_s, vcut_l, vcut_c, vlen_s, vlen_l, vlen_t, vlen_c, vlen_d, vint_b, vint_i, vabs_i, vmax_ii, vmin_ii, vlist_s, vlist_l, vlist_t, vtuple_l, vtupleA_l, vtupleA_s, vaddr_ll, vsorted_l, psrc_s, psrc_l, psrc_t, psrc_c, penum_s, penum_l, penum_c, vjoin_c, vsindex, isPT_s, isPT_l, pty_n, pty_b, pty_i, pty_s, pty_l, pty_t, pty_d, isTok_n, isTok_b, isTok_i, isTok_s, isTok_l, isTok_t, isTok_d, noL_n, noL_b, noL_i, noL_s, noL_t, noLs_nl, noLs_c, noLs_ints, noLs_chs, noLs_strs, noLs_rev, perm_1, perm_11, perm_02, perm_20, pat0, pat1, pat2, pat3, iat0, iat1, iat2, List.getElem?_cons_zero, List.getElem?_cons_succ, pwipe, List.map_cons, List.map_nil, List.length_cons, List.length_nil, List.length_map, List.replicate, List.cons_append, List.nil_append, List.set_cons_succ, List.set_cons_zero, Option.map_some, Option.map_none, Option.isSome_some, Option.isSome_none, Option.bind_some, PV.bl.injEq, PV.int.injEq, PV.str.injEq, Option.some.injEq, exists_eq_left', exists_eq_left, if_true, true_and, and_true, and_self, Bool.and_self, Bool.and_true, Bool.true_and, Bool.and_false, Bool.false_and, List.any_cons, List.any_nil, List.all_cons, List.all_nil, Bool.or_false, Bool.or_true, Bool.true_or, Bool.false_or, Bool.not_true, Bool.not_false, if_false, Bool.false_eq_true, not_false_eq_true, beq_self_eq_true, decide_true, decide_false, line_t, line_l, small_t, fits_t, chP_len, chP_nol, chP_okd, chP_nil, List.length_append, List.length_reverse, List.length_take, List.length_drop, Nat.zero_le, vin_clo, vix_clo, letB, cloB_def, opnB_def, asB_b, asI_i, asL_l, lsP_0, lsP_S, slP_0, slP_S, tok_0, tok_S, asP_ints, asP_3, hx, k5, if_pos h0, h0]
    exact ⟨m0 _, m1 _, _, _, _, rfl, y0, y1, z0, by omega⟩
  · simp (decide := true) (disch := first | assumption | omega | (simp (decide := true) only [cplx_l, cplx_t, cplx_n, cplx_c, Bool.or_true, Bool.true_or])) only [↓reduceIte, reduceCtorEq, or_true, true_or, or_false, false_or, and_false, false_and, ↓sts_0, ↓sts_S, ↓wo_gn, ↓wo_gnN, ↓wo_gt2, ↓wo_gtt, ↓wo_gs0, ↓wq_var0, ↓wq_varS, ↓ws_seq, ↓ws_skip, ↓ws_break, ↓ws_cont, ↓ws_if, ↓ws_ifx, ↓ws_expr, ↓ws_ret, ↓ws_retN, ↓hs_set, ↓hs_setx, ↓hs_par, ↓ws_asg, ↓hs_aug, ↓hs_app, ↓hs_ext, ↓hs_mut, ↓hs_store, ↓hs_storex, ↓ws_for, ↓ws_forN, ↓ws_nx, ↓ws_rt, ↓ws_bk, ↓ws_ct, ↓ws_no, ↓hs_pool, ↓hs_tokSet, ↓wo_some, ↓wo_none, ↓wo_map, ↓wo_if, ↓wo_gs, ↓wq_ok, ↓wq_no, ↓wq_of, ↓wq_C, ↓wq_n, ↓wq_bin, ↓wq_un, ↓wq_b1, ↓wq_nil, ↓wq_cons, ↓wq_consD, ↓wq_tup, ↓wq_lst, ↓hq_B, ↓hq_andV, ↓hq_orV, ↓hq_notV, ↓wq_and, ↓wq_or, ↓wq_not, ↓wq_ifE, ↓wq_yes, ↓hq_chain, ↓wq_call, ↓wq_callK, ↓hq_callP, ↓wq_meth, ↓wq_methD, isPD_d, vget_d, vrevs_s, vsplit_s, ↓wq_iter, ↓wq_enum, ↓hq_range1, ↓hq_range2, ↓hq_range3, ↓hq_range3p, vrepl_s, ↓hq_zipL, ↓wq_slice, ↓wq_noO, ↓hq_someO, ↓wq_isi, ↓wq_revL, ↓wq_lc, ↓wq_lcN, ↓hq_pop, ↓wq_binx, ↓hq_bx, ↓wq_orx, ↓hq_tokIx, ↓wq_disp, ↓wq_pnil, ↓wq_pcons, vadd_ii, vadd_ss, vadd_ll, vadd_sl, viadd_ii, viadd_ss, vsub_ii, vmul_ii, vmul_si, vmul_li, vdiv_ii, vmod_ii, vpow_ii, vneg_i, veq_ii, veq_ss, veq_bb, vne_ii, vne_ss, vne_bb, veq_g, vne_g, cplx_l, cplx_t, cplx_n, cplx_c, okd_l, okd_t, okd_s, okd_i, okd_b, okd_n, okd_c, eqv_ll, eqv_tt, eqv_lt, eqv_tl, eqv_ii, eqv_ss, eqv_bb, eqv_nn, eqv_nt, eqv_tn, eqv_ns, eqv_sn, eqv_st, eqv_ts, eqv_si, eqv_is, eqv_in, eqv_ni, eqv_sl, eqv_ls, eqv_nl, eqv_ln, eqv_cl0, eqvs_nil, eqvs_cons, eqvs_n1, eqvs_1n, eqvs_nl, vlt_ii, vle_ii, vgt_ii, vge_ii, vlt_ss, vle_ss, vgt_ss, vge_ss, vis_n, visNot_n, vis_b, visNot_b, isNon_n, isNon_t, isNon_l, isNon_s, isNon_i, vix_s, vix_l, vix_t, vix_c, vix_d, keyP_i, keyP_s, vin_ss, vnin_ss, vin_l, vnin_l, vcut_s, vcut_l, vcut_c, vlen_s, vlen_l, vlen_t, vlen_c, vlen_d, vint_b, vint_i, vabs_i, vmax_ii, vmin_ii, vlist_s, vlist_l, vlist_t, vtuple_l, vtupleA_l, vtupleA_s, vaddr_ll, vsorted_l, psrc_s, psrc_l, psrc_t, psrc_c, penum_s, penum_l, penum_c, vjoin_c, vsindex, isPT_s, isPT_l, pty_n, pty_b, pty_i, pty_s, pty_l, pty_t, pty_d, isTok_n, isTok_b, isTok_i, isTok_s, isTok_l, isTok_t, isTok_d, noL_n, noL_b, noL_i, noL_s, noL_t, noLs_nl, noLs_c, noLs_ints, noLs_chs, noLs_strs, noLs_rev, perm_1, perm_11, perm_02, perm_20, pat0, pat1, pat2, pat3, iat0, iat1, iat2, List.getElem?_cons_zero, List.getElem?_cons_succ, pwipe, List.map_cons, List.map_nil, List.length_cons, List.length_nil, List.length_map, List.replicate, List.cons_append, List.nil_append, List.set_cons_succ, List.set_cons_zero, Option.map_some, Option.map_none, Option.isSome_some, Option.isSome_none, Option.bind_some, PV.bl.injEq, PV.int.injEq, PV.str.injEq, Option.some.injEq, exists_eq_left', exists_eq_left, if_true, true_and, and_true, and_self, Bool.and_self, Bool.and_true, Bool.true_and, Bool.and_false, Bool.false_and, List.any_cons, List.any_nil, List.all_cons, List.all_nil, Bool.or_false, Bool.or_true, Bool.true_or, Bool.false_or, Bool.not_true, Bool.not_false, if_false, Bool.false_eq_true, not_false_eq_true, beq_self_eq_true, decide_true, decide_false, line_t, line_l, small_t, fits_t, chP_len, chP_nol, chP_okd, chP_nil, List.length_append, List.length_reverse, List.length_take, List.length_drop, Nat.zero_le, vin_clo, vix_clo, letB, cloB_def, opnB_def, asB_b, asI_i, asL_l, lsP_0, lsP_S, slP_0, slP_S, tok_0, tok_S, asP_ints, asP_3, hx, k5, k1, k2, c1, c2, c3, p1, p2, if_pos h0, h0]
    generalize hY : (y ^ (3 : Int).toNat + 479001599 * (z + 1) + 5) % 1000000000000000000000000000000061 = Y
    have y2 : 0 ≤ Y := by rw [← hY]; exact Int.emod_nonneg _ (by omega)
    have y3 : Y < 1000000000000000000000000000000061 := by rw [← hY]; exact Int.emod_lt_of_pos _ (by omega)
    exact ⟨m0 _, m1 _, _, _, _, rfl, y2, by omega, by omega, by omega⟩
theorem cube3 (r : Int) : r ^ (3 : Int).toNat = r * r * r := by
  show r ^ 3 = _
  rw [Int.pow_succ, Int.pow_succ, Int.pow_succ, Int.pow_zero, Int.one_mul]
theorem wS_sourceP {c : Int} {k : Nat} {o : Pool} (hk : k ≤ 1000000) : ∃ x y : Int, p__law_source [.int c, .int (k : Nat)] o = .ok (.lst [.int x, .int y, .int 0]) o ∧ 0 ≤ y ∧ y < 10 ^ 118 := by
  have r1 : 0 ≤ c % 100000000000000000000000000000000000133 := Int.emod_nonneg _ (by omega)
  have r2 : c % 100000000000000000000000000000000000133 < 100000000000000000000000000000000000133 := Int.emod_lt_of_pos _ (by omega)
  have p1 : (10 : Int) ^ (38 : Int).toNat + 133 = 100000000000000000000000000000000000133 := by decide +kernel
  generalize hr : c % 100000000000000000000000000000000000133 = r at r1 r2
  have q0 : 0 ≤ r * r := Int.mul_nonneg r1 r1
  have q1 : r * r ≤ 100000000000000000000000000000000000133 * 100000000000000000000000000000000000133 := Int.mul_le_mul (by omega) (by omega) r1 (by omega)
  have q2 : 0 ≤ r * r * r := Int.mul_nonneg q0 r1
  have q3 : r * r * r ≤ 100000000000000000000000000000000000133 * 100000000000000000000000000000000000133 * 100000000000000000000000000000000000133 := Int.mul_le_mul q1 (by omega) r1 (by omega)
  refine ⟨if c - 10 ^ (18 : Int).toNat > 0 then c - 10 ^ (18 : Int).toNat else 0, r * r * r + 823547 * (k : Int) + 331662479035539984, Wq.eq ?_, by omega, by omega⟩
  apply pw__law_source
  unfold pb__law_source
  simp (decide := true) (disch := first | assumption | omega | (simp (decide := true) only [cplx_l, cplx_t, cplx_n, cplx_c, Bool.or_true, Bool.true_or])) only [↓reduceIte, reduceCtorEq, or_true, true_or, or_false, false_or, and_false, false_and, ↓sts_0, ↓sts_S, ↓wo_gn, ↓wo_gnN, ↓wo_gt2, ↓wo_gtt, ↓wo_gs0, ↓wq_var0, ↓wq_varS, ↓ws_seq, ↓ws_skip, ↓ws_break, ↓ws_cont, ↓ws_if, ↓ws_ifx, ↓ws_expr, ↓ws_ret, ↓ws_retN, ↓hs_set, ↓hs_setx, ↓hs_par, ↓ws_asg, ↓hs_aug, ↓hs_app, ↓hs_ext, ↓hs_mut, ↓hs_store, ↓hs_storex, ↓ws_for, ↓ws_forN, ↓ws_nx, ↓ws_rt, ↓ws_bk, ↓ws_ct, ↓ws_no, ↓hs_pool, ↓hs_tokSet, ↓wo_some, ↓wo_none, ↓wo_map, ↓wo_if, ↓wo_gs, ↓wq_ok, ↓wq_no, ↓wq_of, ↓wq_C, ↓wq_n, ↓wq_bin, ↓wq_un, ↓wq_b1, ↓wq_nil, ↓wq_cons, ↓wq_consD, ↓wq_tup, ↓wq_lst, ↓hq_B, ↓hq_andV, ↓hq_orV, ↓hq_notV, ↓wq_and, ↓wq_or, ↓wq_not, ↓wq_ifE, ↓wq_yes, ↓hq_chain, ↓wq_call, ↓wq_callK, ↓hq_callP, ↓wq_meth, ↓wq_methD, isPD_d, vget_d, vrevs_s, vsplit_s, ↓wq_iter, ↓wq_enum, ↓hq_range1, ↓hq_range2, ↓hq_range3, ↓hq_range3p, vrepl_s, ↓hq_zipL, ↓wq_slice, ↓wq_noO, ↓hq_someO, ↓wq_isi, ↓wq_revL, ↓wq_lc, ↓wq_lcN, ↓hq_pop, ↓wq_binx, ↓hq_bx, ↓wq_orx, ↓hq_tokIx, ↓wq_disp, ↓wq_pnil, ↓wq_pcons, vadd_ii, vadd_ss, vadd_ll, vadd_sl, viadd_ii, viadd_ss, vsub_ii, vmul_ii, vmul_si, vmul_li, vdiv_ii, vmod_ii, vpow_ii, vneg_i, veq_ii, veq_ss, veq_bb, vne_ii, vne_ss, vne_bb, veq_g, vne_g, cplx_l, cplx_t, cplx_n, cplx_c, okd_l, okd_t, okd_s, okd_i, okd_b, okd_n, okd_c, eqv_ll, eqv_tt, eqv_lt, eqv_tl, eqv_ii, eqv_ss, eqv_bb, eqv_nn, eqv_nt, eqv_tn, eqv_ns, eqv_sn, eqv_st, eqv_ts, eqv_si, eqv_is, eqv_in, eqv_ni, eqv_sl, eqv_ls, eqv_nl, eqv_ln, eqv_cl0, eqvs_nil, eqvs_cons, eqvs_n1, eqvs_1n, eqvs_nl, vlt_ii, vle_ii, vgt_ii, vge_ii, vlt_ss, vle_ss, vgt_ss, vge_ss, vis_n, visNot_n, vis_b, visNot_b, isNon_n, isNon_t, isNon_l, isNon_s, isNon_i, vix_s, vix_l, vix_t, vix_c, vix_d, keyP_i, keyP_s, vin_ss, vnin_ss, vin_l, vnin_l, vcut_s, vcut_l, vcut_c, vlen_s, vlen_l, vlen_t, vlen_c, vlen_d, vint_b, vint_i, vabs_i, vmax_ii, vmin_ii, vlist_s, vlist_l, vlist_t, vtuple_l, vtupleA_l, vtupleA_s, vaddr_ll, vsorted_l, psrc_s, psrc_l, psrc_t, psrc_c, penum_s, penum_l, penum_c, vjoin_c, vsindex, isPT_s, isPT_l, pty_n, pty_b, pty_i, pty_s, pty_l, pty_t, pty_d, isTok_n, isTok_b, isTok_i, isTok_s, isTok_l, isTok_t, isTok_d, noL_n, noL_b, noL_i, noL_s, noL_t, noLs_nl, noLs_c, noLs_ints, noLs_chs, noLs_strs, noLs_rev, perm_1, perm_11, perm_02, perm_20, pat0, pat1, pat2, pat3, iat0, iat1, iat2, List.getElem?_cons_zero, List.getElem?_cons_succ, pwipe, List.map_cons, List.map_nil, List.length_cons, List.length_nil, List.length_map, List.replicate, List.cons_append, List.nil_append, List.set_cons_succ, List.set_cons_zero, Option.map_some, Option.map_none, Option.isSome_some, Option.isSome_none, Option.bind_some, PV.bl.injEq, PV.int.injEq, PV.str.injEq, Option.some.injEq, exists_eq_left', exists_eq_left, if_true, true_and, and_true, and_self, Bool.and_self, Bool.and_true, Bool.true_and, Bool.and_false, Bool.false_and, List.any_cons, List.any_nil, List.all_cons, List.all_nil, Bool.or_false, Bool.or_true, Bool.true_or, Bool.false_or, Bool.not_true, Bool.not_false, if_false, Bool.false_eq_true, not_false_eq_true, beq_self_eq_true, decide_true, decide_false, line_t, line_l, small_t, fits_t, chP_len, chP_nol, chP_okd, chP_nil, List.length_append, List.length_reverse, List.length_take, List.length_drop, Nat.zero_le, vin_clo, vix_clo, letB, cloB_def, opnB_def, asB_b, asI_i, asL_l, lsP_0, lsP_S, slP_0, slP_S, tok_0, tok_S, asP_ints, asP_3, fits_c 10, fits_c 823547, p1, hr, cube3, fits_t (show -(10 ^ 200) ≤ r by omega) (show r ≤ 10 ^ 200 by omega), fits_t (show -(10 ^ 200) ≤ (k : Int) by omega) (show (k : Int) ≤ 10 ^ 200 by omega)]
def cellsS (ns : List Int) (c : Nat) : List Int := ns.take c ++ if ns = [] then [0] else []
theorem wS_cellsP {ns : List Int} {c : Nat} {o : Pool} (hns : ns.length ≤ 1000) : p__law_cells [.scr ns, .int (c : Nat)] o = .ok (.lst ((cellsS ns c).map .int)) o := by
  apply Wq.eq
  apply pw__law_cells
  unfold pb__law_cells cellsS
  by_cases h : ns = []
  · subst h
    simp (decide := true) (disch := first | assumption | omega | (simp (decide := true) only [cplx_l, cplx_t, cplx_n, cplx_c, Bool.or_true, Bool.true_or])) only [↓reduceIte, reduceCtorEq, or_true, true_or, or_false, false_or, and_false, false_and, ↓sts_0, ↓sts_S, ↓wo_gn, ↓wo_gnN, ↓wo_gt2, ↓wo_gtt, ↓wo_gs0, ↓wq_var0, ↓wq_varS, ↓ws_seq, ↓ws_skip, ↓ws_break, ↓ws_cont, ↓ws_if, ↓ws_ifx, ↓ws_expr, ↓ws_ret, ↓ws_retN, ↓hs_set, ↓hs_setx, ↓hs_par, ↓ws_asg, ↓hs_aug, ↓hs_app, ↓hs_ext, ↓hs_mut, ↓hs_store, ↓hs_storex, ↓ws_for, ↓ws_forN, ↓ws_nx, ↓ws_rt, ↓ws_bk, ↓ws_ct, ↓ws_no, ↓hs_pool, ↓hs_tokSet, ↓wo_some, ↓wo_none, ↓wo_map, ↓wo_if, ↓wo_gs, ↓wq_ok, ↓wq_no, ↓wq_of, ↓wq_C, ↓wq_n, ↓wq_bin, ↓wq_un, ↓wq_b1, ↓wq_nil, ↓wq_cons, ↓wq_consD, ↓wq_tup, ↓wq_lst, ↓hq_B, ↓hq_andV, ↓hq_orV, ↓hq_notV, ↓wq_and, ↓wq_or, ↓wq_not, ↓wq_ifE, ↓wq_yes, ↓hq_chain, ↓wq_call, ↓wq_callK, ↓hq_callP, ↓wq_meth, ↓wq_methD, isPD_d, vget_d, vrevs_s, vsplit_s, ↓wq_iter, ↓wq_enum, ↓hq_range1, ↓hq_range2, ↓hq_range3, ↓hq_range3p, vrepl_s, ↓hq_zipL, ↓wq_slice, ↓wq_noO, ↓hq_someO, ↓wq_isi, ↓wq_revL, ↓wq_lc, ↓wq_lcN, ↓hq_pop, ↓wq_binx, ↓hq_bx, ↓wq_orx, ↓hq_tokIx, ↓wq_disp, ↓wq_pnil, ↓wq_pcons, vadd_ii, vadd_ss, vadd_ll, vadd_sl, viadd_ii, viadd_ss, vsub_ii, vmul_ii, vmul_si, vmul_li, vdiv_ii, vmod_ii, vpow_ii, vneg_i, veq_ii, veq_ss, veq_bb, vne_ii, vne_ss, vne_bb, veq_g, vne_g, cplx_l, cplx_t, cplx_n, cplx_c, okd_l, okd_t, okd_s, okd_i, okd_b, okd_n, okd_c, eqv_ll, eqv_tt, eqv_lt, eqv_tl, eqv_ii, eqv_ss, eqv_bb, eqv_nn, eqv_nt, eqv_tn, eqv_ns, eqv_sn, eqv_st, eqv_ts, eqv_si, eqv_is, eqv_in, eqv_ni, eqv_sl, eqv_ls, eqv_nl, eqv_ln, eqv_cl0, eqvs_nil, eqvs_cons, eqvs_n1, eqvs_1n, eqvs_nl, vlt_ii, vle_ii, vgt_ii, vge_ii, vlt_ss, vle_ss, vgt_ss, vge_ss, vis_n, visNot_n, vis_b, visNot_b, isNon_n, isNon_t, isNon_l, isNon_s, isNon_i, vix_s, vix_l, vix_t, vix_c, vix_d, keyP_i, keyP_s, vin_ss, vnin_ss, vin_l, vnin_l, vcut_s, vcut_l, vcut_c, vlen_s, vlen_l, vlen_t, vlen_c, vlen_d, vint_b, vint_i, vabs_i, vmax_ii, vmin_ii, vlist_s, vlist_l, vlist_t, vtuple_l, vtupleA_l, vtupleA_s, vaddr_ll, vsorted_l, psrc_s, psrc_l, psrc_t, psrc_c, penum_s, penum_l, penum_c, vjoin_c, vsindex, isPT_s, isPT_l, pty_n, pty_b, pty_i, pty_s, pty_l, pty_t, pty_d, isTok_n, isTok_b, isTok_i, isTok_s, isTok_l, isTok_t, isTok_d, noL_n, noL_b, noL_i, noL_s, noL_t, noLs_nl, noLs_c, noLs_ints, noLs_chs, noLs_strs, noLs_rev, perm_1, perm_11, perm_02, perm_20, pat0, pat1, pat2, pat3, iat0, iat1, iat2, List.getElem?_cons_zero, List.getElem?_cons_succ, pwipe, List.map_cons, List.map_nil, List.length_cons, List.length_nil, List.length_map, List.replicate, List.cons_append, List.nil_append, List.set_cons_succ, List.set_cons_zero, Option.map_some, Option.map_none, Option.isSome_some, Option.isSome_none, Option.bind_some, PV.bl.injEq, PV.int.injEq, PV.str.injEq, Option.some.injEq, exists_eq_left', exists_eq_left, if_true, true_and, and_true, and_self, Bool.and_self, Bool.and_true, Bool.true_and, Bool.and_false, Bool.false_and, List.any_cons, List.any_nil, List.all_cons, List.all_nil, Bool.or_false, Bool.or_true, Bool.true_or, Bool.false_or, Bool.not_true, Bool.not_false, if_false, Bool.false_eq_true, not_false_eq_true, beq_self_eq_true, decide_true, decide_false, line_t, line_l, small_t, fits_t, chP_len, chP_nol, chP_okd, chP_nil, List.length_append, List.length_reverse, List.length_take, List.length_drop, Nat.zero_le, vin_clo, vix_clo, letB, cloB_def, opnB_def, asB_b, asI_i, asL_l, lsP_0, lsP_S, slP_0, slP_S, tok_0, tok_S, asP_ints, asP_3, noLs_ints, cut_nilP]
    simp
  · simp (decide := true) (disch := first | assumption | omega | (simp (decide := true) only [cplx_l, cplx_t, cplx_n, cplx_c, Bool.or_true, Bool.true_or])) only [↓reduceIte, reduceCtorEq, or_true, true_or, or_false, false_or, and_false, false_and, ↓sts_0, ↓sts_S, ↓wo_gn, ↓wo_gnN, ↓wo_gt2, ↓wo_gtt, ↓wo_gs0, ↓wq_var0, ↓wq_varS, ↓ws_seq, ↓ws_skip, ↓ws_break, ↓ws_cont, ↓ws_if, ↓ws_ifx, ↓ws_expr, ↓ws_ret, ↓ws_retN, ↓hs_set, ↓hs_setx, ↓hs_par, ↓ws_asg, ↓hs_aug, ↓hs_app, ↓hs_ext, ↓hs_mut, ↓hs_store, ↓hs_storex, ↓ws_for, ↓ws_forN, ↓ws_nx, ↓ws_rt, ↓ws_bk, ↓ws_ct, ↓ws_no, ↓hs_pool, ↓hs_tokSet, ↓wo_some, ↓wo_none, ↓wo_map, ↓wo_if, ↓wo_gs, ↓wq_ok, ↓wq_no, ↓wq_of, ↓wq_C, ↓wq_n, ↓wq_bin, ↓wq_un, ↓wq_b1, ↓wq_nil, ↓wq_cons, ↓wq_consD, ↓wq_tup, ↓wq_lst, ↓hq_B, ↓hq_andV, ↓hq_orV, ↓hq_notV, ↓wq_and, ↓wq_or, ↓wq_not, ↓wq_ifE, ↓wq_yes, ↓hq_chain, ↓wq_call, ↓wq_callK, ↓hq_callP, ↓wq_meth, ↓wq_methD, isPD_d, vget_d, vrevs_s, vsplit_s, ↓wq_iter, ↓wq_enum, ↓hq_range1, ↓hq_range2, ↓hq_range3, ↓hq_range3p, vrepl_s, ↓hq_zipL, ↓wq_slice, ↓wq_noO, ↓hq_someO, ↓wq_isi, ↓wq_revL, ↓wq_lc, ↓wq_lcN, ↓hq_pop, ↓wq_binx, ↓hq_bx, ↓wq_orx, ↓hq_tokIx, ↓wq_disp, ↓wq_pnil, ↓wq_pcons, vadd_ii, vadd_ss, vadd_ll, vadd_sl, viadd_ii, viadd_ss, vsub_ii, vmul_ii, vmul_si, vmul_li, vdiv_ii, vmod_ii, vpow_ii, vneg_i, veq_ii, veq_ss, veq_bb, vne_ii, vne_ss, vne_bb, veq_g, vne_g, cplx_l, cplx_t, cplx_n, cplx_c, okd_l, okd_t, okd_s, okd_i, okd_b, okd_n, okd_c, eqv_ll, eqv_tt, eqv_lt, eqv_tl, eqv_ii, eqv_ss, eqv_bb, eqv_nn, eqv_nt, eqv_tn, eqv_ns, eqv_sn, eqv_st, eqv_ts, eqv_si, eqv_is, eqv_in, eqv_ni, eqv_sl, eqv_ls, eqv_nl, eqv_ln, eqv_cl0, eqvs_nil, eqvs_cons, eqvs_n1, eqvs_1n, eqvs_nl, vlt_ii, vle_ii, vgt_ii, vge_ii, vlt_ss, vle_ss, vgt_ss, vge_ss, vis_n, visNot_n, vis_b, visNot_b, isNon_n, isNon_t, isNon_l, isNon_s, isNon_i, vix_s, vix_l, vix_t, vix_c, vix_d, keyP_i, keyP_s, vin_ss, vnin_ss, vin_l, vnin_l, vcut_s, vcut_l, vcut_c, vlen_s, vlen_l, vlen_t, vlen_c, vlen_d, vint_b, vint_i, vabs_i, vmax_ii, vmin_ii, vlist_s, vlist_l, vlist_t, vtuple_l, vtupleA_l, vtupleA_s, vaddr_ll, vsorted_l, psrc_s, psrc_l, psrc_t, psrc_c, penum_s, penum_l, penum_c, vjoin_c, vsindex, isPT_s, isPT_l, pty_n, pty_b, pty_i, pty_s, pty_l, pty_t, pty_d, isTok_n, isTok_b, isTok_i, isTok_s, isTok_l, isTok_t, isTok_d, noL_n, noL_b, noL_i, noL_s, noL_t, noLs_nl, noLs_c, noLs_ints, noLs_chs, noLs_strs, noLs_rev, perm_1, perm_11, perm_02, perm_20, pat0, pat1, pat2, pat3, iat0, iat1, iat2, List.getElem?_cons_zero, List.getElem?_cons_succ, pwipe, List.map_cons, List.map_nil, List.length_cons, List.length_nil, List.length_map, List.replicate, List.cons_append, List.nil_append, List.set_cons_succ, List.set_cons_zero, Option.map_some, Option.map_none, Option.isSome_some, Option.isSome_none, Option.bind_some, PV.bl.injEq, PV.int.injEq, PV.str.injEq, Option.some.injEq, exists_eq_left', exists_eq_left, if_true, true_and, and_true, and_self, Bool.and_self, Bool.and_true, Bool.true_and, Bool.and_false, Bool.false_and, List.any_cons, List.any_nil, List.all_cons, List.all_nil, Bool.or_false, Bool.or_true, Bool.true_or, Bool.false_or, Bool.not_true, Bool.not_false, if_false, Bool.false_eq_true, not_false_eq_true, beq_self_eq_true, decide_true, decide_false, line_t, line_l, small_t, fits_t, chP_len, chP_nol, chP_okd, chP_nil, List.length_append, List.length_reverse, List.length_take, List.length_drop, Nat.zero_le, vin_clo, vix_clo, letB, cloB_def, opnB_def, asB_b, asI_i, asL_l, lsP_0, lsP_S, slP_0, slP_S, tok_0, tok_S, asP_ints, asP_3, noLs_ints, cutA_to, show decide (ns = []) = false by simp [h]]
    simp [h]
    exact ⟨Nat.le_trans (show _ ≤ 1000 by omega) (by decide), by rw [← List.map_take]; exact noLs_ints⟩
theorem lt1 (a b : Nat) : decide (([a] : List Nat) < [b]) = decide (a < b) := by
  rw [decide_eq_decide]
  simp [List.cons_lt_cons_iff]
theorem cutA_le {α : Type} (xs : List α) (lo hi : Option Int) : (cutA xs lo hi).length ≤ xs.length := by
  unfold cutA
  rw [List.length_take, List.length_drop]
  omega

theorem shown_sz {p : PyData} (h1 : p.showable = true) (h2 : (!p.hasDict || !hasL p) = true) (h3 : p.leavesShort 60 = true) (h4 : p.bulk ≤ 100000) : shOk p = true := shOk_of h1 h2 h3 h4
theorem mkS_short {w : List Nat} (h : ∀ c ∈ w, c < 1000) : (mkS w).cps.toList.all (fun c => decide (c < 16 ^ 8)) = true := by
  have e : (mkS w).cps.toList = w := by simp [mkS]
  rw [e, List.all_eq_true]
  exact fun c hc => decide_eq_true (Nat.lt_trans (h c hc) (by decide))
theorem mkS_size (w : List Nat) : (mkS w).cps.size = w.length := by simp [mkS]
theorem shOk_str {w : List Nat} (h : ∀ c ∈ w, c < 1000) (hl : w.length ≤ 10000) : shOk (PV.toP (.str w)) = true := by
  refine shown_sz rfl rfl ?_ ?_
  · show PyData.leavesShort 60 (.str (mkS w)) = true
    simp only [PyData.leavesShort]
    exact mkS_short h
  · show PyData.bulk (.str (mkS w)) ≤ _
    simp only [PyData.bulk]
    rw [mkS_size]
    omega
theorem signs_toP (w : List Nat) : PV.toPs (chP w) = w.map fun c => PyData.str (mkS [c]) := by
  rw [toPs_map]
  simp [chP]
  exact fun _ _ => rfl
theorem signs_show (w : List Nat) : PyData.showableAll (PV.toPs (chP w)) = true := by
  rw [signs_toP]
  induction w with
  | nil => rfl
  | cons c r ih => simp only [List.map_cons, PyData.showableAll, PyData.showable]; exact ih
theorem signs_dict (w : List Nat) : PyData.hasDictAll (PV.toPs (chP w)) = false := by
  rw [signs_toP]
  induction w with
  | nil => rfl
  | cons c r ih => simp only [List.map_cons, PyData.hasDictAll, PyData.hasDict]; exact ih
theorem signs_short (w : List Nat) (h : ∀ c ∈ w, c < 1000) : PyData.leavesShortAll 60 (PV.toPs (chP w)) = true := by
  rw [signs_toP]
  induction w with
  | nil => rfl
  | cons c r ih =>
    simp only [List.map_cons, PyData.leavesShortAll, PyData.leavesShort]
    rw [mkS_short (w := [c]) (fun d hd => by
      have : d = c := by simpa using hd
      rw [this]; exact h c (by simp)), ih fun d hd => h d (by simp [hd])]
    rfl
theorem signs_bulk (w : List Nat) : PyData.bulkAll (PV.toPs (chP w)) = 2 * w.length := by
  rw [signs_toP]
  induction w with
  | nil => rfl
  | cons c r ih =>
    simp only [List.map_cons, PyData.bulkAll, PyData.bulk, List.length_cons]
    rw [ih, mkS_size]
    simp
    omega
theorem shOk_signsL {w : List Nat} (h : ∀ c ∈ w, c < 1000) (hl : w.length ≤ 10000) : shOk (PV.toP (.lst (chP w))) = true := by
  refine shown_sz ?_ ?_ ?_ ?_
  · show PyData.showable (.list _) = true
    simp only [PyData.showable]
    exact signs_show w
  · show (!PyData.hasDict (.list _) || _) = true
    simp only [PyData.hasDict]
    rw [signs_dict]
    rfl
  · show PyData.leavesShort 60 (.list _) = true
    simp only [PyData.leavesShort]
    exact signs_short w h
  · show PyData.bulk (.list _) ≤ _
    simp only [PyData.bulk]
    rw [signs_bulk]
    omega
theorem shOk_signsT {w : List Nat} (h : ∀ c ∈ w, c < 1000) (hl : w.length ≤ 10000) : shOk (PV.toP (.tup (chP w))) = true := by
  refine shown_sz ?_ ?_ ?_ ?_
  · show PyData.showable (.tuple _) = true
    simp only [PyData.showable]
    exact signs_show w
  · show (!PyData.hasDict (.tuple _) || _) = true
    simp only [PyData.hasDict]
    rw [signs_dict]
    rfl
  · show PyData.leavesShort 60 (.tuple _) = true
    simp only [PyData.leavesShort]
    exact signs_short w h
  · show PyData.bulk (.tuple _) ≤ _
    simp only [PyData.bulk]
    rw [signs_bulk]
    omega
theorem shOk_strL {w : List Nat} (h : ∀ c ∈ w, c < 1000) (hl : w.length ≤ 10000) : shOk (PV.toP (.lst [.str w])) = true := by
  have h1 := mkS_short h
  have h2 := mkS_size w
  refine shown_sz rfl rfl ?_ ?_
  · show PyData.leavesShort 60 (.list [.str (mkS w)]) = true
    simp only [PyData.leavesShort, PyData.leavesShortAll]
    rw [h1]; rfl
  · show PyData.bulk (.list [.str (mkS w)]) ≤ _
    simp only [PyData.bulk, PyData.bulkAll]
    omega
theorem okr_signs (w : List Nat) (n : Nat) : (chP w).all (okr (n + 1)) = true := by
  unfold chP
  rw [List.all_map, List.all_eq_true]
  exact fun _ _ => rfl


/-- a sign of a key list -/
def keyC (c : Nat) : Bool := decide (c ∈ [97, 98, 99, 100, 101, 102, 103, 104, 105, 106, 107, 108, 109, 110, 111, 112, 113, 114, 115, 116, 117, 118, 119, 120, 121, 122, 40, 91, 123, 41, 93, 125, 60, 62, 45])
theorem p_is_key_str {w : List Nat} (hw : w.length ≤ 100000) {o : Pool} : p_is_key_list [.str w] o = .ok (.bl (w.all keyC)) o := by
  have comp : pLoopC [some (.str w), none] (pGn 1) pYes (pBin vIn (pVar 1) (pC (.str [97, 98, 99, 100, 101, 102, 103, 104, 105, 106, 107, 108, 109, 110, 111, 112, 113, 114, 115, 116, 117, 118, 119, 120, 121, 122, 40, 91, 123, 41, 93, 125, 60, 62, 45]))) (w.map fun ch => [.str [ch]]) [] o = .ok (.lst ((w.map keyC).map .bl)) o := by
    rw [lc_eq (fun _ => true) (fun c => .bl (keyC c)) (fun ch => [.str [ch]]) (fun _ => rfl) w [] (by simp; omega) fun c _ => ?_]
    · rw [List.filter_eq_self.mpr (fun _ _ => rfl), List.map_map]; rfl
    · simp (decide := true) (disch := first | assumption | omega | (simp (decide := true) only [cplx_l, cplx_t, cplx_n, cplx_c, Bool.or_true, Bool.true_or])) only [↓reduceIte, reduceCtorEq, or_true, true_or, or_false, false_or, and_false, false_and, ↓sts_0, ↓sts_S, ↓wo_gn, ↓wo_gnN, ↓wo_gt2, ↓wo_gtt, ↓wo_gs0, ↓wq_var0, ↓wq_varS, ↓ws_seq, ↓ws_skip, ↓ws_break, ↓ws_cont, ↓ws_if, ↓ws_ifx, ↓ws_expr, ↓ws_ret, ↓ws_retN, ↓hs_set, ↓hs_setx, ↓hs_par, ↓ws_asg, ↓hs_aug, ↓hs_app, ↓hs_ext, ↓hs_mut, ↓hs_store, ↓hs_storex, ↓ws_for, ↓ws_forN, ↓ws_nx, ↓ws_rt, ↓ws_bk, ↓ws_ct, ↓ws_no, ↓hs_pool, ↓hs_tokSet, ↓wo_some, ↓wo_none, ↓wo_map, ↓wo_if, ↓wo_gs, ↓wq_ok, ↓wq_no, ↓wq_of, ↓wq_C, ↓wq_n, ↓wq_bin, ↓wq_un, ↓wq_b1, ↓wq_nil, ↓wq_cons, ↓wq_consD, ↓wq_tup, ↓wq_lst, ↓hq_B, ↓hq_andV, ↓hq_orV, ↓hq_notV, ↓wq_and, ↓wq_or, ↓wq_not, ↓wq_ifE, ↓wq_yes, ↓hq_chain, ↓wq_call, ↓wq_callK, ↓hq_callP, ↓wq_meth, ↓wq_methD, isPD_d, vget_d, vrevs_s, vsplit_s, ↓wq_iter, ↓wq_enum, ↓hq_range1, ↓hq_range2, ↓hq_range3, ↓hq_range3p, vrepl_s, ↓hq_zipL, ↓wq_slice, ↓wq_noO, ↓hq_someO, ↓wq_isi, ↓wq_revL, ↓wq_lc, ↓wq_lcN, ↓hq_pop, ↓wq_binx, ↓hq_bx, ↓wq_orx, ↓hq_tokIx, ↓wq_disp, ↓wq_pnil, ↓wq_pcons, vadd_ii, vadd_ss, vadd_ll, vadd_sl, viadd_ii, viadd_ss, vsub_ii, vmul_ii, vmul_si, vmul_li, vdiv_ii, vmod_ii, vpow_ii, vneg_i, veq_ii, veq_ss, veq_bb, vne_ii, vne_ss, vne_bb, veq_g, vne_g, cplx_l, cplx_t, cplx_n, cplx_c, okd_l, okd_t, okd_s, okd_i, okd_b, okd_n, okd_c, eqv_ll, eqv_tt, eqv_lt, eqv_tl, eqv_ii, eqv_ss, eqv_bb, eqv_nn, eqv_nt, eqv_tn, eqv_ns, eqv_sn, eqv_st, eqv_ts, eqv_si, eqv_is, eqv_in, eqv_ni, eqv_sl, eqv_ls, eqv_nl, eqv_ln, eqv_cl0, eqvs_nil, eqvs_cons, eqvs_n1, eqvs_1n, eqvs_nl, vlt_ii, vle_ii, vgt_ii, vge_ii, vlt_ss, vle_ss, vgt_ss, vge_ss, vis_n, visNot_n, vis_b, visNot_b, isNon_n, isNon_t, isNon_l, isNon_s, isNon_i, vix_s, vix_l, vix_t, vix_c, vix_d, keyP_i, keyP_s, vin_ss, vnin_ss, vin_l, vnin_l, vcut_s, vcut_l, vcut_c, vlen_s, vlen_l, vlen_t, vlen_c, vlen_d, vint_b, vint_i, vabs_i, vmax_ii, vmin_ii, vlist_s, vlist_l, vlist_t, vtuple_l, vtupleA_l, vtupleA_s, vaddr_ll, vsorted_l, psrc_s, psrc_l, psrc_t, psrc_c, penum_s, penum_l, penum_c, vjoin_c, vsindex, isPT_s, isPT_l, pty_n, pty_b, pty_i, pty_s, pty_l, pty_t, pty_d, isTok_n, isTok_b, isTok_i, isTok_s, isTok_l, isTok_t, isTok_d, noL_n, noL_b, noL_i, noL_s, noL_t, noLs_nl, noLs_c, noLs_ints, noLs_chs, noLs_strs, noLs_rev, perm_1, perm_11, perm_02, perm_20, pat0, pat1, pat2, pat3, iat0, iat1, iat2, List.getElem?_cons_zero, List.getElem?_cons_succ, pwipe, List.map_cons, List.map_nil, List.length_cons, List.length_nil, List.length_map, List.replicate, List.cons_append, List.nil_append, List.set_cons_succ, List.set_cons_zero, Option.map_some, Option.map_none, Option.isSome_some, Option.isSome_none, Option.bind_some, PV.bl.injEq, PV.int.injEq, PV.str.injEq, Option.some.injEq, exists_eq_left', exists_eq_left, if_true, true_and, and_true, and_self, Bool.and_self, Bool.and_true, Bool.true_and, Bool.and_false, Bool.false_and, List.any_cons, List.any_nil, List.all_cons, List.all_nil, Bool.or_false, Bool.or_true, Bool.true_or, Bool.false_or, Bool.not_true, Bool.not_false, if_false, Bool.false_eq_true, not_false_eq_true, beq_self_eq_true, decide_true, decide_false, line_t, line_l, small_t, fits_t, chP_len, chP_nol, chP_okd, chP_nil, List.length_append, List.length_reverse, List.length_take, List.length_drop, Nat.zero_le, vin_clo, vix_clo, letB, cloB_def, opnB_def, asB_b, asI_i, asL_l, lsP_0, lsP_S, slP_0, slP_S, tok_0, tok_S, asP_ints, asP_3]
      exact fun _ => rfl
  apply Wq.eq
  apply pw_is_key_list
  unfold pb_is_key_list
  simp (decide := true) (disch := first | assumption | omega | (simp (decide := true) only [cplx_l, cplx_t, cplx_n, cplx_c, Bool.or_true, Bool.true_or])) only [↓reduceIte, reduceCtorEq, or_true, true_or, or_false, false_or, and_false, false_and, ↓sts_0, ↓sts_S, ↓wo_gn, ↓wo_gnN, ↓wo_gt2, ↓wo_gtt, ↓wo_gs0, ↓wq_var0, ↓wq_varS, ↓ws_seq, ↓ws_skip, ↓ws_break, ↓ws_cont, ↓ws_if, ↓ws_ifx, ↓ws_expr, ↓ws_ret, ↓ws_retN, ↓hs_set, ↓hs_setx, ↓hs_par, ↓ws_asg, ↓hs_aug, ↓hs_app, ↓hs_ext, ↓hs_mut, ↓hs_store, ↓hs_storex, ↓ws_for, ↓ws_forN, ↓ws_nx, ↓ws_rt, ↓ws_bk, ↓ws_ct, ↓ws_no, ↓hs_pool, ↓hs_tokSet, ↓wo_some, ↓wo_none, ↓wo_map, ↓wo_if, ↓wo_gs, ↓wq_ok, ↓wq_no, ↓wq_of, ↓wq_C, ↓wq_n, ↓wq_bin, ↓wq_un, ↓wq_b1, ↓wq_nil, ↓wq_cons, ↓wq_consD, ↓wq_tup, ↓wq_lst, ↓hq_B, ↓hq_andV, ↓hq_orV, ↓hq_notV, ↓wq_and, ↓wq_or, ↓wq_not, ↓wq_ifE, ↓wq_yes, ↓hq_chain, ↓wq_call, ↓wq_callK, ↓hq_callP, ↓wq_meth, ↓wq_methD, isPD_d, vget_d, vrevs_s, vsplit_s, ↓wq_iter, ↓wq_enum, ↓hq_range1, ↓hq_range2, ↓hq_range3, ↓hq_range3p, vrepl_s, ↓hq_zipL, ↓wq_slice, ↓wq_noO, ↓hq_someO, ↓wq_isi, ↓wq_revL, ↓wq_lc, ↓wq_lcN, ↓hq_pop, ↓wq_binx, ↓hq_bx, ↓wq_orx, ↓hq_tokIx, ↓wq_disp, ↓wq_pnil, ↓wq_pcons, vadd_ii, vadd_ss, vadd_ll, vadd_sl, viadd_ii, viadd_ss, vsub_ii, vmul_ii, vmul_si, vmul_li, vdiv_ii, vmod_ii, vpow_ii, vneg_i, veq_ii, veq_ss, veq_bb, vne_ii, vne_ss, vne_bb, veq_g, vne_g, cplx_l, cplx_t, cplx_n, cplx_c, okd_l, okd_t, okd_s, okd_i, okd_b, okd_n, okd_c, eqv_ll, eqv_tt, eqv_lt, eqv_tl, eqv_ii, eqv_ss, eqv_bb, eqv_nn, eqv_nt, eqv_tn, eqv_ns, eqv_sn, eqv_st, eqv_ts, eqv_si, eqv_is, eqv_in, eqv_ni, eqv_sl, eqv_ls, eqv_nl, eqv_ln, eqv_cl0, eqvs_nil, eqvs_cons, eqvs_n1, eqvs_1n, eqvs_nl, vlt_ii, vle_ii, vgt_ii, vge_ii, vlt_ss, vle_ss, vgt_ss, vge_ss, vis_n, visNot_n, vis_b, visNot_b, isNon_n, isNon_t, isNon_l, isNon_s, isNon_i, vix_s, vix_l, vix_t, vix_c, vix_d, keyP_i, keyP_s, vin_ss, vnin_ss, vin_l, vnin_l, vcut_s, vcut_l, vcut_c, vlen_s, vlen_l, vlen_t, vlen_c, vlen_d, vint_b, vint_i, vabs_i, vmax_ii, vmin_ii, vlist_s, vlist_l, vlist_t, vtuple_l, vtupleA_l, vtupleA_s, vaddr_ll, vsorted_l, psrc_s, psrc_l, psrc_t, psrc_c, penum_s, penum_l, penum_c, vjoin_c, vsindex, isPT_s, isPT_l, pty_n, pty_b, pty_i, pty_s, pty_l, pty_t, pty_d, isTok_n, isTok_b, isTok_i, isTok_s, isTok_l, isTok_t, isTok_d, noL_n, noL_b, noL_i, noL_s, noL_t, noLs_nl, noLs_c, noLs_ints, noLs_chs, noLs_strs, noLs_rev, perm_1, perm_11, perm_02, perm_20, pat0, pat1, pat2, pat3, iat0, iat1, iat2, List.getElem?_cons_zero, List.getElem?_cons_succ, pwipe, List.map_cons, List.map_nil, List.length_cons, List.length_nil, List.length_map, List.replicate, List.cons_append, List.nil_append, List.set_cons_succ, List.set_cons_zero, Option.map_some, Option.map_none, Option.isSome_some, Option.isSome_none, Option.bind_some, PV.bl.injEq, PV.int.injEq, PV.str.injEq, Option.some.injEq, exists_eq_left', exists_eq_left, if_true, true_and, and_true, and_self, Bool.and_self, Bool.and_true, Bool.true_and, Bool.and_false, Bool.false_and, List.any_cons, List.any_nil, List.all_cons, List.all_nil, Bool.or_false, Bool.or_true, Bool.true_or, Bool.false_or, Bool.not_true, Bool.not_false, if_false, Bool.false_eq_true, not_false_eq_true, beq_self_eq_true, decide_true, decide_false, line_t, line_l, small_t, fits_t, chP_len, chP_nol, chP_okd, chP_nil, List.length_append, List.length_reverse, List.length_take, List.length_drop, Nat.zero_le, vin_clo, vix_clo, letB, cloB_def, opnB_def, asB_b, asI_i, asL_l, lsP_0, lsP_S, slP_0, slP_S, tok_0, tok_S, asP_ints, asP_3, show (Ty.sub .str .str) = true from rfl, comp, vall_l]
  rw [List.all_map]
  rfl
theorem p_is_key_non {z : PV} {t : Ty} (h1 : pty z = some t) (h2 : t.sub .str = false) {o : Pool} : p_is_key_list [z] o = .ok (.bl false) o := by
  apply Wq.eq
  apply pw_is_key_list
  unfold pb_is_key_list
  simp (decide := true) (disch := first | assumption | omega | (simp (decide := true) only [cplx_l, cplx_t, cplx_n, cplx_c, Bool.or_true, Bool.true_or])) only [↓reduceIte, reduceCtorEq, or_true, true_or, or_false, false_or, and_false, false_and, ↓sts_0, ↓sts_S, ↓wo_gn, ↓wo_gnN, ↓wo_gt2, ↓wo_gtt, ↓wo_gs0, ↓wq_var0, ↓wq_varS, ↓ws_seq, ↓ws_skip, ↓ws_break, ↓ws_cont, ↓ws_if, ↓ws_ifx, ↓ws_expr, ↓ws_ret, ↓ws_retN, ↓hs_set, ↓hs_setx, ↓hs_par, ↓ws_asg, ↓hs_aug, ↓hs_app, ↓hs_ext, ↓hs_mut, ↓hs_store, ↓hs_storex, ↓ws_for, ↓ws_forN, ↓ws_nx, ↓ws_rt, ↓ws_bk, ↓ws_ct, ↓ws_no, ↓hs_pool, ↓hs_tokSet, ↓wo_some, ↓wo_none, ↓wo_map, ↓wo_if, ↓wo_gs, ↓wq_ok, ↓wq_no, ↓wq_of, ↓wq_C, ↓wq_n, ↓wq_bin, ↓wq_un, ↓wq_b1, ↓wq_nil, ↓wq_cons, ↓wq_consD, ↓wq_tup, ↓wq_lst, ↓hq_B, ↓hq_andV, ↓hq_orV, ↓hq_notV, ↓wq_and, ↓wq_or, ↓wq_not, ↓wq_ifE, ↓wq_yes, ↓hq_chain, ↓wq_call, ↓wq_callK, ↓hq_callP, ↓wq_meth, ↓wq_methD, isPD_d, vget_d, vrevs_s, vsplit_s, ↓wq_iter, ↓wq_enum, ↓hq_range1, ↓hq_range2, ↓hq_range3, ↓hq_range3p, vrepl_s, ↓hq_zipL, ↓wq_slice, ↓wq_noO, ↓hq_someO, ↓wq_isi, ↓wq_revL, ↓wq_lc, ↓wq_lcN, ↓hq_pop, ↓wq_binx, ↓hq_bx, ↓wq_orx, ↓hq_tokIx, ↓wq_disp, ↓wq_pnil, ↓wq_pcons, vadd_ii, vadd_ss, vadd_ll, vadd_sl, viadd_ii, viadd_ss, vsub_ii, vmul_ii, vmul_si, vmul_li, vdiv_ii, vmod_ii, vpow_ii, vneg_i, veq_ii, veq_ss, veq_bb, vne_ii, vne_ss, vne_bb, veq_g, vne_g, cplx_l, cplx_t, cplx_n, cplx_c, okd_l, okd_t, okd_s, okd_i, okd_b, okd_n, okd_c, eqv_ll, eqv_tt, eqv_lt, eqv_tl, eqv_ii, eqv_ss, eqv_bb, eqv_nn, eqv_nt, eqv_tn, eqv_ns, eqv_sn, eqv_st, eqv_ts, eqv_si, eqv_is, eqv_in, eqv_ni, eqv_sl, eqv_ls, eqv_nl, eqv_ln, eqv_cl0, eqvs_nil, eqvs_cons, eqvs_n1, eqvs_1n, eqvs_nl, vlt_ii, vle_ii, vgt_ii, vge_ii, vlt_ss, vle_ss, vgt_ss, vge_ss, vis_n, visNot_n, vis_b, visNot_b, isNon_n, isNon_t, isNon_l, isNon_s, isNon_i, vix_s, vix_l, vix_t, vix_c, vix_d, keyP_i, keyP_s, vin_ss, vnin_ss, vin_l, vnin_l, vcut_s, vcut_l, vcut_c, vlen_s, vlen_l, vlen_t, vlen_c, vlen_d, vint_b, vint_i, vabs_i, vmax_ii, vmin_ii, vlist_s, vlist_l, vlist_t, vtuple_l, vtupleA_l, vtupleA_s, vaddr_ll, vsorted_l, psrc_s, psrc_l, psrc_t, psrc_c, penum_s, penum_l, penum_c, vjoin_c, vsindex, isPT_s, isPT_l, pty_n, pty_b, pty_i, pty_s, pty_l, pty_t, pty_d, isTok_n, isTok_b, isTok_i, isTok_s, isTok_l, isTok_t, isTok_d, noL_n, noL_b, noL_i, noL_s, noL_t, noLs_nl, noLs_c, noLs_ints, noLs_chs, noLs_strs, noLs_rev, perm_1, perm_11, perm_02, perm_20, pat0, pat1, pat2, pat3, iat0, iat1, iat2, List.getElem?_cons_zero, List.getElem?_cons_succ, pwipe, List.map_cons, List.map_nil, List.length_cons, List.length_nil, List.length_map, List.replicate, List.cons_append, List.nil_append, List.set_cons_succ, List.set_cons_zero, Option.map_some, Option.map_none, Option.isSome_some, Option.isSome_none, Option.bind_some, PV.bl.injEq, PV.int.injEq, PV.str.injEq, Option.some.injEq, exists_eq_left', exists_eq_left, if_true, true_and, and_true, and_self, Bool.and_self, Bool.and_true, Bool.true_and, Bool.and_false, Bool.false_and, List.any_cons, List.any_nil, List.all_cons, List.all_nil, Bool.or_false, Bool.or_true, Bool.true_or, Bool.false_or, Bool.not_true, Bool.not_false, if_false, Bool.false_eq_true, not_false_eq_true, beq_self_eq_true, decide_true, decide_false, line_t, line_l, small_t, fits_t, chP_len, chP_nol, chP_okd, chP_nil, List.length_append, List.length_reverse, List.length_take, List.length_drop, Nat.zero_le, vin_clo, vix_clo, letB, cloB_def, opnB_def, asB_b, asI_i, asL_l, lsP_0, lsP_S, slP_0, slP_S, tok_0, tok_S, asP_ints, asP_3, h1, h2]
theorem p_typed_str {w : List Nat} (hw : w.length ≤ 100000) {o : Pool} : p__law_is_typed [.str w] o = .ok (.bl (w.all keyC)) o := by
  have comp : pLoopC [some (.str w), none] (pGn 1) (pAnd (pNot (pB (pChain vLe vLe (pC (.str [97])) (pVar 1) (pC (.str [122]))))) (pB (pBin vNotIn (pVar 1) (pC (.str [40, 41, 91, 93, 123, 125, 60, 62, 45]))))) (pN (pVar 1)) (w.map fun ch => [.str [ch]]) [] o = .ok (.lst (chP (w.filter fun c => !keyC c))) o := by
    rw [lc_eq (fun c => !keyC c) (fun c => .str [c]) (fun ch => [.str [ch]]) (fun _ => rfl) w [] (by simp; omega) fun c _ => ?_]
    · rfl
    · have hk : keyC c = ((!decide (c < 97) && !decide (122 < c)) || decide (c ∈ [40, 41, 91, 93, 123, 125, 60, 62, 45])) := by
        unfold keyC
        rw [Bool.eq_iff_iff]
        simp only [Bool.or_eq_true, Bool.and_eq_true, Bool.not_eq_true', decide_eq_true_eq, decide_eq_false_iff_not, List.mem_cons, List.not_mem_nil, or_false]
        omega
      by_cases h1 : c < 97
      · simp (decide := true) (disch := first | assumption | omega | (simp (decide := true) only [cplx_l, cplx_t, cplx_n, cplx_c, Bool.or_true, Bool.true_or])) only [↓reduceIte, reduceCtorEq, or_true, true_or, or_false, false_or, and_false, false_and, ↓sts_0, ↓sts_S, ↓wo_gn, ↓wo_gnN, ↓wo_gt2, ↓wo_gtt, ↓wo_gs0, ↓wq_var0, ↓wq_varS, ↓ws_seq, ↓ws_skip, ↓ws_break, ↓ws_cont, ↓ws_if, ↓ws_ifx, ↓ws_expr, ↓ws_ret, ↓ws_retN, ↓hs_set, ↓hs_setx, ↓hs_par, ↓ws_asg, ↓hs_aug, ↓hs_app, ↓hs_ext, ↓hs_mut, ↓hs_store, ↓hs_storex, ↓ws_for, ↓ws_forN, ↓ws_nx, ↓ws_rt, ↓ws_bk, ↓ws_ct, ↓ws_no, ↓hs_pool, ↓hs_tokSet, ↓wo_some, ↓wo_none, ↓wo_map, ↓wo_if, ↓wo_gs, ↓wq_ok, ↓wq_no, ↓wq_of, ↓wq_C, ↓wq_n, ↓wq_bin, ↓wq_un, ↓wq_b1, ↓wq_nil, ↓wq_cons, ↓wq_consD, ↓wq_tup, ↓wq_lst, ↓hq_B, ↓hq_andV, ↓hq_orV, ↓hq_notV, ↓wq_and, ↓wq_or, ↓wq_not, ↓wq_ifE, ↓wq_yes, ↓hq_chain, ↓wq_call, ↓wq_callK, ↓hq_callP, ↓wq_meth, ↓wq_methD, isPD_d, vget_d, vrevs_s, vsplit_s, ↓wq_iter, ↓wq_enum, ↓hq_range1, ↓hq_range2, ↓hq_range3, ↓hq_range3p, vrepl_s, ↓hq_zipL, ↓wq_slice, ↓wq_noO, ↓hq_someO, ↓wq_isi, ↓wq_revL, ↓wq_lc, ↓wq_lcN, ↓hq_pop, ↓wq_binx, ↓hq_bx, ↓wq_orx, ↓hq_tokIx, ↓wq_disp, ↓wq_pnil, ↓wq_pcons, vadd_ii, vadd_ss, vadd_ll, vadd_sl, viadd_ii, viadd_ss, vsub_ii, vmul_ii, vmul_si, vmul_li, vdiv_ii, vmod_ii, vpow_ii, vneg_i, veq_ii, veq_ss, veq_bb, vne_ii, vne_ss, vne_bb, veq_g, vne_g, cplx_l, cplx_t, cplx_n, cplx_c, okd_l, okd_t, okd_s, okd_i, okd_b, okd_n, okd_c, eqv_ll, eqv_tt, eqv_lt, eqv_tl, eqv_ii, eqv_ss, eqv_bb, eqv_nn, eqv_nt, eqv_tn, eqv_ns, eqv_sn, eqv_st, eqv_ts, eqv_si, eqv_is, eqv_in, eqv_ni, eqv_sl, eqv_ls, eqv_nl, eqv_ln, eqv_cl0, eqvs_nil, eqvs_cons, eqvs_n1, eqvs_1n, eqvs_nl, vlt_ii, vle_ii, vgt_ii, vge_ii, vlt_ss, vle_ss, vgt_ss, vge_ss, vis_n, visNot_n, vis_b, visNot_b, isNon_n, isNon_t, isNon_l, isNon_s, isNon_i, vix_s, vix_l, vix_t, vix_c, vix_d, keyP_i, keyP_s, vin_ss, vnin_ss, vin_l, vnin_l, vcut_s, vcut_l, vcut_c, vlen_s, vlen_l, vlen_t, vlen_c, vlen_d, vint_b, vint_i, vabs_i, vmax_ii, vmin_ii, vlist_s, vlist_l, vlist_t, vtuple_l, vtupleA_l, vtupleA_s, vaddr_ll, vsorted_l, psrc_s, psrc_l, psrc_t, psrc_c, penum_s, penum_l, penum_c, vjoin_c, vsindex, isPT_s, isPT_l, pty_n, pty_b, pty_i, pty_s, pty_l, pty_t, pty_d, isTok_n, isTok_b, isTok_i, isTok_s, isTok_l, isTok_t, isTok_d, noL_n, noL_b, noL_i, noL_s, noL_t, noLs_nl, noLs_c, noLs_ints, noLs_chs, noLs_strs, noLs_rev, perm_1, perm_11, perm_02, perm_20, pat0, pat1, pat2, pat3, iat0, iat1, iat2, List.getElem?_cons_zero, List.getElem?_cons_succ, pwipe, List.map_cons, List.map_nil, List.length_cons, List.length_nil, List.length_map, List.replicate, List.cons_append, List.nil_append, List.set_cons_succ, List.set_cons_zero, Option.map_some, Option.map_none, Option.isSome_some, Option.isSome_none, Option.bind_some, PV.bl.injEq, PV.int.injEq, PV.str.injEq, Option.some.injEq, exists_eq_left', exists_eq_left, if_true, true_and, and_true, and_self, Bool.and_self, Bool.and_true, Bool.true_and, Bool.and_false, Bool.false_and, List.any_cons, List.any_nil, List.all_cons, List.all_nil, Bool.or_false, Bool.or_true, Bool.true_or, Bool.false_or, Bool.not_true, Bool.not_false, if_false, Bool.false_eq_true, not_false_eq_true, beq_self_eq_true, decide_true, decide_false, line_t, line_l, small_t, fits_t, chP_len, chP_nol, chP_okd, chP_nil, List.length_append, List.length_reverse, List.length_take, List.length_drop, Nat.zero_le, vin_clo, vix_clo, letB, cloB_def, opnB_def, asB_b, asI_i, asL_l, lsP_0, lsP_S, slP_0, slP_S, tok_0, tok_S, asP_ints, asP_3, lt1, hk, h1]
        exact fun _ => trivial
      · by_cases h2 : 122 < c
        · simp (decide := true) (disch := first | assumption | omega | (simp (decide := true) only [cplx_l, cplx_t, cplx_n, cplx_c, Bool.or_true, Bool.true_or])) only [↓reduceIte, reduceCtorEq, or_true, true_or, or_false, false_or, and_false, false_and, ↓sts_0, ↓sts_S, ↓wo_gn, ↓wo_gnN, ↓wo_gt2, ↓wo_gtt, ↓wo_gs0, ↓wq_var0, ↓wq_varS, ↓ws_seq, ↓ws_skip, ↓ws_break, ↓ws_cont, ↓ws_if, ↓ws_ifx, ↓ws_expr, ↓ws_ret, ↓ws_retN, ↓hs_set, ↓hs_setx, ↓hs_par, ↓ws_asg, ↓hs_aug, ↓hs_app, ↓hs_ext, ↓hs_mut, ↓hs_store, ↓hs_storex, ↓ws_for, ↓ws_forN, ↓ws_nx, ↓ws_rt, ↓ws_bk, ↓ws_ct, ↓ws_no, ↓hs_pool, ↓hs_tokSet, ↓wo_some, ↓wo_none, ↓wo_map, ↓wo_if, ↓wo_gs, ↓wq_ok, ↓wq_no, ↓wq_of, ↓wq_C, ↓wq_n, ↓wq_bin, ↓wq_un, ↓wq_b1, ↓wq_nil, ↓wq_cons, ↓wq_consD, ↓wq_tup, ↓wq_lst, ↓hq_B, ↓hq_andV, ↓hq_orV, ↓hq_notV, ↓wq_and, ↓wq_or, ↓wq_not, ↓wq_ifE, ↓wq_yes, ↓hq_chain, ↓wq_call, ↓wq_callK, ↓hq_callP, ↓wq_meth, ↓wq_methD, isPD_d, vget_d, vrevs_s, vsplit_s, ↓wq_iter, ↓wq_enum, ↓hq_range1, ↓hq_range2, ↓hq_range3, ↓hq_range3p, vrepl_s, ↓hq_zipL, ↓wq_slice, ↓wq_noO, ↓hq_someO, ↓wq_isi, ↓wq_revL, ↓wq_lc, ↓wq_lcN, ↓hq_pop, ↓wq_binx, ↓hq_bx, ↓wq_orx, ↓hq_tokIx, ↓wq_disp, ↓wq_pnil, ↓wq_pcons, vadd_ii, vadd_ss, vadd_ll, vadd_sl, viadd_ii, viadd_ss, vsub_ii, vmul_ii, vmul_si, vmul_li, vdiv_ii, vmod_ii, vpow_ii, vneg_i, veq_ii, veq_ss, veq_bb, vne_ii, vne_ss, vne_bb, veq_g, vne_g, cplx_l, cplx_t, cplx_n, cplx_c, okd_l, okd_t, okd_s, okd_i, okd_b, okd_n, okd_c, eqv_ll, eqv_tt, eqv_lt, eqv_tl, eqv_ii, eqv_ss, eqv_bb, eqv_nn, eqv_nt, eqv_tn, eqv_ns, eqv_sn, eqv_st, eqv_ts, eqv_si, eqv_is, eqv_in, eqv_ni, eqv_sl, eqv_ls, eqv_nl, eqv_ln, eqv_cl0, eqvs_nil, eqvs_cons, eqvs_n1, eqvs_1n, eqvs_nl, vlt_ii, vle_ii, vgt_ii, vge_ii, vlt_ss, vle_ss, vgt_ss, vge_ss, vis_n, visNot_n, vis_b, visNot_b, isNon_n, isNon_t, isNon_l, isNon_s, isNon_i, vix_s, vix_l, vix_t, vix_c, vix_d, keyP_i, keyP_s, vin_ss, vnin_ss, vin_l, vnin_l, vcut_s, vcut_l, vcut_c, vlen_s, vlen_l, vlen_t, vlen_c, vlen_d, vint_b, vint_i, vabs_i, vmax_ii, vmin_ii, vlist_s, vlist_l, vlist_t, vtuple_l, vtupleA_l, vtupleA_s, vaddr_ll, vsorted_l, psrc_s, psrc_l, psrc_t, psrc_c, penum_s, penum_l, penum_c, vjoin_c, vsindex, isPT_s, isPT_l, pty_n, pty_b, pty_i, pty_s, pty_l, pty_t, pty_d, isTok_n, isTok_b, isTok_i, isTok_s, isTok_l, isTok_t, isTok_d, noL_n, noL_b, noL_i, noL_s, noL_t, noLs_nl, noLs_c, noLs_ints, noLs_chs, noLs_strs, noLs_rev, perm_1, perm_11, perm_02, perm_20, pat0, pat1, pat2, pat3, iat0, iat1, iat2, List.getElem?_cons_zero, List.getElem?_cons_succ, pwipe, List.map_cons, List.map_nil, List.length_cons, List.length_nil, List.length_map, List.replicate, List.cons_append, List.nil_append, List.set_cons_succ, List.set_cons_zero, Option.map_some, Option.map_none, Option.isSome_some, Option.isSome_none, Option.bind_some, PV.bl.injEq, PV.int.injEq, PV.str.injEq, Option.some.injEq, exists_eq_left', exists_eq_left, if_true, true_and, and_true, and_self, Bool.and_self, Bool.and_true, Bool.true_and, Bool.and_false, Bool.false_and, List.any_cons, List.any_nil, List.all_cons, List.all_nil, Bool.or_false, Bool.or_true, Bool.true_or, Bool.false_or, Bool.not_true, Bool.not_false, if_false, Bool.false_eq_true, not_false_eq_true, beq_self_eq_true, decide_true, decide_false, line_t, line_l, small_t, fits_t, chP_len, chP_nol, chP_okd, chP_nil, List.length_append, List.length_reverse, List.length_take, List.length_drop, Nat.zero_le, vin_clo, vix_clo, letB, cloB_def, opnB_def, asB_b, asI_i, asL_l, lsP_0, lsP_S, slP_0, slP_S, tok_0, tok_S, asP_ints, asP_3, lt1, hk, h1, h2]
          exact fun _ => trivial
        · simp (decide := true) (disch := first | assumption | omega | (simp (decide := true) only [cplx_l, cplx_t, cplx_n, cplx_c, Bool.or_true, Bool.true_or])) only [↓reduceIte, reduceCtorEq, or_true, true_or, or_false, false_or, and_false, false_and, ↓sts_0, ↓sts_S, ↓wo_gn, ↓wo_gnN, ↓wo_gt2, ↓wo_gtt, ↓wo_gs0, ↓wq_var0, ↓wq_varS, ↓ws_seq, ↓ws_skip, ↓ws_break, ↓ws_cont, ↓ws_if, ↓ws_ifx, ↓ws_expr, ↓ws_ret, ↓ws_retN, ↓hs_set, ↓hs_setx, ↓hs_par, ↓ws_asg, ↓hs_aug, ↓hs_app, ↓hs_ext, ↓hs_mut, ↓hs_store, ↓hs_storex, ↓ws_for, ↓ws_forN, ↓ws_nx, ↓ws_rt, ↓ws_bk, ↓ws_ct, ↓ws_no, ↓hs_pool, ↓hs_tokSet, ↓wo_some, ↓wo_none, ↓wo_map, ↓wo_if, ↓wo_gs, ↓wq_ok, ↓wq_no, ↓wq_of, ↓wq_C, ↓wq_n, ↓wq_bin, ↓wq_un, ↓wq_b1, ↓wq_nil, ↓wq_cons, ↓wq_consD, ↓wq_tup, ↓wq_lst, ↓hq_B, ↓hq_andV, ↓hq_orV, ↓hq_notV, ↓wq_and, ↓wq_or, ↓wq_not, ↓wq_ifE, ↓wq_yes, ↓hq_chain, ↓wq_call, ↓wq_callK, ↓hq_callP, ↓wq_meth, ↓wq_methD, isPD_d, vget_d, vrevs_s, vsplit_s, ↓wq_iter, ↓wq_enum, ↓hq_range1, ↓hq_range2, ↓hq_range3, ↓hq_range3p, vrepl_s, ↓hq_zipL, ↓wq_slice, ↓wq_noO, ↓hq_someO, ↓wq_isi, ↓wq_revL, ↓wq_lc, ↓wq_lcN, ↓hq_pop, ↓wq_binx, ↓hq_bx, ↓wq_orx, ↓hq_tokIx, ↓wq_disp, ↓wq_pnil, ↓wq_pcons, vadd_ii, vadd_ss, vadd_ll, vadd_sl, viadd_ii, viadd_ss, vsub_ii, vmul_ii, vmul_si, vmul_li, vdiv_ii, vmod_ii, vpow_ii, vneg_i, veq_ii, veq_ss, veq_bb, vne_ii, vne_ss, vne_bb, veq_g, vne_g, cplx_l, cplx_t, cplx_n, cplx_c, okd_l, okd_t, okd_s, okd_i, okd_b, okd_n, okd_c, eqv_ll, eqv_tt, eqv_lt, eqv_tl, eqv_ii, eqv_ss, eqv_bb, eqv_nn, eqv_nt, eqv_tn, eqv_ns, eqv_sn, eqv_st, eqv_ts, eqv_si, eqv_is, eqv_in, eqv_ni, eqv_sl, eqv_ls, eqv_nl, eqv_ln, eqv_cl0, eqvs_nil, eqvs_cons, eqvs_n1, eqvs_1n, eqvs_nl, vlt_ii, vle_ii, vgt_ii, vge_ii, vlt_ss, vle_ss, vgt_ss, vge_ss, vis_n, visNot_n, vis_b, visNot_b, isNon_n, isNon_t, isNon_l, isNon_s, isNon_i, vix_s, vix_l, vix_t, vix_c, vix_d, keyP_i, keyP_s, vin_ss, vnin_ss, vin_l, vnin_l, vcut_s, vcut_l, vcut_c, vlen_s, vlen_l, vlen_t, vlen_c, vlen_d, vint_b, vint_i, vabs_i, vmax_ii, vmin_ii, vlist_s, vlist_l, vlist_t, vtuple_l, vtupleA_l, vtupleA_s, vaddr_ll, vsorted_l, psrc_s, psrc_l, psrc_t, psrc_c, penum_s, penum_l, penum_c, vjoin_c, vsindex, isPT_s, isPT_l, pty_n, pty_b, pty_i, pty_s, pty_l, pty_t, pty_d, isTok_n, isTok_b, isTok_i, isTok_s, isTok_l, isTok_t, isTok_d, noL_n, noL_b, noL_i, noL_s, noL_t, noLs_nl, noLs_c, noLs_ints, noLs_chs, noLs_strs, noLs_rev, perm_1, perm_11, perm_02, perm_20, pat0, pat1, pat2, pat3, iat0, iat1, iat2, List.getElem?_cons_zero, List.getElem?_cons_succ, pwipe, List.map_cons, List.map_nil, List.length_cons, List.length_nil, List.length_map, List.replicate, List.cons_append, List.nil_append, List.set_cons_succ, List.set_cons_zero, Option.map_some, Option.map_none, Option.isSome_some, Option.isSome_none, Option.bind_some, PV.bl.injEq, PV.int.injEq, PV.str.injEq, Option.some.injEq, exists_eq_left', exists_eq_left, if_true, true_and, and_true, and_self, Bool.and_self, Bool.and_true, Bool.true_and, Bool.and_false, Bool.false_and, List.any_cons, List.any_nil, List.all_cons, List.all_nil, Bool.or_false, Bool.or_true, Bool.true_or, Bool.false_or, Bool.not_true, Bool.not_false, if_false, Bool.false_eq_true, not_false_eq_true, beq_self_eq_true, decide_true, decide_false, line_t, line_l, small_t, fits_t, chP_len, chP_nol, chP_okd, chP_nil, List.length_append, List.length_reverse, List.length_take, List.length_drop, Nat.zero_le, vin_clo, vix_clo, letB, cloB_def, opnB_def, asB_b, asI_i, asL_l, lsP_0, lsP_S, slP_0, slP_S, tok_0, tok_S, asP_ints, asP_3, lt1, hk, h1, h2]
  apply Wq.eq
  apply pw__law_is_typed
  unfold pb__law_is_typed
  simp (decide := true) (disch := first | assumption | omega | (simp (decide := true) only [cplx_l, cplx_t, cplx_n, cplx_c, Bool.or_true, Bool.true_or])) only [↓reduceIte, reduceCtorEq, or_true, true_or, or_false, false_or, and_false, false_and, ↓sts_0, ↓sts_S, ↓wo_gn, ↓wo_gnN, ↓wo_gt2, ↓wo_gtt, ↓wo_gs0, ↓wq_var0, ↓wq_varS, ↓ws_seq, ↓ws_skip, ↓ws_break, ↓ws_cont, ↓ws_if, ↓ws_ifx, ↓ws_expr, ↓ws_ret, ↓ws_retN, ↓hs_set, ↓hs_setx, ↓hs_par, ↓ws_asg, ↓hs_aug, ↓hs_app, ↓hs_ext, ↓hs_mut, ↓hs_store, ↓hs_storex, ↓ws_for, ↓ws_forN, ↓ws_nx, ↓ws_rt, ↓ws_bk, ↓ws_ct, ↓ws_no, ↓hs_pool, ↓hs_tokSet, ↓wo_some, ↓wo_none, ↓wo_map, ↓wo_if, ↓wo_gs, ↓wq_ok, ↓wq_no, ↓wq_of, ↓wq_C, ↓wq_n, ↓wq_bin, ↓wq_un, ↓wq_b1, ↓wq_nil, ↓wq_cons, ↓wq_consD, ↓wq_tup, ↓wq_lst, ↓hq_B, ↓hq_andV, ↓hq_orV, ↓hq_notV, ↓wq_and, ↓wq_or, ↓wq_not, ↓wq_ifE, ↓wq_yes, ↓hq_chain, ↓wq_call, ↓wq_callK, ↓hq_callP, ↓wq_meth, ↓wq_methD, isPD_d, vget_d, vrevs_s, vsplit_s, ↓wq_iter, ↓wq_enum, ↓hq_range1, ↓hq_range2, ↓hq_range3, ↓hq_range3p, vrepl_s, ↓hq_zipL, ↓wq_slice, ↓wq_noO, ↓hq_someO, ↓wq_isi, ↓wq_revL, ↓wq_lc, ↓wq_lcN, ↓hq_pop, ↓wq_binx, ↓hq_bx, ↓wq_orx, ↓hq_tokIx, ↓wq_disp, ↓wq_pnil, ↓wq_pcons, vadd_ii, vadd_ss, vadd_ll, vadd_sl, viadd_ii, viadd_ss, vsub_ii, vmul_ii, vmul_si, vmul_li, vdiv_ii, vmod_ii, vpow_ii, vneg_i, veq_ii, veq_ss, veq_bb, vne_ii, vne_ss, vne_bb, veq_g, vne_g, cplx_l, cplx_t, cplx_n, cplx_c, okd_l, okd_t, okd_s, okd_i, okd_b, okd_n, okd_c, eqv_ll, eqv_tt, eqv_lt, eqv_tl, eqv_ii, eqv_ss, eqv_bb, eqv_nn, eqv_nt, eqv_tn, eqv_ns, eqv_sn, eqv_st, eqv_ts, eqv_si, eqv_is, eqv_in, eqv_ni, eqv_sl, eqv_ls, eqv_nl, eqv_ln, eqv_cl0, eqvs_nil, eqvs_cons, eqvs_n1, eqvs_1n, eqvs_nl, vlt_ii, vle_ii, vgt_ii, vge_ii, vlt_ss, vle_ss, vgt_ss, vge_ss, vis_n, visNot_n, vis_b, visNot_b, isNon_n, isNon_t, isNon_l, isNon_s, isNon_i, vix_s, vix_l, vix_t, vix_c, vix_d, keyP_i, keyP_s, vin_ss, vnin_ss, vin_l, vnin_l, vcut_s, vcut_l, vcut_c, vlen_s, vlen_l, vlen_t, vlen_c, vlen_d, vint_b, vint_i, vabs_i, vmax_ii, vmin_ii, vlist_s, vlist_l, vlist_t, vtuple_l, vtupleA_l, vtupleA_s, vaddr_ll, vsorted_l, psrc_s, psrc_l, psrc_t, psrc_c, penum_s, penum_l, penum_c, vjoin_c, vsindex, isPT_s, isPT_l, pty_n, pty_b, pty_i, pty_s, pty_l, pty_t, pty_d, isTok_n, isTok_b, isTok_i, isTok_s, isTok_l, isTok_t, isTok_d, noL_n, noL_b, noL_i, noL_s, noL_t, noLs_nl, noLs_c, noLs_ints, noLs_chs, noLs_strs, noLs_rev, perm_1, perm_11, perm_02, perm_20, pat0, pat1, pat2, pat3, iat0, iat1, iat2, List.getElem?_cons_zero, List.getElem?_cons_succ, pwipe, List.map_cons, List.map_nil, List.length_cons, List.length_nil, List.length_map, List.replicate, List.cons_append, List.nil_append, List.set_cons_succ, List.set_cons_zero, Option.map_some, Option.map_none, Option.isSome_some, Option.isSome_none, Option.bind_some, PV.bl.injEq, PV.int.injEq, PV.str.injEq, Option.some.injEq, exists_eq_left', exists_eq_left, if_true, true_and, and_true, and_self, Bool.and_self, Bool.and_true, Bool.true_and, Bool.and_false, Bool.false_and, List.any_cons, List.any_nil, List.all_cons, List.all_nil, Bool.or_false, Bool.or_true, Bool.true_or, Bool.false_or, Bool.not_true, Bool.not_false, if_false, Bool.false_eq_true, not_false_eq_true, beq_self_eq_true, decide_true, decide_false, line_t, line_l, small_t, fits_t, chP_len, chP_nol, chP_okd, chP_nil, List.length_append, List.length_reverse, List.length_take, List.length_drop, Nat.zero_le, vin_clo, vix_clo, letB, cloB_def, opnB_def, asB_b, asI_i, asL_l, lsP_0, lsP_S, slP_0, slP_S, tok_0, tok_S, asP_ints, asP_3, show (Ty.sub .str .str) = true from rfl, comp]
  rw [Bool.eq_iff_iff, decide_eq_true_eq, List.all_eq_true]
  constructor
  · intro h c hc
    have := List.filter_eq_nil_iff.mp h c hc
    simpa using this
  · intro h
    exact List.filter_eq_nil_iff.mpr fun c hc => by simp [h c hc]
theorem p_typed_non {z : PV} {t : Ty} (h1 : pty z = some t) (h2 : t.sub .str = false) {o : Pool} : p__law_is_typed [z] o = .ok (.bl false) o := by
  apply Wq.eq
  apply pw__law_is_typed
  unfold pb__law_is_typed
  simp (decide := true) (disch := first | assumption | omega | (simp (decide := true) only [cplx_l, cplx_t, cplx_n, cplx_c, Bool.or_true, Bool.true_or])) only [↓reduceIte, reduceCtorEq, or_true, true_or, or_false, false_or, and_false, false_and, ↓sts_0, ↓sts_S, ↓wo_gn, ↓wo_gnN, ↓wo_gt2, ↓wo_gtt, ↓wo_gs0, ↓wq_var0, ↓wq_varS, ↓ws_seq, ↓ws_skip, ↓ws_break, ↓ws_cont, ↓ws_if, ↓ws_ifx, ↓ws_expr, ↓ws_ret, ↓ws_retN, ↓hs_set, ↓hs_setx, ↓hs_par, ↓ws_asg, ↓hs_aug, ↓hs_app, ↓hs_ext, ↓hs_mut, ↓hs_store, ↓hs_storex, ↓ws_for, ↓ws_forN, ↓ws_nx, ↓ws_rt, ↓ws_bk, ↓ws_ct, ↓ws_no, ↓hs_pool, ↓hs_tokSet, ↓wo_some, ↓wo_none, ↓wo_map, ↓wo_if, ↓wo_gs, ↓wq_ok, ↓wq_no, ↓wq_of, ↓wq_C, ↓wq_n, ↓wq_bin, ↓wq_un, ↓wq_b1, ↓wq_nil, ↓wq_cons, ↓wq_consD, ↓wq_tup, ↓wq_lst, ↓hq_B, ↓hq_andV, ↓hq_orV, ↓hq_notV, ↓wq_and, ↓wq_or, ↓wq_not, ↓wq_ifE, ↓wq_yes, ↓hq_chain, ↓wq_call, ↓wq_callK, ↓hq_callP, ↓wq_meth, ↓wq_methD, isPD_d, vget_d, vrevs_s, vsplit_s, ↓wq_iter, ↓wq_enum, ↓hq_range1, ↓hq_range2, ↓hq_range3, ↓hq_range3p, vrepl_s, ↓hq_zipL, ↓wq_slice, ↓wq_noO, ↓hq_someO, ↓wq_isi, ↓wq_revL, ↓wq_lc, ↓wq_lcN, ↓hq_pop, ↓wq_binx, ↓hq_bx, ↓wq_orx, ↓hq_tokIx, ↓wq_disp, ↓wq_pnil, ↓wq_pcons, vadd_ii, vadd_ss, vadd_ll, vadd_sl, viadd_ii, viadd_ss, vsub_ii, vmul_ii, vmul_si, vmul_li, vdiv_ii, vmod_ii, vpow_ii, vneg_i, veq_ii, veq_ss, veq_bb, vne_ii, vne_ss, vne_bb, veq_g, vne_g, cplx_l, cplx_t, cplx_n, cplx_c, okd_l, okd_t, okd_s, okd_i, okd_b, okd_n, okd_c, eqv_ll, eqv_tt, eqv_lt, eqv_tl, eqv_ii, eqv_ss, eqv_bb, eqv_nn, eqv_nt, eqv_tn, eqv_ns, eqv_sn, eqv_st, eqv_ts, eqv_si, eqv_is, eqv_in, eqv_ni, eqv_sl, eqv_ls, eqv_nl, eqv_ln, eqv_cl0, eqvs_nil, eqvs_cons, eqvs_n1, eqvs_1n, eqvs_nl, vlt_ii, vle_ii, vgt_ii, vge_ii, vlt_ss, vle_ss, vgt_ss, vge_ss, vis_n, visNot_n, vis_b, visNot_b, isNon_n, isNon_t, isNon_l, isNon_s, isNon_i, vix_s, vix_l, vix_t, vix_c, vix_d, keyP_i, keyP_s, vin_ss, vnin_ss, vin_l, vnin_l, vcut_s, vcut_l, vcut_c, vlen_s, vlen_l, vlen_t, vlen_c, vlen_d, vint_b, vint_i, vabs_i, vmax_ii, vmin_ii, vlist_s, vlist_l, vlist_t, vtuple_l, vtupleA_l, vtupleA_s, vaddr_ll, vsorted_l, psrc_s, psrc_l, psrc_t, psrc_c, penum_s, penum_l, penum_c, vjoin_c, vsindex, isPT_s, isPT_l, pty_n, pty_b, pty_i, pty_s, pty_l, pty_t, pty_d, isTok_n, isTok_b, isTok_i, isTok_s, isTok_l, isTok_t, isTok_d, noL_n, noL_b, noL_i, noL_s, noL_t, noLs_nl, noLs_c, noLs_ints, noLs_chs, noLs_strs, noLs_rev, perm_1, perm_11, perm_02, perm_20, pat0, pat1, pat2, pat3, iat0, iat1, iat2, List.getElem?_cons_zero, List.getElem?_cons_succ, pwipe, List.map_cons, List.map_nil, List.length_cons, List.length_nil, List.length_map, List.replicate, List.cons_append, List.nil_append, List.set_cons_succ, List.set_cons_zero, Option.map_some, Option.map_none, Option.isSome_some, Option.isSome_none, Option.bind_some, PV.bl.injEq, PV.int.injEq, PV.str.injEq, Option.some.injEq, exists_eq_left', exists_eq_left, if_true, true_and, and_true, and_self, Bool.and_self, Bool.and_true, Bool.true_and, Bool.and_false, Bool.false_and, List.any_cons, List.any_nil, List.all_cons, List.all_nil, Bool.or_false, Bool.or_true, Bool.true_or, Bool.false_or, Bool.not_true, Bool.not_false, if_false, Bool.false_eq_true, not_false_eq_true, beq_self_eq_true, decide_true, decide_false, line_t, line_l, small_t, fits_t, chP_len, chP_nol, chP_okd, chP_nil, List.length_append, List.length_reverse, List.length_take, List.length_drop, Nat.zero_le, vin_clo, vix_clo, letB, cloB_def, opnB_def, asB_b, asI_i, asL_l, lsP_0, lsP_S, slP_0, slP_S, tok_0, tok_S, asP_ints, asP_3, h1, h2]
/-- a thing that the law may judge -/
structure JZ (z : PV) : Prop where
  ok : okr 38 z = true
  sh : shOk z.toP = true
  nt : isTok z = false
  nl : PV.noL z = true ∨ True
  st : (∃ w, z = .str w ∧ w.length ≤ 100000) ∨ ∃ t, pty z = some t ∧ t.sub .str = false
theorem w_judged {z : PV} (hz : JZ z) {o : Pool} : p__law_judged [z] o = .ok (.bl true) o := by
  have r1 := vrepr_s (x := z) (by rw [hz.ok, hz.sh]; rfl)
  have key : ∀ b : Bool, p_is_key_list [z] o = .ok (.bl b) o → p__law_is_typed [z] o = .ok (.bl b) o → p__law_judged [z] o = .ok (.bl true) o := fun b k1 k2 => by
    have r2 := vrepr_s (x := .lst [.bl b, .bl b]) (by cases b <;> decide +kernel)
    apply Wq.eq
    apply pw__law_judged
    unfold pb__law_judged
    simp (decide := true) (disch := first | assumption | omega | (simp (decide := true) only [cplx_l, cplx_t, cplx_n, cplx_c, Bool.or_true, Bool.true_or])) only [↓reduceIte, reduceCtorEq, or_true, true_or, or_false, false_or, and_false, false_and, ↓sts_0, ↓sts_S, ↓wo_gn, ↓wo_gnN, ↓wo_gt2, ↓wo_gtt, ↓wo_gs0, ↓wq_var0, ↓wq_varS, ↓ws_seq, ↓ws_skip, ↓ws_break, ↓ws_cont, ↓ws_if, ↓ws_ifx, ↓ws_expr, ↓ws_ret, ↓ws_retN, ↓hs_set, ↓hs_setx, ↓hs_par, ↓ws_asg, ↓hs_aug, ↓hs_app, ↓hs_ext, ↓hs_mut, ↓hs_store, ↓hs_storex, ↓ws_for, ↓ws_forN, ↓ws_nx, ↓ws_rt, ↓ws_bk, ↓ws_ct, ↓ws_no, ↓hs_pool, ↓hs_tokSet, ↓wo_some, ↓wo_none, ↓wo_map, ↓wo_if, ↓wo_gs, ↓wq_ok, ↓wq_no, ↓wq_of, ↓wq_C, ↓wq_n, ↓wq_bin, ↓wq_un, ↓wq_b1, ↓wq_nil, ↓wq_cons, ↓wq_consD, ↓wq_tup, ↓wq_lst, ↓hq_B, ↓hq_andV, ↓hq_orV, ↓hq_notV, ↓wq_and, ↓wq_or, ↓wq_not, ↓wq_ifE, ↓wq_yes, ↓hq_chain, ↓wq_call, ↓wq_callK, ↓hq_callP, ↓wq_meth, ↓wq_methD, isPD_d, vget_d, vrevs_s, vsplit_s, ↓wq_iter, ↓wq_enum, ↓hq_range1, ↓hq_range2, ↓hq_range3, ↓hq_range3p, vrepl_s, ↓hq_zipL, ↓wq_slice, ↓wq_noO, ↓hq_someO, ↓wq_isi, ↓wq_revL, ↓wq_lc, ↓wq_lcN, ↓hq_pop, ↓wq_binx, ↓hq_bx, ↓wq_orx, ↓hq_tokIx, ↓wq_disp, ↓wq_pnil, ↓wq_pcons, vadd_ii, vadd_ss, vadd_ll, vadd_sl, viadd_ii, viadd_ss, vsub_ii, vmul_ii, vmul_si, vmul_li, vdiv_ii, vmod_ii, vpow_ii, vneg_i, veq_ii, veq_ss, veq_bb, vne_ii, vne_ss, vne_bb, veq_g, vne_g, cplx_l, cplx_t, cplx_n, cplx_c, okd_l, okd_t, okd_s, okd_i, okd_b, okd_n, okd_c, eqv_ll, eqv_tt, eqv_lt, eqv_tl, eqv_ii, eqv_ss, eqv_bb, eqv_nn, eqv_nt, eqv_tn, eqv_ns, eqv_sn, eqv_st, eqv_ts, eqv_si, eqv_is, eqv_in, eqv_ni, eqv_sl, eqv_ls, eqv_nl, eqv_ln, eqv_cl0, eqvs_nil, eqvs_cons, eqvs_n1, eqvs_1n, eqvs_nl, vlt_ii, vle_ii, vgt_ii, vge_ii, vlt_ss, vle_ss, vgt_ss, vge_ss, vis_n, visNot_n, vis_b, visNot_b, isNon_n, isNon_t, isNon_l, isNon_s, isNon_i, vix_s, vix_l, vix_t, vix_c, vix_d, keyP_i, keyP_s, vin_ss, vnin_ss, vin_l, vnin_l, vcut_s, vcut_l, vcut_c, vlen_s, vlen_l, vlen_t, vlen_c, vlen_d, vint_b, vint_i, vabs_i, vmax_ii, vmin_ii, vlist_s, vlist_l, vlist_t, vtuple_l, vtupleA_l, vtupleA_s, vaddr_ll, vsorted_l, psrc_s, psrc_l, psrc_t, psrc_c, penum_s, penum_l, penum_c, vjoin_c, vsindex, isPT_s, isPT_l, pty_n, pty_b, pty_i, pty_s, pty_l, pty_t, pty_d, isTok_n, isTok_b, isTok_i, isTok_s, isTok_l, isTok_t, isTok_d, noL_n, noL_b, noL_i, noL_s, noL_t, noLs_nl, noLs_c, noLs_ints, noLs_chs, noLs_strs, noLs_rev, perm_1, perm_11, perm_02, perm_20, pat0, pat1, pat2, pat3, iat0, iat1, iat2, List.getElem?_cons_zero, List.getElem?_cons_succ, pwipe, List.map_cons, List.map_nil, List.length_cons, List.length_nil, List.length_map, List.replicate, List.cons_append, List.nil_append, List.set_cons_succ, List.set_cons_zero, Option.map_some, Option.map_none, Option.isSome_some, Option.isSome_none, Option.bind_some, PV.bl.injEq, PV.int.injEq, PV.str.injEq, Option.some.injEq, exists_eq_left', exists_eq_left, if_true, true_and, and_true, and_self, Bool.and_self, Bool.and_true, Bool.true_and, Bool.and_false, Bool.false_and, List.any_cons, List.any_nil, List.all_cons, List.all_nil, Bool.or_false, Bool.or_true, Bool.true_or, Bool.false_or, Bool.not_true, Bool.not_false, if_false, Bool.false_eq_true, not_false_eq_true, beq_self_eq_true, decide_true, decide_false, line_t, line_l, small_t, fits_t, chP_len, chP_nol, chP_okd, chP_nil, List.length_append, List.length_reverse, List.length_take, List.length_drop, Nat.zero_le, vin_clo, vix_clo, letB, cloB_def, opnB_def, asB_b, asI_i, asL_l, lsP_0, lsP_S, slP_0, slP_S, tok_0, tok_S, asP_ints, asP_3, k1, k2, r1, r2, show Int.toNat 2 = 2 from rfl, hz.nt, show [[PV.bl b], [PV.bl b]].flatten = [PV.bl b, PV.bl b] from rfl]
  rcases hz.st with ⟨w, rfl, hl⟩ | ⟨t, h1, h2⟩
  · exact key _ (p_is_key_str hl) (p_typed_str hl)
  · exact key _ (p_is_key_non h1 h2) (p_typed_non h1 h2)
theorem jz_str {w : List Nat} (h : ∀ c ∈ w, c < 1000) (hl : w.length ≤ 10000) : JZ (.str w) := ⟨rfl, shOk_str h hl, rfl, .inr trivial, .inl ⟨w, rfl, by omega⟩⟩
theorem wS_variant {o : Pool} {n : Int} {w : List Nat} (hb : Bs n o) (hn : n < 1000000) (hw : w.length ≤ 1000) (hc : ∀ c ∈ w, c < 1000) : Wq (p__law_variant [.tok, .str w] o) fun v o' => JZ v ∧ Bs (n + 4) o' := by
  apply pw__law_variant
  unfold pb__law_variant
  simp (decide := true) (disch := first | assumption | omega | (simp (decide := true) only [cplx_l, cplx_t, cplx_n, cplx_c, Bool.or_true, Bool.true_or])) only [↓reduceIte, reduceCtorEq, or_true, true_or, or_false, false_or, and_false, false_and, ↓sts_0, ↓sts_S, ↓wo_gn, ↓wo_gnN, ↓wo_gt2, ↓wo_gtt, ↓wo_gs0, ↓wq_var0, ↓wq_varS, ↓ws_seq, ↓ws_skip, ↓ws_break, ↓ws_cont, ↓ws_if, ↓ws_ifx, ↓ws_expr, ↓ws_ret, ↓ws_retN, ↓hs_set, ↓hs_setx, ↓hs_par, ↓ws_asg, ↓hs_aug, ↓hs_app, ↓hs_ext, ↓hs_mut, ↓hs_store, ↓hs_storex, ↓ws_for, ↓ws_forN, ↓ws_nx, ↓ws_rt, ↓ws_bk, ↓ws_ct, ↓ws_no, ↓hs_pool, ↓hs_tokSet, ↓wo_some, ↓wo_none, ↓wo_map, ↓wo_if, ↓wo_gs, ↓wq_ok, ↓wq_no, ↓wq_of, ↓wq_C, ↓wq_n, ↓wq_bin, ↓wq_un, ↓wq_b1, ↓wq_nil, ↓wq_cons, ↓wq_consD, ↓wq_tup, ↓wq_lst, ↓hq_B, ↓hq_andV, ↓hq_orV, ↓hq_notV, ↓wq_and, ↓wq_or, ↓wq_not, ↓wq_ifE, ↓wq_yes, ↓hq_chain, ↓wq_call, ↓wq_callK, ↓hq_callP, ↓wq_meth, ↓wq_methD, isPD_d, vget_d, vrevs_s, vsplit_s, ↓wq_iter, ↓wq_enum, ↓hq_range1, ↓hq_range2, ↓hq_range3, ↓hq_range3p, vrepl_s, ↓hq_zipL, ↓wq_slice, ↓wq_noO, ↓hq_someO, ↓wq_isi, ↓wq_revL, ↓wq_lc, ↓wq_lcN, ↓hq_pop, ↓wq_binx, ↓hq_bx, ↓wq_orx, ↓hq_tokIx, ↓wq_disp, ↓wq_pnil, ↓wq_pcons, vadd_ii, vadd_ss, vadd_ll, vadd_sl, viadd_ii, viadd_ss, vsub_ii, vmul_ii, vmul_si, vmul_li, vdiv_ii, vmod_ii, vpow_ii, vneg_i, veq_ii, veq_ss, veq_bb, vne_ii, vne_ss, vne_bb, veq_g, vne_g, cplx_l, cplx_t, cplx_n, cplx_c, okd_l, okd_t, okd_s, okd_i, okd_b, okd_n, okd_c, eqv_ll, eqv_tt, eqv_lt, eqv_tl, eqv_ii, eqv_ss, eqv_bb, eqv_nn, eqv_nt, eqv_tn, eqv_ns, eqv_sn, eqv_st, eqv_ts, eqv_si, eqv_is, eqv_in, eqv_ni, eqv_sl, eqv_ls, eqv_nl, eqv_ln, eqv_cl0, eqvs_nil, eqvs_cons, eqvs_n1, eqvs_1n, eqvs_nl, vlt_ii, vle_ii, vgt_ii, vge_ii, vlt_ss, vle_ss, vgt_ss, vge_ss, vis_n, visNot_n, vis_b, visNot_b, isNon_n, isNon_t, isNon_l, isNon_s, isNon_i, vix_s, vix_l, vix_t, vix_c, vix_d, keyP_i, keyP_s, vin_ss, vnin_ss, vin_l, vnin_l, vcut_s, vcut_l, vcut_c, vlen_s, vlen_l, vlen_t, vlen_c, vlen_d, vint_b, vint_i, vabs_i, vmax_ii, vmin_ii, vlist_s, vlist_l, vlist_t, vtuple_l, vtupleA_l, vtupleA_s, vaddr_ll, vsorted_l, psrc_s, psrc_l, psrc_t, psrc_c, penum_s, penum_l, penum_c, vjoin_c, vsindex, isPT_s, isPT_l, pty_n, pty_b, pty_i, pty_s, pty_l, pty_t, pty_d, isTok_n, isTok_b, isTok_i, isTok_s, isTok_l, isTok_t, isTok_d, noL_n, noL_b, noL_i, noL_s, noL_t, noLs_nl, noLs_c, noLs_ints, noLs_chs, noLs_strs, noLs_rev, perm_1, perm_11, perm_02, perm_20, pat0, pat1, pat2, pat3, iat0, iat1, iat2, List.getElem?_cons_zero, List.getElem?_cons_succ, pwipe, List.map_cons, List.map_nil, List.length_cons, List.length_nil, List.length_map, List.replicate, List.cons_append, List.nil_append, List.set_cons_succ, List.set_cons_zero, Option.map_some, Option.map_none, Option.isSome_some, Option.isSome_none, Option.bind_some, PV.bl.injEq, PV.int.injEq, PV.str.injEq, Option.some.injEq, exists_eq_left', exists_eq_left, if_true, true_and, and_true, and_self, Bool.and_self, Bool.and_true, Bool.true_and, Bool.and_false, Bool.false_and, List.any_cons, List.any_nil, List.all_cons, List.all_nil, Bool.or_false, Bool.or_true, Bool.true_or, Bool.false_or, Bool.not_true, Bool.not_false, if_false, Bool.false_eq_true, not_false_eq_true, beq_self_eq_true, decide_true, decide_false, line_t, line_l, small_t, fits_t, chP_len, chP_nol, chP_okd, chP_nil, List.length_append, List.length_reverse, List.length_take, List.length_drop, Nat.zero_le, vin_clo, vix_clo, letB, cloB_def, opnB_def, asB_b, asI_i, asL_l, lsP_0, lsP_S, slP_0, slP_S, tok_0, tok_S, asP_ints, asP_3]
  refine (wS_drawP hb (by omega) (by omega) (by omega)).mono fun v o1 ⟨d, ev, d0, d1, hb1⟩ => ?_
  subst ev
  simp (decide := true) (disch := first | assumption | omega | (simp (decide := true) only [cplx_l, cplx_t, cplx_n, cplx_c, Bool.or_true, Bool.true_or])) only [↓reduceIte, reduceCtorEq, or_true, true_or, or_false, false_or, and_false, false_and, ↓sts_0, ↓sts_S, ↓wo_gn, ↓wo_gnN, ↓wo_gt2, ↓wo_gtt, ↓wo_gs0, ↓wq_var0, ↓wq_varS, ↓ws_seq, ↓ws_skip, ↓ws_break, ↓ws_cont, ↓ws_if, ↓ws_ifx, ↓ws_expr, ↓ws_ret, ↓ws_retN, ↓hs_set, ↓hs_setx, ↓hs_par, ↓ws_asg, ↓hs_aug, ↓hs_app, ↓hs_ext, ↓hs_mut, ↓hs_store, ↓hs_storex, ↓ws_for, ↓ws_forN, ↓ws_nx, ↓ws_rt, ↓ws_bk, ↓ws_ct, ↓ws_no, ↓hs_pool, ↓hs_tokSet, ↓wo_some, ↓wo_none, ↓wo_map, ↓wo_if, ↓wo_gs, ↓wq_ok, ↓wq_no, ↓wq_of, ↓wq_C, ↓wq_n, ↓wq_bin, ↓wq_un, ↓wq_b1, ↓wq_nil, ↓wq_cons, ↓wq_consD, ↓wq_tup, ↓wq_lst, ↓hq_B, ↓hq_andV, ↓hq_orV, ↓hq_notV, ↓wq_and, ↓wq_or, ↓wq_not, ↓wq_ifE, ↓wq_yes, ↓hq_chain, ↓wq_call, ↓wq_callK, ↓hq_callP, ↓wq_meth, ↓wq_methD, isPD_d, vget_d, vrevs_s, vsplit_s, ↓wq_iter, ↓wq_enum, ↓hq_range1, ↓hq_range2, ↓hq_range3, ↓hq_range3p, vrepl_s, ↓hq_zipL, ↓wq_slice, ↓wq_noO, ↓hq_someO, ↓wq_isi, ↓wq_revL, ↓wq_lc, ↓wq_lcN, ↓hq_pop, ↓wq_binx, ↓hq_bx, ↓wq_orx, ↓hq_tokIx, ↓wq_disp, ↓wq_pnil, ↓wq_pcons, vadd_ii, vadd_ss, vadd_ll, vadd_sl, viadd_ii, viadd_ss, vsub_ii, vmul_ii, vmul_si, vmul_li, vdiv_ii, vmod_ii, vpow_ii, vneg_i, veq_ii, veq_ss, veq_bb, vne_ii, vne_ss, vne_bb, veq_g, vne_g, cplx_l, cplx_t, cplx_n, cplx_c, okd_l, okd_t, okd_s, okd_i, okd_b, okd_n, okd_c, eqv_ll, eqv_tt, eqv_lt, eqv_tl, eqv_ii, eqv_ss, eqv_bb, eqv_nn, eqv_nt, eqv_tn, eqv_ns, eqv_sn, eqv_st, eqv_ts, eqv_si, eqv_is, eqv_in, eqv_ni, eqv_sl, eqv_ls, eqv_nl, eqv_ln, eqv_cl0, eqvs_nil, eqvs_cons, eqvs_n1, eqvs_1n, eqvs_nl, vlt_ii, vle_ii, vgt_ii, vge_ii, vlt_ss, vle_ss, vgt_ss, vge_ss, vis_n, visNot_n, vis_b, visNot_b, isNon_n, isNon_t, isNon_l, isNon_s, isNon_i, vix_s, vix_l, vix_t, vix_c, vix_d, keyP_i, keyP_s, vin_ss, vnin_ss, vin_l, vnin_l, vcut_s, vcut_l, vcut_c, vlen_s, vlen_l, vlen_t, vlen_c, vlen_d, vint_b, vint_i, vabs_i, vmax_ii, vmin_ii, vlist_s, vlist_l, vlist_t, vtuple_l, vtupleA_l, vtupleA_s, vaddr_ll, vsorted_l, psrc_s, psrc_l, psrc_t, psrc_c, penum_s, penum_l, penum_c, vjoin_c, vsindex, isPT_s, isPT_l, pty_n, pty_b, pty_i, pty_s, pty_l, pty_t, pty_d, isTok_n, isTok_b, isTok_i, isTok_s, isTok_l, isTok_t, isTok_d, noL_n, noL_b, noL_i, noL_s, noL_t, noLs_nl, noLs_c, noLs_ints, noLs_chs, noLs_strs, noLs_rev, perm_1, perm_11, perm_02, perm_20, pat0, pat1, pat2, pat3, iat0, iat1, iat2, List.getElem?_cons_zero, List.getElem?_cons_succ, pwipe, List.map_cons, List.map_nil, List.length_cons, List.length_nil, List.length_map, List.replicate, List.cons_append, List.nil_append, List.set_cons_succ, List.set_cons_zero, Option.map_some, Option.map_none, Option.isSome_some, Option.isSome_none, Option.bind_some, PV.bl.injEq, PV.int.injEq, PV.str.injEq, Option.some.injEq, exists_eq_left', exists_eq_left, if_true, true_and, and_true, and_self, Bool.and_self, Bool.and_true, Bool.true_and, Bool.and_false, Bool.false_and, List.any_cons, List.any_nil, List.all_cons, List.all_nil, Bool.or_false, Bool.or_true, Bool.true_or, Bool.false_or, Bool.not_true, Bool.not_false, if_false, Bool.false_eq_true, not_false_eq_true, beq_self_eq_true, decide_true, decide_false, line_t, line_l, small_t, fits_t, chP_len, chP_nol, chP_okd, chP_nil, List.length_append, List.length_reverse, List.length_take, List.length_drop, Nat.zero_le, vin_clo, vix_clo, letB, cloB_def, opnB_def, asB_b, asI_i, asL_l, lsP_0, lsP_S, slP_0, slP_S, tok_0, tok_S, asP_ints, asP_3]
  refine (wS_drawP hb1 (by omega) (by decide) (by decide)).mono fun v o2 ⟨e, ev, e0, e1, hb2⟩ => ?_
  subst ev
  simp (decide := true) (disch := first | assumption | omega | (simp (decide := true) only [cplx_l, cplx_t, cplx_n, cplx_c, Bool.or_true, Bool.true_or])) only [↓reduceIte, reduceCtorEq, or_true, true_or, or_false, false_or, and_false, false_and, ↓sts_0, ↓sts_S, ↓wo_gn, ↓wo_gnN, ↓wo_gt2, ↓wo_gtt, ↓wo_gs0, ↓wq_var0, ↓wq_varS, ↓ws_seq, ↓ws_skip, ↓ws_break, ↓ws_cont, ↓ws_if, ↓ws_ifx, ↓ws_expr, ↓ws_ret, ↓ws_retN, ↓hs_set, ↓hs_setx, ↓hs_par, ↓ws_asg, ↓hs_aug, ↓hs_app, ↓hs_ext, ↓hs_mut, ↓hs_store, ↓hs_storex, ↓ws_for, ↓ws_forN, ↓ws_nx, ↓ws_rt, ↓ws_bk, ↓ws_ct, ↓ws_no, ↓hs_pool, ↓hs_tokSet, ↓wo_some, ↓wo_none, ↓wo_map, ↓wo_if, ↓wo_gs, ↓wq_ok, ↓wq_no, ↓wq_of, ↓wq_C, ↓wq_n, ↓wq_bin, ↓wq_un, ↓wq_b1, ↓wq_nil, ↓wq_cons, ↓wq_consD, ↓wq_tup, ↓wq_lst, ↓hq_B, ↓hq_andV, ↓hq_orV, ↓hq_notV, ↓wq_and, ↓wq_or, ↓wq_not, ↓wq_ifE, ↓wq_yes, ↓hq_chain, ↓wq_call, ↓wq_callK, ↓hq_callP, ↓wq_meth, ↓wq_methD, isPD_d, vget_d, vrevs_s, vsplit_s, ↓wq_iter, ↓wq_enum, ↓hq_range1, ↓hq_range2, ↓hq_range3, ↓hq_range3p, vrepl_s, ↓hq_zipL, ↓wq_slice, ↓wq_noO, ↓hq_someO, ↓wq_isi, ↓wq_revL, ↓wq_lc, ↓wq_lcN, ↓hq_pop, ↓wq_binx, ↓hq_bx, ↓wq_orx, ↓hq_tokIx, ↓wq_disp, ↓wq_pnil, ↓wq_pcons, vadd_ii, vadd_ss, vadd_ll, vadd_sl, viadd_ii, viadd_ss, vsub_ii, vmul_ii, vmul_si, vmul_li, vdiv_ii, vmod_ii, vpow_ii, vneg_i, veq_ii, veq_ss, veq_bb, vne_ii, vne_ss, vne_bb, veq_g, vne_g, cplx_l, cplx_t, cplx_n, cplx_c, okd_l, okd_t, okd_s, okd_i, okd_b, okd_n, okd_c, eqv_ll, eqv_tt, eqv_lt, eqv_tl, eqv_ii, eqv_ss, eqv_bb, eqv_nn, eqv_nt, eqv_tn, eqv_ns, eqv_sn, eqv_st, eqv_ts, eqv_si, eqv_is, eqv_in, eqv_ni, eqv_sl, eqv_ls, eqv_nl, eqv_ln, eqv_cl0, eqvs_nil, eqvs_cons, eqvs_n1, eqvs_1n, eqvs_nl, vlt_ii, vle_ii, vgt_ii, vge_ii, vlt_ss, vle_ss, vgt_ss, vge_ss, vis_n, visNot_n, vis_b, visNot_b, isNon_n, isNon_t, isNon_l, isNon_s, isNon_i, vix_s, vix_l, vix_t, vix_c, vix_d, keyP_i, keyP_s, vin_ss, vnin_ss, vin_l, vnin_l, vcut_s, vcut_l, vcut_c, vlen_s, vlen_l, vlen_t, vlen_c, vlen_d, vint_b, vint_i, vabs_i, vmax_ii, vmin_ii, vlist_s, vlist_l, vlist_t, vtuple_l, vtupleA_l, vtupleA_s, vaddr_ll, vsorted_l, psrc_s, psrc_l, psrc_t, psrc_c, penum_s, penum_l, penum_c, vjoin_c, vsindex, isPT_s, isPT_l, pty_n, pty_b, pty_i, pty_s, pty_l, pty_t, pty_d, isTok_n, isTok_b, isTok_i, isTok_s, isTok_l, isTok_t, isTok_d, noL_n, noL_b, noL_i, noL_s, noL_t, noLs_nl, noLs_c, noLs_ints, noLs_chs, noLs_strs, noLs_rev, perm_1, perm_11, perm_02, perm_20, pat0, pat1, pat2, pat3, iat0, iat1, iat2, List.getElem?_cons_zero, List.getElem?_cons_succ, pwipe, List.map_cons, List.map_nil, List.length_cons, List.length_nil, List.length_map, List.replicate, List.cons_append, List.nil_append, List.set_cons_succ, List.set_cons_zero, Option.map_some, Option.map_none, Option.isSome_some, Option.isSome_none, Option.bind_some, PV.bl.injEq, PV.int.injEq, PV.str.injEq, Option.some.injEq, exists_eq_left', exists_eq_left, if_true, true_and, and_true, and_self, Bool.and_self, Bool.and_true, Bool.true_and, Bool.and_false, Bool.false_and, List.any_cons, List.any_nil, List.all_cons, List.all_nil, Bool.or_false, Bool.or_true, Bool.true_or, Bool.false_or, Bool.not_true, Bool.not_false, if_false, Bool.false_eq_true, not_false_eq_true, beq_self_eq_true, decide_true, decide_false, line_t, line_l, small_t, fits_t, chP_len, chP_nol, chP_okd, chP_nil, List.length_append, List.length_reverse, List.length_take, List.length_drop, Nat.zero_le, vin_clo, vix_clo, letB, cloB_def, opnB_def, asB_b, asI_i, asL_l, lsP_0, lsP_S, slP_0, slP_S, tok_0, tok_S, asP_ints, asP_3]
  refine wo_pick e0 (by simp; omega) fun z hz => ?_
  have : ∃ c, z = .str [c] ∧ c < 1000 := by
    simp only [List.mem_cons, List.not_mem_nil, or_false] at hz
    rcases hz with rfl | rfl | rfl | rfl | rfl | rfl | rfl | rfl | rfl | rfl | rfl | rfl | rfl | rfl <;> exact ⟨_, rfl, by decide⟩
  obtain ⟨c, rfl, hc1⟩ := this
  clear hz
  have l1 := cutA_le w none (some d)
  have l2 := cutA_le w (some d) none
  have l3 := cutA_le w (some (d + 1)) none
  have m1 : (cutA w none (some d)).length + (0 + 1) ≤ 10000000 := by omega
  have m2 : (cutA w none (some d)).length + (0 + 1) + (cutA w (some d) none).length ≤ 10000000 := by omega
  have m3 : (cutA w none (some d)).length + (cutA w (some (d + 1)) none).length ≤ 10000000 := by omega
  simp (decide := true) (disch := first | assumption | omega | (simp (decide := true) only [cplx_l, cplx_t, cplx_n, cplx_c, Bool.or_true, Bool.true_or])) only [↓reduceIte, reduceCtorEq, or_true, true_or, or_false, false_or, and_false, false_and, ↓sts_0, ↓sts_S, ↓wo_gn, ↓wo_gnN, ↓wo_gt2, ↓wo_gtt, ↓wo_gs0, ↓wq_var0, ↓wq_varS, ↓ws_seq, ↓ws_skip, ↓ws_break, ↓ws_cont, ↓ws_if, ↓ws_ifx, ↓ws_expr, ↓ws_ret, ↓ws_retN, ↓hs_set, ↓hs_setx, ↓hs_par, ↓ws_asg, ↓hs_aug, ↓hs_app, ↓hs_ext, ↓hs_mut, ↓hs_store, ↓hs_storex, ↓ws_for, ↓ws_forN, ↓ws_nx, ↓ws_rt, ↓ws_bk, ↓ws_ct, ↓ws_no, ↓hs_pool, ↓hs_tokSet, ↓wo_some, ↓wo_none, ↓wo_map, ↓wo_if, ↓wo_gs, ↓wq_ok, ↓wq_no, ↓wq_of, ↓wq_C, ↓wq_n, ↓wq_bin, ↓wq_un, ↓wq_b1, ↓wq_nil, ↓wq_cons, ↓wq_consD, ↓wq_tup, ↓wq_lst, ↓hq_B, ↓hq_andV, ↓hq_orV, ↓hq_notV, ↓wq_and, ↓wq_or, ↓wq_not, ↓wq_ifE, ↓wq_yes, ↓hq_chain, ↓wq_call, ↓wq_callK, ↓hq_callP, ↓wq_meth, ↓wq_methD, isPD_d, vget_d, vrevs_s, vsplit_s, ↓wq_iter, ↓wq_enum, ↓hq_range1, ↓hq_range2, ↓hq_range3, ↓hq_range3p, vrepl_s, ↓hq_zipL, ↓wq_slice, ↓wq_noO, ↓hq_someO, ↓wq_isi, ↓wq_revL, ↓wq_lc, ↓wq_lcN, ↓hq_pop, ↓wq_binx, ↓hq_bx, ↓wq_orx, ↓hq_tokIx, ↓wq_disp, ↓wq_pnil, ↓wq_pcons, vadd_ii, vadd_ss, vadd_ll, vadd_sl, viadd_ii, viadd_ss, vsub_ii, vmul_ii, vmul_si, vmul_li, vdiv_ii, vmod_ii, vpow_ii, vneg_i, veq_ii, veq_ss, veq_bb, vne_ii, vne_ss, vne_bb, veq_g, vne_g, cplx_l, cplx_t, cplx_n, cplx_c, okd_l, okd_t, okd_s, okd_i, okd_b, okd_n, okd_c, eqv_ll, eqv_tt, eqv_lt, eqv_tl, eqv_ii, eqv_ss, eqv_bb, eqv_nn, eqv_nt, eqv_tn, eqv_ns, eqv_sn, eqv_st, eqv_ts, eqv_si, eqv_is, eqv_in, eqv_ni, eqv_sl, eqv_ls, eqv_nl, eqv_ln, eqv_cl0, eqvs_nil, eqvs_cons, eqvs_n1, eqvs_1n, eqvs_nl, vlt_ii, vle_ii, vgt_ii, vge_ii, vlt_ss, vle_ss, vgt_ss, vge_ss, vis_n, visNot_n, vis_b, visNot_b, isNon_n, isNon_t, isNon_l, isNon_s, isNon_i, vix_s, vix_l, vix_t, vix_c, vix_d, keyP_i, keyP_s, vin_ss, vnin_ss, vin_l, vnin_l, vcut_s, vcut_l, vcut_c, vlen_s, vlen_l, vlen_t, vlen_c, vlen_d, vint_b, vint_i, vabs_i, vmax_ii, vmin_ii, vlist_s, vlist_l, vlist_t, vtuple_l, vtupleA_l, vtupleA_s, vaddr_ll, vsorted_l, psrc_s, psrc_l, psrc_t, psrc_c, penum_s, penum_l, penum_c, vjoin_c, vsindex, isPT_s, isPT_l, pty_n, pty_b, pty_i, pty_s, pty_l, pty_t, pty_d, isTok_n, isTok_b, isTok_i, isTok_s, isTok_l, isTok_t, isTok_d, noL_n, noL_b, noL_i, noL_s, noL_t, noLs_nl, noLs_c, noLs_ints, noLs_chs, noLs_strs, noLs_rev, perm_1, perm_11, perm_02, perm_20, pat0, pat1, pat2, pat3, iat0, iat1, iat2, List.getElem?_cons_zero, List.getElem?_cons_succ, pwipe, List.map_cons, List.map_nil, List.length_cons, List.length_nil, List.length_map, List.replicate, List.cons_append, List.nil_append, List.set_cons_succ, List.set_cons_zero, Option.map_some, Option.map_none, Option.isSome_some, Option.isSome_none, Option.bind_some, PV.bl.injEq, PV.int.injEq, PV.str.injEq, Option.some.injEq, exists_eq_left', exists_eq_left, if_true, true_and, and_true, and_self, Bool.and_self, Bool.and_true, Bool.true_and, Bool.and_false, Bool.false_and, List.any_cons, List.any_nil, List.all_cons, List.all_nil, Bool.or_false, Bool.or_true, Bool.true_or, Bool.false_or, Bool.not_true, Bool.not_false, if_false, Bool.false_eq_true, not_false_eq_true, beq_self_eq_true, decide_true, decide_false, line_t, line_l, small_t, fits_t, chP_len, chP_nol, chP_okd, chP_nil, List.length_append, List.length_reverse, List.length_take, List.length_drop, Nat.zero_le, vin_clo, vix_clo, letB, cloB_def, opnB_def, asB_b, asI_i, asL_l, lsP_0, lsP_S, slP_0, slP_S, tok_0, tok_S, asP_ints, asP_3, line_t m1, line_t m2, line_t m3]
  have hJ : ∀ z ∈ [PV.str (cutA w none (some d) ++ [c] ++ cutA w (some d) none), PV.str (cutA w none (some d) ++ cutA w (some (d + 1)) none), PV.str [c], PV.str w.reverse, PV.lst (w.map fun ch => PV.str [ch]), PV.tup (w.map fun ch => PV.str [ch]), PV.non, PV.int 5, PV.bl true, PV.lst [PV.str w], PV.dic [] [], PV.tup [PV.str w, PV.int 0]], JZ z := by
    intro z hz
    have sub : ∀ lo hi, ∀ x ∈ cutA w lo hi, x < 1000 := fun lo hi x hx => hc x (cutA_sub x hx)
    have chw : w.map (fun ch => PV.str [ch]) = chP w := rfl
    rw [chw] at hz
    simp only [List.mem_cons, List.not_mem_nil, or_false] at hz
    rcases hz with rfl | rfl | rfl | rfl | rfl | rfl | rfl | rfl | rfl | rfl | rfl | rfl
    · refine jz_str (fun x hx => ?_) (by simp only [List.length_append, List.length_cons, List.length_nil]; omega)
      simp only [List.mem_append, List.mem_cons, List.not_mem_nil, or_false] at hx
      rcases hx with (hx | rfl) | hx
      · exact sub _ _ x hx
      · exact hc1
      · exact sub _ _ x hx
    · refine jz_str (fun x hx => ?_) (by simp only [List.length_append]; omega)
      simp only [List.mem_append] at hx
      rcases hx with hx | hx <;> exact sub _ _ x hx
    · refine jz_str (fun x hx => ?_) (by simp)
      have : x = c := by simpa using hx
      rw [this]; exact hc1
    · exact jz_str (fun x hx => hc x (by simpa using hx)) (by simp; omega)
    · exact ⟨okr_signs w 36, shOk_signsL hc (by omega), rfl, .inr trivial, .inr ⟨_, rfl, rfl⟩⟩
    · exact ⟨okr_signs w 36, shOk_signsT hc (by omega), rfl, .inr trivial, .inr ⟨_, rfl, rfl⟩⟩
    · exact ⟨rfl, by decide +kernel, rfl, .inr trivial, .inr ⟨_, rfl, rfl⟩⟩
    · exact ⟨rfl, by decide +kernel, rfl, .inr trivial, .inr ⟨_, rfl, rfl⟩⟩
    · exact ⟨rfl, by decide +kernel, rfl, .inr trivial, .inr ⟨_, rfl, rfl⟩⟩
    · exact ⟨rfl, shOk_strL hc (by omega), rfl, .inr trivial, .inr ⟨_, rfl, rfl⟩⟩
    · exact ⟨rfl, by decide +kernel, rfl, .inr trivial, .inr ⟨_, rfl, rfl⟩⟩
    · refine ⟨rfl, ?_, rfl, .inr trivial, .inr ⟨_, rfl, rfl⟩⟩
      have h1 := mkS_short hc
      have h2 := mkS_size w
      refine shown_sz rfl rfl ?_ ?_
      · show PyData.leavesShort 60 (.tuple [.str (mkS w), .int 0]) = true
        simp only [PyData.leavesShort, PyData.leavesShortAll]
        rw [h1]; decide +kernel
      · show PyData.bulk (.tuple [.str (mkS w), .int 0]) ≤ _
        simp only [PyData.bulk, PyData.bulkAll]
        omega
  refine (wS_drawP hb2 (by omega) (by decide) (by decide)).mono fun v o3 ⟨f, ev, f0, f1, hb3⟩ => ?_
  subst ev
  simp (decide := true) (disch := first | assumption | omega | (simp (decide := true) only [cplx_l, cplx_t, cplx_n, cplx_c, Bool.or_true, Bool.true_or])) only [↓reduceIte, reduceCtorEq, or_true, true_or, or_false, false_or, and_false, false_and, ↓sts_0, ↓sts_S, ↓wo_gn, ↓wo_gnN, ↓wo_gt2, ↓wo_gtt, ↓wo_gs0, ↓wq_var0, ↓wq_varS, ↓ws_seq, ↓ws_skip, ↓ws_break, ↓ws_cont, ↓ws_if, ↓ws_ifx, ↓ws_expr, ↓ws_ret, ↓ws_retN, ↓hs_set, ↓hs_setx, ↓hs_par, ↓ws_asg, ↓hs_aug, ↓hs_app, ↓hs_ext, ↓hs_mut, ↓hs_store, ↓hs_storex, ↓ws_for, ↓ws_forN, ↓ws_nx, ↓ws_rt, ↓ws_bk, ↓ws_ct, ↓ws_no, ↓hs_pool, ↓hs_tokSet, ↓wo_some, ↓wo_none, ↓wo_map, ↓wo_if, ↓wo_gs, ↓wq_ok, ↓wq_no, ↓wq_of, ↓wq_C, ↓wq_n, ↓wq_bin, ↓wq_un, ↓wq_b1, ↓wq_nil, ↓wq_cons, ↓wq_consD, ↓wq_tup, ↓wq_lst, ↓hq_B, ↓hq_andV, ↓hq_orV, ↓hq_notV, ↓wq_and, ↓wq_or, ↓wq_not, ↓wq_ifE, ↓wq_yes, ↓hq_chain, ↓wq_call, ↓wq_callK, ↓hq_callP, ↓wq_meth, ↓wq_methD, isPD_d, vget_d, vrevs_s, vsplit_s, ↓wq_iter, ↓wq_enum, ↓hq_range1, ↓hq_range2, ↓hq_range3, ↓hq_range3p, vrepl_s, ↓hq_zipL, ↓wq_slice, ↓wq_noO, ↓hq_someO, ↓wq_isi, ↓wq_revL, ↓wq_lc, ↓wq_lcN, ↓hq_pop, ↓wq_binx, ↓hq_bx, ↓wq_orx, ↓hq_tokIx, ↓wq_disp, ↓wq_pnil, ↓wq_pcons, vadd_ii, vadd_ss, vadd_ll, vadd_sl, viadd_ii, viadd_ss, vsub_ii, vmul_ii, vmul_si, vmul_li, vdiv_ii, vmod_ii, vpow_ii, vneg_i, veq_ii, veq_ss, veq_bb, vne_ii, vne_ss, vne_bb, veq_g, vne_g, cplx_l, cplx_t, cplx_n, cplx_c, okd_l, okd_t, okd_s, okd_i, okd_b, okd_n, okd_c, eqv_ll, eqv_tt, eqv_lt, eqv_tl, eqv_ii, eqv_ss, eqv_bb, eqv_nn, eqv_nt, eqv_tn, eqv_ns, eqv_sn, eqv_st, eqv_ts, eqv_si, eqv_is, eqv_in, eqv_ni, eqv_sl, eqv_ls, eqv_nl, eqv_ln, eqv_cl0, eqvs_nil, eqvs_cons, eqvs_n1, eqvs_1n, eqvs_nl, vlt_ii, vle_ii, vgt_ii, vge_ii, vlt_ss, vle_ss, vgt_ss, vge_ss, vis_n, visNot_n, vis_b, visNot_b, isNon_n, isNon_t, isNon_l, isNon_s, isNon_i, vix_s, vix_l, vix_t, vix_c, vix_d, keyP_i, keyP_s, vin_ss, vnin_ss, vin_l, vnin_l, vcut_s, vcut_l, vcut_c, vlen_s, vlen_l, vlen_t, vlen_c, vlen_d, vint_b, vint_i, vabs_i, vmax_ii, vmin_ii, vlist_s, vlist_l, vlist_t, vtuple_l, vtupleA_l, vtupleA_s, vaddr_ll, vsorted_l, psrc_s, psrc_l, psrc_t, psrc_c, penum_s, penum_l, penum_c, vjoin_c, vsindex, isPT_s, isPT_l, pty_n, pty_b, pty_i, pty_s, pty_l, pty_t, pty_d, isTok_n, isTok_b, isTok_i, isTok_s, isTok_l, isTok_t, isTok_d, noL_n, noL_b, noL_i, noL_s, noL_t, noLs_nl, noLs_c, noLs_ints, noLs_chs, noLs_strs, noLs_rev, perm_1, perm_11, perm_02, perm_20, pat0, pat1, pat2, pat3, iat0, iat1, iat2, List.getElem?_cons_zero, List.getElem?_cons_succ, pwipe, List.map_cons, List.map_nil, List.length_cons, List.length_nil, List.length_map, List.replicate, List.cons_append, List.nil_append, List.set_cons_succ, List.set_cons_zero, Option.map_some, Option.map_none, Option.isSome_some, Option.isSome_none, Option.bind_some, PV.bl.injEq, PV.int.injEq, PV.str.injEq, Option.some.injEq, exists_eq_left', exists_eq_left, if_true, true_and, and_true, and_self, Bool.and_self, Bool.and_true, Bool.true_and, Bool.and_false, Bool.false_and, List.any_cons, List.any_nil, List.all_cons, List.all_nil, Bool.or_false, Bool.or_true, Bool.true_or, Bool.false_or, Bool.not_true, Bool.not_false, if_false, Bool.false_eq_true, not_false_eq_true, beq_self_eq_true, decide_true, decide_false, line_t, line_l, small_t, fits_t, chP_len, chP_nol, chP_okd, chP_nil, List.length_append, List.length_reverse, List.length_take, List.length_drop, Nat.zero_le, vin_clo, vix_clo, letB, cloB_def, opnB_def, asB_b, asI_i, asL_l, lsP_0, lsP_S, slP_0, slP_S, tok_0, tok_S, asP_ints, asP_3]
  refine (wS_drawP hb3 (by omega) (by decide) (by decide)).mono fun v o4 ⟨g, ev, g0, g1, hb4⟩ => ?_
  subst ev
  simp (decide := true) (disch := first | assumption | omega | (simp (decide := true) only [cplx_l, cplx_t, cplx_n, cplx_c, Bool.or_true, Bool.true_or])) only [↓reduceIte, reduceCtorEq, or_true, true_or, or_false, false_or, and_false, false_and, ↓sts_0, ↓sts_S, ↓wo_gn, ↓wo_gnN, ↓wo_gt2, ↓wo_gtt, ↓wo_gs0, ↓wq_var0, ↓wq_varS, ↓ws_seq, ↓ws_skip, ↓ws_break, ↓ws_cont, ↓ws_if, ↓ws_ifx, ↓ws_expr, ↓ws_ret, ↓ws_retN, ↓hs_set, ↓hs_setx, ↓hs_par, ↓ws_asg, ↓hs_aug, ↓hs_app, ↓hs_ext, ↓hs_mut, ↓hs_store, ↓hs_storex, ↓ws_for, ↓ws_forN, ↓ws_nx, ↓ws_rt, ↓ws_bk, ↓ws_ct, ↓ws_no, ↓hs_pool, ↓hs_tokSet, ↓wo_some, ↓wo_none, ↓wo_map, ↓wo_if, ↓wo_gs, ↓wq_ok, ↓wq_no, ↓wq_of, ↓wq_C, ↓wq_n, ↓wq_bin, ↓wq_un, ↓wq_b1, ↓wq_nil, ↓wq_cons, ↓wq_consD, ↓wq_tup, ↓wq_lst, ↓hq_B, ↓hq_andV, ↓hq_orV, ↓hq_notV, ↓wq_and, ↓wq_or, ↓wq_not, ↓wq_ifE, ↓wq_yes, ↓hq_chain, ↓wq_call, ↓wq_callK, ↓hq_callP, ↓wq_meth, ↓wq_methD, isPD_d, vget_d, vrevs_s, vsplit_s, ↓wq_iter, ↓wq_enum, ↓hq_range1, ↓hq_range2, ↓hq_range3, ↓hq_range3p, vrepl_s, ↓hq_zipL, ↓wq_slice, ↓wq_noO, ↓hq_someO, ↓wq_isi, ↓wq_revL, ↓wq_lc, ↓wq_lcN, ↓hq_pop, ↓wq_binx, ↓hq_bx, ↓wq_orx, ↓hq_tokIx, ↓wq_disp, ↓wq_pnil, ↓wq_pcons, vadd_ii, vadd_ss, vadd_ll, vadd_sl, viadd_ii, viadd_ss, vsub_ii, vmul_ii, vmul_si, vmul_li, vdiv_ii, vmod_ii, vpow_ii, vneg_i, veq_ii, veq_ss, veq_bb, vne_ii, vne_ss, vne_bb, veq_g, vne_g, cplx_l, cplx_t, cplx_n, cplx_c, okd_l, okd_t, okd_s, okd_i, okd_b, okd_n, okd_c, eqv_ll, eqv_tt, eqv_lt, eqv_tl, eqv_ii, eqv_ss, eqv_bb, eqv_nn, eqv_nt, eqv_tn, eqv_ns, eqv_sn, eqv_st, eqv_ts, eqv_si, eqv_is, eqv_in, eqv_ni, eqv_sl, eqv_ls, eqv_nl, eqv_ln, eqv_cl0, eqvs_nil, eqvs_cons, eqvs_n1, eqvs_1n, eqvs_nl, vlt_ii, vle_ii, vgt_ii, vge_ii, vlt_ss, vle_ss, vgt_ss, vge_ss, vis_n, visNot_n, vis_b, visNot_b, isNon_n, isNon_t, isNon_l, isNon_s, isNon_i, vix_s, vix_l, vix_t, vix_c, vix_d, keyP_i, keyP_s, vin_ss, vnin_ss, vin_l, vnin_l, vcut_s, vcut_l, vcut_c, vlen_s, vlen_l, vlen_t, vlen_c, vlen_d, vint_b, vint_i, vabs_i, vmax_ii, vmin_ii, vlist_s, vlist_l, vlist_t, vtuple_l, vtupleA_l, vtupleA_s, vaddr_ll, vsorted_l, psrc_s, psrc_l, psrc_t, psrc_c, penum_s, penum_l, penum_c, vjoin_c, vsindex, isPT_s, isPT_l, pty_n, pty_b, pty_i, pty_s, pty_l, pty_t, pty_d, isTok_n, isTok_b, isTok_i, isTok_s, isTok_l, isTok_t, isTok_d, noL_n, noL_b, noL_i, noL_s, noL_t, noLs_nl, noLs_c, noLs_ints, noLs_chs, noLs_strs, noLs_rev, perm_1, perm_11, perm_02, perm_20, pat0, pat1, pat2, pat3, iat0, iat1, iat2, List.getElem?_cons_zero, List.getElem?_cons_succ, pwipe, List.map_cons, List.map_nil, List.length_cons, List.length_nil, List.length_map, List.replicate, List.cons_append, List.nil_append, List.set_cons_succ, List.set_cons_zero, Option.map_some, Option.map_none, Option.isSome_some, Option.isSome_none, Option.bind_some, PV.bl.injEq, PV.int.injEq, PV.str.injEq, Option.some.injEq, exists_eq_left', exists_eq_left, if_true, true_and, and_true, and_self, Bool.and_self, Bool.and_true, Bool.true_and, Bool.and_false, Bool.false_and, List.any_cons, List.any_nil, List.all_cons, List.all_nil, Bool.or_false, Bool.or_true, Bool.true_or, Bool.false_or, Bool.not_true, Bool.not_false, if_false, Bool.false_eq_true, not_false_eq_true, beq_self_eq_true, decide_true, decide_false, line_t, line_l, small_t, fits_t, chP_len, chP_nol, chP_okd, chP_nil, List.length_append, List.length_reverse, List.length_take, List.length_drop, Nat.zero_le, vin_clo, vix_clo, letB, cloB_def, opnB_def, asB_b, asI_i, asL_l, lsP_0, lsP_S, slP_0, slP_S, tok_0, tok_S, asP_ints, asP_3]
  have pick : ∀ f : Int, 0 ≤ f → f < 12 → WO (atA [PV.str (cutA w none (some d) ++ [c] ++ cutA w (some d) none), PV.str (cutA w none (some d) ++ cutA w (some (d + 1)) none), PV.str [c], PV.str w.reverse, PV.lst (w.map fun ch => PV.str [ch]), PV.tup (w.map fun ch => PV.str [ch]), PV.non, PV.int 5, PV.bl true, PV.lst [PV.str w], PV.dic [] [], PV.tup [PV.str w, PV.int 0]] f) fun z => isTok z = false ∧ JZ z ∧ Bs (n + 4) o4 := fun f f0 f1 =>
    wo_pick f0 (by simp; omega) fun z hz => ⟨(hJ z hz).nt, hJ z hz, hb4.le (by omega)⟩
  refine wo_pick g0 (by simp; omega) fun z hz => ?_
  simp only [List.mem_cons, List.not_mem_nil, or_false] at hz
  rcases hz with rfl | rfl
  · simp (decide := true) (disch := first | assumption | omega | (simp (decide := true) only [cplx_l, cplx_t, cplx_n, cplx_c, Bool.or_true, Bool.true_or])) only [↓reduceIte, reduceCtorEq, or_true, true_or, or_false, false_or, and_false, false_and, ↓sts_0, ↓sts_S, ↓wo_gn, ↓wo_gnN, ↓wo_gt2, ↓wo_gtt, ↓wo_gs0, ↓wq_var0, ↓wq_varS, ↓ws_seq, ↓ws_skip, ↓ws_break, ↓ws_cont, ↓ws_if, ↓ws_ifx, ↓ws_expr, ↓ws_ret, ↓ws_retN, ↓hs_set, ↓hs_setx, ↓hs_par, ↓ws_asg, ↓hs_aug, ↓hs_app, ↓hs_ext, ↓hs_mut, ↓hs_store, ↓hs_storex, ↓ws_for, ↓ws_forN, ↓ws_nx, ↓ws_rt, ↓ws_bk, ↓ws_ct, ↓ws_no, ↓hs_pool, ↓hs_tokSet, ↓wo_some, ↓wo_none, ↓wo_map, ↓wo_if, ↓wo_gs, ↓wq_ok, ↓wq_no, ↓wq_of, ↓wq_C, ↓wq_n, ↓wq_bin, ↓wq_un, ↓wq_b1, ↓wq_nil, ↓wq_cons, ↓wq_consD, ↓wq_tup, ↓wq_lst, ↓hq_B, ↓hq_andV, ↓hq_orV, ↓hq_notV, ↓wq_and, ↓wq_or, ↓wq_not, ↓wq_ifE, ↓wq_yes, ↓hq_chain, ↓wq_call, ↓wq_callK, ↓hq_callP, ↓wq_meth, ↓wq_methD, isPD_d, vget_d, vrevs_s, vsplit_s, ↓wq_iter, ↓wq_enum, ↓hq_range1, ↓hq_range2, ↓hq_range3, ↓hq_range3p, vrepl_s, ↓hq_zipL, ↓wq_slice, ↓wq_noO, ↓hq_someO, ↓wq_isi, ↓wq_revL, ↓wq_lc, ↓wq_lcN, ↓hq_pop, ↓wq_binx, ↓hq_bx, ↓wq_orx, ↓hq_tokIx, ↓wq_disp, ↓wq_pnil, ↓wq_pcons, vadd_ii, vadd_ss, vadd_ll, vadd_sl, viadd_ii, viadd_ss, vsub_ii, vmul_ii, vmul_si, vmul_li, vdiv_ii, vmod_ii, vpow_ii, vneg_i, veq_ii, veq_ss, veq_bb, vne_ii, vne_ss, vne_bb, veq_g, vne_g, cplx_l, cplx_t, cplx_n, cplx_c, okd_l, okd_t, okd_s, okd_i, okd_b, okd_n, okd_c, eqv_ll, eqv_tt, eqv_lt, eqv_tl, eqv_ii, eqv_ss, eqv_bb, eqv_nn, eqv_nt, eqv_tn, eqv_ns, eqv_sn, eqv_st, eqv_ts, eqv_si, eqv_is, eqv_in, eqv_ni, eqv_sl, eqv_ls, eqv_nl, eqv_ln, eqv_cl0, eqvs_nil, eqvs_cons, eqvs_n1, eqvs_1n, eqvs_nl, vlt_ii, vle_ii, vgt_ii, vge_ii, vlt_ss, vle_ss, vgt_ss, vge_ss, vis_n, visNot_n, vis_b, visNot_b, isNon_n, isNon_t, isNon_l, isNon_s, isNon_i, vix_s, vix_l, vix_t, vix_c, vix_d, keyP_i, keyP_s, vin_ss, vnin_ss, vin_l, vnin_l, vcut_s, vcut_l, vcut_c, vlen_s, vlen_l, vlen_t, vlen_c, vlen_d, vint_b, vint_i, vabs_i, vmax_ii, vmin_ii, vlist_s, vlist_l, vlist_t, vtuple_l, vtupleA_l, vtupleA_s, vaddr_ll, vsorted_l, psrc_s, psrc_l, psrc_t, psrc_c, penum_s, penum_l, penum_c, vjoin_c, vsindex, isPT_s, isPT_l, pty_n, pty_b, pty_i, pty_s, pty_l, pty_t, pty_d, isTok_n, isTok_b, isTok_i, isTok_s, isTok_l, isTok_t, isTok_d, noL_n, noL_b, noL_i, noL_s, noL_t, noLs_nl, noLs_c, noLs_ints, noLs_chs, noLs_strs, noLs_rev, perm_1, perm_11, perm_02, perm_20, pat0, pat1, pat2, pat3, iat0, iat1, iat2, List.getElem?_cons_zero, List.getElem?_cons_succ, pwipe, List.map_cons, List.map_nil, List.length_cons, List.length_nil, List.length_map, List.replicate, List.cons_append, List.nil_append, List.set_cons_succ, List.set_cons_zero, Option.map_some, Option.map_none, Option.isSome_some, Option.isSome_none, Option.bind_some, PV.bl.injEq, PV.int.injEq, PV.str.injEq, Option.some.injEq, exists_eq_left', exists_eq_left, if_true, true_and, and_true, and_self, Bool.and_self, Bool.and_true, Bool.true_and, Bool.and_false, Bool.false_and, List.any_cons, List.any_nil, List.all_cons, List.all_nil, Bool.or_false, Bool.or_true, Bool.true_or, Bool.false_or, Bool.not_true, Bool.not_false, if_false, Bool.false_eq_true, not_false_eq_true, beq_self_eq_true, decide_true, decide_false, line_t, line_l, small_t, fits_t, chP_len, chP_nol, chP_okd, chP_nil, List.length_append, List.length_reverse, List.length_take, List.length_drop, Nat.zero_le, vin_clo, vix_clo, letB, cloB_def, opnB_def, asB_b, asI_i, asL_l, lsP_0, lsP_S, slP_0, slP_S, tok_0, tok_S, asP_ints, asP_3]
    exact pick f f0 f1
  · simp (decide := true) (disch := first | assumption | omega | (simp (decide := true) only [cplx_l, cplx_t, cplx_n, cplx_c, Bool.or_true, Bool.true_or])) only [↓reduceIte, reduceCtorEq, or_true, true_or, or_false, false_or, and_false, false_and, ↓sts_0, ↓sts_S, ↓wo_gn, ↓wo_gnN, ↓wo_gt2, ↓wo_gtt, ↓wo_gs0, ↓wq_var0, ↓wq_varS, ↓ws_seq, ↓ws_skip, ↓ws_break, ↓ws_cont, ↓ws_if, ↓ws_ifx, ↓ws_expr, ↓ws_ret, ↓ws_retN, ↓hs_set, ↓hs_setx, ↓hs_par, ↓ws_asg, ↓hs_aug, ↓hs_app, ↓hs_ext, ↓hs_mut, ↓hs_store, ↓hs_storex, ↓ws_for, ↓ws_forN, ↓ws_nx, ↓ws_rt, ↓ws_bk, ↓ws_ct, ↓ws_no, ↓hs_pool, ↓hs_tokSet, ↓wo_some, ↓wo_none, ↓wo_map, ↓wo_if, ↓wo_gs, ↓wq_ok, ↓wq_no, ↓wq_of, ↓wq_C, ↓wq_n, ↓wq_bin, ↓wq_un, ↓wq_b1, ↓wq_nil, ↓wq_cons, ↓wq_consD, ↓wq_tup, ↓wq_lst, ↓hq_B, ↓hq_andV, ↓hq_orV, ↓hq_notV, ↓wq_and, ↓wq_or, ↓wq_not, ↓wq_ifE, ↓wq_yes, ↓hq_chain, ↓wq_call, ↓wq_callK, ↓hq_callP, ↓wq_meth, ↓wq_methD, isPD_d, vget_d, vrevs_s, vsplit_s, ↓wq_iter, ↓wq_enum, ↓hq_range1, ↓hq_range2, ↓hq_range3, ↓hq_range3p, vrepl_s, ↓hq_zipL, ↓wq_slice, ↓wq_noO, ↓hq_someO, ↓wq_isi, ↓wq_revL, ↓wq_lc, ↓wq_lcN, ↓hq_pop, ↓wq_binx, ↓hq_bx, ↓wq_orx, ↓hq_tokIx, ↓wq_disp, ↓wq_pnil, ↓wq_pcons, vadd_ii, vadd_ss, vadd_ll, vadd_sl, viadd_ii, viadd_ss, vsub_ii, vmul_ii, vmul_si, vmul_li, vdiv_ii, vmod_ii, vpow_ii, vneg_i, veq_ii, veq_ss, veq_bb, vne_ii, vne_ss, vne_bb, veq_g, vne_g, cplx_l, cplx_t, cplx_n, cplx_c, okd_l, okd_t, okd_s, okd_i, okd_b, okd_n, okd_c, eqv_ll, eqv_tt, eqv_lt, eqv_tl, eqv_ii, eqv_ss, eqv_bb, eqv_nn, eqv_nt, eqv_tn, eqv_ns, eqv_sn, eqv_st, eqv_ts, eqv_si, eqv_is, eqv_in, eqv_ni, eqv_sl, eqv_ls, eqv_nl, eqv_ln, eqv_cl0, eqvs_nil, eqvs_cons, eqvs_n1, eqvs_1n, eqvs_nl, vlt_ii, vle_ii, vgt_ii, vge_ii, vlt_ss, vle_ss, vgt_ss, vge_ss, vis_n, visNot_n, vis_b, visNot_b, isNon_n, isNon_t, isNon_l, isNon_s, isNon_i, vix_s, vix_l, vix_t, vix_c, vix_d, keyP_i, keyP_s, vin_ss, vnin_ss, vin_l, vnin_l, vcut_s, vcut_l, vcut_c, vlen_s, vlen_l, vlen_t, vlen_c, vlen_d, vint_b, vint_i, vabs_i, vmax_ii, vmin_ii, vlist_s, vlist_l, vlist_t, vtuple_l, vtupleA_l, vtupleA_s, vaddr_ll, vsorted_l, psrc_s, psrc_l, psrc_t, psrc_c, penum_s, penum_l, penum_c, vjoin_c, vsindex, isPT_s, isPT_l, pty_n, pty_b, pty_i, pty_s, pty_l, pty_t, pty_d, isTok_n, isTok_b, isTok_i, isTok_s, isTok_l, isTok_t, isTok_d, noL_n, noL_b, noL_i, noL_s, noL_t, noLs_nl, noLs_c, noLs_ints, noLs_chs, noLs_strs, noLs_rev, perm_1, perm_11, perm_02, perm_20, pat0, pat1, pat2, pat3, iat0, iat1, iat2, List.getElem?_cons_zero, List.getElem?_cons_succ, pwipe, List.map_cons, List.map_nil, List.length_cons, List.length_nil, List.length_map, List.replicate, List.cons_append, List.nil_append, List.set_cons_succ, List.set_cons_zero, Option.map_some, Option.map_none, Option.isSome_some, Option.isSome_none, Option.bind_some, PV.bl.injEq, PV.int.injEq, PV.str.injEq, Option.some.injEq, exists_eq_left', exists_eq_left, if_true, true_and, and_true, and_self, Bool.and_self, Bool.and_true, Bool.true_and, Bool.and_false, Bool.false_and, List.any_cons, List.any_nil, List.all_cons, List.all_nil, Bool.or_false, Bool.or_true, Bool.true_or, Bool.false_or, Bool.not_true, Bool.not_false, if_false, Bool.false_eq_true, not_false_eq_true, beq_self_eq_true, decide_true, decide_false, line_t, line_l, small_t, fits_t, chP_len, chP_nol, chP_okd, chP_nil, List.length_append, List.length_reverse, List.length_take, List.length_drop, Nat.zero_le, vin_clo, vix_clo, letB, cloB_def, opnB_def, asB_b, asI_i, asL_l, lsP_0, lsP_S, slP_0, slP_S, tok_0, tok_S, asP_ints, asP_3]
    exact ⟨hJ _ (by simp), hb4.le (by omega)⟩
/-- four words of a sign -/
theorem wL_1 {D : Ep} {o : Pool} {ns : List Int} {c : Nat} {t1 t3 t4 t5 t6 t7 t8 t9 t11 : Option PV} (hc : c < 1000) (H : D.nx [some (.scr ns), t1, some (.str [c]), t3, t4, t5, t6, t7, t8, t9, none, t11] o) :
    Ws (pb_law_1 [some (.scr ns), t1, some (.str [c]), t3, t4, t5, t6, t7, t8, t9, none, t11] o) D := by
  have hw : ∀ w ∈ [[c], [97, c], [c, 60], [40, c, 62]], ∀ d ∈ w, d < 1000 := by
    intro w hw d hd
    simp only [List.mem_cons, List.not_mem_nil, or_false] at hw
    rcases hw with rfl | rfl | rfl | rfl <;> simp only [List.mem_cons, List.not_mem_nil, or_false] at hd <;> omega
  have comp : pLoopC [some (.scr ns), t1, some (.str [c]), t3, t4, t5, t6, t7, t8, t9, none, t11] (pGn 10) (pNot (pB (pCall p__law_judged (pCons (pVar 10) (pNil))))) (pN (pVar 10)) ([[c], [97, c], [c, 60], [40, c, 62]].map fun w => [PV.str w]) [] o = .ok (.lst []) o := by
    rw [lc_eq (fun _ => false) (fun w => .str w) (fun w => [PV.str w]) (fun _ => rfl) _ [] (by simp) fun w hw' => ?_]
    · rfl
    · have hj := w_judged (jz_str (hw w hw') (by
        simp only [List.mem_cons, List.not_mem_nil, or_false] at hw'
        rcases hw' with rfl | rfl | rfl | rfl <;> simp)) (o := o)
      simp (decide := true) (disch := first | assumption | omega | (simp (decide := true) only [cplx_l, cplx_t, cplx_n, cplx_c, Bool.or_true, Bool.true_or])) only [↓reduceIte, reduceCtorEq, or_true, true_or, or_false, false_or, and_false, false_and, ↓sts_0, ↓sts_S, ↓wo_gn, ↓wo_gnN, ↓wo_gt2, ↓wo_gtt, ↓wo_gs0, ↓wq_var0, ↓wq_varS, ↓ws_seq, ↓ws_skip, ↓ws_break, ↓ws_cont, ↓ws_if, ↓ws_ifx, ↓ws_expr, ↓ws_ret, ↓ws_retN, ↓hs_set, ↓hs_setx, ↓hs_par, ↓ws_asg, ↓hs_aug, ↓hs_app, ↓hs_ext, ↓hs_mut, ↓hs_store, ↓hs_storex, ↓ws_for, ↓ws_forN, ↓ws_nx, ↓ws_rt, ↓ws_bk, ↓ws_ct, ↓ws_no, ↓hs_pool, ↓hs_tokSet, ↓wo_some, ↓wo_none, ↓wo_map, ↓wo_if, ↓wo_gs, ↓wq_ok, ↓wq_no, ↓wq_of, ↓wq_C, ↓wq_n, ↓wq_bin, ↓wq_un, ↓wq_b1, ↓wq_nil, ↓wq_cons, ↓wq_consD, ↓wq_tup, ↓wq_lst, ↓hq_B, ↓hq_andV, ↓hq_orV, ↓hq_notV, ↓wq_and, ↓wq_or, ↓wq_not, ↓wq_ifE, ↓wq_yes, ↓hq_chain, ↓wq_call, ↓wq_callK, ↓hq_callP, ↓wq_meth, ↓wq_methD, isPD_d, vget_d, vrevs_s, vsplit_s, ↓wq_iter, ↓wq_enum, ↓hq_range1, ↓hq_range2, ↓hq_range3, ↓hq_range3p, vrepl_s, ↓hq_zipL, ↓wq_slice, ↓wq_noO, ↓hq_someO, ↓wq_isi, ↓wq_revL, ↓wq_lc, ↓wq_lcN, ↓hq_pop, ↓wq_binx, ↓hq_bx, ↓wq_orx, ↓hq_tokIx, ↓wq_disp, ↓wq_pnil, ↓wq_pcons, vadd_ii, vadd_ss, vadd_ll, vadd_sl, viadd_ii, viadd_ss, vsub_ii, vmul_ii, vmul_si, vmul_li, vdiv_ii, vmod_ii, vpow_ii, vneg_i, veq_ii, veq_ss, veq_bb, vne_ii, vne_ss, vne_bb, veq_g, vne_g, cplx_l, cplx_t, cplx_n, cplx_c, okd_l, okd_t, okd_s, okd_i, okd_b, okd_n, okd_c, eqv_ll, eqv_tt, eqv_lt, eqv_tl, eqv_ii, eqv_ss, eqv_bb, eqv_nn, eqv_nt, eqv_tn, eqv_ns, eqv_sn, eqv_st, eqv_ts, eqv_si, eqv_is, eqv_in, eqv_ni, eqv_sl, eqv_ls, eqv_nl, eqv_ln, eqv_cl0, eqvs_nil, eqvs_cons, eqvs_n1, eqvs_1n, eqvs_nl, vlt_ii, vle_ii, vgt_ii, vge_ii, vlt_ss, vle_ss, vgt_ss, vge_ss, vis_n, visNot_n, vis_b, visNot_b, isNon_n, isNon_t, isNon_l, isNon_s, isNon_i, vix_s, vix_l, vix_t, vix_c, vix_d, keyP_i, keyP_s, vin_ss, vnin_ss, vin_l, vnin_l, vcut_s, vcut_l, vcut_c, vlen_s, vlen_l, vlen_t, vlen_c, vlen_d, vint_b, vint_i, vabs_i, vmax_ii, vmin_ii, vlist_s, vlist_l, vlist_t, vtuple_l, vtupleA_l, vtupleA_s, vaddr_ll, vsorted_l, psrc_s, psrc_l, psrc_t, psrc_c, penum_s, penum_l, penum_c, vjoin_c, vsindex, isPT_s, isPT_l, pty_n, pty_b, pty_i, pty_s, pty_l, pty_t, pty_d, isTok_n, isTok_b, isTok_i, isTok_s, isTok_l, isTok_t, isTok_d, noL_n, noL_b, noL_i, noL_s, noL_t, noLs_nl, noLs_c, noLs_ints, noLs_chs, noLs_strs, noLs_rev, perm_1, perm_11, perm_02, perm_20, pat0, pat1, pat2, pat3, iat0, iat1, iat2, List.getElem?_cons_zero, List.getElem?_cons_succ, pwipe, List.map_cons, List.map_nil, List.length_cons, List.length_nil, List.length_map, List.replicate, List.cons_append, List.nil_append, List.set_cons_succ, List.set_cons_zero, Option.map_some, Option.map_none, Option.isSome_some, Option.isSome_none, Option.bind_some, PV.bl.injEq, PV.int.injEq, PV.str.injEq, Option.some.injEq, exists_eq_left', exists_eq_left, if_true, true_and, and_true, and_self, Bool.and_self, Bool.and_true, Bool.true_and, Bool.and_false, Bool.false_and, List.any_cons, List.any_nil, List.all_cons, List.all_nil, Bool.or_false, Bool.or_true, Bool.true_or, Bool.false_or, Bool.not_true, Bool.not_false, if_false, Bool.false_eq_true, not_false_eq_true, beq_self_eq_true, decide_true, decide_false, line_t, line_l, small_t, fits_t, chP_len, chP_nol, chP_okd, chP_nil, List.length_append, List.length_reverse, List.length_take, List.length_drop, Nat.zero_le, vin_clo, vix_clo, letB, cloB_def, opnB_def, asB_b, asI_i, asL_l, lsP_0, lsP_S, slP_0, slP_S, tok_0, tok_S, asP_ints, asP_3, hj]
  have comp2 : pLoopC [some (.scr ns), t1, some (.str [c]), t3, t4, t5, t6, t7, t8, t9, none, t11] (pGn 10) (pNot (pB (pCall p__law_judged (pCons (pVar 10) (pNil))))) (pN (pVar 10)) (oneP [PV.str [c], PV.str [97, c], PV.str [c, 60], PV.str [40, c, 62]]) [] o = .ok (.lst []) o := comp
  unfold pb_law_1
  simp (decide := true) (disch := first | assumption | omega | (simp (decide := true) only [cplx_l, cplx_t, cplx_n, cplx_c, Bool.or_true, Bool.true_or])) only [↓reduceIte, reduceCtorEq, or_true, true_or, or_false, false_or, and_false, false_and, ↓sts_0, ↓sts_S, ↓wo_gn, ↓wo_gnN, ↓wo_gt2, ↓wo_gtt, ↓wo_gs0, ↓wq_var0, ↓wq_varS, ↓ws_seq, ↓ws_skip, ↓ws_break, ↓ws_cont, ↓ws_if, ↓ws_ifx, ↓ws_expr, ↓ws_ret, ↓ws_retN, ↓hs_set, ↓hs_setx, ↓hs_par, ↓ws_asg, ↓hs_aug, ↓hs_app, ↓hs_ext, ↓hs_mut, ↓hs_store, ↓hs_storex, ↓ws_for, ↓ws_forN, ↓ws_nx, ↓ws_rt, ↓ws_bk, ↓ws_ct, ↓ws_no, ↓hs_pool, ↓hs_tokSet, ↓wo_some, ↓wo_none, ↓wo_map, ↓wo_if, ↓wo_gs, ↓wq_ok, ↓wq_no, ↓wq_of, ↓wq_C, ↓wq_n, ↓wq_bin, ↓wq_un, ↓wq_b1, ↓wq_nil, ↓wq_cons, ↓wq_consD, ↓wq_tup, ↓wq_lst, ↓hq_B, ↓hq_andV, ↓hq_orV, ↓hq_notV, ↓wq_and, ↓wq_or, ↓wq_not, ↓wq_ifE, ↓wq_yes, ↓hq_chain, ↓wq_call, ↓wq_callK, ↓hq_callP, ↓wq_meth, ↓wq_methD, isPD_d, vget_d, vrevs_s, vsplit_s, ↓wq_iter, ↓wq_enum, ↓hq_range1, ↓hq_range2, ↓hq_range3, ↓hq_range3p, vrepl_s, ↓hq_zipL, ↓wq_slice, ↓wq_noO, ↓hq_someO, ↓wq_isi, ↓wq_revL, ↓wq_lc, ↓wq_lcN, ↓hq_pop, ↓wq_binx, ↓hq_bx, ↓wq_orx, ↓hq_tokIx, ↓wq_disp, ↓wq_pnil, ↓wq_pcons, vadd_ii, vadd_ss, vadd_ll, vadd_sl, viadd_ii, viadd_ss, vsub_ii, vmul_ii, vmul_si, vmul_li, vdiv_ii, vmod_ii, vpow_ii, vneg_i, veq_ii, veq_ss, veq_bb, vne_ii, vne_ss, vne_bb, veq_g, vne_g, cplx_l, cplx_t, cplx_n, cplx_c, okd_l, okd_t, okd_s, okd_i, okd_b, okd_n, okd_c, eqv_ll, eqv_tt, eqv_lt, eqv_tl, eqv_ii, eqv_ss, eqv_bb, eqv_nn, eqv_nt, eqv_tn, eqv_ns, eqv_sn, eqv_st, eqv_ts, eqv_si, eqv_is, eqv_in, eqv_ni, eqv_sl, eqv_ls, eqv_nl, eqv_ln, eqv_cl0, eqvs_nil, eqvs_cons, eqvs_n1, eqvs_1n, eqvs_nl, vlt_ii, vle_ii, vgt_ii, vge_ii, vlt_ss, vle_ss, vgt_ss, vge_ss, vis_n, visNot_n, vis_b, visNot_b, isNon_n, isNon_t, isNon_l, isNon_s, isNon_i, vix_s, vix_l, vix_t, vix_c, vix_d, keyP_i, keyP_s, vin_ss, vnin_ss, vin_l, vnin_l, vcut_s, vcut_l, vcut_c, vlen_s, vlen_l, vlen_t, vlen_c, vlen_d, vint_b, vint_i, vabs_i, vmax_ii, vmin_ii, vlist_s, vlist_l, vlist_t, vtuple_l, vtupleA_l, vtupleA_s, vaddr_ll, vsorted_l, psrc_s, psrc_l, psrc_t, psrc_c, penum_s, penum_l, penum_c, vjoin_c, vsindex, isPT_s, isPT_l, pty_n, pty_b, pty_i, pty_s, pty_l, pty_t, pty_d, isTok_n, isTok_b, isTok_i, isTok_s, isTok_l, isTok_t, isTok_d, noL_n, noL_b, noL_i, noL_s, noL_t, noLs_nl, noLs_c, noLs_ints, noLs_chs, noLs_strs, noLs_rev, perm_1, perm_11, perm_02, perm_20, pat0, pat1, pat2, pat3, iat0, iat1, iat2, List.getElem?_cons_zero, List.getElem?_cons_succ, pwipe, List.map_cons, List.map_nil, List.length_cons, List.length_nil, List.length_map, List.replicate, List.cons_append, List.nil_append, List.set_cons_succ, List.set_cons_zero, Option.map_some, Option.map_none, Option.isSome_some, Option.isSome_none, Option.bind_some, PV.bl.injEq, PV.int.injEq, PV.str.injEq, Option.some.injEq, exists_eq_left', exists_eq_left, if_true, true_and, and_true, and_self, Bool.and_self, Bool.and_true, Bool.true_and, Bool.and_false, Bool.false_and, List.any_cons, List.any_nil, List.all_cons, List.all_nil, Bool.or_false, Bool.or_true, Bool.true_or, Bool.false_or, Bool.not_true, Bool.not_false, if_false, Bool.false_eq_true, not_false_eq_true, beq_self_eq_true, decide_true, decide_false, line_t, line_l, small_t, fits_t, chP_len, chP_nol, chP_okd, chP_nil, List.length_append, List.length_reverse, List.length_take, List.length_drop, Nat.zero_le, vin_clo, vix_clo, letB, cloB_def, opnB_def, asB_b, asI_i, asL_l, lsP_0, lsP_S, slP_0, slP_S, tok_0, tok_S, asP_ints, asP_3, comp2]
  exact H
theorem jz_tok {z : PV} (h : JZ z) : isTok z = false := h.nt
def pb_law_2a : Pst := (pSeq (pSet 8 (pC (.str [97, 98, 99, 100, 101, 102, 103, 104, 105, 106, 107, 108, 109, 110, 111, 112, 113, 114, 115, 116, 117, 118, 119, 120, 121, 122, 40, 41, 91, 93, 123, 125, 60, 62, 45])))
    (pSeq (pSet 9 (pMeth "str" vJoin (pC (.str [])) (pCons (pLc (pRange1 (pVar 7)) [11] (pGn 11) (pYes) (pN (pBin vIx (pVar 8) (pCall p__law_draw (pCons (pVar 5) (pCons (pC (.int 35)) (pNil))))))) (pNil))))
    (pIf (pOr (pNot (pB (pCall p__law_judged (pCons (pVar 9) (pNil))))) (pNot (pB (pCall p__law_judged (pCons (pCall p__law_variant (pCons (pVar 5) (pCons (pVar 9) (pNil)))) (pNil)))))) (pRet (pC (.bl false))) (pSkip))))
theorem law2_eq : pb_law_2 = pSeq (pSet 7 (pIfE (pB (pBin vEq (pVar 0) (pLst (pNil)))) (pC (.int 5)) (pBin vIx (pLst (pConsD (pCall p__law_draw (pCons (pVar 5) (pCons (pC (.int 20)) (pNil)))) (pConsD (pC (.int 400)) (pNil)))) (pCall p__law_draw (pCons (pVar 5) (pCons (pC (.int 2)) (pNil)))))))
    pb_law_2a := rfl
/-- a text of drawn signs, judged; then a variant of it -/
theorem wL_turn {D : Ep} {o : Pool} {n : Int} {ns : List Int} {k : Nat} {c j : Int} {t1 t2 t7 t8 t9 : Option PV} (hb : Bs n o) (hn : n < 100000)
    (H : ∀ t7 t8 t9 o', ntO t7 = true → ntO t8 = true → ntO t9 = true → Bs (n + 1000) o' → D.nx [some (.scr ns), t1, t2, some (.int (k : Nat)), some (.int c), some .tok, some (.int j), t7, t8, t9, none, none] o') :
    Ws (pb_law_2 [some (.scr ns), t1, t2, some (.int (k : Nat)), some (.int c), some .tok, some (.int j), t7, t8, t9, none, none] o) D := by
  have key : ∀ (m : Nat) (mp : PV) (n' : Int) (o1 : Pool), PV.int (m : Nat) = mp → m ≤ 400 → Bs n' o1 → n' ≤ n + 4 → Ws (pb_law_2a [some (.scr ns), t1, t2, some (.int (k : Nat)), some (.int c), some .tok, some (.int j), some mp, t8, t9, none, none] o1) D := fun m mp n' o1 hmp hm hb1 hn' => by
    subst hmp
    unfold pb_law_2a
    simp (decide := true) (disch := first | assumption | omega | (simp (decide := true) only [cplx_l, cplx_t, cplx_n, cplx_c, Bool.or_true, Bool.true_or])) only [↓reduceIte, reduceCtorEq, or_true, true_or, or_false, false_or, and_false, false_and, ↓sts_0, ↓sts_S, ↓wo_gn, ↓wo_gnN, ↓wo_gt2, ↓wo_gtt, ↓wo_gs0, ↓wq_var0, ↓wq_varS, ↓ws_seq, ↓ws_skip, ↓ws_break, ↓ws_cont, ↓ws_if, ↓ws_ifx, ↓ws_expr, ↓ws_ret, ↓ws_retN, ↓hs_set, ↓hs_setx, ↓hs_par, ↓ws_asg, ↓hs_aug, ↓hs_app, ↓hs_ext, ↓hs_mut, ↓hs_store, ↓hs_storex, ↓ws_for, ↓ws_forN, ↓ws_nx, ↓ws_rt, ↓ws_bk, ↓ws_ct, ↓ws_no, ↓hs_pool, ↓hs_tokSet, ↓wo_some, ↓wo_none, ↓wo_map, ↓wo_if, ↓wo_gs, ↓wq_ok, ↓wq_no, ↓wq_of, ↓wq_C, ↓wq_n, ↓wq_bin, ↓wq_un, ↓wq_b1, ↓wq_nil, ↓wq_cons, ↓wq_consD, ↓wq_tup, ↓wq_lst, ↓hq_B, ↓hq_andV, ↓hq_orV, ↓hq_notV, ↓wq_and, ↓wq_or, ↓wq_not, ↓wq_ifE, ↓wq_yes, ↓hq_chain, ↓wq_call, ↓wq_callK, ↓hq_callP, ↓wq_meth, ↓wq_methD, isPD_d, vget_d, vrevs_s, vsplit_s, ↓wq_iter, ↓wq_enum, ↓hq_range1, ↓hq_range2, ↓hq_range3, ↓hq_range3p, vrepl_s, ↓hq_zipL, ↓wq_slice, ↓wq_noO, ↓hq_someO, ↓wq_isi, ↓wq_revL, ↓wq_lc, ↓wq_lcN, ↓hq_pop, ↓wq_binx, ↓hq_bx, ↓wq_orx, ↓hq_tokIx, ↓wq_disp, ↓wq_pnil, ↓wq_pcons, vadd_ii, vadd_ss, vadd_ll, vadd_sl, viadd_ii, viadd_ss, vsub_ii, vmul_ii, vmul_si, vmul_li, vdiv_ii, vmod_ii, vpow_ii, vneg_i, veq_ii, veq_ss, veq_bb, vne_ii, vne_ss, vne_bb, veq_g, vne_g, cplx_l, cplx_t, cplx_n, cplx_c, okd_l, okd_t, okd_s, okd_i, okd_b, okd_n, okd_c, eqv_ll, eqv_tt, eqv_lt, eqv_tl, eqv_ii, eqv_ss, eqv_bb, eqv_nn, eqv_nt, eqv_tn, eqv_ns, eqv_sn, eqv_st, eqv_ts, eqv_si, eqv_is, eqv_in, eqv_ni, eqv_sl, eqv_ls, eqv_nl, eqv_ln, eqv_cl0, eqvs_nil, eqvs_cons, eqvs_n1, eqvs_1n, eqvs_nl, vlt_ii, vle_ii, vgt_ii, vge_ii, vlt_ss, vle_ss, vgt_ss, vge_ss, vis_n, visNot_n, vis_b, visNot_b, isNon_n, isNon_t, isNon_l, isNon_s, isNon_i, vix_s, vix_l, vix_t, vix_c, vix_d, keyP_i, keyP_s, vin_ss, vnin_ss, vin_l, vnin_l, vcut_s, vcut_l, vcut_c, vlen_s, vlen_l, vlen_t, vlen_c, vlen_d, vint_b, vint_i, vabs_i, vmax_ii, vmin_ii, vlist_s, vlist_l, vlist_t, vtuple_l, vtupleA_l, vtupleA_s, vaddr_ll, vsorted_l, psrc_s, psrc_l, psrc_t, psrc_c, penum_s, penum_l, penum_c, vjoin_c, vsindex, isPT_s, isPT_l, pty_n, pty_b, pty_i, pty_s, pty_l, pty_t, pty_d, isTok_n, isTok_b, isTok_i, isTok_s, isTok_l, isTok_t, isTok_d, noL_n, noL_b, noL_i, noL_s, noL_t, noLs_nl, noLs_c, noLs_ints, noLs_chs, noLs_strs, noLs_rev, perm_1, perm_11, perm_02, perm_20, pat0, pat1, pat2, pat3, iat0, iat1, iat2, List.getElem?_cons_zero, List.getElem?_cons_succ, pwipe, List.map_cons, List.map_nil, List.length_cons, List.length_nil, List.length_map, List.replicate, List.cons_append, List.nil_append, List.set_cons_succ, List.set_cons_zero, Option.map_some, Option.map_none, Option.isSome_some, Option.isSome_none, Option.bind_some, PV.bl.injEq, PV.int.injEq, PV.str.injEq, Option.some.injEq, exists_eq_left', exists_eq_left, if_true, true_and, and_true, and_self, Bool.and_self, Bool.and_true, Bool.true_and, Bool.and_false, Bool.false_and, List.any_cons, List.any_nil, List.all_cons, List.all_nil, Bool.or_false, Bool.or_true, Bool.true_or, Bool.false_or, Bool.not_true, Bool.not_false, if_false, Bool.false_eq_true, not_false_eq_true, beq_self_eq_true, decide_true, decide_false, line_t, line_l, small_t, fits_t, chP_len, chP_nol, chP_okd, chP_nil, List.length_append, List.length_reverse, List.length_take, List.length_drop, Nat.zero_le, vin_clo, vix_clo, letB, cloB_def, opnB_def, asB_b, asI_i, asL_l, lsP_0, lsP_S, slP_0, slP_S, tok_0, tok_S, asP_ints, asP_3]
    rw [show ((m : Nat) : Int).toNat = m from rfl, rangeP_eq]
    refine ploopC_wp (fun its acc o' => ∃ (a : Int) (q : Nat) (w : List Nat), its = rP a q ∧ acc = chP w ∧ w.length + q = m ∧ (∀ c ∈ w, c < 1000) ∧ Bs (n' + w.length) o') ?_ ?_ _ _ _ ⟨_, m, [], rfl, rfl, by simp, by simp, hb1.le (by simp)⟩
    · rintro acc o' ⟨a, q, w, hit, rfl, hwq, hw, hb'⟩
      have hl : w.length ≤ 10000000 := by omega
      have hj := w_judged (jz_str hw (by omega)) (o := o')
      simp (decide := true) (disch := first | assumption | omega | (simp (decide := true) only [cplx_l, cplx_t, cplx_n, cplx_c, Bool.or_true, Bool.true_or])) only [↓reduceIte, reduceCtorEq, or_true, true_or, or_false, false_or, and_false, false_and, ↓sts_0, ↓sts_S, ↓wo_gn, ↓wo_gnN, ↓wo_gt2, ↓wo_gtt, ↓wo_gs0, ↓wq_var0, ↓wq_varS, ↓ws_seq, ↓ws_skip, ↓ws_break, ↓ws_cont, ↓ws_if, ↓ws_ifx, ↓ws_expr, ↓ws_ret, ↓ws_retN, ↓hs_set, ↓hs_setx, ↓hs_par, ↓ws_asg, ↓hs_aug, ↓hs_app, ↓hs_ext, ↓hs_mut, ↓hs_store, ↓hs_storex, ↓ws_for, ↓ws_forN, ↓ws_nx, ↓ws_rt, ↓ws_bk, ↓ws_ct, ↓ws_no, ↓hs_pool, ↓hs_tokSet, ↓wo_some, ↓wo_none, ↓wo_map, ↓wo_if, ↓wo_gs, ↓wq_ok, ↓wq_no, ↓wq_of, ↓wq_C, ↓wq_n, ↓wq_bin, ↓wq_un, ↓wq_b1, ↓wq_nil, ↓wq_cons, ↓wq_consD, ↓wq_tup, ↓wq_lst, ↓hq_B, ↓hq_andV, ↓hq_orV, ↓hq_notV, ↓wq_and, ↓wq_or, ↓wq_not, ↓wq_ifE, ↓wq_yes, ↓hq_chain, ↓wq_call, ↓wq_callK, ↓hq_callP, ↓wq_meth, ↓wq_methD, isPD_d, vget_d, vrevs_s, vsplit_s, ↓wq_iter, ↓wq_enum, ↓hq_range1, ↓hq_range2, ↓hq_range3, ↓hq_range3p, vrepl_s, ↓hq_zipL, ↓wq_slice, ↓wq_noO, ↓hq_someO, ↓wq_isi, ↓wq_revL, ↓wq_lc, ↓wq_lcN, ↓hq_pop, ↓wq_binx, ↓hq_bx, ↓wq_orx, ↓hq_tokIx, ↓wq_disp, ↓wq_pnil, ↓wq_pcons, vadd_ii, vadd_ss, vadd_ll, vadd_sl, viadd_ii, viadd_ss, vsub_ii, vmul_ii, vmul_si, vmul_li, vdiv_ii, vmod_ii, vpow_ii, vneg_i, veq_ii, veq_ss, veq_bb, vne_ii, vne_ss, vne_bb, veq_g, vne_g, cplx_l, cplx_t, cplx_n, cplx_c, okd_l, okd_t, okd_s, okd_i, okd_b, okd_n, okd_c, eqv_ll, eqv_tt, eqv_lt, eqv_tl, eqv_ii, eqv_ss, eqv_bb, eqv_nn, eqv_nt, eqv_tn, eqv_ns, eqv_sn, eqv_st, eqv_ts, eqv_si, eqv_is, eqv_in, eqv_ni, eqv_sl, eqv_ls, eqv_nl, eqv_ln, eqv_cl0, eqvs_nil, eqvs_cons, eqvs_n1, eqvs_1n, eqvs_nl, vlt_ii, vle_ii, vgt_ii, vge_ii, vlt_ss, vle_ss, vgt_ss, vge_ss, vis_n, visNot_n, vis_b, visNot_b, isNon_n, isNon_t, isNon_l, isNon_s, isNon_i, vix_s, vix_l, vix_t, vix_c, vix_d, keyP_i, keyP_s, vin_ss, vnin_ss, vin_l, vnin_l, vcut_s, vcut_l, vcut_c, vlen_s, vlen_l, vlen_t, vlen_c, vlen_d, vint_b, vint_i, vabs_i, vmax_ii, vmin_ii, vlist_s, vlist_l, vlist_t, vtuple_l, vtupleA_l, vtupleA_s, vaddr_ll, vsorted_l, psrc_s, psrc_l, psrc_t, psrc_c, penum_s, penum_l, penum_c, vjoin_c, vsindex, isPT_s, isPT_l, pty_n, pty_b, pty_i, pty_s, pty_l, pty_t, pty_d, isTok_n, isTok_b, isTok_i, isTok_s, isTok_l, isTok_t, isTok_d, noL_n, noL_b, noL_i, noL_s, noL_t, noLs_nl, noLs_c, noLs_ints, noLs_chs, noLs_strs, noLs_rev, perm_1, perm_11, perm_02, perm_20, pat0, pat1, pat2, pat3, iat0, iat1, iat2, List.getElem?_cons_zero, List.getElem?_cons_succ, pwipe, List.map_cons, List.map_nil, List.length_cons, List.length_nil, List.length_map, List.replicate, List.cons_append, List.nil_append, List.set_cons_succ, List.set_cons_zero, Option.map_some, Option.map_none, Option.isSome_some, Option.isSome_none, Option.bind_some, PV.bl.injEq, PV.int.injEq, PV.str.injEq, Option.some.injEq, exists_eq_left', exists_eq_left, if_true, true_and, and_true, and_self, Bool.and_self, Bool.and_true, Bool.true_and, Bool.and_false, Bool.false_and, List.any_cons, List.any_nil, List.all_cons, List.all_nil, Bool.or_false, Bool.or_true, Bool.true_or, Bool.false_or, Bool.not_true, Bool.not_false, if_false, Bool.false_eq_true, not_false_eq_true, beq_self_eq_true, decide_true, decide_false, line_t, line_l, small_t, fits_t, chP_len, chP_nol, chP_okd, chP_nil, List.length_append, List.length_reverse, List.length_take, List.length_drop, Nat.zero_le, vin_clo, vix_clo, letB, cloB_def, opnB_def, asB_b, asI_i, asL_l, lsP_0, lsP_S, slP_0, slP_S, tok_0, tok_S, asP_ints, asP_3, vjoin_P hl, hj]
      refine (wS_variant hb' (by omega) (by omega) hw).mono fun v o2 ⟨hv, hb2⟩ => ?_
      have hj2 := w_judged hv (o := o2)
      simp (decide := true) (disch := first | assumption | omega | (simp (decide := true) only [cplx_l, cplx_t, cplx_n, cplx_c, Bool.or_true, Bool.true_or])) only [↓reduceIte, reduceCtorEq, or_true, true_or, or_false, false_or, and_false, false_and, ↓sts_0, ↓sts_S, ↓wo_gn, ↓wo_gnN, ↓wo_gt2, ↓wo_gtt, ↓wo_gs0, ↓wq_var0, ↓wq_varS, ↓ws_seq, ↓ws_skip, ↓ws_break, ↓ws_cont, ↓ws_if, ↓ws_ifx, ↓ws_expr, ↓ws_ret, ↓ws_retN, ↓hs_set, ↓hs_setx, ↓hs_par, ↓ws_asg, ↓hs_aug, ↓hs_app, ↓hs_ext, ↓hs_mut, ↓hs_store, ↓hs_storex, ↓ws_for, ↓ws_forN, ↓ws_nx, ↓ws_rt, ↓ws_bk, ↓ws_ct, ↓ws_no, ↓hs_pool, ↓hs_tokSet, ↓wo_some, ↓wo_none, ↓wo_map, ↓wo_if, ↓wo_gs, ↓wq_ok, ↓wq_no, ↓wq_of, ↓wq_C, ↓wq_n, ↓wq_bin, ↓wq_un, ↓wq_b1, ↓wq_nil, ↓wq_cons, ↓wq_consD, ↓wq_tup, ↓wq_lst, ↓hq_B, ↓hq_andV, ↓hq_orV, ↓hq_notV, ↓wq_and, ↓wq_or, ↓wq_not, ↓wq_ifE, ↓wq_yes, ↓hq_chain, ↓wq_call, ↓wq_callK, ↓hq_callP, ↓wq_meth, ↓wq_methD, isPD_d, vget_d, vrevs_s, vsplit_s, ↓wq_iter, ↓wq_enum, ↓hq_range1, ↓hq_range2, ↓hq_range3, ↓hq_range3p, vrepl_s, ↓hq_zipL, ↓wq_slice, ↓wq_noO, ↓hq_someO, ↓wq_isi, ↓wq_revL, ↓wq_lc, ↓wq_lcN, ↓hq_pop, ↓wq_binx, ↓hq_bx, ↓wq_orx, ↓hq_tokIx, ↓wq_disp, ↓wq_pnil, ↓wq_pcons, vadd_ii, vadd_ss, vadd_ll, vadd_sl, viadd_ii, viadd_ss, vsub_ii, vmul_ii, vmul_si, vmul_li, vdiv_ii, vmod_ii, vpow_ii, vneg_i, veq_ii, veq_ss, veq_bb, vne_ii, vne_ss, vne_bb, veq_g, vne_g, cplx_l, cplx_t, cplx_n, cplx_c, okd_l, okd_t, okd_s, okd_i, okd_b, okd_n, okd_c, eqv_ll, eqv_tt, eqv_lt, eqv_tl, eqv_ii, eqv_ss, eqv_bb, eqv_nn, eqv_nt, eqv_tn, eqv_ns, eqv_sn, eqv_st, eqv_ts, eqv_si, eqv_is, eqv_in, eqv_ni, eqv_sl, eqv_ls, eqv_nl, eqv_ln, eqv_cl0, eqvs_nil, eqvs_cons, eqvs_n1, eqvs_1n, eqvs_nl, vlt_ii, vle_ii, vgt_ii, vge_ii, vlt_ss, vle_ss, vgt_ss, vge_ss, vis_n, visNot_n, vis_b, visNot_b, isNon_n, isNon_t, isNon_l, isNon_s, isNon_i, vix_s, vix_l, vix_t, vix_c, vix_d, keyP_i, keyP_s, vin_ss, vnin_ss, vin_l, vnin_l, vcut_s, vcut_l, vcut_c, vlen_s, vlen_l, vlen_t, vlen_c, vlen_d, vint_b, vint_i, vabs_i, vmax_ii, vmin_ii, vlist_s, vlist_l, vlist_t, vtuple_l, vtupleA_l, vtupleA_s, vaddr_ll, vsorted_l, psrc_s, psrc_l, psrc_t, psrc_c, penum_s, penum_l, penum_c, vjoin_c, vsindex, isPT_s, isPT_l, pty_n, pty_b, pty_i, pty_s, pty_l, pty_t, pty_d, isTok_n, isTok_b, isTok_i, isTok_s, isTok_l, isTok_t, isTok_d, noL_n, noL_b, noL_i, noL_s, noL_t, noLs_nl, noLs_c, noLs_ints, noLs_chs, noLs_strs, noLs_rev, perm_1, perm_11, perm_02, perm_20, pat0, pat1, pat2, pat3, iat0, iat1, iat2, List.getElem?_cons_zero, List.getElem?_cons_succ, pwipe, List.map_cons, List.map_nil, List.length_cons, List.length_nil, List.length_map, List.replicate, List.cons_append, List.nil_append, List.set_cons_succ, List.set_cons_zero, Option.map_some, Option.map_none, Option.isSome_some, Option.isSome_none, Option.bind_some, PV.bl.injEq, PV.int.injEq, PV.str.injEq, Option.some.injEq, exists_eq_left', exists_eq_left, if_true, true_and, and_true, and_self, Bool.and_self, Bool.and_true, Bool.true_and, Bool.and_false, Bool.false_and, List.any_cons, List.any_nil, List.all_cons, List.all_nil, Bool.or_false, Bool.or_true, Bool.true_or, Bool.false_or, Bool.not_true, Bool.not_false, if_false, Bool.false_eq_true, not_false_eq_true, beq_self_eq_true, decide_true, decide_false, line_t, line_l, small_t, fits_t, chP_len, chP_nol, chP_okd, chP_nil, List.length_append, List.length_reverse, List.length_take, List.length_drop, Nat.zero_le, vin_clo, vix_clo, letB, cloB_def, opnB_def, asB_b, asI_i, asL_l, lsP_0, lsP_S, slP_0, slP_S, tok_0, tok_S, asP_ints, asP_3, hj2, hv.nt]
      exact H _ _ _ _ rfl rfl rfl (hb2.le (by omega))
    · rintro it r acc o' ⟨a, q, w, hit, rfl, hwq, hw, hb'⟩
      cases q with
      | zero => cases hit
      | succ q =>
        obtain ⟨rfl, rfl⟩ := List.cons.inj (show it :: r = [.int _] :: rP _ q from hit)
        simp (decide := true) (disch := first | assumption | omega | (simp (decide := true) only [cplx_l, cplx_t, cplx_n, cplx_c, Bool.or_true, Bool.true_or])) only [↓reduceIte, reduceCtorEq, or_true, true_or, or_false, false_or, and_false, false_and, ↓sts_0, ↓sts_S, ↓wo_gn, ↓wo_gnN, ↓wo_gt2, ↓wo_gtt, ↓wo_gs0, ↓wq_var0, ↓wq_varS, ↓ws_seq, ↓ws_skip, ↓ws_break, ↓ws_cont, ↓ws_if, ↓ws_ifx, ↓ws_expr, ↓ws_ret, ↓ws_retN, ↓hs_set, ↓hs_setx, ↓hs_par, ↓ws_asg, ↓hs_aug, ↓hs_app, ↓hs_ext, ↓hs_mut, ↓hs_store, ↓hs_storex, ↓ws_for, ↓ws_forN, ↓ws_nx, ↓ws_rt, ↓ws_bk, ↓ws_ct, ↓ws_no, ↓hs_pool, ↓hs_tokSet, ↓wo_some, ↓wo_none, ↓wo_map, ↓wo_if, ↓wo_gs, ↓wq_ok, ↓wq_no, ↓wq_of, ↓wq_C, ↓wq_n, ↓wq_bin, ↓wq_un, ↓wq_b1, ↓wq_nil, ↓wq_cons, ↓wq_consD, ↓wq_tup, ↓wq_lst, ↓hq_B, ↓hq_andV, ↓hq_orV, ↓hq_notV, ↓wq_and, ↓wq_or, ↓wq_not, ↓wq_ifE, ↓wq_yes, ↓hq_chain, ↓wq_call, ↓wq_callK, ↓hq_callP, ↓wq_meth, ↓wq_methD, isPD_d, vget_d, vrevs_s, vsplit_s, ↓wq_iter, ↓wq_enum, ↓hq_range1, ↓hq_range2, ↓hq_range3, ↓hq_range3p, vrepl_s, ↓hq_zipL, ↓wq_slice, ↓wq_noO, ↓hq_someO, ↓wq_isi, ↓wq_revL, ↓wq_lc, ↓wq_lcN, ↓hq_pop, ↓wq_binx, ↓hq_bx, ↓wq_orx, ↓hq_tokIx, ↓wq_disp, ↓wq_pnil, ↓wq_pcons, vadd_ii, vadd_ss, vadd_ll, vadd_sl, viadd_ii, viadd_ss, vsub_ii, vmul_ii, vmul_si, vmul_li, vdiv_ii, vmod_ii, vpow_ii, vneg_i, veq_ii, veq_ss, veq_bb, vne_ii, vne_ss, vne_bb, veq_g, vne_g, cplx_l, cplx_t, cplx_n, cplx_c, okd_l, okd_t, okd_s, okd_i, okd_b, okd_n, okd_c, eqv_ll, eqv_tt, eqv_lt, eqv_tl, eqv_ii, eqv_ss, eqv_bb, eqv_nn, eqv_nt, eqv_tn, eqv_ns, eqv_sn, eqv_st, eqv_ts, eqv_si, eqv_is, eqv_in, eqv_ni, eqv_sl, eqv_ls, eqv_nl, eqv_ln, eqv_cl0, eqvs_nil, eqvs_cons, eqvs_n1, eqvs_1n, eqvs_nl, vlt_ii, vle_ii, vgt_ii, vge_ii, vlt_ss, vle_ss, vgt_ss, vge_ss, vis_n, visNot_n, vis_b, visNot_b, isNon_n, isNon_t, isNon_l, isNon_s, isNon_i, vix_s, vix_l, vix_t, vix_c, vix_d, keyP_i, keyP_s, vin_ss, vnin_ss, vin_l, vnin_l, vcut_s, vcut_l, vcut_c, vlen_s, vlen_l, vlen_t, vlen_c, vlen_d, vint_b, vint_i, vabs_i, vmax_ii, vmin_ii, vlist_s, vlist_l, vlist_t, vtuple_l, vtupleA_l, vtupleA_s, vaddr_ll, vsorted_l, psrc_s, psrc_l, psrc_t, psrc_c, penum_s, penum_l, penum_c, vjoin_c, vsindex, isPT_s, isPT_l, pty_n, pty_b, pty_i, pty_s, pty_l, pty_t, pty_d, isTok_n, isTok_b, isTok_i, isTok_s, isTok_l, isTok_t, isTok_d, noL_n, noL_b, noL_i, noL_s, noL_t, noLs_nl, noLs_c, noLs_ints, noLs_chs, noLs_strs, noLs_rev, perm_1, perm_11, perm_02, perm_20, pat0, pat1, pat2, pat3, iat0, iat1, iat2, List.getElem?_cons_zero, List.getElem?_cons_succ, pwipe, List.map_cons, List.map_nil, List.length_cons, List.length_nil, List.length_map, List.replicate, List.cons_append, List.nil_append, List.set_cons_succ, List.set_cons_zero, Option.map_some, Option.map_none, Option.isSome_some, Option.isSome_none, Option.bind_some, PV.bl.injEq, PV.int.injEq, PV.str.injEq, Option.some.injEq, exists_eq_left', exists_eq_left, if_true, true_and, and_true, and_self, Bool.and_self, Bool.and_true, Bool.true_and, Bool.and_false, Bool.false_and, List.any_cons, List.any_nil, List.all_cons, List.all_nil, Bool.or_false, Bool.or_true, Bool.true_or, Bool.false_or, Bool.not_true, Bool.not_false, if_false, Bool.false_eq_true, not_false_eq_true, beq_self_eq_true, decide_true, decide_false, line_t, line_l, small_t, fits_t, chP_len, chP_nol, chP_okd, chP_nil, List.length_append, List.length_reverse, List.length_take, List.length_drop, Nat.zero_le, vin_clo, vix_clo, letB, cloB_def, opnB_def, asB_b, asI_i, asL_l, lsP_0, lsP_S, slP_0, slP_S, tok_0, tok_S, asP_ints, asP_3]
        refine (wS_drawP hb' (by omega) (by decide) (by decide)).mono fun v o2 ⟨d, ev, d0, d1, hb2⟩ => ?_
        subst ev
        simp (decide := true) (disch := first | assumption | omega | (simp (decide := true) only [cplx_l, cplx_t, cplx_n, cplx_c, Bool.or_true, Bool.true_or])) only [↓reduceIte, reduceCtorEq, or_true, true_or, or_false, false_or, and_false, false_and, ↓sts_0, ↓sts_S, ↓wo_gn, ↓wo_gnN, ↓wo_gt2, ↓wo_gtt, ↓wo_gs0, ↓wq_var0, ↓wq_varS, ↓ws_seq, ↓ws_skip, ↓ws_break, ↓ws_cont, ↓ws_if, ↓ws_ifx, ↓ws_expr, ↓ws_ret, ↓ws_retN, ↓hs_set, ↓hs_setx, ↓hs_par, ↓ws_asg, ↓hs_aug, ↓hs_app, ↓hs_ext, ↓hs_mut, ↓hs_store, ↓hs_storex, ↓ws_for, ↓ws_forN, ↓ws_nx, ↓ws_rt, ↓ws_bk, ↓ws_ct, ↓ws_no, ↓hs_pool, ↓hs_tokSet, ↓wo_some, ↓wo_none, ↓wo_map, ↓wo_if, ↓wo_gs, ↓wq_ok, ↓wq_no, ↓wq_of, ↓wq_C, ↓wq_n, ↓wq_bin, ↓wq_un, ↓wq_b1, ↓wq_nil, ↓wq_cons, ↓wq_consD, ↓wq_tup, ↓wq_lst, ↓hq_B, ↓hq_andV, ↓hq_orV, ↓hq_notV, ↓wq_and, ↓wq_or, ↓wq_not, ↓wq_ifE, ↓wq_yes, ↓hq_chain, ↓wq_call, ↓wq_callK, ↓hq_callP, ↓wq_meth, ↓wq_methD, isPD_d, vget_d, vrevs_s, vsplit_s, ↓wq_iter, ↓wq_enum, ↓hq_range1, ↓hq_range2, ↓hq_range3, ↓hq_range3p, vrepl_s, ↓hq_zipL, ↓wq_slice, ↓wq_noO, ↓hq_someO, ↓wq_isi, ↓wq_revL, ↓wq_lc, ↓wq_lcN, ↓hq_pop, ↓wq_binx, ↓hq_bx, ↓wq_orx, ↓hq_tokIx, ↓wq_disp, ↓wq_pnil, ↓wq_pcons, vadd_ii, vadd_ss, vadd_ll, vadd_sl, viadd_ii, viadd_ss, vsub_ii, vmul_ii, vmul_si, vmul_li, vdiv_ii, vmod_ii, vpow_ii, vneg_i, veq_ii, veq_ss, veq_bb, vne_ii, vne_ss, vne_bb, veq_g, vne_g, cplx_l, cplx_t, cplx_n, cplx_c, okd_l, okd_t, okd_s, okd_i, okd_b, okd_n, okd_c, eqv_ll, eqv_tt, eqv_lt, eqv_tl, eqv_ii, eqv_ss, eqv_bb, eqv_nn, eqv_nt, eqv_tn, eqv_ns, eqv_sn, eqv_st, eqv_ts, eqv_si, eqv_is, eqv_in, eqv_ni, eqv_sl, eqv_ls, eqv_nl, eqv_ln, eqv_cl0, eqvs_nil, eqvs_cons, eqvs_n1, eqvs_1n, eqvs_nl, vlt_ii, vle_ii, vgt_ii, vge_ii, vlt_ss, vle_ss, vgt_ss, vge_ss, vis_n, visNot_n, vis_b, visNot_b, isNon_n, isNon_t, isNon_l, isNon_s, isNon_i, vix_s, vix_l, vix_t, vix_c, vix_d, keyP_i, keyP_s, vin_ss, vnin_ss, vin_l, vnin_l, vcut_s, vcut_l, vcut_c, vlen_s, vlen_l, vlen_t, vlen_c, vlen_d, vint_b, vint_i, vabs_i, vmax_ii, vmin_ii, vlist_s, vlist_l, vlist_t, vtuple_l, vtupleA_l, vtupleA_s, vaddr_ll, vsorted_l, psrc_s, psrc_l, psrc_t, psrc_c, penum_s, penum_l, penum_c, vjoin_c, vsindex, isPT_s, isPT_l, pty_n, pty_b, pty_i, pty_s, pty_l, pty_t, pty_d, isTok_n, isTok_b, isTok_i, isTok_s, isTok_l, isTok_t, isTok_d, noL_n, noL_b, noL_i, noL_s, noL_t, noLs_nl, noLs_c, noLs_ints, noLs_chs, noLs_strs, noLs_rev, perm_1, perm_11, perm_02, perm_20, pat0, pat1, pat2, pat3, iat0, iat1, iat2, List.getElem?_cons_zero, List.getElem?_cons_succ, pwipe, List.map_cons, List.map_nil, List.length_cons, List.length_nil, List.length_map, List.replicate, List.cons_append, List.nil_append, List.set_cons_succ, List.set_cons_zero, Option.map_some, Option.map_none, Option.isSome_some, Option.isSome_none, Option.bind_some, PV.bl.injEq, PV.int.injEq, PV.str.injEq, Option.some.injEq, exists_eq_left', exists_eq_left, if_true, true_and, and_true, and_self, Bool.and_self, Bool.and_true, Bool.true_and, Bool.and_false, Bool.false_and, List.any_cons, List.any_nil, List.all_cons, List.all_nil, Bool.or_false, Bool.or_true, Bool.true_or, Bool.false_or, Bool.not_true, Bool.not_false, if_false, Bool.false_eq_true, not_false_eq_true, beq_self_eq_true, decide_true, decide_false, line_t, line_l, small_t, fits_t, chP_len, chP_nol, chP_okd, chP_nil, List.length_append, List.length_reverse, List.length_take, List.length_drop, Nat.zero_le, vin_clo, vix_clo, letB, cloB_def, opnB_def, asB_b, asI_i, asL_l, lsP_0, lsP_S, slP_0, slP_S, tok_0, tok_S, asP_ints, asP_3]
        refine wo_pick d0 (by simp; omega) fun z hz => ?_
        have hz1 : z < 1000 := by
          simp only [List.mem_cons, List.not_mem_nil, or_false] at hz
          omega
        have hl : (chP w).length < 10000000 := by rw [chP_len]; omega
        refine ⟨rfl, ⟨Nat.lt_of_lt_of_le hl (by decide), rfl⟩, _, q, w ++ [z], rfl, by rw [chP_app]; rfl, by rw [List.length_append, List.length_cons, List.length_nil]; omega, fun x hx => ?_, hb2.le (by rw [List.length_append, List.length_cons, List.length_nil]; omega)⟩
        rw [List.mem_append] at hx
        rcases hx with hx | hx
        · exact hw x hx
        · have : x = z := by simpa using hx
          rw [this]; exact hz1
  rw [law2_eq]
  by_cases hns : ns = []
  · subst hns
    simp (decide := true) (disch := first | assumption | omega | (simp (decide := true) only [cplx_l, cplx_t, cplx_n, cplx_c, Bool.or_true, Bool.true_or])) only [↓reduceIte, reduceCtorEq, or_true, true_or, or_false, false_or, and_false, false_and, ↓sts_0, ↓sts_S, ↓wo_gn, ↓wo_gnN, ↓wo_gt2, ↓wo_gtt, ↓wo_gs0, ↓wq_var0, ↓wq_varS, ↓ws_seq, ↓ws_skip, ↓ws_break, ↓ws_cont, ↓ws_if, ↓ws_ifx, ↓ws_expr, ↓ws_ret, ↓ws_retN, ↓hs_set, ↓hs_setx, ↓hs_par, ↓ws_asg, ↓hs_aug, ↓hs_app, ↓hs_ext, ↓hs_mut, ↓hs_store, ↓hs_storex, ↓ws_for, ↓ws_forN, ↓ws_nx, ↓ws_rt, ↓ws_bk, ↓ws_ct, ↓ws_no, ↓hs_pool, ↓hs_tokSet, ↓wo_some, ↓wo_none, ↓wo_map, ↓wo_if, ↓wo_gs, ↓wq_ok, ↓wq_no, ↓wq_of, ↓wq_C, ↓wq_n, ↓wq_bin, ↓wq_un, ↓wq_b1, ↓wq_nil, ↓wq_cons, ↓wq_consD, ↓wq_tup, ↓wq_lst, ↓hq_B, ↓hq_andV, ↓hq_orV, ↓hq_notV, ↓wq_and, ↓wq_or, ↓wq_not, ↓wq_ifE, ↓wq_yes, ↓hq_chain, ↓wq_call, ↓wq_callK, ↓hq_callP, ↓wq_meth, ↓wq_methD, isPD_d, vget_d, vrevs_s, vsplit_s, ↓wq_iter, ↓wq_enum, ↓hq_range1, ↓hq_range2, ↓hq_range3, ↓hq_range3p, vrepl_s, ↓hq_zipL, ↓wq_slice, ↓wq_noO, ↓hq_someO, ↓wq_isi, ↓wq_revL, ↓wq_lc, ↓wq_lcN, ↓hq_pop, ↓wq_binx, ↓hq_bx, ↓wq_orx, ↓hq_tokIx, ↓wq_disp, ↓wq_pnil, ↓wq_pcons, vadd_ii, vadd_ss, vadd_ll, vadd_sl, viadd_ii, viadd_ss, vsub_ii, vmul_ii, vmul_si, vmul_li, vdiv_ii, vmod_ii, vpow_ii, vneg_i, veq_ii, veq_ss, veq_bb, vne_ii, vne_ss, vne_bb, veq_g, vne_g, cplx_l, cplx_t, cplx_n, cplx_c, okd_l, okd_t, okd_s, okd_i, okd_b, okd_n, okd_c, eqv_ll, eqv_tt, eqv_lt, eqv_tl, eqv_ii, eqv_ss, eqv_bb, eqv_nn, eqv_nt, eqv_tn, eqv_ns, eqv_sn, eqv_st, eqv_ts, eqv_si, eqv_is, eqv_in, eqv_ni, eqv_sl, eqv_ls, eqv_nl, eqv_ln, eqv_cl0, eqvs_nil, eqvs_cons, eqvs_n1, eqvs_1n, eqvs_nl, vlt_ii, vle_ii, vgt_ii, vge_ii, vlt_ss, vle_ss, vgt_ss, vge_ss, vis_n, visNot_n, vis_b, visNot_b, isNon_n, isNon_t, isNon_l, isNon_s, isNon_i, vix_s, vix_l, vix_t, vix_c, vix_d, keyP_i, keyP_s, vin_ss, vnin_ss, vin_l, vnin_l, vcut_s, vcut_l, vcut_c, vlen_s, vlen_l, vlen_t, vlen_c, vlen_d, vint_b, vint_i, vabs_i, vmax_ii, vmin_ii, vlist_s, vlist_l, vlist_t, vtuple_l, vtupleA_l, vtupleA_s, vaddr_ll, vsorted_l, psrc_s, psrc_l, psrc_t, psrc_c, penum_s, penum_l, penum_c, vjoin_c, vsindex, isPT_s, isPT_l, pty_n, pty_b, pty_i, pty_s, pty_l, pty_t, pty_d, isTok_n, isTok_b, isTok_i, isTok_s, isTok_l, isTok_t, isTok_d, noL_n, noL_b, noL_i, noL_s, noL_t, noLs_nl, noLs_c, noLs_ints, noLs_chs, noLs_strs, noLs_rev, perm_1, perm_11, perm_02, perm_20, pat0, pat1, pat2, pat3, iat0, iat1, iat2, List.getElem?_cons_zero, List.getElem?_cons_succ, pwipe, List.map_cons, List.map_nil, List.length_cons, List.length_nil, List.length_map, List.replicate, List.cons_append, List.nil_append, List.set_cons_succ, List.set_cons_zero, Option.map_some, Option.map_none, Option.isSome_some, Option.isSome_none, Option.bind_some, PV.bl.injEq, PV.int.injEq, PV.str.injEq, Option.some.injEq, exists_eq_left', exists_eq_left, if_true, true_and, and_true, and_self, Bool.and_self, Bool.and_true, Bool.true_and, Bool.and_false, Bool.false_and, List.any_cons, List.any_nil, List.all_cons, List.all_nil, Bool.or_false, Bool.or_true, Bool.true_or, Bool.false_or, Bool.not_true, Bool.not_false, if_false, Bool.false_eq_true, not_false_eq_true, beq_self_eq_true, decide_true, decide_false, line_t, line_l, small_t, fits_t, chP_len, chP_nol, chP_okd, chP_nil, List.length_append, List.length_reverse, List.length_take, List.length_drop, Nat.zero_le, vin_clo, vix_clo, letB, cloB_def, opnB_def, asB_b, asI_i, asL_l, lsP_0, lsP_S, slP_0, slP_S, tok_0, tok_S, asP_ints, asP_3]
    exact key 5 _ n o rfl (by omega) hb (by omega)
  · simp (decide := true) (disch := first | assumption | omega | (simp (decide := true) only [cplx_l, cplx_t, cplx_n, cplx_c, Bool.or_true, Bool.true_or])) only [↓reduceIte, reduceCtorEq, or_true, true_or, or_false, false_or, and_false, false_and, ↓sts_0, ↓sts_S, ↓wo_gn, ↓wo_gnN, ↓wo_gt2, ↓wo_gtt, ↓wo_gs0, ↓wq_var0, ↓wq_varS, ↓ws_seq, ↓ws_skip, ↓ws_break, ↓ws_cont, ↓ws_if, ↓ws_ifx, ↓ws_expr, ↓ws_ret, ↓ws_retN, ↓hs_set, ↓hs_setx, ↓hs_par, ↓ws_asg, ↓hs_aug, ↓hs_app, ↓hs_ext, ↓hs_mut, ↓hs_store, ↓hs_storex, ↓ws_for, ↓ws_forN, ↓ws_nx, ↓ws_rt, ↓ws_bk, ↓ws_ct, ↓ws_no, ↓hs_pool, ↓hs_tokSet, ↓wo_some, ↓wo_none, ↓wo_map, ↓wo_if, ↓wo_gs, ↓wq_ok, ↓wq_no, ↓wq_of, ↓wq_C, ↓wq_n, ↓wq_bin, ↓wq_un, ↓wq_b1, ↓wq_nil, ↓wq_cons, ↓wq_consD, ↓wq_tup, ↓wq_lst, ↓hq_B, ↓hq_andV, ↓hq_orV, ↓hq_notV, ↓wq_and, ↓wq_or, ↓wq_not, ↓wq_ifE, ↓wq_yes, ↓hq_chain, ↓wq_call, ↓wq_callK, ↓hq_callP, ↓wq_meth, ↓wq_methD, isPD_d, vget_d, vrevs_s, vsplit_s, ↓wq_iter, ↓wq_enum, ↓hq_range1, ↓hq_range2, ↓hq_range3, ↓hq_range3p, vrepl_s, ↓hq_zipL, ↓wq_slice, ↓wq_noO, ↓hq_someO, ↓wq_isi, ↓wq_revL, ↓wq_lc, ↓wq_lcN, ↓hq_pop, ↓wq_binx, ↓hq_bx, ↓wq_orx, ↓hq_tokIx, ↓wq_disp, ↓wq_pnil, ↓wq_pcons, vadd_ii, vadd_ss, vadd_ll, vadd_sl, viadd_ii, viadd_ss, vsub_ii, vmul_ii, vmul_si, vmul_li, vdiv_ii, vmod_ii, vpow_ii, vneg_i, veq_ii, veq_ss, veq_bb, vne_ii, vne_ss, vne_bb, veq_g, vne_g, cplx_l, cplx_t, cplx_n, cplx_c, okd_l, okd_t, okd_s, okd_i, okd_b, okd_n, okd_c, eqv_ll, eqv_tt, eqv_lt, eqv_tl, eqv_ii, eqv_ss, eqv_bb, eqv_nn, eqv_nt, eqv_tn, eqv_ns, eqv_sn, eqv_st, eqv_ts, eqv_si, eqv_is, eqv_in, eqv_ni, eqv_sl, eqv_ls, eqv_nl, eqv_ln, eqv_cl0, eqvs_nil, eqvs_cons, eqvs_n1, eqvs_1n, eqvs_nl, vlt_ii, vle_ii, vgt_ii, vge_ii, vlt_ss, vle_ss, vgt_ss, vge_ss, vis_n, visNot_n, vis_b, visNot_b, isNon_n, isNon_t, isNon_l, isNon_s, isNon_i, vix_s, vix_l, vix_t, vix_c, vix_d, keyP_i, keyP_s, vin_ss, vnin_ss, vin_l, vnin_l, vcut_s, vcut_l, vcut_c, vlen_s, vlen_l, vlen_t, vlen_c, vlen_d, vint_b, vint_i, vabs_i, vmax_ii, vmin_ii, vlist_s, vlist_l, vlist_t, vtuple_l, vtupleA_l, vtupleA_s, vaddr_ll, vsorted_l, psrc_s, psrc_l, psrc_t, psrc_c, penum_s, penum_l, penum_c, vjoin_c, vsindex, isPT_s, isPT_l, pty_n, pty_b, pty_i, pty_s, pty_l, pty_t, pty_d, isTok_n, isTok_b, isTok_i, isTok_s, isTok_l, isTok_t, isTok_d, noL_n, noL_b, noL_i, noL_s, noL_t, noLs_nl, noLs_c, noLs_ints, noLs_chs, noLs_strs, noLs_rev, perm_1, perm_11, perm_02, perm_20, pat0, pat1, pat2, pat3, iat0, iat1, iat2, List.getElem?_cons_zero, List.getElem?_cons_succ, pwipe, List.map_cons, List.map_nil, List.length_cons, List.length_nil, List.length_map, List.replicate, List.cons_append, List.nil_append, List.set_cons_succ, List.set_cons_zero, Option.map_some, Option.map_none, Option.isSome_some, Option.isSome_none, Option.bind_some, PV.bl.injEq, PV.int.injEq, PV.str.injEq, Option.some.injEq, exists_eq_left', exists_eq_left, if_true, true_and, and_true, and_self, Bool.and_self, Bool.and_true, Bool.true_and, Bool.and_false, Bool.false_and, List.any_cons, List.any_nil, List.all_cons, List.all_nil, Bool.or_false, Bool.or_true, Bool.true_or, Bool.false_or, Bool.not_true, Bool.not_false, if_false, Bool.false_eq_true, not_false_eq_true, beq_self_eq_true, decide_true, decide_false, line_t, line_l, small_t, fits_t, chP_len, chP_nol, chP_okd, chP_nil, List.length_append, List.length_reverse, List.length_take, List.length_drop, Nat.zero_le, vin_clo, vix_clo, letB, cloB_def, opnB_def, asB_b, asI_i, asL_l, lsP_0, lsP_S, slP_0, slP_S, tok_0, tok_S, asP_ints, asP_3, show decide (ns = []) = false by simp [hns]]
    refine (wS_drawP hb (by omega) (by decide) (by decide)).mono fun v o1 ⟨d, ev, d0, d1, hb1⟩ => ?_
    subst ev
    simp (decide := true) (disch := first | assumption | omega | (simp (decide := true) only [cplx_l, cplx_t, cplx_n, cplx_c, Bool.or_true, Bool.true_or])) only [↓reduceIte, reduceCtorEq, or_true, true_or, or_false, false_or, and_false, false_and, ↓sts_0, ↓sts_S, ↓wo_gn, ↓wo_gnN, ↓wo_gt2, ↓wo_gtt, ↓wo_gs0, ↓wq_var0, ↓wq_varS, ↓ws_seq, ↓ws_skip, ↓ws_break, ↓ws_cont, ↓ws_if, ↓ws_ifx, ↓ws_expr, ↓ws_ret, ↓ws_retN, ↓hs_set, ↓hs_setx, ↓hs_par, ↓ws_asg, ↓hs_aug, ↓hs_app, ↓hs_ext, ↓hs_mut, ↓hs_store, ↓hs_storex, ↓ws_for, ↓ws_forN, ↓ws_nx, ↓ws_rt, ↓ws_bk, ↓ws_ct, ↓ws_no, ↓hs_pool, ↓hs_tokSet, ↓wo_some, ↓wo_none, ↓wo_map, ↓wo_if, ↓wo_gs, ↓wq_ok, ↓wq_no, ↓wq_of, ↓wq_C, ↓wq_n, ↓wq_bin, ↓wq_un, ↓wq_b1, ↓wq_nil, ↓wq_cons, ↓wq_consD, ↓wq_tup, ↓wq_lst, ↓hq_B, ↓hq_andV, ↓hq_orV, ↓hq_notV, ↓wq_and, ↓wq_or, ↓wq_not, ↓wq_ifE, ↓wq_yes, ↓hq_chain, ↓wq_call, ↓wq_callK, ↓hq_callP, ↓wq_meth, ↓wq_methD, isPD_d, vget_d, vrevs_s, vsplit_s, ↓wq_iter, ↓wq_enum, ↓hq_range1, ↓hq_range2, ↓hq_range3, ↓hq_range3p, vrepl_s, ↓hq_zipL, ↓wq_slice, ↓wq_noO, ↓hq_someO, ↓wq_isi, ↓wq_revL, ↓wq_lc, ↓wq_lcN, ↓hq_pop, ↓wq_binx, ↓hq_bx, ↓wq_orx, ↓hq_tokIx, ↓wq_disp, ↓wq_pnil, ↓wq_pcons, vadd_ii, vadd_ss, vadd_ll, vadd_sl, viadd_ii, viadd_ss, vsub_ii, vmul_ii, vmul_si, vmul_li, vdiv_ii, vmod_ii, vpow_ii, vneg_i, veq_ii, veq_ss, veq_bb, vne_ii, vne_ss, vne_bb, veq_g, vne_g, cplx_l, cplx_t, cplx_n, cplx_c, okd_l, okd_t, okd_s, okd_i, okd_b, okd_n, okd_c, eqv_ll, eqv_tt, eqv_lt, eqv_tl, eqv_ii, eqv_ss, eqv_bb, eqv_nn, eqv_nt, eqv_tn, eqv_ns, eqv_sn, eqv_st, eqv_ts, eqv_si, eqv_is, eqv_in, eqv_ni, eqv_sl, eqv_ls, eqv_nl, eqv_ln, eqv_cl0, eqvs_nil, eqvs_cons, eqvs_n1, eqvs_1n, eqvs_nl, vlt_ii, vle_ii, vgt_ii, vge_ii, vlt_ss, vle_ss, vgt_ss, vge_ss, vis_n, visNot_n, vis_b, visNot_b, isNon_n, isNon_t, isNon_l, isNon_s, isNon_i, vix_s, vix_l, vix_t, vix_c, vix_d, keyP_i, keyP_s, vin_ss, vnin_ss, vin_l, vnin_l, vcut_s, vcut_l, vcut_c, vlen_s, vlen_l, vlen_t, vlen_c, vlen_d, vint_b, vint_i, vabs_i, vmax_ii, vmin_ii, vlist_s, vlist_l, vlist_t, vtuple_l, vtupleA_l, vtupleA_s, vaddr_ll, vsorted_l, psrc_s, psrc_l, psrc_t, psrc_c, penum_s, penum_l, penum_c, vjoin_c, vsindex, isPT_s, isPT_l, pty_n, pty_b, pty_i, pty_s, pty_l, pty_t, pty_d, isTok_n, isTok_b, isTok_i, isTok_s, isTok_l, isTok_t, isTok_d, noL_n, noL_b, noL_i, noL_s, noL_t, noLs_nl, noLs_c, noLs_ints, noLs_chs, noLs_strs, noLs_rev, perm_1, perm_11, perm_02, perm_20, pat0, pat1, pat2, pat3, iat0, iat1, iat2, List.getElem?_cons_zero, List.getElem?_cons_succ, pwipe, List.map_cons, List.map_nil, List.length_cons, List.length_nil, List.length_map, List.replicate, List.cons_append, List.nil_append, List.set_cons_succ, List.set_cons_zero, Option.map_some, Option.map_none, Option.isSome_some, Option.isSome_none, Option.bind_some, PV.bl.injEq, PV.int.injEq, PV.str.injEq, Option.some.injEq, exists_eq_left', exists_eq_left, if_true, true_and, and_true, and_self, Bool.and_self, Bool.and_true, Bool.true_and, Bool.and_false, Bool.false_and, List.any_cons, List.any_nil, List.all_cons, List.all_nil, Bool.or_false, Bool.or_true, Bool.true_or, Bool.false_or, Bool.not_true, Bool.not_false, if_false, Bool.false_eq_true, not_false_eq_true, beq_self_eq_true, decide_true, decide_false, line_t, line_l, small_t, fits_t, chP_len, chP_nol, chP_okd, chP_nil, List.length_append, List.length_reverse, List.length_take, List.length_drop, Nat.zero_le, vin_clo, vix_clo, letB, cloB_def, opnB_def, asB_b, asI_i, asL_l, lsP_0, lsP_S, slP_0, slP_S, tok_0, tok_S, asP_ints, asP_3]
    refine (wS_drawP hb1 (by omega) (by decide) (by decide)).mono fun v o2 ⟨e, ev, e0, e1, hb2⟩ => ?_
    subst ev
    simp (decide := true) (disch := first | assumption | omega | (simp (decide := true) only [cplx_l, cplx_t, cplx_n, cplx_c, Bool.or_true, Bool.true_or])) only [↓reduceIte, reduceCtorEq, or_true, true_or, or_false, false_or, and_false, false_and, ↓sts_0, ↓sts_S, ↓wo_gn, ↓wo_gnN, ↓wo_gt2, ↓wo_gtt, ↓wo_gs0, ↓wq_var0, ↓wq_varS, ↓ws_seq, ↓ws_skip, ↓ws_break, ↓ws_cont, ↓ws_if, ↓ws_ifx, ↓ws_expr, ↓ws_ret, ↓ws_retN, ↓hs_set, ↓hs_setx, ↓hs_par, ↓ws_asg, ↓hs_aug, ↓hs_app, ↓hs_ext, ↓hs_mut, ↓hs_store, ↓hs_storex, ↓ws_for, ↓ws_forN, ↓ws_nx, ↓ws_rt, ↓ws_bk, ↓ws_ct, ↓ws_no, ↓hs_pool, ↓hs_tokSet, ↓wo_some, ↓wo_none, ↓wo_map, ↓wo_if, ↓wo_gs, ↓wq_ok, ↓wq_no, ↓wq_of, ↓wq_C, ↓wq_n, ↓wq_bin, ↓wq_un, ↓wq_b1, ↓wq_nil, ↓wq_cons, ↓wq_consD, ↓wq_tup, ↓wq_lst, ↓hq_B, ↓hq_andV, ↓hq_orV, ↓hq_notV, ↓wq_and, ↓wq_or, ↓wq_not, ↓wq_ifE, ↓wq_yes, ↓hq_chain, ↓wq_call, ↓wq_callK, ↓hq_callP, ↓wq_meth, ↓wq_methD, isPD_d, vget_d, vrevs_s, vsplit_s, ↓wq_iter, ↓wq_enum, ↓hq_range1, ↓hq_range2, ↓hq_range3, ↓hq_range3p, vrepl_s, ↓hq_zipL, ↓wq_slice, ↓wq_noO, ↓hq_someO, ↓wq_isi, ↓wq_revL, ↓wq_lc, ↓wq_lcN, ↓hq_pop, ↓wq_binx, ↓hq_bx, ↓wq_orx, ↓hq_tokIx, ↓wq_disp, ↓wq_pnil, ↓wq_pcons, vadd_ii, vadd_ss, vadd_ll, vadd_sl, viadd_ii, viadd_ss, vsub_ii, vmul_ii, vmul_si, vmul_li, vdiv_ii, vmod_ii, vpow_ii, vneg_i, veq_ii, veq_ss, veq_bb, vne_ii, vne_ss, vne_bb, veq_g, vne_g, cplx_l, cplx_t, cplx_n, cplx_c, okd_l, okd_t, okd_s, okd_i, okd_b, okd_n, okd_c, eqv_ll, eqv_tt, eqv_lt, eqv_tl, eqv_ii, eqv_ss, eqv_bb, eqv_nn, eqv_nt, eqv_tn, eqv_ns, eqv_sn, eqv_st, eqv_ts, eqv_si, eqv_is, eqv_in, eqv_ni, eqv_sl, eqv_ls, eqv_nl, eqv_ln, eqv_cl0, eqvs_nil, eqvs_cons, eqvs_n1, eqvs_1n, eqvs_nl, vlt_ii, vle_ii, vgt_ii, vge_ii, vlt_ss, vle_ss, vgt_ss, vge_ss, vis_n, visNot_n, vis_b, visNot_b, isNon_n, isNon_t, isNon_l, isNon_s, isNon_i, vix_s, vix_l, vix_t, vix_c, vix_d, keyP_i, keyP_s, vin_ss, vnin_ss, vin_l, vnin_l, vcut_s, vcut_l, vcut_c, vlen_s, vlen_l, vlen_t, vlen_c, vlen_d, vint_b, vint_i, vabs_i, vmax_ii, vmin_ii, vlist_s, vlist_l, vlist_t, vtuple_l, vtupleA_l, vtupleA_s, vaddr_ll, vsorted_l, psrc_s, psrc_l, psrc_t, psrc_c, penum_s, penum_l, penum_c, vjoin_c, vsindex, isPT_s, isPT_l, pty_n, pty_b, pty_i, pty_s, pty_l, pty_t, pty_d, isTok_n, isTok_b, isTok_i, isTok_s, isTok_l, isTok_t, isTok_d, noL_n, noL_b, noL_i, noL_s, noL_t, noLs_nl, noLs_c, noLs_ints, noLs_chs, noLs_strs, noLs_rev, perm_1, perm_11, perm_02, perm_20, pat0, pat1, pat2, pat3, iat0, iat1, iat2, List.getElem?_cons_zero, List.getElem?_cons_succ, pwipe, List.map_cons, List.map_nil, List.length_cons, List.length_nil, List.length_map, List.replicate, List.cons_append, List.nil_append, List.set_cons_succ, List.set_cons_zero, Option.map_some, Option.map_none, Option.isSome_some, Option.isSome_none, Option.bind_some, PV.bl.injEq, PV.int.injEq, PV.str.injEq, Option.some.injEq, exists_eq_left', exists_eq_left, if_true, true_and, and_true, and_self, Bool.and_self, Bool.and_true, Bool.true_and, Bool.and_false, Bool.false_and, List.any_cons, List.any_nil, List.all_cons, List.all_nil, Bool.or_false, Bool.or_true, Bool.true_or, Bool.false_or, Bool.not_true, Bool.not_false, if_false, Bool.false_eq_true, not_false_eq_true, beq_self_eq_true, decide_true, decide_false, line_t, line_l, small_t, fits_t, chP_len, chP_nol, chP_okd, chP_nil, List.length_append, List.length_reverse, List.length_take, List.length_drop, Nat.zero_le, vin_clo, vix_clo, letB, cloB_def, opnB_def, asB_b, asI_i, asL_l, lsP_0, lsP_S, slP_0, slP_S, tok_0, tok_S, asP_ints, asP_3]
    refine wo_pick e0 (by simp; omega) fun z hz => ?_
    simp only [List.mem_cons, List.not_mem_nil, or_false] at hz
    obtain ⟨dn, rfl⟩ : ∃ m : Nat, d = (m : Int) := ⟨d.toNat, by omega⟩
    rcases hz with rfl | rfl
    · simp (decide := true) (disch := first | assumption | omega | (simp (decide := true) only [cplx_l, cplx_t, cplx_n, cplx_c, Bool.or_true, Bool.true_or])) only [↓reduceIte, reduceCtorEq, or_true, true_or, or_false, false_or, and_false, false_and, ↓sts_0, ↓sts_S, ↓wo_gn, ↓wo_gnN, ↓wo_gt2, ↓wo_gtt, ↓wo_gs0, ↓wq_var0, ↓wq_varS, ↓ws_seq, ↓ws_skip, ↓ws_break, ↓ws_cont, ↓ws_if, ↓ws_ifx, ↓ws_expr, ↓ws_ret, ↓ws_retN, ↓hs_set, ↓hs_setx, ↓hs_par, ↓ws_asg, ↓hs_aug, ↓hs_app, ↓hs_ext, ↓hs_mut, ↓hs_store, ↓hs_storex, ↓ws_for, ↓ws_forN, ↓ws_nx, ↓ws_rt, ↓ws_bk, ↓ws_ct, ↓ws_no, ↓hs_pool, ↓hs_tokSet, ↓wo_some, ↓wo_none, ↓wo_map, ↓wo_if, ↓wo_gs, ↓wq_ok, ↓wq_no, ↓wq_of, ↓wq_C, ↓wq_n, ↓wq_bin, ↓wq_un, ↓wq_b1, ↓wq_nil, ↓wq_cons, ↓wq_consD, ↓wq_tup, ↓wq_lst, ↓hq_B, ↓hq_andV, ↓hq_orV, ↓hq_notV, ↓wq_and, ↓wq_or, ↓wq_not, ↓wq_ifE, ↓wq_yes, ↓hq_chain, ↓wq_call, ↓wq_callK, ↓hq_callP, ↓wq_meth, ↓wq_methD, isPD_d, vget_d, vrevs_s, vsplit_s, ↓wq_iter, ↓wq_enum, ↓hq_range1, ↓hq_range2, ↓hq_range3, ↓hq_range3p, vrepl_s, ↓hq_zipL, ↓wq_slice, ↓wq_noO, ↓hq_someO, ↓wq_isi, ↓wq_revL, ↓wq_lc, ↓wq_lcN, ↓hq_pop, ↓wq_binx, ↓hq_bx, ↓wq_orx, ↓hq_tokIx, ↓wq_disp, ↓wq_pnil, ↓wq_pcons, vadd_ii, vadd_ss, vadd_ll, vadd_sl, viadd_ii, viadd_ss, vsub_ii, vmul_ii, vmul_si, vmul_li, vdiv_ii, vmod_ii, vpow_ii, vneg_i, veq_ii, veq_ss, veq_bb, vne_ii, vne_ss, vne_bb, veq_g, vne_g, cplx_l, cplx_t, cplx_n, cplx_c, okd_l, okd_t, okd_s, okd_i, okd_b, okd_n, okd_c, eqv_ll, eqv_tt, eqv_lt, eqv_tl, eqv_ii, eqv_ss, eqv_bb, eqv_nn, eqv_nt, eqv_tn, eqv_ns, eqv_sn, eqv_st, eqv_ts, eqv_si, eqv_is, eqv_in, eqv_ni, eqv_sl, eqv_ls, eqv_nl, eqv_ln, eqv_cl0, eqvs_nil, eqvs_cons, eqvs_n1, eqvs_1n, eqvs_nl, vlt_ii, vle_ii, vgt_ii, vge_ii, vlt_ss, vle_ss, vgt_ss, vge_ss, vis_n, visNot_n, vis_b, visNot_b, isNon_n, isNon_t, isNon_l, isNon_s, isNon_i, vix_s, vix_l, vix_t, vix_c, vix_d, keyP_i, keyP_s, vin_ss, vnin_ss, vin_l, vnin_l, vcut_s, vcut_l, vcut_c, vlen_s, vlen_l, vlen_t, vlen_c, vlen_d, vint_b, vint_i, vabs_i, vmax_ii, vmin_ii, vlist_s, vlist_l, vlist_t, vtuple_l, vtupleA_l, vtupleA_s, vaddr_ll, vsorted_l, psrc_s, psrc_l, psrc_t, psrc_c, penum_s, penum_l, penum_c, vjoin_c, vsindex, isPT_s, isPT_l, pty_n, pty_b, pty_i, pty_s, pty_l, pty_t, pty_d, isTok_n, isTok_b, isTok_i, isTok_s, isTok_l, isTok_t, isTok_d, noL_n, noL_b, noL_i, noL_s, noL_t, noLs_nl, noLs_c, noLs_ints, noLs_chs, noLs_strs, noLs_rev, perm_1, perm_11, perm_02, perm_20, pat0, pat1, pat2, pat3, iat0, iat1, iat2, List.getElem?_cons_zero, List.getElem?_cons_succ, pwipe, List.map_cons, List.map_nil, List.length_cons, List.length_nil, List.length_map, List.replicate, List.cons_append, List.nil_append, List.set_cons_succ, List.set_cons_zero, Option.map_some, Option.map_none, Option.isSome_some, Option.isSome_none, Option.bind_some, PV.bl.injEq, PV.int.injEq, PV.str.injEq, Option.some.injEq, exists_eq_left', exists_eq_left, if_true, true_and, and_true, and_self, Bool.and_self, Bool.and_true, Bool.true_and, Bool.and_false, Bool.false_and, List.any_cons, List.any_nil, List.all_cons, List.all_nil, Bool.or_false, Bool.or_true, Bool.true_or, Bool.false_or, Bool.not_true, Bool.not_false, if_false, Bool.false_eq_true, not_false_eq_true, beq_self_eq_true, decide_true, decide_false, line_t, line_l, small_t, fits_t, chP_len, chP_nol, chP_okd, chP_nil, List.length_append, List.length_reverse, List.length_take, List.length_drop, Nat.zero_le, vin_clo, vix_clo, letB, cloB_def, opnB_def, asB_b, asI_i, asL_l, lsP_0, lsP_S, slP_0, slP_S, tok_0, tok_S, asP_ints, asP_3]
      have hd : dn ≤ 400 := by omega
      have hq : n + 1 + 1 ≤ n + 4 := by omega
      generalize hmp : PV.int (dn : Int) = mp
      exact key dn mp _ o2 hmp hd hb2 hq
    · simp (decide := true) (disch := first | assumption | omega | (simp (decide := true) only [cplx_l, cplx_t, cplx_n, cplx_c, Bool.or_true, Bool.true_or])) only [↓reduceIte, reduceCtorEq, or_true, true_or, or_false, false_or, and_false, false_and, ↓sts_0, ↓sts_S, ↓wo_gn, ↓wo_gnN, ↓wo_gt2, ↓wo_gtt, ↓wo_gs0, ↓wq_var0, ↓wq_varS, ↓ws_seq, ↓ws_skip, ↓ws_break, ↓ws_cont, ↓ws_if, ↓ws_ifx, ↓ws_expr, ↓ws_ret, ↓ws_retN, ↓hs_set, ↓hs_setx, ↓hs_par, ↓ws_asg, ↓hs_aug, ↓hs_app, ↓hs_ext, ↓hs_mut, ↓hs_store, ↓hs_storex, ↓ws_for, ↓ws_forN, ↓ws_nx, ↓ws_rt, ↓ws_bk, ↓ws_ct, ↓ws_no, ↓hs_pool, ↓hs_tokSet, ↓wo_some, ↓wo_none, ↓wo_map, ↓wo_if, ↓wo_gs, ↓wq_ok, ↓wq_no, ↓wq_of, ↓wq_C, ↓wq_n, ↓wq_bin, ↓wq_un, ↓wq_b1, ↓wq_nil, ↓wq_cons, ↓wq_consD, ↓wq_tup, ↓wq_lst, ↓hq_B, ↓hq_andV, ↓hq_orV, ↓hq_notV, ↓wq_and, ↓wq_or, ↓wq_not, ↓wq_ifE, ↓wq_yes, ↓hq_chain, ↓wq_call, ↓wq_callK, ↓hq_callP, ↓wq_meth, ↓wq_methD, isPD_d, vget_d, vrevs_s, vsplit_s, ↓wq_iter, ↓wq_enum, ↓hq_range1, ↓hq_range2, ↓hq_range3, ↓hq_range3p, vrepl_s, ↓hq_zipL, ↓wq_slice, ↓wq_noO, ↓hq_someO, ↓wq_isi, ↓wq_revL, ↓wq_lc, ↓wq_lcN, ↓hq_pop, ↓wq_binx, ↓hq_bx, ↓wq_orx, ↓hq_tokIx, ↓wq_disp, ↓wq_pnil, ↓wq_pcons, vadd_ii, vadd_ss, vadd_ll, vadd_sl, viadd_ii, viadd_ss, vsub_ii, vmul_ii, vmul_si, vmul_li, vdiv_ii, vmod_ii, vpow_ii, vneg_i, veq_ii, veq_ss, veq_bb, vne_ii, vne_ss, vne_bb, veq_g, vne_g, cplx_l, cplx_t, cplx_n, cplx_c, okd_l, okd_t, okd_s, okd_i, okd_b, okd_n, okd_c, eqv_ll, eqv_tt, eqv_lt, eqv_tl, eqv_ii, eqv_ss, eqv_bb, eqv_nn, eqv_nt, eqv_tn, eqv_ns, eqv_sn, eqv_st, eqv_ts, eqv_si, eqv_is, eqv_in, eqv_ni, eqv_sl, eqv_ls, eqv_nl, eqv_ln, eqv_cl0, eqvs_nil, eqvs_cons, eqvs_n1, eqvs_1n, eqvs_nl, vlt_ii, vle_ii, vgt_ii, vge_ii, vlt_ss, vle_ss, vgt_ss, vge_ss, vis_n, visNot_n, vis_b, visNot_b, isNon_n, isNon_t, isNon_l, isNon_s, isNon_i, vix_s, vix_l, vix_t, vix_c, vix_d, keyP_i, keyP_s, vin_ss, vnin_ss, vin_l, vnin_l, vcut_s, vcut_l, vcut_c, vlen_s, vlen_l, vlen_t, vlen_c, vlen_d, vint_b, vint_i, vabs_i, vmax_ii, vmin_ii, vlist_s, vlist_l, vlist_t, vtuple_l, vtupleA_l, vtupleA_s, vaddr_ll, vsorted_l, psrc_s, psrc_l, psrc_t, psrc_c, penum_s, penum_l, penum_c, vjoin_c, vsindex, isPT_s, isPT_l, pty_n, pty_b, pty_i, pty_s, pty_l, pty_t, pty_d, isTok_n, isTok_b, isTok_i, isTok_s, isTok_l, isTok_t, isTok_d, noL_n, noL_b, noL_i, noL_s, noL_t, noLs_nl, noLs_c, noLs_ints, noLs_chs, noLs_strs, noLs_rev, perm_1, perm_11, perm_02, perm_20, pat0, pat1, pat2, pat3, iat0, iat1, iat2, List.getElem?_cons_zero, List.getElem?_cons_succ, pwipe, List.map_cons, List.map_nil, List.length_cons, List.length_nil, List.length_map, List.replicate, List.cons_append, List.nil_append, List.set_cons_succ, List.set_cons_zero, Option.map_some, Option.map_none, Option.isSome_some, Option.isSome_none, Option.bind_some, PV.bl.injEq, PV.int.injEq, PV.str.injEq, Option.some.injEq, exists_eq_left', exists_eq_left, if_true, true_and, and_true, and_self, Bool.and_self, Bool.and_true, Bool.true_and, Bool.and_false, Bool.false_and, List.any_cons, List.any_nil, List.all_cons, List.all_nil, Bool.or_false, Bool.or_true, Bool.true_or, Bool.false_or, Bool.not_true, Bool.not_false, if_false, Bool.false_eq_true, not_false_eq_true, beq_self_eq_true, decide_true, decide_false, line_t, line_l, small_t, fits_t, chP_len, chP_nol, chP_okd, chP_nil, List.length_append, List.length_reverse, List.length_take, List.length_drop, Nat.zero_le, vin_clo, vix_clo, letB, cloB_def, opnB_def, asB_b, asI_i, asL_l, lsP_0, lsP_S, slP_0, slP_S, tok_0, tok_S, asP_ints, asP_3]
      exact key 400 _ _ o2 rfl (by omega) hb2 (by omega)
theorem wL_cell {D : Ep} {o : Pool} {ns : List Int} {k : Nat} {c : Int} {t1 t2 t5 t6 t7 t8 t9 : Option PV} (hk : k ≤ 1000) (h1 : ntO t1 = true) (h2 : ntO t2 = true) (h6 : ntO t6 = true) (h7 : ntO t7 = true) (h8 : ntO t8 = true) (h9 : ntO t9 = true)
    (H : ∀ t6 t7 t8 t9 o', ntO t6 = true → ntO t7 = true → ntO t8 = true → ntO t9 = true → D.nx [some (.scr ns), t1, t2, some (.int (k : Nat)), some (.int c), some .tok, t6, t7, t8, t9, none, none] o') :
    Ws (pb_law_3 [some (.scr ns), t1, t2, some (.int (k : Nat)), some (.int c), t5, t6, t7, t8, t9, none, none] o) D := by
  obtain ⟨x, y, hp, y0, y1⟩ := wS_sourceP (c := c) (k := k) (o := o) (by omega)
  unfold pb_law_3
  simp (decide := true) (disch := first | assumption | omega | (simp (decide := true) only [cplx_l, cplx_t, cplx_n, cplx_c, Bool.or_true, Bool.true_or])) only [↓reduceIte, reduceCtorEq, or_true, true_or, or_false, false_or, and_false, false_and, ↓sts_0, ↓sts_S, ↓wo_gn, ↓wo_gnN, ↓wo_gt2, ↓wo_gtt, ↓wo_gs0, ↓wq_var0, ↓wq_varS, ↓ws_seq, ↓ws_skip, ↓ws_break, ↓ws_cont, ↓ws_if, ↓ws_ifx, ↓ws_expr, ↓ws_ret, ↓ws_retN, ↓hs_set, ↓hs_setx, ↓hs_par, ↓ws_asg, ↓hs_aug, ↓hs_app, ↓hs_ext, ↓hs_mut, ↓hs_store, ↓hs_storex, ↓ws_for, ↓ws_forN, ↓ws_nx, ↓ws_rt, ↓ws_bk, ↓ws_ct, ↓ws_no, ↓hs_pool, ↓hs_tokSet, ↓wo_some, ↓wo_none, ↓wo_map, ↓wo_if, ↓wo_gs, ↓wq_ok, ↓wq_no, ↓wq_of, ↓wq_C, ↓wq_n, ↓wq_bin, ↓wq_un, ↓wq_b1, ↓wq_nil, ↓wq_cons, ↓wq_consD, ↓wq_tup, ↓wq_lst, ↓hq_B, ↓hq_andV, ↓hq_orV, ↓hq_notV, ↓wq_and, ↓wq_or, ↓wq_not, ↓wq_ifE, ↓wq_yes, ↓hq_chain, ↓wq_call, ↓wq_callK, ↓hq_callP, ↓wq_meth, ↓wq_methD, isPD_d, vget_d, vrevs_s, vsplit_s, ↓wq_iter, ↓wq_enum, ↓hq_range1, ↓hq_range2, ↓hq_range3, ↓hq_range3p, vrepl_s, ↓hq_zipL, ↓wq_slice, ↓wq_noO, ↓hq_someO, ↓wq_isi, ↓wq_revL, ↓wq_lc, ↓wq_lcN, ↓hq_pop, ↓wq_binx, ↓hq_bx, ↓wq_orx, ↓hq_tokIx, ↓wq_disp, ↓wq_pnil, ↓wq_pcons, vadd_ii, vadd_ss, vadd_ll, vadd_sl, viadd_ii, viadd_ss, vsub_ii, vmul_ii, vmul_si, vmul_li, vdiv_ii, vmod_ii, vpow_ii, vneg_i, veq_ii, veq_ss, veq_bb, vne_ii, vne_ss, vne_bb, veq_g, vne_g, cplx_l, cplx_t, cplx_n, cplx_c, okd_l, okd_t, okd_s, okd_i, okd_b, okd_n, okd_c, eqv_ll, eqv_tt, eqv_lt, eqv_tl, eqv_ii, eqv_ss, eqv_bb, eqv_nn, eqv_nt, eqv_tn, eqv_ns, eqv_sn, eqv_st, eqv_ts, eqv_si, eqv_is, eqv_in, eqv_ni, eqv_sl, eqv_ls, eqv_nl, eqv_ln, eqv_cl0, eqvs_nil, eqvs_cons, eqvs_n1, eqvs_1n, eqvs_nl, vlt_ii, vle_ii, vgt_ii, vge_ii, vlt_ss, vle_ss, vgt_ss, vge_ss, vis_n, visNot_n, vis_b, visNot_b, isNon_n, isNon_t, isNon_l, isNon_s, isNon_i, vix_s, vix_l, vix_t, vix_c, vix_d, keyP_i, keyP_s, vin_ss, vnin_ss, vin_l, vnin_l, vcut_s, vcut_l, vcut_c, vlen_s, vlen_l, vlen_t, vlen_c, vlen_d, vint_b, vint_i, vabs_i, vmax_ii, vmin_ii, vlist_s, vlist_l, vlist_t, vtuple_l, vtupleA_l, vtupleA_s, vaddr_ll, vsorted_l, psrc_s, psrc_l, psrc_t, psrc_c, penum_s, penum_l, penum_c, vjoin_c, vsindex, isPT_s, isPT_l, pty_n, pty_b, pty_i, pty_s, pty_l, pty_t, pty_d, isTok_n, isTok_b, isTok_i, isTok_s, isTok_l, isTok_t, isTok_d, noL_n, noL_b, noL_i, noL_s, noL_t, noLs_nl, noLs_c, noLs_ints, noLs_chs, noLs_strs, noLs_rev, perm_1, perm_11, perm_02, perm_20, pat0, pat1, pat2, pat3, iat0, iat1, iat2, List.getElem?_cons_zero, List.getElem?_cons_succ, pwipe, List.map_cons, List.map_nil, List.length_cons, List.length_nil, List.length_map, List.replicate, List.cons_append, List.nil_append, List.set_cons_succ, List.set_cons_zero, Option.map_some, Option.map_none, Option.isSome_some, Option.isSome_none, Option.bind_some, PV.bl.injEq, PV.int.injEq, PV.str.injEq, Option.some.injEq, exists_eq_left', exists_eq_left, if_true, true_and, and_true, and_self, Bool.and_self, Bool.and_true, Bool.true_and, Bool.and_false, Bool.false_and, List.any_cons, List.any_nil, List.all_cons, List.all_nil, Bool.or_false, Bool.or_true, Bool.true_or, Bool.false_or, Bool.not_true, Bool.not_false, if_false, Bool.false_eq_true, not_false_eq_true, beq_self_eq_true, decide_true, decide_false, line_t, line_l, small_t, fits_t, chP_len, chP_nol, chP_okd, chP_nil, List.length_append, List.length_reverse, List.length_take, List.length_drop, Nat.zero_le, vin_clo, vix_clo, letB, cloB_def, opnB_def, asB_b, asI_i, asL_l, lsP_0, lsP_S, slP_0, slP_S, tok_0, tok_S, asP_ints, asP_3, hp]
  refine ⟨by rw [h1, h2, h6, h7, h8, h9]; rfl, ?_⟩
  rw [show (4 : Int).toNat = 4 from rfl, rangeP_eq]
  refine ploop_wp (fun its ps o' => ∃ (m : Nat) (t6 t7 t8 t9 : Option PV), its = rP (4 - (m : Int)) m ∧ m ≤ 4 ∧ ps = [some (.scr ns), t1, t2, some (.int (k : Nat)), some (.int c), some .tok, t6, t7, t8, t9, none, none] ∧ Bs (1000 * (4 - (m : Int))) o' ∧ ntO t6 = true ∧ ntO t7 = true ∧ ntO t8 = true ∧ ntO t9 = true) ?_ ?_ _ _ _ ⟨4, t6, t7, t8, t9, rfl, Nat.le_refl _, rfl, (Bs.new y0 y1).le (by omega), h6, h7, h8, h9⟩
  · rintro ps o' ⟨m, t6, t7, t8, t9, _, _, rfl, _, h6, h7, h8, h9⟩
    exact H _ _ _ _ _ h6 h7 h8 h9
  · rintro it r ps o' ⟨m, t6, t7, t8, t9, hit, hm, rfl, hb, h6, h7, h8, h9⟩
    cases m with
    | zero => cases hit
    | succ m =>
      obtain ⟨rfl, rfl⟩ := List.cons.inj (show it :: r = [.int _] :: rP _ m from hit)
      simp (decide := true) (disch := first | assumption | omega | (simp (decide := true) only [cplx_l, cplx_t, cplx_n, cplx_c, Bool.or_true, Bool.true_or])) only [↓reduceIte, reduceCtorEq, or_true, true_or, or_false, false_or, and_false, false_and, ↓sts_0, ↓sts_S, ↓wo_gn, ↓wo_gnN, ↓wo_gt2, ↓wo_gtt, ↓wo_gs0, ↓wq_var0, ↓wq_varS, ↓ws_seq, ↓ws_skip, ↓ws_break, ↓ws_cont, ↓ws_if, ↓ws_ifx, ↓ws_expr, ↓ws_ret, ↓ws_retN, ↓hs_set, ↓hs_setx, ↓hs_par, ↓ws_asg, ↓hs_aug, ↓hs_app, ↓hs_ext, ↓hs_mut, ↓hs_store, ↓hs_storex, ↓ws_for, ↓ws_forN, ↓ws_nx, ↓ws_rt, ↓ws_bk, ↓ws_ct, ↓ws_no, ↓hs_pool, ↓hs_tokSet, ↓wo_some, ↓wo_none, ↓wo_map, ↓wo_if, ↓wo_gs, ↓wq_ok, ↓wq_no, ↓wq_of, ↓wq_C, ↓wq_n, ↓wq_bin, ↓wq_un, ↓wq_b1, ↓wq_nil, ↓wq_cons, ↓wq_consD, ↓wq_tup, ↓wq_lst, ↓hq_B, ↓hq_andV, ↓hq_orV, ↓hq_notV, ↓wq_and, ↓wq_or, ↓wq_not, ↓wq_ifE, ↓wq_yes, ↓hq_chain, ↓wq_call, ↓wq_callK, ↓hq_callP, ↓wq_meth, ↓wq_methD, isPD_d, vget_d, vrevs_s, vsplit_s, ↓wq_iter, ↓wq_enum, ↓hq_range1, ↓hq_range2, ↓hq_range3, ↓hq_range3p, vrepl_s, ↓hq_zipL, ↓wq_slice, ↓wq_noO, ↓hq_someO, ↓wq_isi, ↓wq_revL, ↓wq_lc, ↓wq_lcN, ↓hq_pop, ↓wq_binx, ↓hq_bx, ↓wq_orx, ↓hq_tokIx, ↓wq_disp, ↓wq_pnil, ↓wq_pcons, vadd_ii, vadd_ss, vadd_ll, vadd_sl, viadd_ii, viadd_ss, vsub_ii, vmul_ii, vmul_si, vmul_li, vdiv_ii, vmod_ii, vpow_ii, vneg_i, veq_ii, veq_ss, veq_bb, vne_ii, vne_ss, vne_bb, veq_g, vne_g, cplx_l, cplx_t, cplx_n, cplx_c, okd_l, okd_t, okd_s, okd_i, okd_b, okd_n, okd_c, eqv_ll, eqv_tt, eqv_lt, eqv_tl, eqv_ii, eqv_ss, eqv_bb, eqv_nn, eqv_nt, eqv_tn, eqv_ns, eqv_sn, eqv_st, eqv_ts, eqv_si, eqv_is, eqv_in, eqv_ni, eqv_sl, eqv_ls, eqv_nl, eqv_ln, eqv_cl0, eqvs_nil, eqvs_cons, eqvs_n1, eqvs_1n, eqvs_nl, vlt_ii, vle_ii, vgt_ii, vge_ii, vlt_ss, vle_ss, vgt_ss, vge_ss, vis_n, visNot_n, vis_b, visNot_b, isNon_n, isNon_t, isNon_l, isNon_s, isNon_i, vix_s, vix_l, vix_t, vix_c, vix_d, keyP_i, keyP_s, vin_ss, vnin_ss, vin_l, vnin_l, vcut_s, vcut_l, vcut_c, vlen_s, vlen_l, vlen_t, vlen_c, vlen_d, vint_b, vint_i, vabs_i, vmax_ii, vmin_ii, vlist_s, vlist_l, vlist_t, vtuple_l, vtupleA_l, vtupleA_s, vaddr_ll, vsorted_l, psrc_s, psrc_l, psrc_t, psrc_c, penum_s, penum_l, penum_c, vjoin_c, vsindex, isPT_s, isPT_l, pty_n, pty_b, pty_i, pty_s, pty_l, pty_t, pty_d, isTok_n, isTok_b, isTok_i, isTok_s, isTok_l, isTok_t, isTok_d, noL_n, noL_b, noL_i, noL_s, noL_t, noLs_nl, noLs_c, noLs_ints, noLs_chs, noLs_strs, noLs_rev, perm_1, perm_11, perm_02, perm_20, pat0, pat1, pat2, pat3, iat0, iat1, iat2, List.getElem?_cons_zero, List.getElem?_cons_succ, pwipe, List.map_cons, List.map_nil, List.length_cons, List.length_nil, List.length_map, List.replicate, List.cons_append, List.nil_append, List.set_cons_succ, List.set_cons_zero, Option.map_some, Option.map_none, Option.isSome_some, Option.isSome_none, Option.bind_some, PV.bl.injEq, PV.int.injEq, PV.str.injEq, Option.some.injEq, exists_eq_left', exists_eq_left, if_true, true_and, and_true, and_self, Bool.and_self, Bool.and_true, Bool.true_and, Bool.and_false, Bool.false_and, List.any_cons, List.any_nil, List.all_cons, List.all_nil, Bool.or_false, Bool.or_true, Bool.true_or, Bool.false_or, Bool.not_true, Bool.not_false, if_false, Bool.false_eq_true, not_false_eq_true, beq_self_eq_true, decide_true, decide_false, line_t, line_l, small_t, fits_t, chP_len, chP_nol, chP_okd, chP_nil, List.length_append, List.length_reverse, List.length_take, List.length_drop, Nat.zero_le, vin_clo, vix_clo, letB, cloB_def, opnB_def, asB_b, asI_i, asL_l, lsP_0, lsP_S, slP_0, slP_S, tok_0, tok_S, asP_ints, asP_3]
      refine wL_turn hb (by omega) fun t7 t8 t9 o' h7 h8 h9 hb' => ?_
      exact ⟨m, _, t7, t8, t9, by rw [show (4 : Int) - ((m + 1 : Nat) : Int) + 1 = 4 - (m : Int) by omega], by omega, rfl, hb'.le (by omega), rfl, h7, h8, h9⟩
theorem w_law2 {o : Pool} {ns : List Int} {SG : List Nat} {N : List (Option PV) → Pool → Prop} {R : PV → Pool → Prop} (hR : R (.bl true) none) (hns : ns.length ≤ 63) (hs : SG.length ≤ 200) (hc : ∀ c ∈ SG, c < 1000) :
    Ws (pSeq (pSet 1 (pC (.str SG))) (pSeq (pFor (pIter (pVar 1)) (pGn 2) pb_law_1) (pSeq (pFor (pEnum (pCall p__law_cells (pCons (pVar 0) (pCons (pC (.int 8)) (pNil))))) (pGt [pGn 3, pGn 4]) (pb_law_3)) (pRet (pC (.bl true))))) [some (.scr ns), none, none, none, none, none, none, none, none, none, none, none] o) { nx := N, rt := fun v _ => R v none } := by
  simp (decide := true) (disch := first | assumption | omega | (simp (decide := true) only [cplx_l, cplx_t, cplx_n, cplx_c, Bool.or_true, Bool.true_or])) only [↓reduceIte, reduceCtorEq, or_true, true_or, or_false, false_or, and_false, false_and, ↓sts_0, ↓sts_S, ↓wo_gn, ↓wo_gnN, ↓wo_gt2, ↓wo_gtt, ↓wo_gs0, ↓wq_var0, ↓wq_varS, ↓ws_seq, ↓ws_skip, ↓ws_break, ↓ws_cont, ↓ws_if, ↓ws_ifx, ↓ws_expr, ↓ws_ret, ↓ws_retN, ↓hs_set, ↓hs_setx, ↓hs_par, ↓ws_asg, ↓hs_aug, ↓hs_app, ↓hs_ext, ↓hs_mut, ↓hs_store, ↓hs_storex, ↓ws_for, ↓ws_forN, ↓ws_nx, ↓ws_rt, ↓ws_bk, ↓ws_ct, ↓ws_no, ↓hs_pool, ↓hs_tokSet, ↓wo_some, ↓wo_none, ↓wo_map, ↓wo_if, ↓wo_gs, ↓wq_ok, ↓wq_no, ↓wq_of, ↓wq_C, ↓wq_n, ↓wq_bin, ↓wq_un, ↓wq_b1, ↓wq_nil, ↓wq_cons, ↓wq_consD, ↓wq_tup, ↓wq_lst, ↓hq_B, ↓hq_andV, ↓hq_orV, ↓hq_notV, ↓wq_and, ↓wq_or, ↓wq_not, ↓wq_ifE, ↓wq_yes, ↓hq_chain, ↓wq_call, ↓wq_callK, ↓hq_callP, ↓wq_meth, ↓wq_methD, isPD_d, vget_d, vrevs_s, vsplit_s, ↓wq_iter, ↓wq_enum, ↓hq_range1, ↓hq_range2, ↓hq_range3, ↓hq_range3p, vrepl_s, ↓hq_zipL, ↓wq_slice, ↓wq_noO, ↓hq_someO, ↓wq_isi, ↓wq_revL, ↓wq_lc, ↓wq_lcN, ↓hq_pop, ↓wq_binx, ↓hq_bx, ↓wq_orx, ↓hq_tokIx, ↓wq_disp, ↓wq_pnil, ↓wq_pcons, vadd_ii, vadd_ss, vadd_ll, vadd_sl, viadd_ii, viadd_ss, vsub_ii, vmul_ii, vmul_si, vmul_li, vdiv_ii, vmod_ii, vpow_ii, vneg_i, veq_ii, veq_ss, veq_bb, vne_ii, vne_ss, vne_bb, veq_g, vne_g, cplx_l, cplx_t, cplx_n, cplx_c, okd_l, okd_t, okd_s, okd_i, okd_b, okd_n, okd_c, eqv_ll, eqv_tt, eqv_lt, eqv_tl, eqv_ii, eqv_ss, eqv_bb, eqv_nn, eqv_nt, eqv_tn, eqv_ns, eqv_sn, eqv_st, eqv_ts, eqv_si, eqv_is, eqv_in, eqv_ni, eqv_sl, eqv_ls, eqv_nl, eqv_ln, eqv_cl0, eqvs_nil, eqvs_cons, eqvs_n1, eqvs_1n, eqvs_nl, vlt_ii, vle_ii, vgt_ii, vge_ii, vlt_ss, vle_ss, vgt_ss, vge_ss, vis_n, visNot_n, vis_b, visNot_b, isNon_n, isNon_t, isNon_l, isNon_s, isNon_i, vix_s, vix_l, vix_t, vix_c, vix_d, keyP_i, keyP_s, vin_ss, vnin_ss, vin_l, vnin_l, vcut_s, vcut_l, vcut_c, vlen_s, vlen_l, vlen_t, vlen_c, vlen_d, vint_b, vint_i, vabs_i, vmax_ii, vmin_ii, vlist_s, vlist_l, vlist_t, vtuple_l, vtupleA_l, vtupleA_s, vaddr_ll, vsorted_l, psrc_s, psrc_l, psrc_t, psrc_c, penum_s, penum_l, penum_c, vjoin_c, vsindex, isPT_s, isPT_l, pty_n, pty_b, pty_i, pty_s, pty_l, pty_t, pty_d, isTok_n, isTok_b, isTok_i, isTok_s, isTok_l, isTok_t, isTok_d, noL_n, noL_b, noL_i, noL_s, noL_t, noLs_nl, noLs_c, noLs_ints, noLs_chs, noLs_strs, noLs_rev, perm_1, perm_11, perm_02, perm_20, pat0, pat1, pat2, pat3, iat0, iat1, iat2, List.getElem?_cons_zero, List.getElem?_cons_succ, pwipe, List.map_cons, List.map_nil, List.length_cons, List.length_nil, List.length_map, List.replicate, List.cons_append, List.nil_append, List.set_cons_succ, List.set_cons_zero, Option.map_some, Option.map_none, Option.isSome_some, Option.isSome_none, Option.bind_some, PV.bl.injEq, PV.int.injEq, PV.str.injEq, Option.some.injEq, exists_eq_left', exists_eq_left, if_true, true_and, and_true, and_self, Bool.and_self, Bool.and_true, Bool.true_and, Bool.and_false, Bool.false_and, List.any_cons, List.any_nil, List.all_cons, List.all_nil, Bool.or_false, Bool.or_true, Bool.true_or, Bool.false_or, Bool.not_true, Bool.not_false, if_false, Bool.false_eq_true, not_false_eq_true, beq_self_eq_true, decide_true, decide_false, line_t, line_l, small_t, fits_t, chP_len, chP_nol, chP_okd, chP_nil, List.length_append, List.length_reverse, List.length_take, List.length_drop, Nat.zero_le, vin_clo, vix_clo, letB, cloB_def, opnB_def, asB_b, asI_i, asL_l, lsP_0, lsP_S, slP_0, slP_S, tok_0, tok_S, asP_ints, asP_3]
  refine ploop_wp (fun its ps o' => ∃ (cs : List Nat) (t2 t10 : Option PV), its = cs.map (fun c => [PV.str [c]]) ∧ (∀ c ∈ cs, c < 1000) ∧ ntO t2 = true ∧ ps = [some (.scr ns), some (.str SG), t2, none, none, none, none, none, none, none, none, none]) ?_ ?_ _ _ _ ⟨SG, none, none, rfl, hc, rfl, rfl⟩
  · rintro ps o' ⟨cs, t2, t10, _, _, h2, rfl⟩
    simp (decide := true) (disch := first | assumption | omega | (simp (decide := true) only [cplx_l, cplx_t, cplx_n, cplx_c, Bool.or_true, Bool.true_or])) only [↓reduceIte, reduceCtorEq, or_true, true_or, or_false, false_or, and_false, false_and, ↓sts_0, ↓sts_S, ↓wo_gn, ↓wo_gnN, ↓wo_gt2, ↓wo_gtt, ↓wo_gs0, ↓wq_var0, ↓wq_varS, ↓ws_seq, ↓ws_skip, ↓ws_break, ↓ws_cont, ↓ws_if, ↓ws_ifx, ↓ws_expr, ↓ws_ret, ↓ws_retN, ↓hs_set, ↓hs_setx, ↓hs_par, ↓ws_asg, ↓hs_aug, ↓hs_app, ↓hs_ext, ↓hs_mut, ↓hs_store, ↓hs_storex, ↓ws_for, ↓ws_forN, ↓ws_nx, ↓ws_rt, ↓ws_bk, ↓ws_ct, ↓ws_no, ↓hs_pool, ↓hs_tokSet, ↓wo_some, ↓wo_none, ↓wo_map, ↓wo_if, ↓wo_gs, ↓wq_ok, ↓wq_no, ↓wq_of, ↓wq_C, ↓wq_n, ↓wq_bin, ↓wq_un, ↓wq_b1, ↓wq_nil, ↓wq_cons, ↓wq_consD, ↓wq_tup, ↓wq_lst, ↓hq_B, ↓hq_andV, ↓hq_orV, ↓hq_notV, ↓wq_and, ↓wq_or, ↓wq_not, ↓wq_ifE, ↓wq_yes, ↓hq_chain, ↓wq_call, ↓wq_callK, ↓hq_callP, ↓wq_meth, ↓wq_methD, isPD_d, vget_d, vrevs_s, vsplit_s, ↓wq_iter, ↓wq_enum, ↓hq_range1, ↓hq_range2, ↓hq_range3, ↓hq_range3p, vrepl_s, ↓hq_zipL, ↓wq_slice, ↓wq_noO, ↓hq_someO, ↓wq_isi, ↓wq_revL, ↓wq_lc, ↓wq_lcN, ↓hq_pop, ↓wq_binx, ↓hq_bx, ↓wq_orx, ↓hq_tokIx, ↓wq_disp, ↓wq_pnil, ↓wq_pcons, vadd_ii, vadd_ss, vadd_ll, vadd_sl, viadd_ii, viadd_ss, vsub_ii, vmul_ii, vmul_si, vmul_li, vdiv_ii, vmod_ii, vpow_ii, vneg_i, veq_ii, veq_ss, veq_bb, vne_ii, vne_ss, vne_bb, veq_g, vne_g, cplx_l, cplx_t, cplx_n, cplx_c, okd_l, okd_t, okd_s, okd_i, okd_b, okd_n, okd_c, eqv_ll, eqv_tt, eqv_lt, eqv_tl, eqv_ii, eqv_ss, eqv_bb, eqv_nn, eqv_nt, eqv_tn, eqv_ns, eqv_sn, eqv_st, eqv_ts, eqv_si, eqv_is, eqv_in, eqv_ni, eqv_sl, eqv_ls, eqv_nl, eqv_ln, eqv_cl0, eqvs_nil, eqvs_cons, eqvs_n1, eqvs_1n, eqvs_nl, vlt_ii, vle_ii, vgt_ii, vge_ii, vlt_ss, vle_ss, vgt_ss, vge_ss, vis_n, visNot_n, vis_b, visNot_b, isNon_n, isNon_t, isNon_l, isNon_s, isNon_i, vix_s, vix_l, vix_t, vix_c, vix_d, keyP_i, keyP_s, vin_ss, vnin_ss, vin_l, vnin_l, vcut_s, vcut_l, vcut_c, vlen_s, vlen_l, vlen_t, vlen_c, vlen_d, vint_b, vint_i, vabs_i, vmax_ii, vmin_ii, vlist_s, vlist_l, vlist_t, vtuple_l, vtupleA_l, vtupleA_s, vaddr_ll, vsorted_l, psrc_s, psrc_l, psrc_t, psrc_c, penum_s, penum_l, penum_c, vjoin_c, vsindex, isPT_s, isPT_l, pty_n, pty_b, pty_i, pty_s, pty_l, pty_t, pty_d, isTok_n, isTok_b, isTok_i, isTok_s, isTok_l, isTok_t, isTok_d, noL_n, noL_b, noL_i, noL_s, noL_t, noLs_nl, noLs_c, noLs_ints, noLs_chs, noLs_strs, noLs_rev, perm_1, perm_11, perm_02, perm_20, pat0, pat1, pat2, pat3, iat0, iat1, iat2, List.getElem?_cons_zero, List.getElem?_cons_succ, pwipe, List.map_cons, List.map_nil, List.length_cons, List.length_nil, List.length_map, List.replicate, List.cons_append, List.nil_append, List.set_cons_succ, List.set_cons_zero, Option.map_some, Option.map_none, Option.isSome_some, Option.isSome_none, Option.bind_some, PV.bl.injEq, PV.int.injEq, PV.str.injEq, Option.some.injEq, exists_eq_left', exists_eq_left, if_true, true_and, and_true, and_self, Bool.and_self, Bool.and_true, Bool.true_and, Bool.and_false, Bool.false_and, List.any_cons, List.any_nil, List.all_cons, List.all_nil, Bool.or_false, Bool.or_true, Bool.true_or, Bool.false_or, Bool.not_true, Bool.not_false, if_false, Bool.false_eq_true, not_false_eq_true, beq_self_eq_true, decide_true, decide_false, line_t, line_l, small_t, fits_t, chP_len, chP_nol, chP_okd, chP_nil, List.length_append, List.length_reverse, List.length_take, List.length_drop, Nat.zero_le, vin_clo, vix_clo, letB, cloB_def, opnB_def, asB_b, asI_i, asL_l, lsP_0, lsP_S, slP_0, slP_S, tok_0, tok_S, asP_ints, asP_3, show p__law_cells [.scr ns, .int 8] o' = .ok (.lst ((cellsS ns 8).map .int)) o' from wS_cellsP (c := 8) (by omega)]
    have hcl : (cellsS ns 8).length ≤ 9 := by
      unfold cellsS
      rw [List.length_append, List.length_take]
      split <;> simp <;> omega
    refine ploop_wp (fun its ps o' => ∃ (k : Nat) (cs : List Int) (t3 t4 t5 t6 t7 t8 t9 : Option PV), its = pairP k (cs.map .int) ∧ k + cs.length ≤ 9 ∧ ps = [some (.scr ns), some (.str SG), t2, t3, t4, t5, t6, t7, t8, t9, none, none] ∧ ntO t6 = true ∧ ntO t7 = true ∧ ntO t8 = true ∧ ntO t9 = true) ?_ ?_ _ _ _ ⟨0, cellsS ns 8, none, none, none, none, none, none, none, rfl, by omega, rfl, rfl, rfl, rfl, rfl⟩
    · rintro ps o' ⟨k, cs, t3, t4, t5, t6, t7, t8, t9, _, _, rfl, _⟩
      simp (decide := true) (disch := first | assumption | omega | (simp (decide := true) only [cplx_l, cplx_t, cplx_n, cplx_c, Bool.or_true, Bool.true_or])) only [↓reduceIte, reduceCtorEq, or_true, true_or, or_false, false_or, and_false, false_and, ↓sts_0, ↓sts_S, ↓wo_gn, ↓wo_gnN, ↓wo_gt2, ↓wo_gtt, ↓wo_gs0, ↓wq_var0, ↓wq_varS, ↓ws_seq, ↓ws_skip, ↓ws_break, ↓ws_cont, ↓ws_if, ↓ws_ifx, ↓ws_expr, ↓ws_ret, ↓ws_retN, ↓hs_set, ↓hs_setx, ↓hs_par, ↓ws_asg, ↓hs_aug, ↓hs_app, ↓hs_ext, ↓hs_mut, ↓hs_store, ↓hs_storex, ↓ws_for, ↓ws_forN, ↓ws_nx, ↓ws_rt, ↓ws_bk, ↓ws_ct, ↓ws_no, ↓hs_pool, ↓hs_tokSet, ↓wo_some, ↓wo_none, ↓wo_map, ↓wo_if, ↓wo_gs, ↓wq_ok, ↓wq_no, ↓wq_of, ↓wq_C, ↓wq_n, ↓wq_bin, ↓wq_un, ↓wq_b1, ↓wq_nil, ↓wq_cons, ↓wq_consD, ↓wq_tup, ↓wq_lst, ↓hq_B, ↓hq_andV, ↓hq_orV, ↓hq_notV, ↓wq_and, ↓wq_or, ↓wq_not, ↓wq_ifE, ↓wq_yes, ↓hq_chain, ↓wq_call, ↓wq_callK, ↓hq_callP, ↓wq_meth, ↓wq_methD, isPD_d, vget_d, vrevs_s, vsplit_s, ↓wq_iter, ↓wq_enum, ↓hq_range1, ↓hq_range2, ↓hq_range3, ↓hq_range3p, vrepl_s, ↓hq_zipL, ↓wq_slice, ↓wq_noO, ↓hq_someO, ↓wq_isi, ↓wq_revL, ↓wq_lc, ↓wq_lcN, ↓hq_pop, ↓wq_binx, ↓hq_bx, ↓wq_orx, ↓hq_tokIx, ↓wq_disp, ↓wq_pnil, ↓wq_pcons, vadd_ii, vadd_ss, vadd_ll, vadd_sl, viadd_ii, viadd_ss, vsub_ii, vmul_ii, vmul_si, vmul_li, vdiv_ii, vmod_ii, vpow_ii, vneg_i, veq_ii, veq_ss, veq_bb, vne_ii, vne_ss, vne_bb, veq_g, vne_g, cplx_l, cplx_t, cplx_n, cplx_c, okd_l, okd_t, okd_s, okd_i, okd_b, okd_n, okd_c, eqv_ll, eqv_tt, eqv_lt, eqv_tl, eqv_ii, eqv_ss, eqv_bb, eqv_nn, eqv_nt, eqv_tn, eqv_ns, eqv_sn, eqv_st, eqv_ts, eqv_si, eqv_is, eqv_in, eqv_ni, eqv_sl, eqv_ls, eqv_nl, eqv_ln, eqv_cl0, eqvs_nil, eqvs_cons, eqvs_n1, eqvs_1n, eqvs_nl, vlt_ii, vle_ii, vgt_ii, vge_ii, vlt_ss, vle_ss, vgt_ss, vge_ss, vis_n, visNot_n, vis_b, visNot_b, isNon_n, isNon_t, isNon_l, isNon_s, isNon_i, vix_s, vix_l, vix_t, vix_c, vix_d, keyP_i, keyP_s, vin_ss, vnin_ss, vin_l, vnin_l, vcut_s, vcut_l, vcut_c, vlen_s, vlen_l, vlen_t, vlen_c, vlen_d, vint_b, vint_i, vabs_i, vmax_ii, vmin_ii, vlist_s, vlist_l, vlist_t, vtuple_l, vtupleA_l, vtupleA_s, vaddr_ll, vsorted_l, psrc_s, psrc_l, psrc_t, psrc_c, penum_s, penum_l, penum_c, vjoin_c, vsindex, isPT_s, isPT_l, pty_n, pty_b, pty_i, pty_s, pty_l, pty_t, pty_d, isTok_n, isTok_b, isTok_i, isTok_s, isTok_l, isTok_t, isTok_d, noL_n, noL_b, noL_i, noL_s, noL_t, noLs_nl, noLs_c, noLs_ints, noLs_chs, noLs_strs, noLs_rev, perm_1, perm_11, perm_02, perm_20, pat0, pat1, pat2, pat3, iat0, iat1, iat2, List.getElem?_cons_zero, List.getElem?_cons_succ, pwipe, List.map_cons, List.map_nil, List.length_cons, List.length_nil, List.length_map, List.replicate, List.cons_append, List.nil_append, List.set_cons_succ, List.set_cons_zero, Option.map_some, Option.map_none, Option.isSome_some, Option.isSome_none, Option.bind_some, PV.bl.injEq, PV.int.injEq, PV.str.injEq, Option.some.injEq, exists_eq_left', exists_eq_left, if_true, true_and, and_true, and_self, Bool.and_self, Bool.and_true, Bool.true_and, Bool.and_false, Bool.false_and, List.any_cons, List.any_nil, List.all_cons, List.all_nil, Bool.or_false, Bool.or_true, Bool.true_or, Bool.false_or, Bool.not_true, Bool.not_false, if_false, Bool.false_eq_true, not_false_eq_true, beq_self_eq_true, decide_true, decide_false, line_t, line_l, small_t, fits_t, chP_len, chP_nol, chP_okd, chP_nil, List.length_append, List.length_reverse, List.length_take, List.length_drop, Nat.zero_le, vin_clo, vix_clo, letB, cloB_def, opnB_def, asB_b, asI_i, asL_l, lsP_0, lsP_S, slP_0, slP_S, tok_0, tok_S, asP_ints, asP_3]
      exact hR
    · rintro it r ps o' ⟨k, cs, t3, t4, t5, t6, t7, t8, t9, hit, hkc, rfl, h6, h7, h8, h9⟩
      cases cs with
      | nil => cases hit
      | cons c cs =>
        obtain ⟨rfl, rfl⟩ := List.cons.inj (show _ :: pairP (k + 1) (cs.map .int) = it :: r from hit.symm)
        rw [List.length_cons] at hkc
        simp (decide := true) (disch := first | assumption | omega | (simp (decide := true) only [cplx_l, cplx_t, cplx_n, cplx_c, Bool.or_true, Bool.true_or])) only [↓reduceIte, reduceCtorEq, or_true, true_or, or_false, false_or, and_false, false_and, ↓sts_0, ↓sts_S, ↓wo_gn, ↓wo_gnN, ↓wo_gt2, ↓wo_gtt, ↓wo_gs0, ↓wq_var0, ↓wq_varS, ↓ws_seq, ↓ws_skip, ↓ws_break, ↓ws_cont, ↓ws_if, ↓ws_ifx, ↓ws_expr, ↓ws_ret, ↓ws_retN, ↓hs_set, ↓hs_setx, ↓hs_par, ↓ws_asg, ↓hs_aug, ↓hs_app, ↓hs_ext, ↓hs_mut, ↓hs_store, ↓hs_storex, ↓ws_for, ↓ws_forN, ↓ws_nx, ↓ws_rt, ↓ws_bk, ↓ws_ct, ↓ws_no, ↓hs_pool, ↓hs_tokSet, ↓wo_some, ↓wo_none, ↓wo_map, ↓wo_if, ↓wo_gs, ↓wq_ok, ↓wq_no, ↓wq_of, ↓wq_C, ↓wq_n, ↓wq_bin, ↓wq_un, ↓wq_b1, ↓wq_nil, ↓wq_cons, ↓wq_consD, ↓wq_tup, ↓wq_lst, ↓hq_B, ↓hq_andV, ↓hq_orV, ↓hq_notV, ↓wq_and, ↓wq_or, ↓wq_not, ↓wq_ifE, ↓wq_yes, ↓hq_chain, ↓wq_call, ↓wq_callK, ↓hq_callP, ↓wq_meth, ↓wq_methD, isPD_d, vget_d, vrevs_s, vsplit_s, ↓wq_iter, ↓wq_enum, ↓hq_range1, ↓hq_range2, ↓hq_range3, ↓hq_range3p, vrepl_s, ↓hq_zipL, ↓wq_slice, ↓wq_noO, ↓hq_someO, ↓wq_isi, ↓wq_revL, ↓wq_lc, ↓wq_lcN, ↓hq_pop, ↓wq_binx, ↓hq_bx, ↓wq_orx, ↓hq_tokIx, ↓wq_disp, ↓wq_pnil, ↓wq_pcons, vadd_ii, vadd_ss, vadd_ll, vadd_sl, viadd_ii, viadd_ss, vsub_ii, vmul_ii, vmul_si, vmul_li, vdiv_ii, vmod_ii, vpow_ii, vneg_i, veq_ii, veq_ss, veq_bb, vne_ii, vne_ss, vne_bb, veq_g, vne_g, cplx_l, cplx_t, cplx_n, cplx_c, okd_l, okd_t, okd_s, okd_i, okd_b, okd_n, okd_c, eqv_ll, eqv_tt, eqv_lt, eqv_tl, eqv_ii, eqv_ss, eqv_bb, eqv_nn, eqv_nt, eqv_tn, eqv_ns, eqv_sn, eqv_st, eqv_ts, eqv_si, eqv_is, eqv_in, eqv_ni, eqv_sl, eqv_ls, eqv_nl, eqv_ln, eqv_cl0, eqvs_nil, eqvs_cons, eqvs_n1, eqvs_1n, eqvs_nl, vlt_ii, vle_ii, vgt_ii, vge_ii, vlt_ss, vle_ss, vgt_ss, vge_ss, vis_n, visNot_n, vis_b, visNot_b, isNon_n, isNon_t, isNon_l, isNon_s, isNon_i, vix_s, vix_l, vix_t, vix_c, vix_d, keyP_i, keyP_s, vin_ss, vnin_ss, vin_l, vnin_l, vcut_s, vcut_l, vcut_c, vlen_s, vlen_l, vlen_t, vlen_c, vlen_d, vint_b, vint_i, vabs_i, vmax_ii, vmin_ii, vlist_s, vlist_l, vlist_t, vtuple_l, vtupleA_l, vtupleA_s, vaddr_ll, vsorted_l, psrc_s, psrc_l, psrc_t, psrc_c, penum_s, penum_l, penum_c, vjoin_c, vsindex, isPT_s, isPT_l, pty_n, pty_b, pty_i, pty_s, pty_l, pty_t, pty_d, isTok_n, isTok_b, isTok_i, isTok_s, isTok_l, isTok_t, isTok_d, noL_n, noL_b, noL_i, noL_s, noL_t, noLs_nl, noLs_c, noLs_ints, noLs_chs, noLs_strs, noLs_rev, perm_1, perm_11, perm_02, perm_20, pat0, pat1, pat2, pat3, iat0, iat1, iat2, List.getElem?_cons_zero, List.getElem?_cons_succ, pwipe, List.map_cons, List.map_nil, List.length_cons, List.length_nil, List.length_map, List.replicate, List.cons_append, List.nil_append, List.set_cons_succ, List.set_cons_zero, Option.map_some, Option.map_none, Option.isSome_some, Option.isSome_none, Option.bind_some, PV.bl.injEq, PV.int.injEq, PV.str.injEq, Option.some.injEq, exists_eq_left', exists_eq_left, if_true, true_and, and_true, and_self, Bool.and_self, Bool.and_true, Bool.true_and, Bool.and_false, Bool.false_and, List.any_cons, List.any_nil, List.all_cons, List.all_nil, Bool.or_false, Bool.or_true, Bool.true_or, Bool.false_or, Bool.not_true, Bool.not_false, if_false, Bool.false_eq_true, not_false_eq_true, beq_self_eq_true, decide_true, decide_false, line_t, line_l, small_t, fits_t, chP_len, chP_nol, chP_okd, chP_nil, List.length_append, List.length_reverse, List.length_take, List.length_drop, Nat.zero_le, vin_clo, vix_clo, letB, cloB_def, opnB_def, asB_b, asI_i, asL_l, lsP_0, lsP_S, slP_0, slP_S, tok_0, tok_S, asP_ints, asP_3]
        refine wL_cell (k := k) (c := c) (t5 := t5) (by omega) rfl h2 h6 h7 h8 h9 fun t6 t7 t8 t9 o' h6 h7 h8 h9 => ?_
        exact ⟨k + 1, cs, _, _, _, t6, t7, t8, t9, rfl, by omega, rfl, h6, h7, h8, h9⟩
  · rintro it r ps o' ⟨cs, t2, t10, hit, hcc, h2, rfl⟩
    cases cs with
    | nil => cases hit
    | cons c cs =>
      rw [List.map_cons] at hit
      obtain ⟨rfl, rfl⟩ := List.cons.inj hit
      simp (decide := true) (disch := first | assumption | omega | (simp (decide := true) only [cplx_l, cplx_t, cplx_n, cplx_c, Bool.or_true, Bool.true_or])) only [↓reduceIte, reduceCtorEq, or_true, true_or, or_false, false_or, and_false, false_and, ↓sts_0, ↓sts_S, ↓wo_gn, ↓wo_gnN, ↓wo_gt2, ↓wo_gtt, ↓wo_gs0, ↓wq_var0, ↓wq_varS, ↓ws_seq, ↓ws_skip, ↓ws_break, ↓ws_cont, ↓ws_if, ↓ws_ifx, ↓ws_expr, ↓ws_ret, ↓ws_retN, ↓hs_set, ↓hs_setx, ↓hs_par, ↓ws_asg, ↓hs_aug, ↓hs_app, ↓hs_ext, ↓hs_mut, ↓hs_store, ↓hs_storex, ↓ws_for, ↓ws_forN, ↓ws_nx, ↓ws_rt, ↓ws_bk, ↓ws_ct, ↓ws_no, ↓hs_pool, ↓hs_tokSet, ↓wo_some, ↓wo_none, ↓wo_map, ↓wo_if, ↓wo_gs, ↓wq_ok, ↓wq_no, ↓wq_of, ↓wq_C, ↓wq_n, ↓wq_bin, ↓wq_un, ↓wq_b1, ↓wq_nil, ↓wq_cons, ↓wq_consD, ↓wq_tup, ↓wq_lst, ↓hq_B, ↓hq_andV, ↓hq_orV, ↓hq_notV, ↓wq_and, ↓wq_or, ↓wq_not, ↓wq_ifE, ↓wq_yes, ↓hq_chain, ↓wq_call, ↓wq_callK, ↓hq_callP, ↓wq_meth, ↓wq_methD, isPD_d, vget_d, vrevs_s, vsplit_s, ↓wq_iter, ↓wq_enum, ↓hq_range1, ↓hq_range2, ↓hq_range3, ↓hq_range3p, vrepl_s, ↓hq_zipL, ↓wq_slice, ↓wq_noO, ↓hq_someO, ↓wq_isi, ↓wq_revL, ↓wq_lc, ↓wq_lcN, ↓hq_pop, ↓wq_binx, ↓hq_bx, ↓wq_orx, ↓hq_tokIx, ↓wq_disp, ↓wq_pnil, ↓wq_pcons, vadd_ii, vadd_ss, vadd_ll, vadd_sl, viadd_ii, viadd_ss, vsub_ii, vmul_ii, vmul_si, vmul_li, vdiv_ii, vmod_ii, vpow_ii, vneg_i, veq_ii, veq_ss, veq_bb, vne_ii, vne_ss, vne_bb, veq_g, vne_g, cplx_l, cplx_t, cplx_n, cplx_c, okd_l, okd_t, okd_s, okd_i, okd_b, okd_n, okd_c, eqv_ll, eqv_tt, eqv_lt, eqv_tl, eqv_ii, eqv_ss, eqv_bb, eqv_nn, eqv_nt, eqv_tn, eqv_ns, eqv_sn, eqv_st, eqv_ts, eqv_si, eqv_is, eqv_in, eqv_ni, eqv_sl, eqv_ls, eqv_nl, eqv_ln, eqv_cl0, eqvs_nil, eqvs_cons, eqvs_n1, eqvs_1n, eqvs_nl, vlt_ii, vle_ii, vgt_ii, vge_ii, vlt_ss, vle_ss, vgt_ss, vge_ss, vis_n, visNot_n, vis_b, visNot_b, isNon_n, isNon_t, isNon_l, isNon_s, isNon_i, vix_s, vix_l, vix_t, vix_c, vix_d, keyP_i, keyP_s, vin_ss, vnin_ss, vin_l, vnin_l, vcut_s, vcut_l, vcut_c, vlen_s, vlen_l, vlen_t, vlen_c, vlen_d, vint_b, vint_i, vabs_i, vmax_ii, vmin_ii, vlist_s, vlist_l, vlist_t, vtuple_l, vtupleA_l, vtupleA_s, vaddr_ll, vsorted_l, psrc_s, psrc_l, psrc_t, psrc_c, penum_s, penum_l, penum_c, vjoin_c, vsindex, isPT_s, isPT_l, pty_n, pty_b, pty_i, pty_s, pty_l, pty_t, pty_d, isTok_n, isTok_b, isTok_i, isTok_s, isTok_l, isTok_t, isTok_d, noL_n, noL_b, noL_i, noL_s, noL_t, noLs_nl, noLs_c, noLs_ints, noLs_chs, noLs_strs, noLs_rev, perm_1, perm_11, perm_02, perm_20, pat0, pat1, pat2, pat3, iat0, iat1, iat2, List.getElem?_cons_zero, List.getElem?_cons_succ, pwipe, List.map_cons, List.map_nil, List.length_cons, List.length_nil, List.length_map, List.replicate, List.cons_append, List.nil_append, List.set_cons_succ, List.set_cons_zero, Option.map_some, Option.map_none, Option.isSome_some, Option.isSome_none, Option.bind_some, PV.bl.injEq, PV.int.injEq, PV.str.injEq, Option.some.injEq, exists_eq_left', exists_eq_left, if_true, true_and, and_true, and_self, Bool.and_self, Bool.and_true, Bool.true_and, Bool.and_false, Bool.false_and, List.any_cons, List.any_nil, List.all_cons, List.all_nil, Bool.or_false, Bool.or_true, Bool.true_or, Bool.false_or, Bool.not_true, Bool.not_false, if_false, Bool.false_eq_true, not_false_eq_true, beq_self_eq_true, decide_true, decide_false, line_t, line_l, small_t, fits_t, chP_len, chP_nol, chP_okd, chP_nil, List.length_append, List.length_reverse, List.length_take, List.length_drop, Nat.zero_le, vin_clo, vix_clo, letB, cloB_def, opnB_def, asB_b, asI_i, asL_l, lsP_0, lsP_S, slP_0, slP_S, tok_0, tok_S, asP_ints, asP_3]
      refine wL_1 (hcc c (by simp)) ?_
      exact ⟨cs, _, none, rfl, fun x hx => hcc x (by simp [hx]), rfl, rfl⟩
theorem w_law {ns : List Int} (hns : ns.length ≤ 63) : p_law [.scr ns] none = .ok (.bl true) none := by
  apply Wq.eq
  refine pw_law ?_
  unfold pb_law
  refine w_law2 (R := fun v o' => v = .bl true ∧ o' = none) ?_ hns ?_ ?_
  · exact ⟨rfl, rfl⟩
  · decide
  · decide
theorem law_true (ns : List Int) (hns : ns.length ≤ 63) : ∃ h, m_law [.scr ns] [] = .ok (.bl true) h := Det.law_of v_law (w_law hns)

end Lk15
open PySem PySem.W PyProof.Rows
set_option maxHeartbeats 0 in
theorem PySem.Challenge.cw_autoclosing_k15_key_lists_recognized_holds : PySem.Challenge.rw_autoclosing_k15_key_lists_recognized.Holds := by
  w_on; o_law; k_head; (case hw => w_witness2)
  k_fill
  refine Det.law_endG (l := PySem.Challenge.rw_autoclosing_k15_key_lists_recognized) (k := 3) (x := "script") rfl rfl ⟨rfl, by decide, by decide⟩ (fun w h Y => PySem.W.kIn_of Y) ?F
  case F =>
    intro w mg fa h KX G hmg
    refine' Lk15.all_mk Lk15.law_true KX G hmg ?a0 ?l0 ?q0 ?k0 ?a1 ?l1 ?q1 ?k1 ?a2 ?l2 ?q2 ?k2 ?a3 ?l3 ?q3 ?k3 ?a4 ?l4 ?q4 ?k4 ?a5 ?l5 ?q5 ?k5 ?a6 ?l6 ?q6 ?k6 ?a7 ?l7 ?q7 ?k7 ?z_all ?z_enumerate ?z_int ?z_isinstance ?z_len ?z_list ?z_max ?z_range ?z_repr ?z_str ?z_tuple ?s_KEYS ?e_KEYS
    (case a0 => k_is)
    (case l0 => k_is)
    (case q0 => k_is)
    (case k0 => k_is)
    (case a1 => k_is)
    (case l1 => k_is)
    (case q1 => k_is)
    (case k1 => k_is)
    (case a2 => k_is)
    (case l2 => k_is)
    (case q2 => k_is)
    (case k2 => k_is)
    (case a3 => k_is)
    (case l3 => k_is)
    (case q3 => k_is)
    (case k3 => k_is)
    (case a4 => k_is)
    (case l4 => k_is)
    (case q4 => k_is)
    (case k4 => k_is)
    (case a5 => k_is)
    (case l5 => k_is)
    (case q5 => k_is)
    (case k5 => k_is)
    (case a6 => k_is)
    (case l6 => k_is)
    (case q6 => k_is)
    (case k6 => k_is)
    (case a7 => k_is)
    (case l7 => k_is)
    (case q7 => k_is)
    (case k7 => k_is)
    (case z_all => k_is)
    (case z_enumerate => k_is)
    (case z_int => k_is)
    (case z_isinstance => k_is)
    (case z_len => k_is)
    (case z_list => k_is)
    (case z_max => k_is)
    (case z_range => k_is)
    (case z_repr => k_is)
    (case z_str => k_is)
    (case z_tuple => k_is)
    (case s_KEYS => k_is)
    (case e_KEYS => decide +kernel)
