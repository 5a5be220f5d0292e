import PyProof.Rows.All
import HandS.ForMost
import HandS.ForExc
import HandS.Walk
import HandS.IsInst
import HandS.ExcValue
import HandS.Rev
import HandS.Zip
import HandS.Comp
import HandS.ExcOwn
import HandS.TryOnly
import HandS.Iter
import KE.KDictWalk
import KE.GoesDict
import HandS.TupAny
import HandS.Wide
import HandS.WideBits
import HandS.Small
import HandS.StrMore
import HandS.Text
import HandS.Deep
import HandS.WordsDict
import HandS.TupLen
import HandS.RaiseMore
import HandS.BoundList
import HandS.SetFor
import HandS.Flt
import HandS.ExcIs
import HandS.Defaults
import HandS.HeadHook4
import HandS.HotCalls
import HandS.HeadWalk
import HandS.Head2
import PySem.Challenge.RW_fallstones_k17_refusals_made
set_option Elab.async false
set_option linter.all false
set_option maxRecDepth 100000
set_option maxHeartbeats 2000000
/-! DL1: plain data over the layer: what a value is without addresses, a store of cells, how both stand for an abstract heap. -/
namespace Z
open PySem L2

/-- a datum: tuples are plain (ct: one that the text's top has written), what may change stands in a store at a number -/
inductive D where
  | non | bl (b : Bool) | int (i : Int) | str (s : Str) | tup (xs : List D) | ct (xs : List D) | ref (n : Nat) | exv (C : String) | kd (a : Addr) | kl (ns : List Int) | gl (x : String)
instance : Inhabited D := ⟨.non⟩
/-- a tuple's items -/
def D.tupL : D → Option (List D)
  | .tup xs => some xs
  | .ct xs => some xs
  | _ => none
inductive Cell where
  | lst (xs : List D) | dK (kvs : List (Key × D)) | dT (kvs : List (List Key × D)) | ins (C : String) (fs : List (Str × D)) | frz (c : Cell)
abbrev Store := List Cell
abbrev ES := List (Option D)

inductive Res (α : Type) where
  | ok (a : α) (S : Store) | exc (C : String) (S : Store) | stuck
inductive Out where
  | nx (e : ES) (S : Store) | rt (d : D) (S : Store) | bk (e : ES) (S : Store) | ct (e : ES) (S : Store) | exc (C : String) (e : ES) (S : Store) | stuck
abbrev SE := ES → Store → Res D
abbrev ST := ES → Store → Res Bool
abbrev SA := ES → Store → Res (List D)
abbrev SS := ES → Store → Out
abbrev SF := List D → Store → Res D

def Res.bind {α β : Type} (r : Res α) (f : α → Store → Res β) : Res β :=
  match r with
  | .ok a S => f a S
  | .exc C S => .exc C S
  | .stuck => .stuck
@[simp] theorem bind_ok {α β : Type} (a : α) (S : Store) (f : α → Store → Res β) : (Res.ok a S).bind f = f a S := rfl
@[simp] theorem bind_exc {α β : Type} (C : String) (S : Store) (f : α → Store → Res β) : (Res.exc C S : Res α).bind f = .exc C S := rfl
@[simp] theorem bind_stuck {α β : Type} (f : α → Store → Res β) : (Res.stuck : Res α).bind f = .stuck := rfl

/-! ### what stands for what -/
/-- what a datum leans on -/
def Imm0 : HO → Prop
  | .tup _ => True
  | .ext _ => True
  | _ => False
/-- what never changes in the abstract heap -/
def Imm : HO → Prop
  | .tup _ => True
  | .ext _ => True
  | .frz _ _ => True
  | _ => False

section
variable (K : PySem.W.Frag) (cA : String → Addr)
mutual
inductive RelD : List Addr → Hp → D → V → Prop
  | non {ι H} : RelD ι H .non .non
  | bl {ι H} (b : Bool) : RelD ι H (.bl b) (.bl b)
  | int {ι H} (i : Int) : RelD ι H (.int i) (.int i)
  | str {ι H} (s : Str) : RelD ι H (.str s) (.str s)
  | tup {ι H a xs vs} : H a = some (.tup vs) → RelDs ι H xs vs → RelD ι H (.tup xs) (.ref a)
  | ktup {ι H a xs vs} {o : Obj} {its : Array Value} {n : Nat} : K.lookup a = some o → o.cls = .type "tuple" → o.data = .seq its n → its.size ≤ sizeLine → Vals vs its.toList → RelDs ι H xs vs → RelD ι H (.ct xs) (.ref a)
  | ref {ι H n a} : ι[n]? = some a → RelD ι H (.ref n) (.ref a)
  | exv {ι H C a} : H a = some (ExO (.ref (cA C)) a) → RelD ι H (.exv C) (.ref a)
  | kd {ι H a} : RelD ι H (.kd a) (.ref a)
  | kl {ι H a ns} : (∃ (o : Obj) (its : Array Value) (n : Nat), K.lookup a = some o ∧ o.cls = .type "list" ∧ o.dict = none ∧ o.data = .seq its n ∧ its.size ≤ sizeLine ∧ Vals (ns.map V.int) its.toList) → RelD ι H (.kl ns) (.ref a)
  | gl {ι H x} : RelD ι H (.gl x) (.ref (cA x))
inductive RelDs : List Addr → Hp → List D → List V → Prop
  | nil {ι H} : RelDs ι H [] []
  | cons {ι H d v ds vs} : RelD ι H d v → RelDs ι H ds vs → RelDs ι H (d :: ds) (v :: vs)
end
inductive RelC : List Addr → Hp → Cell → HO → Prop
  | lst {ι H xs vs} : RelDs K cA ι H xs vs → RelC ι H (.lst xs) (.lst vs)
  | dK {ι H kvs ws} : Paired (fun (p : Key × D) (q : Key × V) => p.1 = q.1 ∧ RelD K cA ι H p.2 q.2) kvs ws → RelC ι H (.dK kvs) (.dK ws)
  | dT {ι H kvs ws} : Paired (fun (p : List Key × D) (q : List Key × V) => p.1 = q.1 ∧ RelD K cA ι H p.2 q.2) kvs ws → RelC ι H (.dT kvs) (.dT ws)
  | ins {ι H C fs ws dx} : Paired (fun (p : Str × D) (q : Str × V) => p.1 = q.1 ∧ RelD K cA ι H p.2 q.2) fs ws → RelC ι H (.ins C fs) (.ins (cA C) dx ws)
  | frz {ι H c o u} : RelC ι H c u → RelC ι H (.frz c) (.frz o u)
/-- the store stands in the abstract heap at the addresses ι -/
structure RS (ι : List Addr) (S : Store) (H : Hp) : Prop where
  len : ι.length = S.length
  nd : ι.Nodup
  at_ : ∀ (n : Nat) (a : Addr) (c : Cell), ι[n]? = some a → S[n]? = some c → ∃ o, H a = some o ∧ RelC K cA ι H c o
structure REnv (ι : List Addr) (H : Hp) (env : ES) (σ : L2.St) : Prop where
  len : env.length = σ.length
  at_ : ∀ (i : Nat) (d : D), env[i]? = some (some d) → ∃ v, σ[i]? = some (some v) ∧ RelD K cA ι H d v
end
/-- later: more addresses (new ones), what never changes stands, what is not in the store stands -/
structure Ext (ι : List Addr) (H : Hp) (ι' : List Addr) (H' : Hp) : Prop where
  pre : ∃ t, ι' = ι ++ t ∧ ∀ a ∈ t, H a = none
  imm : ∀ a o, Imm o → H a = some o → H' a = some o
  frm : ∀ a o, a ∉ ι → H a = some o → H' a = some o
  dom : ∀ a, H' a = none → H a = none

section
variable {K : PySem.W.Frag} {cA : String → Addr} {ι ι' ι1 ι2 : List Addr} {H H' H1 H2 : Hp} {S S' : Store} {env : ES} {σ : L2.St}
theorem Ext.refl : Ext ι H ι H := ⟨⟨[], (List.append_nil _).symm, fun _ z => nomatch z⟩, fun _ _ _ h => h, fun _ _ _ h => h, fun _ h => h⟩
theorem Ext.trans (a : Ext ι H ι1 H1) (b : Ext ι1 H1 ι2 H2) : Ext ι H ι2 H2 := by
  obtain ⟨⟨t, rfl, n1⟩, i1, f1, d1⟩ := a
  obtain ⟨⟨u, rfl, n2⟩, i2, f2, d2⟩ := b
  refine ⟨⟨t ++ u, by rw [List.append_assoc], fun a ha => ?_⟩, fun a o i h => i2 a o i (i1 a o i h), fun a o na h => f2 a o (fun z => ?_) (f1 a o na h), fun a h => d1 a (d2 a h)⟩
  · rcases List.mem_append.mp ha with z | z
    · exact n1 a z
    · exact d1 a (n2 a z)
  · rcases List.mem_append.mp z with z | z
    · exact na z
    · have := n1 a z
      rw [h] at this; cases this
theorem Ext.get (e : Ext ι H ι' H') {n : Nat} {a : Addr} (h : ι[n]? = some a) : ι'[n]? = some a := by
  obtain ⟨⟨t, rfl, _⟩, _⟩ := e
  rw [List.getElem?_append_left]
  · exact h
  · exact (List.getElem?_eq_some_iff.mp h).1
/-- what a datum's relation leans on -/
structure Low (ι : List Addr) (H : Hp) (ι' : List Addr) (H' : Hp) : Prop where
  get : ∀ (n : Nat) (a : Addr), ι[n]? = some a → ι'[n]? = some a
  imm : ∀ a o, Imm0 o → H a = some o → H' a = some o
theorem Imm0.imm {o : HO} (h : Imm0 o) : Imm o := by cases o <;> first | trivial | exact h.elim
theorem Ext.low (e : Ext ι H ι' H') : Low ι H ι' H' := ⟨fun _ _ h => e.get h, fun a o i => e.imm a o i.imm⟩
mutual
theorem RelD.low {d : D} {v : V} (h : RelD K cA ι H d v) (e : Low ι H ι' H') : RelD K cA ι' H' d v := by
  cases h with
  | non => exact .non
  | bl b => exact .bl b
  | int i => exact .int i
  | str s => exact .str s
  | tup h1 h2 => exact .tup (e.imm _ _ (by trivial) h1) (h2.low e)
  | ktup h1 h2 h3 h4 h5 h6 => exact .ktup h1 h2 h3 h4 h5 (h6.low e)
  | ref h1 => exact .ref (e.get _ _ h1)
  | exv h1 => exact .exv (e.imm _ _ (by trivial) h1)
  | kd => exact .kd
  | kl h => exact .kl h
  | gl => exact .gl
theorem RelDs.low {ds : List D} {vs : List V} (h : RelDs K cA ι H ds vs) (e : Low ι H ι' H') : RelDs K cA ι' H' ds vs := by
  cases h with
  | nil => exact .nil
  | cons h1 h2 => exact .cons (h1.low e) (h2.low e)
end
theorem RelC.low {c : Cell} {o : HO} (h : RelC K cA ι H c o) (e : Low ι H ι' H') : RelC K cA ι' H' c o := by
  induction h with
  | lst h => exact .lst (h.low e)
  | dK h => exact .dK (Paired.mapP h fun a b r => ⟨r.1, r.2.low e⟩)
  | dT h => exact .dT (Paired.mapP h fun a b r => ⟨r.1, r.2.low e⟩)
  | ins h => exact .ins (Paired.mapP h fun a b r => ⟨r.1, r.2.low e⟩)
  | frz h ih => exact .frz ih
theorem RelD.mono {d : D} {v : V} (h : RelD K cA ι H d v) (e : Ext ι H ι' H') : RelD K cA ι' H' d v := h.low e.low
theorem RelDs.mono {ds : List D} {vs : List V} (h : RelDs K cA ι H ds vs) (e : Ext ι H ι' H') : RelDs K cA ι' H' ds vs := h.low e.low
theorem RelC.mono {c : Cell} {o : HO} (h : RelC K cA ι H c o) (e : Ext ι H ι' H') : RelC K cA ι' H' c o := h.low e.low
theorem REnv.mono (h : REnv K cA ι H env σ) (e : Ext ι H ι' H') : REnv K cA ι' H' env σ :=
  ⟨h.len, fun i d q => let ⟨v, h1, h2⟩ := h.at_ i d q; ⟨v, h1, h2.mono e⟩⟩
theorem RelC.nimm {c : Cell} {o : HO} (h : RelC K cA ι H c o) (hc : ∀ c0, c ≠ .frz c0) : ¬ Imm o := by
  cases h with
  | frz _ => exact absurd rfl (hc _)
  | _ => exact fun z => z
theorem RelDs.length {ds : List D} {vs : List V} : RelDs K cA ι H ds vs → ds.length = vs.length
  | .nil => rfl
  | .cons _ t => by rw [List.length_cons, List.length_cons, RelDs.length t]
theorem RelDs.get {ds : List D} {vs : List V} {i : Nat} {d : D} : RelDs K cA ι H ds vs → ds[i]? = some d → ∃ v, vs[i]? = some v ∧ RelD K cA ι H d v
  | .nil, e => by simp at e
  | .cons r t, e => by
    cases i with
    | zero => simp at e; subst e; exact ⟨_, rfl, r⟩
    | succ i =>
      obtain ⟨v, h1, h2⟩ := RelDs.get (i := i) t (by simpa using e)
      exact ⟨v, by simpa using h1, h2⟩
theorem RelDs.get' {ds : List D} {vs : List V} {i : Nat} {v : V} : RelDs K cA ι H ds vs → vs[i]? = some v → ∃ d, ds[i]? = some d ∧ RelD K cA ι H d v
  | .nil, e => by simp at e
  | .cons r t, e => by
    cases i with
    | zero => simp at e; subst e; exact ⟨_, rfl, r⟩
    | succ i =>
      obtain ⟨v, h1, h2⟩ := RelDs.get' (i := i) t (by simpa using e)
      exact ⟨v, by simpa using h1, h2⟩
theorem RelDs.append {ds es : List D} {vs ws : List V} : RelDs K cA ι H ds vs → RelDs K cA ι H es ws → RelDs K cA ι H (ds ++ es) (vs ++ ws)
  | .nil, s => s
  | .cons r t, s => .cons r (RelDs.append t s)
theorem RelDs.set {ds : List D} {vs : List V} {d : D} {v : V} (r : RelD K cA ι H d v) : ∀ (i : Nat) {ds : List D} {vs : List V}, RelDs K cA ι H ds vs → RelDs K cA ι H (ds.set i d) (vs.set i v)
  | _, _, _, .nil => .nil
  | 0, _, _, .cons _ t => .cons r t
  | i + 1, _, _, .cons q t => .cons q (RelDs.set (ds := ds) (vs := vs) r i t)
theorem RelDs.take {ds : List D} {vs : List V} : ∀ (n : Nat) {ds : List D} {vs : List V}, RelDs K cA ι H ds vs → RelDs K cA ι H (ds.take n) (vs.take n)
  | 0, _, _, _ => .nil
  | _ + 1, _, _, .nil => .nil
  | n + 1, _, _, .cons r t => .cons r (RelDs.take (ds := ds) (vs := vs) n t)
theorem RelDs.drop {ds : List D} {vs : List V} : ∀ (n : Nat) {ds : List D} {vs : List V}, RelDs K cA ι H ds vs → RelDs K cA ι H (ds.drop n) (vs.drop n)
  | 0, _, _, r => r
  | _ + 1, _, _, .nil => .nil
  | n + 1, _, _, .cons _ t => RelDs.drop (ds := ds) (vs := vs) n t
theorem RelDs.reverse {ds : List D} {vs : List V} (h : RelDs K cA ι H ds vs) : RelDs K cA ι H ds.reverse vs.reverse := by
  match h with
  | .nil => exact .nil
  | .cons r t => rw [List.reverse_cons, List.reverse_cons]; exact (RelDs.reverse t).append (.cons r .nil)

/-- the address of a cell -/
theorem RS.cell (R : RS K cA ι S H) {n : Nat} {c : Cell} (h : S[n]? = some c) : ∃ a o, ι[n]? = some a ∧ H a = some o ∧ RelC K cA ι H c o := by
  have hn : n < ι.length := by rw [R.len]; exact (List.getElem?_eq_some_iff.mp h).1
  obtain ⟨o, h1, h2⟩ := R.at_ n ι[n] c (List.getElem?_eq_getElem hn) h
  exact ⟨ι[n], o, List.getElem?_eq_getElem hn, h1, h2⟩
theorem RS.cellAt (R : RS K cA ι S H) {n : Nat} {a : Addr} {c : Cell} (h : S[n]? = some c) (ha : ι[n]? = some a) : ∃ o, H a = some o ∧ RelC K cA ι H c o := R.at_ n a c ha h
/-- the heap grows by an address that it does not know -/
theorem Ext.new {p : Addr} {o : HO} (hp : H p = none) : Ext ι H ι (upd H p o) := ⟨⟨[], (List.append_nil _).symm, fun _ z => nomatch z⟩, fun a u _ h => by rw [upd_ne (ne_of_none h hp)]; exact h, fun a u _ h => by rw [upd_ne (ne_of_none h hp)]; exact h, fun a h => by
  by_cases e : a = p
  · subst e; exact hp
  · rw [upd_ne e] at h; exact h⟩
theorem Ext.mut {n : Nat} {p : Addr} {o o' : HO} (ha : ι[n]? = some p) (hp : H p = some o) (hi : ¬ Imm o) : Ext ι H ι (upd H p o') := ⟨⟨[], (List.append_nil _).symm, fun _ z => nomatch z⟩, fun a u iu h => by
  rw [upd_ne]
  · exact h
  · intro z; subst z; rw [hp] at h; cases h; exact hi iu, fun a u na h => by
  rw [upd_ne]
  · exact h
  · intro z; subst z; exact na (List.mem_of_getElem? ha), fun a h => by
  by_cases e : a = p
  · subst e; rw [upd_same] at h; cases h
  · rw [upd_ne e] at h; exact h⟩
theorem Ext.alloc {p : Addr} {o : HO} (hp : H p = none) : Ext ι H (ι ++ [p]) (upd H p o) := ⟨⟨[p], rfl, fun a z => by simp at z; subst z; exact hp⟩, (Ext.new (ι := ι) hp).imm, (Ext.new (ι := ι) hp).frm, (Ext.new (ι := ι) hp).dom⟩
theorem RS.grow {p : Addr} {o : HO} (R : RS K cA ι S H) (hp : H p = none) : RS K cA ι S (upd H p o) :=
  ⟨R.len, R.nd, fun n a c h1 h2 => by
    obtain ⟨u, h3, h4⟩ := R.at_ n a c h1 h2
    exact ⟨u, by rw [upd_ne (ne_of_none h3 hp)]; exact h3, h4.mono (Ext.new hp)⟩⟩
/-- the store alone may change where nothing is said of the addresses -/
theorem RS.mem (R : RS K cA ι S H) {a : Addr} (h : a ∈ ι) : ∃ o, H a = some o := by
  obtain ⟨n, hn, e⟩ := List.getElem_of_mem h
  have hs : n < S.length := by rw [← R.len]; exact hn
  obtain ⟨o, h1, h2⟩ := R.at_ n a S[n] (by rw [List.getElem?_eq_getElem hn, e]) (List.getElem?_eq_getElem hs)
  exact ⟨o, h1⟩
theorem RS.fresh (R : RS K cA ι S H) {p : Addr} (hp : H p = none) : p ∉ ι := fun z => by
  obtain ⟨o, h⟩ := R.mem z
  rw [hp] at h; cases h
/-- a new cell -/
theorem RS.alloc {p : Addr} {o : HO} {c : Cell} (R : RS K cA ι S H) (hp : H p = none) (hc : RelC K cA (ι ++ [p]) (upd H p o) c o) : RS K cA (ι ++ [p]) (S ++ [c]) (upd H p o) := by
  refine ⟨by simp [R.len], ?_, fun n a c' h1 h2 => ?_⟩
  · rw [List.nodup_append]
    refine ⟨R.nd, by simp, fun a ha b hb e => ?_⟩
    simp at hb; subst hb; subst e
    exact R.fresh hp ha
  · by_cases hn : n < ι.length
    · rw [List.getElem?_append_left hn] at h1
      rw [List.getElem?_append_left (by rw [← R.len]; exact hn)] at h2
      obtain ⟨u, h3, h4⟩ := R.at_ n a c' h1 h2
      refine ⟨u, by rw [upd_ne (ne_of_none h3 hp)]; exact h3, h4.mono (Ext.alloc hp)⟩
    · have hn' : n = ι.length := by
        have := (List.getElem?_eq_some_iff.mp h1).1
        simp at this; omega
      subst hn'
      simp at h1
      rw [R.len] at h2
      simp at h2
      subst h1; subst h2
      exact ⟨o, upd_same, hc⟩
/-- a cell is written -/
theorem RS.write {n : Nat} {a : Addr} {o o' : HO} {c' : Cell} (R : RS K cA ι S H) (ha : ι[n]? = some a) (ho : H a = some o) (hi : ¬ Imm o) (hc : RelC K cA ι (upd H a o') c' o') : RS K cA ι (S.set n c') (upd H a o') := by
  refine ⟨by simp [R.len], R.nd, fun m b c h1 h2 => ?_⟩
  by_cases hm : m = n
  · subst hm
    rw [ha] at h1; cases h1
    have hl : m < S.length := by rw [← R.len]; exact (List.getElem?_eq_some_iff.mp ha).1
    rw [List.getElem?_set_self hl] at h2
    cases h2
    exact ⟨o', upd_same, hc⟩
  · rw [List.getElem?_set_ne (Ne.symm hm)] at h2
    obtain ⟨u, h3, h4⟩ := R.at_ m b c h1 h2
    have nb : b ≠ a := fun z => by
      subst z
      obtain ⟨l1, e1⟩ := List.getElem?_eq_some_iff.mp h1
      obtain ⟨l2, e2⟩ := List.getElem?_eq_some_iff.mp ha
      exact hm ((List.getElem_inj R.nd).mp (e1.trans e2.symm))
    exact ⟨u, by rw [upd_ne nb]; exact h3, h4.mono (Ext.mut ha ho hi)⟩
/-- what is not in the store may change -/
theorem Low.off {p : Addr} {o o' : HO} (ho : H p = some o) (hi : ¬ Imm0 o) : Low ι H ι (upd H p o') := ⟨fun _ _ h => h, fun a u iu h => by
  rw [upd_ne]
  · exact h
  · intro z; subst z; rw [ho] at h; cases h; exact hi iu⟩
theorem RS.off {p : Addr} {o o' : HO} (R : RS K cA ι S H) (hp : p ∉ ι) (ho : H p = some o) (hi : ¬ Imm0 o) : RS K cA ι S (upd H p o') :=
  ⟨R.len, R.nd, fun n a c h1 h2 => by
    obtain ⟨u, h3, h4⟩ := R.at_ n a c h1 h2
    exact ⟨u, by rw [upd_ne (fun z => hp (by rw [← z]; exact List.mem_of_getElem? h1))]; exact h3, h4.low (Low.off ho hi)⟩⟩
theorem Ext.off {p : Addr} {o' : HO} (x : Ext ι H ι' H') (hp : H p = none) : Ext ι H ι' (upd H' p o') := ⟨x.pre, fun a u iu h => by
  rw [upd_ne (ne_of_none h hp)]; exact x.imm a u iu h, fun a u na h => by
  rw [upd_ne (ne_of_none h hp)]; exact x.frm a u na h, fun a h => by
  by_cases e : a = p
  · subst e; exact hp
  · rw [upd_ne e] at h; exact x.dom a h⟩
theorem Ext.notin {p : Addr} {o : HO} (x : Ext ι H ι' H') (hp : p ∉ ι) (ho : H p = some o) : p ∉ ι' := by
  obtain ⟨⟨t, rfl, n⟩, _⟩ := x
  intro z
  rcases List.mem_append.mp z with z | z
  · exact hp z
  · have := n p z
    rw [ho] at this; cases this
theorem REnv.set {i : Nat} {d : D} {v : V} (h : REnv K cA ι H env σ) (r : RelD K cA ι H d v) : REnv K cA ι H (env.set i (some d)) (σ.set i (some v)) := by
  refine ⟨by simp [h.len], fun j e q => ?_⟩
  by_cases hj : j = i
  · subst hj
    have hl : j < env.length := by
      have := (List.getElem?_eq_some_iff.mp q).1
      simpa using this
    rw [List.getElem?_set_self hl] at q
    cases q
    exact ⟨v, by rw [List.getElem?_set_self (by rw [← h.len]; exact hl)], r⟩
  · rw [List.getElem?_set_ne (Ne.symm hj)] at q ⊢
    exact h.at_ j e q
end

/-! ### the readings -/
section
variable (K : PySem.W.Frag) (cA : String → Addr) (W : WX)
/-- an expression that is told by m -/
def rdE (m : SE) : TE := fun σ H Q => ∃ ι S env, RS K cA ι S H ∧ REnv K cA ι H env σ ∧
  match m env S with
  | .ok d S' => ∀ v H' ι', Ext ι H ι' H' → RS K cA ι' S' H' → RelD K cA ι' H' d v → Q v H'
  | .exc C S' => ∀ H' ι', Ext ι H ι' H' → RS K cA ι' S' H' → W (.ref (cA C)) none σ H'
  | .stuck => False
def rdT (m : ST) : TT := fun σ H Q => ∃ ι S env, RS K cA ι S H ∧ REnv K cA ι H env σ ∧
  match m env S with
  | .ok b S' => ∀ H' ι', Ext ι H ι' H' → RS K cA ι' S' H' → Q b H'
  | .exc C S' => ∀ H' ι', Ext ι H ι' H' → RS K cA ι' S' H' → W (.ref (cA C)) none σ H'
  | .stuck => False
def rdA (m : SA) : TA := fun σ H Q => ∃ ι S env, RS K cA ι S H ∧ REnv K cA ι H env σ ∧
  match m env S with
  | .ok ds S' => ∀ vs H' ι', Ext ι H ι' H' → RS K cA ι' S' H' → RelDs K cA ι' H' ds vs → Q vs H'
  | .exc C S' => ∀ H' ι', Ext ι H ι' H' → RS K cA ι' S' H' → W (.ref (cA C)) none σ H'
  | .stuck => False
/-- a statement's ends -/
def endsD (ι : List Addr) (H : Hp) (D : Ends) : Out → Prop
  | .nx e S' => ∀ σ' H' ι', Ext ι H ι' H' → RS K cA ι' S' H' → REnv K cA ι' H' e σ' → D.nx σ' H'
  | .rt d S' => ∀ v H' ι', Ext ι H ι' H' → RS K cA ι' S' H' → RelD K cA ι' H' d v → D.rt v H'
  | .bk e S' => ∀ σ' H' ι', Ext ι H ι' H' → RS K cA ι' S' H' → REnv K cA ι' H' e σ' → D.bk σ' H'
  | .ct e S' => ∀ σ' H' ι', Ext ι H ι' H' → RS K cA ι' S' H' → REnv K cA ι' H' e σ' → D.ct σ' H'
  | .exc C e S' => ∀ σ' H' ι', Ext ι H ι' H' → RS K cA ι' S' H' → REnv K cA ι' H' e σ' → W (.ref (cA C)) none σ' H'
  | .stuck => False
def rdS (m : SS) : TS := fun D σ H => ∃ ι S env, RS K cA ι S H ∧ REnv K cA ι H env σ ∧ endsD K cA W ι H D (m env S)
end
theorem PE.weak {X : Cx} {e : Expr} {t t' : TE} (h : PE X e t) (w : ∀ σ H Q, t' σ H Q → t σ H Q) : PE X e t' := ⟨fun pins s σ H Q I q => h.run pins s σ H Q I (w σ H Q q)⟩
theorem PT.weak {X : Cx} {e : Expr} {t t' : TT} (h : PT X e t) (w : ∀ σ H Q, t' σ H Q → t σ H Q) : PT X e t' := ⟨fun pins s σ H Q I q => h.run pins s σ H Q I (w σ H Q q)⟩
theorem PA.weak {X : Cx} {e : List Expr} {t t' : TA} (h : PA X e t) (w : ∀ σ H Q, t' σ H Q → t σ H Q) : PA X e t' := ⟨fun pos pins s σ H Q I q => h.run pos pins s σ H Q I (w σ H Q q)⟩
theorem PS.weak {X : Cx} {e : Stmt} {t t' : TS} (h : PS X e t) (w : ∀ D σ H, t' D σ H → t D σ H) : PS X e t' := ⟨fun pins s σ H D I q => h.run pins s σ H D I (w D σ H q)⟩
theorem PSs.weak {X : Cx} {e : List Stmt} {t t' : TS} (h : PSs X e t) (w : ∀ D σ H, t' D σ H → t D σ H) : PSs X e t' := ⟨fun pins s σ H D I q => h.run pins s σ H D I (w D σ H q)⟩
/-- nothing is let out -/
abbrev W0 : WX := fun _ _ _ _ => False
end Z
set_option Elab.async false
set_option linter.all false
set_option maxRecDepth 100000
set_option maxHeartbeats 2000000
namespace Z
open PySem L2

/-! ### the meaning's words -/
abbrev Op2 := D → D → Store → Option (D × Store)
abbrev Op1 := D → Store → Option (D × Store)
abbrev OpL := List D → Store → Option (D × Store)
def Res.of : Option (D × Store) → Res D
  | some (d, S) => .ok d S
  | none => .stuck
def sVar (i : Nat) : SE := fun env S => match env[i]? with
  | some (some d) => .ok d S
  | _ => .stuck
def sC (d : D) : SE := fun _ S => .ok d S
def sBin (f : Op2) (ma mb : SE) : SE := fun env S => (ma env S).bind fun x S1 => (mb env S1).bind fun y S2 => Res.of (f x y S2)
def sUn (f : Op1) (ma : SE) : SE := fun env S => (ma env S).bind fun x S1 => Res.of (f x S1)
def sNilA : SA := fun _ S => .ok [] S
def sConsA (m : SE) (r : SA) : SA := fun env S => (m env S).bind fun x S1 => (r env S1).bind fun xs S2 => .ok (x :: xs) S2
def sApp (f : OpL) (ma : SA) : SE := fun env S => (ma env S).bind fun xs S1 => Res.of (f xs S1)
def asB (d : D) (S : Store) : Res Bool := match d with
  | .bl b => .ok b S
  | _ => .stuck
def tOf (m : SE) : ST := fun env S => (m env S).bind asB
def sTAnd (a b : ST) : ST := fun env S => (a env S).bind fun x S1 => if x = true then b env S1 else .ok false S1
def sTOr (a b : ST) : ST := fun env S => (a env S).bind fun x S1 => if x = true then .ok true S1 else b env S1
def sTNot (a : ST) : ST := fun env S => (a env S).bind fun x S1 => .ok (!x) S1
def sAnd (a b : SE) : SE := fun env S => (a env S).bind fun x S1 => match x with
  | .bl true => b env S1
  | .bl false => .ok (.bl false) S1
  | _ => .stuck
def sOr (a b : SE) : SE := fun env S => (a env S).bind fun x S1 => match x with
  | .bl true => .ok (.bl true) S1
  | .bl false => b env S1
  | _ => .stuck
def sNot (a : SE) : SE := fun env S => (a env S).bind fun x S1 => match x with
  | .bl b => .ok (.bl (!b)) S1
  | _ => .stuck
def sIf (t : ST) (a b : SE) : SE := fun env S => (t env S).bind fun x S1 => if x = true then a env S1 else b env S1
def sTup (ma : SA) : SE := fun env S => (ma env S).bind fun xs S1 => if xs.length ≤ sizeLine then .ok (.tup xs) S1 else .stuck
def sLst (ma : SA) : SE := fun env S => (ma env S).bind fun xs S1 => if xs.length ≤ sizeLine then .ok (.ref S1.length) (S1 ++ [.lst xs]) else .stuck
def orE2 (f g : Op2) : Op2 := fun x y S => match f x y S with
  | some r => some r
  | none => g x y S
def orL (f g : OpL) : OpL := fun xs S => match f xs S with
  | some r => some r
  | none => g xs S

section
variable {K : PySem.W.Frag} {cA : String → Addr} {W : WX} {X : Cx} {a b c e : Expr} {es rest : List Expr} {pos : Pos} {ma mb mc : SE} {t u : ST} {r : SA}

/-- what is wanted behind a result, as a goal -/
def fin (K : PySem.W.Frag) (cA : String → Addr) (W : WX) (σ : L2.St) (ι : List Addr) (H : Hp) (Q : VK) : Res D → Prop
  | .ok d S' => ∀ v H' ι', Ext ι H ι' H' → RS K cA ι' S' H' → RelD K cA ι' H' d v → Q v H'
  | .exc C S' => ∀ H' ι', Ext ι H ι' H' → RS K cA ι' S' H' → W (.ref (cA C)) none σ H'
  | .stuck => False
theorem rdE_mk {m : SE} {σ : L2.St} {H : Hp} {Q : VK} {ι : List Addr} {S : Store} {env : ES} (R : RS K cA ι S H) (E : REnv K cA ι H env σ) (h : fin K cA W σ ι H Q (m env S)) : rdE K cA W m σ H Q := by
  refine ⟨ι, S, env, R, E, ?_⟩
  cases q : m env S with
  | ok d S' => rw [q] at h; exact h
  | exc C S' => rw [q] at h; exact h
  | stuck => rw [q] at h; exact h
theorem rdE_fin {m : SE} {σ : L2.St} {H : Hp} {Q : VK} (h : rdE K cA W m σ H Q) : ∃ ι S env, RS K cA ι S H ∧ REnv K cA ι H env σ ∧ fin K cA W σ ι H Q (m env S) := by
  obtain ⟨ι, S, env, R, E, h⟩ := h
  refine ⟨ι, S, env, R, E, ?_⟩
  cases q : m env S with
  | ok d S' => rw [q] at h; exact h
  | exc C S' => rw [q] at h; exact h
  | stuck => rw [q] at h; exact h
/-- first m, then what is told by f of its value -/
theorem rd_seq {m : SE} {f : D → Store → Res D} {σ : L2.St} {H : Hp} {Q Q1 : VK} {ι : List Addr} {S : Store} {env : ES} (R : RS K cA ι S H) (E : REnv K cA ι H env σ)
    (h : fin K cA W σ ι H Q ((m env S).bind f))
    (k : ∀ d v S1 H1 ι1, Ext ι H ι1 H1 → RS K cA ι1 S1 H1 → REnv K cA ι1 H1 env σ → RelD K cA ι1 H1 d v → fin K cA W σ ι1 H1 Q (f d S1) → Q1 v H1) : rdE K cA W m σ H Q1 := by
  refine rdE_mk R E ?_
  cases q : m env S with
  | ok d S1 =>
    rw [q] at h
    intro v H1 ι1 x R1 r1
    refine k d v S1 H1 ι1 x R1 (E.mono x) r1 ?_
    simp only [bind_ok] at h
    cases q2 : f d S1 with
    | ok d2 S2 =>
      rw [q2] at h
      intro v2 H2 ι2 x2 R2 r2
      exact h v2 H2 ι2 (x.trans x2) R2 r2
    | exc C S2 =>
      rw [q2] at h
      intro H2 ι2 x2 R2
      exact h H2 ι2 (x.trans x2) R2
    | stuck => rw [q2] at h; exact h
  | exc C S1 => rw [q] at h; exact h
  | stuck => rw [q] at h; exact h
theorem fin_of {o : Option (D × Store)} {σ : L2.St} {ι : List Addr} {H : Hp} {Q : VK} (h : fin K cA W σ ι H Q (Res.of o)) : ∃ d S', o = some (d, S') ∧ ∀ v H' ι', Ext ι H ι' H' → RS K cA ι' S' H' → RelD K cA ι' H' d v → Q v H' := by
  cases o with
  | none => exact h.elim
  | some p => exact ⟨p.1, p.2, rfl, h⟩

/-! ### operations by values -/
abbrev Post (K : PySem.W.Frag) (cA : String → Addr) (ι : List Addr) (H : Hp) (d : D) (S' : Store) (Q : VK) : Prop := ∀ w H' ι', Ext ι H ι' H' → RS K cA ι' S' H' → RelD K cA ι' H' d w → Q w H'
def Op2D (K : PySem.W.Frag) (cA : String → Addr) (r : R2) (f : Op2) : Prop := ∀ ι H S x y v u d S' Q, RS K cA ι S H → RelD K cA ι H x v → RelD K cA ι H y u → f x y S = some (d, S') → Post K cA ι H d S' Q → r v u H Q
def Op1D (K : PySem.W.Frag) (cA : String → Addr) (r : V → Hp → VK → Prop) (f : Op1) : Prop := ∀ ι H S x v d S' Q, RS K cA ι S H → RelD K cA ι H x v → f x S = some (d, S') → Post K cA ι H d S' Q → r v H Q
def OpLD (K : PySem.W.Frag) (cA : String → Addr) (r : List V → Hp → VK → Prop) (f : OpL) : Prop := ∀ ι H S xs vs d S' Q, RS K cA ι S H → RelDs K cA ι H xs vs → f xs S = some (d, S') → Post K cA ι H d S' Q → r vs H Q
def MtD (K : PySem.W.Frag) (cA : String → Addr) (r : V → List V → Hp → VK → Prop) (f : D → OpL) : Prop := ∀ ι H S x v xs vs d S' Q, RS K cA ι S H → RelD K cA ι H x v → RelDs K cA ι H xs vs → f x xs S = some (d, S') → Post K cA ι H d S' Q → r v vs H Q
theorem OpR.or {X : Cx} {f : Value → Value → Sem Value} {r r' : R2} (h : OpR X f r) (h' : OpR X f r') : OpR X f (fun x y H Q => r x y H Q ∨ r' x y H Q) := by
  intro pins s σ H x y v u Q I rx ry q
  rcases q with q | q
  · exact h pins s σ H x y v u Q I rx ry q
  · exact h' pins s σ H x y v u Q I rx ry q
theorem CallR.or {X : Cx} {f : Value} {r r' : List V → Hp → VK → Prop} (h : CallR X f r) (h' : CallR X f r') : CallR X f (fun x H Q => r x H Q ∨ r' x H Q) := by
  intro pins s σ H x v Q I rx q
  rcases q with q | q
  · exact h pins s σ H x v Q I rx q
  · exact h' pins s σ H x v Q I rx q
theorem Op2D.or {r r' : R2} {f g : Op2} (h : Op2D K cA r f) (h' : Op2D K cA r' g) : Op2D K cA (fun x y H Q => r x y H Q ∨ r' x y H Q) (orE2 f g) := by
  intro ι H S x y v u d S' Q R r1 r2 e p
  unfold orE2 at e
  cases q : f x y S with
  | some z =>
    rw [q] at e
    cases e
    exact .inl (h ι H S x y v u d S' Q R r1 r2 q p)
  | none =>
    rw [q] at e
    exact .inr (h' ι H S x y v u d S' Q R r1 r2 e p)
theorem OpLD.or {r r' : List V → Hp → VK → Prop} {f g : OpL} (h : OpLD K cA r f) (h' : OpLD K cA r' g) : OpLD K cA (fun x H Q => r x H Q ∨ r' x H Q) (orL f g) := by
  intro ι H S x v d S' Q R r1 e p
  unfold orL at e
  cases q : f x S with
  | some z =>
    rw [q] at e
    cases e
    exact .inl (h ι H S x v d S' Q R r1 q p)
  | none =>
    rw [q] at e
    exact .inr (h' ι H S x v d S' Q R r1 e p)

/-! ### expressions -/
theorem de_var {i : Nat} {x : Str} (h : PE X (.Name x pos) (tVar i)) : PE X (.Name x pos) (rdE K cA W (sVar i)) := PE.weak h fun σ H Q q => by
  obtain ⟨ι, S, env, R, E, q⟩ := rdE_fin q
  unfold sVar at q
  cases h1 : env[i]? with
  | none => rw [h1] at q; exact q.elim
  | some o =>
    rw [h1] at q
    cases o with
    | none => exact q.elim
    | some d =>
      obtain ⟨v, e1, e2⟩ := E.at_ i d h1
      exact ⟨v, e1, q v H ι Ext.refl R e2⟩
theorem de_c {v : V} {d : D} (h : PE X e (tC v)) (r : ∀ ι H, RelD K cA ι H d v) : PE X e (rdE K cA W (sC d)) := PE.weak h fun σ H Q q => by
  obtain ⟨ι, S, env, R, E, q⟩ := rdE_fin q
  exact q v H ι Ext.refl R (r ι H)
theorem de_int {i : Int} {j : Nat} : PE X (.Constant (.int i) j pos) (rdE K cA W (sC (.int i))) := de_c pe_int fun _ _ => .int i
theorem de_bl {i : Bool} {j : Nat} : PE X (.Constant (.bool i) j pos) (rdE K cA W (sC (.bl i))) := de_c pe_bl fun _ _ => .bl i
theorem de_non {j : Nat} : PE X (.Constant .none j pos) (rdE K cA W (sC .non)) := de_c pe_non fun _ _ => .non
theorem de_str {i : Str} {j : Nat} : PE X (.Constant (.str i) j pos) (rdE K cA W (sC (.str i))) := de_c pe_str fun _ _ => .str i
theorem two_ok {f : Op2} {r : R2} (hf : Op2D K cA r f) {σ : L2.St} {H : Hp} {Q : VK} (q : rdE K cA W (sBin f ma mb) σ H Q) : tOp r (rdE K cA W ma) (rdE K cA W mb) σ H Q := by
  obtain ⟨ι, S, env, R, E, q⟩ := rdE_fin q
  refine rd_seq R E q fun x v S1 H1 ι1 x1 R1 E1 r1 q1 => ?_
  refine rd_seq R1 E1 q1 fun y u S2 H2 ι2 x2 R2 E2 r2 q2 => ?_
  obtain ⟨d, S', e, p⟩ := fin_of q2
  exact hf ι2 H2 S2 x y v u d S' Q R2 (r1.mono x2) r2 e p
theorem de_bin {op : Operator} {f : Op2} {r : R2} (ha : PE X a (rdE K cA W ma)) (hb : PE X b (rdE K cA W mb)) (ho : OpR X (binaryOp op) r) (hf : Op2D K cA r f) :
    PE X (.BinOp a op b pos) (rdE K cA W (sBin f ma mb)) := PE.weak (pe_op ho ha hb) fun σ H Q q => two_ok hf q
theorem de_cmp {op : CmpOp} {f : Op2} {r : R2} (ha : PE X a (rdE K cA W ma)) (hb : PE X b (rdE K cA W mb)) (ho : OpR X (compareOp op) r) (hf : Op2D K cA r f) (hm : behindInMarks op b = false := by rfl) :
    PE X (.Compare a [op] [b] pos) (rdE K cA W (sBin f ma mb)) := PE.weak (pe_cmpR ho ha hb hm) fun σ H Q q => two_ok hf q
theorem de_ix {f : Op2} {r : R2} (ha : PE X a (rdE K cA W ma)) (hb : PE X b (rdE K cA W mb)) (ho : IxR X r) (hf : Op2D K cA r f) (hs : PlainIx b := by intro _ _; rfl) :
    PE X (.Subscript a b pos) (rdE K cA W (sBin f ma mb)) := PE.weak (pe_ix ho ha hb hs) fun σ H Q q => two_ok hf q
theorem de_un {op : UnaryOp} {f : Op1} {r : V → Hp → VK → Prop} (ha : PE X a (rdE K cA W ma)) (ho : UnR X (unaryOp op) r) (hf : Op1D K cA r f) :
    PE X (.UnaryOp op a pos) (rdE K cA W (sUn f ma)) := PE.weak (pe_un ho ha) fun σ H Q q => by
  obtain ⟨ι, S, env, R, E, q⟩ := rdE_fin q
  refine rd_seq R E q fun x v S1 H1 ι1 x1 R1 E1 r1 q1 => ?_
  obtain ⟨d, S', e, p⟩ := fin_of q1
  exact hf ι1 H1 S1 x v d S' Q R1 r1 e p

/-! ### argument lists -/
def finA (K : PySem.W.Frag) (cA : String → Addr) (W : WX) (σ : L2.St) (ι : List Addr) (H : Hp) (Q : List V → Hp → Prop) : Res (List D) → Prop
  | .ok ds S' => ∀ vs H' ι', Ext ι H ι' H' → RS K cA ι' S' H' → RelDs K cA ι' H' ds vs → Q vs H'
  | .exc C S' => ∀ H' ι', Ext ι H ι' H' → RS K cA ι' S' H' → W (.ref (cA C)) none σ H'
  | .stuck => False
theorem rdA_mk {m : SA} {σ : L2.St} {H : Hp} {Q : List V → Hp → Prop} {ι : List Addr} {S : Store} {env : ES} (R : RS K cA ι S H) (E : REnv K cA ι H env σ) (h : finA K cA W σ ι H Q (m env S)) : rdA K cA W m σ H Q := by
  refine ⟨ι, S, env, R, E, ?_⟩
  cases q : m env S with
  | ok d S' => rw [q] at h; exact h
  | exc C S' => rw [q] at h; exact h
  | stuck => rw [q] at h; exact h
theorem rdA_fin {m : SA} {σ : L2.St} {H : Hp} {Q : List V → Hp → Prop} (h : rdA K cA W m σ H Q) : ∃ ι S env, RS K cA ι S H ∧ REnv K cA ι H env σ ∧ finA K cA W σ ι H Q (m env S) := by
  obtain ⟨ι, S, env, R, E, h⟩ := h
  refine ⟨ι, S, env, R, E, ?_⟩
  cases q : m env S with
  | ok d S' => rw [q] at h; exact h
  | exc C S' => rw [q] at h; exact h
  | stuck => rw [q] at h; exact h
theorem da_nil : PA X [] (rdA K cA W sNilA) := PA.weak pa_nil fun σ H Q q => by
  obtain ⟨ι, S, env, R, E, q⟩ := rdA_fin q
  exact q [] H ι Ext.refl R .nil
theorem da_cons (ha : PE X e (rdE K cA W ma)) (hr : PA X es (rdA K cA W r)) (hs : starEach (e :: es) X.env = (false, eval e X.env) :: starEach es X.env := by rfl) : PA X (e :: es) (rdA K cA W (sConsA ma r)) :=
  PA.weak (pa_cons ha hr hs) fun σ H Q q => by
  obtain ⟨ι, S, env, R, E, q⟩ := rdA_fin q
  unfold sConsA at q
  refine rdE_mk R E ?_
  cases q1 : ma env S with
  | stuck => rw [q1] at q; exact q
  | exc C S1 => rw [q1] at q; exact q
  | ok d S1 =>
    rw [q1] at q
    intro v H1 ι1 x1 R1 r1
    refine rdA_mk R1 (E.mono x1) ?_
    simp only [bind_ok] at q
    cases q2 : r env S1 with
    | stuck => rw [q2] at q; exact q
    | exc C S2 =>
      rw [q2] at q
      intro H2 ι2 x2 R2
      exact q H2 ι2 (x1.trans x2) R2
    | ok ds S2 =>
      rw [q2] at q
      intro vs H2 ι2 x2 R2 r2
      exact q (v :: vs) H2 ι2 (x1.trans x2) R2 (.cons (r1.mono x2) r2)
/-- arguments, then a value by them -/
theorem rdA_seq {m : SA} {f : List D → Store → Res D} {σ : L2.St} {H : Hp} {Q : VK} {Q1 : List V → Hp → Prop} {ι : List Addr} {S : Store} {env : ES} (R : RS K cA ι S H) (E : REnv K cA ι H env σ)
    (h : fin K cA W σ ι H Q ((m env S).bind f))
    (k : ∀ ds vs S1 H1 ι1, Ext ι H ι1 H1 → RS K cA ι1 S1 H1 → REnv K cA ι1 H1 env σ → RelDs K cA ι1 H1 ds vs → fin K cA W σ ι1 H1 Q (f ds S1) → Q1 vs H1) : rdA K cA W m σ H Q1 := by
  refine rdA_mk R E ?_
  cases q : m env S with
  | ok d S1 =>
    rw [q] at h
    intro v H1 ι1 x R1 r1
    refine k d v S1 H1 ι1 x R1 (E.mono x) r1 ?_
    simp only [bind_ok] at h
    cases q2 : f d S1 with
    | ok d2 S2 =>
      rw [q2] at h
      intro v2 H2 ι2 x2 R2 r2
      exact h v2 H2 ι2 (x.trans x2) R2 r2
    | exc C S2 =>
      rw [q2] at h
      intro H2 ι2 x2 R2
      exact h H2 ι2 (x.trans x2) R2
    | stuck => rw [q2] at h; exact h
  | exc C S1 => rw [q] at h; exact h
  | stuck => rw [q] at h; exact h
theorem de_tup {x1 : Nat} (h : PA X es (rdA K cA W r)) : PE X (.Tuple es x1 pos) (rdE K cA W (sTup r)) := PE.weak (pe_tup h) fun σ H Q q => by
  obtain ⟨ι, S, env, R, E, q⟩ := rdE_fin q
  refine rdA_seq R E q fun ds vs S1 H1 ι1 x1 R1 E1 r1 q1 => ?_
  by_cases hl : ds.length ≤ sizeLine
  · rw [if_pos hl] at q1
    refine ⟨by rw [← r1.length]; exact hl, fun p hp => ?_⟩
    exact q1 (.ref p) _ ι1 (Ext.new hp) (R1.grow hp) (.tup upd_same (r1.mono (Ext.new hp)))
  · rw [if_neg hl] at q1; exact q1.elim
theorem de_lst (h : PA X es (rdA K cA W r)) : PE X (.List es pos) (rdE K cA W (sLst r)) := PE.weak (pe_lst h) fun σ H Q q => by
  obtain ⟨ι, S, env, R, E, q⟩ := rdE_fin q
  refine rdA_seq R E q fun ds vs S1 H1 ι1 x1 R1 E1 r1 q1 => ?_
  by_cases hl : ds.length ≤ sizeLine
  · rw [if_pos hl] at q1
    refine ⟨by rw [← r1.length]; exact hl, fun p hp => ?_⟩
    refine q1 (.ref p) _ (ι1 ++ [p]) (Ext.alloc hp) (R1.alloc hp (.lst (r1.mono (Ext.alloc hp)))) (.ref ?_)
    rw [← R1.len]; simp
  · rw [if_neg hl] at q1; exact q1.elim
/-- a builtin by its name -/
theorem de_app {x : Str} {p : Pos} {f : OpL} {rr : List V → Hp → VK → Prop} (h : PE X c (tCB rr (rdA K cA W r))) (hf : OpLD K cA rr f) : PE X c (rdE K cA W (sApp f r)) := PE.weak h fun σ H Q q => by
  obtain ⟨ι, S, env, R, E, q⟩ := rdE_fin q
  refine rdA_seq R E q fun ds vs S1 H1 ι1 x1 R1 E1 r1 q1 => ?_
  obtain ⟨d, S', e, p⟩ := fin_of q1
  exact hf ι1 H1 S1 ds vs d S' Q R1 r1 e p

/-! ### tests -/
def finT (K : PySem.W.Frag) (cA : String → Addr) (W : WX) (σ : L2.St) (ι : List Addr) (H : Hp) (Q : Bool → Hp → Prop) : Res Bool → Prop
  | .ok b S' => ∀ H' ι', Ext ι H ι' H' → RS K cA ι' S' H' → Q b H'
  | .exc C S' => ∀ H' ι', Ext ι H ι' H' → RS K cA ι' S' H' → W (.ref (cA C)) none σ H'
  | .stuck => False
theorem rdT_mk {m : ST} {σ : L2.St} {H : Hp} {Q : Bool → Hp → Prop} {ι : List Addr} {S : Store} {env : ES} (R : RS K cA ι S H) (E : REnv K cA ι H env σ) (h : finT K cA W σ ι H Q (m env S)) : rdT K cA W m σ H Q := by
  refine ⟨ι, S, env, R, E, ?_⟩
  cases q : m env S with
  | ok d S' => rw [q] at h; exact h
  | exc C S' => rw [q] at h; exact h
  | stuck => rw [q] at h; exact h
theorem rdT_fin {m : ST} {σ : L2.St} {H : Hp} {Q : Bool → Hp → Prop} (h : rdT K cA W m σ H Q) : ∃ ι S env, RS K cA ι S H ∧ REnv K cA ι H env σ ∧ finT K cA W σ ι H Q (m env S) := by
  obtain ⟨ι, S, env, R, E, h⟩ := h
  refine ⟨ι, S, env, R, E, ?_⟩
  cases q : m env S with
  | ok d S' => rw [q] at h; exact h
  | exc C S' => rw [q] at h; exact h
  | stuck => rw [q] at h; exact h
theorem finT.mono {ι ι1 : List Addr} {H H1 : Hp} {σ : L2.St} {Q : Bool → Hp → Prop} {r : Res Bool} (h : finT K cA W σ ι H Q r) (x : Ext ι H ι1 H1) : finT K cA W σ ι1 H1 Q r := by
  cases r with
  | ok b S => exact fun H2 ι2 x2 R2 => h H2 ι2 (x.trans x2) R2
  | exc C S => exact fun H2 ι2 x2 R2 => h H2 ι2 (x.trans x2) R2
  | stuck => exact h
theorem fin.mono {ι ι1 : List Addr} {H H1 : Hp} {σ : L2.St} {Q : VK} {r : Res D} (h : fin K cA W σ ι H Q r) (x : Ext ι H ι1 H1) : fin K cA W σ ι1 H1 Q r := by
  cases r with
  | ok b S => exact fun v H2 ι2 x2 R2 r2 => h v H2 ι2 (x.trans x2) R2 r2
  | exc C S => exact fun H2 ι2 x2 R2 => h H2 ι2 (x.trans x2) R2
  | stuck => exact h
theorem rdT_seq {m : ST} {f : Bool → Store → Res Bool} {σ : L2.St} {H : Hp} {Q Q1 : Bool → Hp → Prop} {ι : List Addr} {S : Store} {env : ES} (R : RS K cA ι S H) (E : REnv K cA ι H env σ)
    (h : finT K cA W σ ι H Q ((m env S).bind f))
    (k : ∀ b S1 H1 ι1, Ext ι H ι1 H1 → RS K cA ι1 S1 H1 → REnv K cA ι1 H1 env σ → finT K cA W σ ι1 H1 Q (f b S1) → Q1 b H1) : rdT K cA W m σ H Q1 := by
  refine rdT_mk R E ?_
  cases q : m env S with
  | ok b S1 =>
    rw [q] at h
    intro H1 ι1 x R1
    exact k b S1 H1 ι1 x R1 (E.mono x) (finT.mono h x)
  | exc C S1 => rw [q] at h; exact h
  | stuck => rw [q] at h; exact h
theorem tb_ok {σ : L2.St} {H : Hp} {Q : Bool → Hp → Prop} (q : rdT K cA W (tOf ma) σ H Q) : rdE K cA W ma σ H (fun x H' => ∃ k, x = .bl k ∧ Q k H') := by
  obtain ⟨ι, S, env, R, E, q⟩ := rdT_fin q
  unfold tOf at q
  refine rdE_mk R E ?_
  cases h : ma env S with
  | stuck => rw [h] at q; exact q
  | exc C S1 => rw [h] at q; exact q
  | ok d S1 =>
    rw [h] at q
    simp only [bind_ok] at q
    intro v H1 ι1 x1 R1 r1
    cases d with
    | bl b =>
      cases r1
      exact ⟨b, rfl, q H1 ι1 x1 R1⟩
    | _ => exact q.elim
/-- an expression whose value is a truth, as a test -/
theorem dt_val (h : PE X e (rdE K cA W ma)) (he : ∀ whole, isTrue e X.env whole = (do let v ← whole; standAt e.pos; holding [v] (truthy v)) := by intro _; rfl) : PT X e (rdT K cA W (tOf ma)) :=
  PT.weak (pt_val h he) fun σ H Q q => tb_ok q
theorem dt_cmp {op : CmpOp} {f : Op2} {r : R2} (ha : PE X a (rdE K cA W ma)) (hb : PE X b (rdE K cA W mb)) (ho : OpR X (compareOp op) r) (hf : Op2D K cA r f) (hm : behindInMarks op b = false := by rfl) :
    PT X (.Compare a [op] [b] pos) (rdT K cA W (tOf (sBin f ma mb))) := PT.weak (pt_cmpR ho ha hb hm) fun σ H Q q => by
  have z := tb_ok q
  exact two_ok hf z
theorem dt_not (ha : PT X a (rdT K cA W t)) : PT X (.UnaryOp .Not a pos) (rdT K cA W (sTNot t)) := PT.weak (pt_not ha) fun σ H Q q => by
  obtain ⟨ι, S, env, R, E, q⟩ := rdT_fin q
  refine rdT_seq R E q fun b S1 H1 ι1 x1 R1 E1 q1 => ?_
  exact q1 H1 ι1 Ext.refl R1
theorem dw_and1 (ha : PT X a (rdT K cA W t)) : PW X (.BoolOp .And [a] pos) (rdT K cA W t) := pw_and1 ha
theorem dw_or1 (ha : PT X a (rdT K cA W t)) : PW X (.BoolOp .Or [a] pos) (rdT K cA W t) := pw_or1 ha
theorem PW.weak {X : Cx} {e : Expr} {t t' : TT} (h : PW X e t) (w : ∀ σ H Q, t' σ H Q → t σ H Q) : PW X e t' := ⟨fun wh pins s σ H Q I q => h.run wh pins s σ H Q I (w σ H Q q)⟩
theorem dw_and (ha : PT X a (rdT K cA W t)) (hb : PW X (.BoolOp .And (b :: rest) pos) (rdT K cA W u)) : PW X (.BoolOp .And (a :: b :: rest) pos) (rdT K cA W (sTAnd t u)) := PW.weak (pw_and ha hb) fun σ H Q q => by
  obtain ⟨ι, S, env, R, E, q⟩ := rdT_fin q
  refine rdT_seq R E q fun b S1 H1 ι1 x1 R1 E1 q1 => ?_
  cases b with
  | true => exact rdT_mk R1 E1 q1
  | false => exact q1 H1 ι1 Ext.refl R1
theorem dw_or (ha : PT X a (rdT K cA W t)) (hb : PW X (.BoolOp .Or (b :: rest) pos) (rdT K cA W u)) : PW X (.BoolOp .Or (a :: b :: rest) pos) (rdT K cA W (sTOr t u)) := PW.weak (pw_or ha hb) fun σ H Q q => by
  obtain ⟨ι, S, env, R, E, q⟩ := rdT_fin q
  refine rdT_seq R E q fun b S1 H1 ι1 x1 R1 E1 q1 => ?_
  cases b with
  | true => exact q1 H1 ι1 Ext.refl R1
  | false => exact rdT_mk R1 E1 q1
theorem de_one {op : BoolOp} (h : PE X a (rdE K cA W ma)) : PE X (.BoolOp op [a] pos) (rdE K cA W ma) := pe_one h
theorem de_and (ha : PE X a (rdE K cA W ma)) (hb : PE X (.BoolOp .And (b :: rest) pos) (rdE K cA W mb)) : PE X (.BoolOp .And (a :: b :: rest) pos) (rdE K cA W (sAnd ma mb)) := PE.weak (pe_and ha hb) fun σ H Q q => by
  obtain ⟨ι, S, env, R, E, q⟩ := rdE_fin q
  refine rd_seq R E q fun x v S1 H1 ι1 x1 R1 E1 r1 q1 => ?_
  cases x with
  | bl k =>
    cases r1
    refine ⟨k, rfl, ?_⟩
    cases k with
    | true => exact rdE_mk R1 E1 q1
    | false => exact q1 _ H1 ι1 Ext.refl R1 (.bl false)
  | _ => exact q1.elim
theorem de_or (ha : PE X a (rdE K cA W ma)) (hb : PE X (.BoolOp .Or (b :: rest) pos) (rdE K cA W mb)) : PE X (.BoolOp .Or (a :: b :: rest) pos) (rdE K cA W (sOr ma mb)) := PE.weak (pe_or ha hb) fun σ H Q q => by
  obtain ⟨ι, S, env, R, E, q⟩ := rdE_fin q
  refine rd_seq R E q fun x v S1 H1 ι1 x1 R1 E1 r1 q1 => ?_
  cases x with
  | bl k =>
    cases r1
    refine ⟨k, rfl, ?_⟩
    cases k with
    | true => exact q1 _ H1 ι1 Ext.refl R1 (.bl true)
    | false => exact rdE_mk R1 E1 q1
  | _ => exact q1.elim
theorem de_not (ha : PE X a (rdE K cA W ma)) : PE X (.UnaryOp .Not a pos) (rdE K cA W (sNot ma)) := PE.weak (pe_not ha) fun σ H Q q => by
  obtain ⟨ι, S, env, R, E, q⟩ := rdE_fin q
  refine rd_seq R E q fun x v S1 H1 ι1 x1 R1 E1 r1 q1 => ?_
  cases x with
  | bl k =>
    cases r1
    exact ⟨k, rfl, q1 _ H1 ι1 Ext.refl R1 (.bl _)⟩
  | _ => exact q1.elim
theorem de_if (hc : PT X c (rdT K cA W t)) (ha : PE X a (rdE K cA W ma)) (hb : PE X b (rdE K cA W mb)) : PE X (.IfExp c a b pos) (rdE K cA W (sIf t ma mb)) := PE.weak (pe_ifExp hc ha hb) fun σ H Q q => by
  obtain ⟨ι, S, env, R, E, q⟩ := rdE_fin q
  unfold sIf at q
  refine rdT_mk R E ?_
  cases h : t env S with
  | stuck => rw [h] at q; exact q
  | exc C S1 => rw [h] at q; exact q
  | ok k S1 =>
    rw [h] at q
    intro H1 ι1 x1 R1
    simp only [bind_ok] at q
    cases k with
    | true => exact rdE_mk R1 (E.mono x1) (fin.mono q x1)
    | false => exact rdE_mk R1 (E.mono x1) (fin.mono q x1)
end
end Z
set_option Elab.async false
set_option linter.all false
set_option maxRecDepth 100000
set_option maxHeartbeats 2000000
namespace Z
open PySem L2

/-! ### statements: the words -/
def sSkip : SS := fun env S => .nx env S
def Out.seq (o : Out) (f : ES → Store → Out) : Out := match o with
  | .nx e S => f e S
  | o => o
def sSeq (a b : SS) : SS := fun env S => (a env S).seq b
def Res.out {α : Type} (r : Res α) (env : ES) (f : α → Store → Out) : Out := match r with
  | .ok a S => f a S
  | .exc C S => .exc C env S
  | .stuck => .stuck
def sSet (i : Nat) (m : SE) : SS := fun env S => (m env S).out env fun d S1 => .nx (env.set i (some d)) S1
def sDrop (m : SE) : SS := fun env S => (m env S).out env fun _ S1 => .nx env S1
def sRet (m : SE) : SS := fun env S => (m env S).out env fun d S1 => .rt d S1
def sRetN : SS := fun _ S => .rt .non S
def sIfS (t : ST) (a b : SS) : SS := fun env S => (t env S).out env fun c S1 => if c = true then a env S1 else b env S1
abbrev Tgt := D → ES → Store → Option (ES × Store)
def sAsg (m : SE) (g : Tgt) : SS := fun env S => (m env S).out env fun d S1 => match g d env S1 with
  | some (e, S2) => .nx e S2
  | none => .stuck
def gNm (i : Nat) : Tgt := fun d env S => some (env.set i (some d), S)
abbrev Tgts := List D → ES → Store → Option (ES × Store)
def gsNil : Tgts := fun ds env S => match ds with
  | [] => some (env, S)
  | _ => none
def gsCons (g : Tgt) (gs : Tgts) : Tgts := fun ds env S => match ds with
  | d :: r => (g d env S).bind fun p => gs r p.1 p.2
  | [] => none
/-- a list that may be read -/
def getL (S : Store) (d : D) : Option (List D) := match d with
  | .ref n => match S[n]? with
    | some (.lst xs) => some xs
    | some (.frz (.lst xs)) => some xs
    | _ => none
  | .kl ns => some (ns.map .int)
  | _ => none
def gUn (n : Nat) (gs : Tgts) : Tgt := fun d env S => match d.tupL with
  | some xs => if xs.length = n then gs xs env S else none
  | none => match getL S d with
    | some xs => if xs.length = n then gs xs env S else none
    | none => none
/-- what a loop walks: the items, and what has to stand meanwhile -/
structure Itr where
  items : List D
  ok : Store → Prop
abbrev SI := ES → Store → Res Itr
open Classical in
noncomputable def forL (g : Tgt) (body : SS) (ok : Store → Prop) : List D → ES → Store → Out
  | [], env, S => if ok S then .nx env S else .stuck
  | x :: xs, env, S => if ok S then (match g x env S with
    | some (e1, S1) => match body e1 S1 with
      | .nx e2 S2 => forL g body ok xs e2 S2
      | .ct e2 S2 => forL g body ok xs e2 S2
      | .bk e2 S2 => .nx e2 S2
      | o => o
    | none => .stuck) else .stuck
noncomputable def sFor (it : SI) (g : Tgt) (body : SS) : SS := fun env S => (it env S).out env fun I S1 => forL g body I.ok I.items env S1
/-- while, to a depth -/
def whN (t : ST) (body : SS) : Nat → SS
  | 0 => fun _ _ => .stuck
  | n + 1 => fun env S => (t env S).out env fun c S1 => if c = true then (match body env S1 with
    | .nx e2 S2 => whN t body n e2 S2
    | .ct e2 S2 => whN t body n e2 S2
    | .bk e2 S2 => .nx e2 S2
    | o => o) else .nx env S1
open Classical in
noncomputable def sWhile (t : ST) (body : SS) : SS := fun env S => if h : ∃ n, whN t body n env S ≠ .stuck then whN t body h.choose env S else .stuck
def itL (m : SE) : SI := fun env S => (m env S).bind fun d S1 => match d.tupL with
  | some xs => .ok ⟨xs, fun _ => True⟩ S1
  | none => match getL S1 d with
    | some xs => .ok ⟨xs, fun S' => getL S' d = some xs⟩ S1
    | none => .stuck
def itS (m : SE) : SI := fun env S => (m env S).bind fun d S1 => match d with
  | .str z => .ok ⟨z.cps.toList.map fun c => .str ⟨#[c]⟩, fun _ => True⟩ S1
  | _ => .stuck
def rangeD (lo : Int) (c : Int) (n : Nat) : List D := (List.range n).map fun (i : Nat) => .int (lo + (i : Nat) * c)
def small62 (i : Int) : Bool := decide (-(2 ^ 62) ≤ i ∧ i < 2 ^ 62)
def itR1 (m : SE) : SI := fun env S => (m env S).bind fun d S1 => match d with
  | .int j => if small62 j = true then .ok ⟨rangeD 0 1 j.toNat, fun _ => True⟩ S1 else .stuck
  | _ => .stuck
def itR2 (ma mb : SE) : SI := fun env S => (ma env S).bind fun x S1 => (mb env S1).bind fun y S2 => match x, y with
  | .int i, .int j => if small62 i = true ∧ small62 j = true then .ok ⟨rangeD i 1 (j - i).toNat, fun _ => True⟩ S2 else .stuck
  | _, _ => .stuck
def enumD (xs : List D) : List D := (List.range xs.length).map fun i => .tup [.int (i : Nat), (xs[i]?).getD .non]
def itEnum (m : SE) : SI := fun env S => (m env S).bind fun d S1 => match getL S1 d with
    | some xs => .ok ⟨enumD xs, fun S' => getL S' d = some xs⟩ S1
    | none => .stuck
def zipD (xs ys : List D) : List D := (List.range (min xs.length ys.length)).map fun i => .tup [(xs[i]?).getD .non, (ys[i]?).getD .non]
def itZip (ma mb : SE) : SI := fun env S => (ma env S).bind fun x S1 => (mb env S1).bind fun y S2 => match getL S2 x, getL S2 y with
    | some xs, some ys => .ok ⟨zipD xs ys, fun S' => getL S' x = some xs ∧ getL S' y = some ys⟩ S2
    | _, _ => .stuck
def itRev (m : SE) : SI := fun env S => (m env S).bind fun d S1 => match getL S1 d with
    | some xs => .ok ⟨xs.reverse, fun S' => getL S' d = some xs⟩ S1
    | none => .stuck

section
variable {K : PySem.W.Frag} {cA : String → Addr} {W : WX} {X : Cx} {a b c e o i : Expr} {es rest : List Expr} {pos : Pos} {ma mb mc m : SE} {t u : ST} {r : SA} {st : Stmt} {sts : List Stmt} {s1 s2 : SS}

/-! ### ends -/
theorem endsD.mono {ι ι1 : List Addr} {H H1 : Hp} {D : Ends} {o : Out} (h : endsD K cA W ι H D o) (x : Ext ι H ι1 H1) : endsD K cA W ι1 H1 D o := by
  cases o with
  | nx e S => exact fun σ' H' ι' x' => h σ' H' ι' (x.trans x')
  | rt d S => exact fun v H' ι' x' => h v H' ι' (x.trans x')
  | bk e S => exact fun σ' H' ι' x' => h σ' H' ι' (x.trans x')
  | ct e S => exact fun σ' H' ι' x' => h σ' H' ι' (x.trans x')
  | exc C e S => exact fun σ' H' ι' x' => h σ' H' ι' (x.trans x')
  | stuck => exact h
/-- an expression's value, then the ends by it -/
theorem rd_out {f : D → Store → Out} {D : Ends} {σ : L2.St} {H : Hp} {Q1 : VK} {ι : List Addr} {S : Store} {env : ES} (R : RS K cA ι S H) (E : REnv K cA ι H env σ)
    (h : endsD K cA W ι H D ((m env S).out env f))
    (k : ∀ d v S1 H1 ι1, Ext ι H ι1 H1 → RS K cA ι1 S1 H1 → REnv K cA ι1 H1 env σ → RelD K cA ι1 H1 d v → endsD K cA W ι1 H1 D (f d S1) → Q1 v H1) : rdE K cA W m σ H Q1 := by
  refine rdE_mk R E ?_
  cases q : m env S with
  | ok d S1 =>
    rw [q] at h
    exact fun v H1 ι1 x R1 r1 => k d v S1 H1 ι1 x R1 (E.mono x) r1 (endsD.mono h x)
  | exc C S1 =>
    rw [q] at h
    exact fun H1 ι1 x R1 => h σ H1 ι1 x R1 (E.mono x)
  | stuck => rw [q] at h; exact h
theorem rdT_out {f : Bool → Store → Out} {D : Ends} {σ : L2.St} {H : Hp} {Q1 : Bool → Hp → Prop} {ι : List Addr} {S : Store} {env : ES} (R : RS K cA ι S H) (E : REnv K cA ι H env σ)
    (h : endsD K cA W ι H D ((t env S).out env f))
    (k : ∀ d S1 H1 ι1, Ext ι H ι1 H1 → RS K cA ι1 S1 H1 → REnv K cA ι1 H1 env σ → endsD K cA W ι1 H1 D (f d S1) → Q1 d H1) : rdT K cA W t σ H Q1 := by
  refine rdT_mk R E ?_
  cases q : t env S with
  | ok d S1 =>
    rw [q] at h
    exact fun H1 ι1 x R1 => k d S1 H1 ι1 x R1 (E.mono x) (endsD.mono h x)
  | exc C S1 =>
    rw [q] at h
    exact fun H1 ι1 x R1 => h σ H1 ι1 x R1 (E.mono x)
  | stuck => rw [q] at h; exact h
theorem rdS_mk {D : Ends} {σ : L2.St} {H : Hp} {ι : List Addr} {S : Store} {env : ES} (R : RS K cA ι S H) (E : REnv K cA ι H env σ) (h : endsD K cA W ι H D (s1 env S)) : rdS K cA W s1 D σ H := ⟨ι, S, env, R, E, h⟩
theorem dss_nil : PSs X [] (rdS K cA W sSkip) := PSs.weak pss_nil fun D σ H q => by
  obtain ⟨ι, S, env, R, E, q⟩ := q
  exact q σ H ι Ext.refl R E
theorem endsD_seq {D : Ends} {ι : List Addr} {H : Hp} {o : Out} {t2 : TS} (h : endsD K cA W ι H D (o.seq s2)) (ht : ∀ σ' H', rdS K cA W s2 D σ' H' → t2 D σ' H') : endsD K cA W ι H { D with nx := t2 D } o := by
  cases o with
  | nx e S => exact fun σ' H' ι' x' R' E' => ht σ' H' (rdS_mk R' E' (endsD.mono h x'))
  | rt d S => exact h
  | bk e S => exact h
  | ct e S => exact h
  | exc C e S => exact h
  | stuck => exact h
theorem dss_cons (h1 : PS X st (rdS K cA W s1)) (h2 : PSs X sts (rdS K cA W s2)) : PSs X (st :: sts) (rdS K cA W (sSeq s1 s2)) := PSs.weak (pss_cons h1 h2) fun D σ H q => by
  obtain ⟨ι, S, env, R, E, q⟩ := q
  exact ⟨ι, S, env, R, E, endsD_seq q fun _ _ z => z⟩
theorem dss_one (h1 : PS X st (rdS K cA W s1)) : PSs X [st] (rdS K cA W s1) := pss_one h1
theorem ds_pass : PS X (.Pass pos) (rdS K cA W sSkip) := PS.weak ps_pass fun D σ H q => by
  obtain ⟨ι, S, env, R, E, q⟩ := q
  exact q σ H ι Ext.refl R E
theorem ds_doc {x : Str} {j : Nat} {pos' : Pos} : PS X (.Expr (.Constant (.str x) j pos) pos') (rdS K cA W sSkip) := PS.weak ps_doc fun D σ H q => by
  obtain ⟨ι, S, env, R, E, q⟩ := q
  exact q σ H ι Ext.refl R E
theorem ds_set {i : Nat} {x : Str} {pos' : Pos} (hN : X.N.Nodup) (hi : X.N[i]? = some x) (hx : Loc X.env.scope x) (he : PE X e (rdE K cA W m)) (hs : swapsWith e (some (.Name x pos')) pos.line X.env = pure false := by rfl)
    (hf : X.fn x = true ∨ X.env.scope.names.lookup x = some .local := by first | exact .inl rfl | exact .inr rfl | assumption) : PS X (.Assign [.Name x pos'] e pos) (rdS K cA W (sSet i m)) :=
  PS.weak (ps_set hN hi hx he hs hf) fun D σ H q => by
  obtain ⟨ι, S, env, R, E, q⟩ := q
  exact rd_out R E q fun d v S1 H1 ι1 x1 R1 E1 r1 q1 => q1 _ _ ι1 Ext.refl R1 (E1.set r1)
theorem ds_expr (he : PE X e (rdE K cA W m)) (hs : swapsWith e none pos.line X.env = pure false := by rfl) : PS X (.Expr e pos) (rdS K cA W (sDrop m)) :=
  PS.weak (ps_expr he hs) fun D σ H q => by
  obtain ⟨ι, S, env, R, E, q⟩ := q
  exact rd_out R E q fun d v S1 H1 ι1 x1 R1 E1 r1 q1 => q1 _ _ ι1 Ext.refl R1 E1
theorem ds_ret (he : PE X e (rdE K cA W m)) : PS X (.Return (some e) pos) (rdS K cA W (sRet m)) :=
  PS.weak (ps_ret he) fun D σ H q => by
  obtain ⟨ι, S, env, R, E, q⟩ := q
  exact rd_out R E q fun d v S1 H1 ι1 x1 R1 E1 r1 q1 => q1 _ _ ι1 Ext.refl R1 r1
theorem ds_retN : PS X (.Return none pos) (rdS K cA W sRetN) := PS.weak ps_retN fun D σ H q => by
  obtain ⟨ι, S, env, R, E, q⟩ := q
  exact q .non H ι Ext.refl R .non
theorem ds_if {p q : List Stmt} (hc : PT X c (rdT K cA W t)) (ha : PSs X p (rdS K cA W s1)) (hb : PSs X q (rdS K cA W s2)) : PS X (.If c p q pos) (rdS K cA W (sIfS t s1 s2)) :=
  PS.weak (ps_if hc ha hb) fun D σ H q => by
  obtain ⟨ι, S, env, R, E, q⟩ := q
  refine rdT_out R E q fun k S1 H1 ι1 x1 R1 E1 q1 => ?_
  cases k with
  | true => exact rdS_mk R1 E1 q1
  | false => exact rdS_mk R1 E1 q1

/-! ### targets -/
def rdG (K : PySem.W.Frag) (cA : String → Addr) (g : Tgt) : TG := fun v σ H Q => ∃ ι S env d, RS K cA ι S H ∧ REnv K cA ι H env σ ∧ RelD K cA ι H d v ∧
  match g d env S with
  | some (e', S') => ∀ σ' H' ι', Ext ι H ι' H' → RS K cA ι' S' H' → REnv K cA ι' H' e' σ' → Q σ' H'
  | none => False
def rdGs (K : PySem.W.Frag) (cA : String → Addr) (g : Tgts) : TGs := fun vs σ H Q => ∃ ι S env ds, RS K cA ι S H ∧ REnv K cA ι H env σ ∧ RelDs K cA ι H ds vs ∧
  match g ds env S with
  | some (e', S') => ∀ σ' H' ι', Ext ι H ι' H' → RS K cA ι' S' H' → REnv K cA ι' H' e' σ' → Q σ' H'
  | none => False
theorem PG.weak {t t' : TG} (h : PG X e t) (w : ∀ v σ H Q, t' v σ H Q → t v σ H Q) : PG X e t' := ⟨fun pins s σ H v u Q I r q => h.run pins s σ H v u Q I r (w v σ H Q q)⟩
theorem PGs.weak {t t' : TGs} (h : PGs X es t) (w : ∀ v σ H Q, t' v σ H Q → t v σ H Q) : PGs X es t' := ⟨fun pins s σ H v u Q I r q => h.run pins s σ H v u Q I r (w v σ H Q q)⟩
theorem PG.or {t t' : TG} (h : PG X e t) (h' : PG X e t') : PG X e (fun v σ H Q => t v σ H Q ∨ t' v σ H Q) := ⟨fun pins s σ H v u Q I r q => q.elim (h.run pins s σ H v u Q I r) (h'.run pins s σ H v u Q I r)⟩
theorem dg_name {i : Nat} {x : Str} (h : PG X (.Name x pos) (gName i)) : PG X (.Name x pos) (rdG K cA (gNm i)) := PG.weak h fun v σ H Q q => by
  obtain ⟨ι, S, env, d, R, E, r, q⟩ := q
  exact q _ _ ι Ext.refl R (E.set r)
theorem dgs_nil : PGs X [] (rdGs K cA gsNil) := PGs.weak pgs_nil fun v σ H Q q => by
  obtain ⟨ι, S, env, ds, R, E, r, q⟩ := q
  cases r with
  | nil => exact ⟨rfl, q σ H ι Ext.refl R E⟩
  | cons r1 r2 => exact q.elim
theorem dgs_cons {g : Tgt} {gs : Tgts} (h1 : PG X e (rdG K cA g)) (h2 : PGs X es (rdGs K cA gs)) (hs : (assignEach (e :: es) X.env).map (·.2) = assign e X.env :: (assignEach es X.env).map (·.2) := by rfl) :
    PGs X (e :: es) (rdGs K cA (gsCons g gs)) := PGs.weak (pgs_cons h1 h2 hs) fun v σ H Q q => by
  obtain ⟨ι, S, env, ds, R, E, r, q⟩ := q
  cases r with
  | nil => exact q.elim
  | @cons d v ds vs r1 r2 =>
    refine ⟨v, vs, rfl, ι, S, env, d, R, E, r1, ?_⟩
    unfold gsCons at q
    cases z : g d env S with
    | none => simp only [z, Option.bind_none] at q
    | some p =>
      simp only [z, Option.bind_some] at q
      intro σ' H' ι' x' R' E'
      refine ⟨ι', p.2, p.1, ds, R', E', r2.mono x', ?_⟩
      cases z2 : gs ds p.1 p.2 with
      | none => rw [z2] at q; exact q
      | some p2 => rw [z2] at q; exact fun σ2 H2 ι2 x2 => q σ2 H2 ι2 (x'.trans x2)
theorem ints_kl {ι : List Addr} {H : Hp} : ∀ ns : List Int, RelDs K cA ι H (ns.map D.int) (ns.map V.int)
  | [] => .nil
  | n :: ns => .cons (.int n) (ints_kl ns)
/-- what may be read as a list -/
theorem RS.getL {ι : List Addr} {S : Store} {H : Hp} (R : RS K cA ι S H) {d : D} {v : V} {xs : List D} (r : RelD K cA ι H d v) (h : getL S d = some xs) : ∃ a vs, v = .ref a ∧ SqL K H a vs ∧ RelDs K cA ι H xs vs := by
  cases r with
  | @ref n a ha =>
    unfold Z.getL at h
    simp only at h
    cases q : S[n]? with
    | none => rw [q] at h; cases h
    | some c =>
      obtain ⟨o, h1, h2⟩ := R.cellAt q ha
      rw [q] at h
      cases h2 with
      | lst h3 =>
        cases h
        exact ⟨a, _, rfl, SqL.of h1, h3⟩
      | @frz c o u h3 =>
        cases h3 with
        | lst h4 =>
          cases h
          exact ⟨a, _, rfl, .inl (.inr ⟨_, h1⟩), h4⟩
        | _ => cases h
      | _ => cases h
  | @kl a ns hk =>
    cases h
    exact ⟨a, _, rfl, .inr hk, ints_kl ns⟩
  | _ => cases h
theorem RelD.tupOf {ι : List Addr} {H : Hp} {xs : List D} {v : V} (r : RelD K cA ι H (.tup xs) v) : ∃ a vs, v = .ref a ∧ H a = some (.tup vs) ∧ RelDs K cA ι H xs vs := by
  cases r with
  | tup h1 h2 => exact ⟨_, _, rfl, h1, h2⟩
theorem RelD.tupR {ι : List Addr} {H : Hp} {d : D} {xs : List D} {v : V} (r : RelD K cA ι H d v) (h : d.tupL = some xs) : ∃ a vs, v = .ref a ∧ SqT K H a vs ∧ RelDs K cA ι H xs vs := by
  cases r with
  | tup h1 h2 => cases h; exact ⟨_, _, rfl, SqT.of h1, h2⟩
  | ktup h1 h2 h3 h4 h5 h6 => cases h; exact ⟨_, _, rfl, .inr ⟨_, _, _, h1, h2, h3, h4, h5⟩, h6⟩
  | _ => cases h
theorem dg_un {k n : Nat} {gs : Tgts} (hK : X.K = K) (hc : X.calm = true) (h : PGs X es (rdGs K cA gs)) (hn : (assignEach es X.env).length = n := by rfl) (hst : (assignEach es X.env).findIdx? (·.1) = none := by rfl) :
    PG X (.Tuple es k pos) (rdG K cA (gUn n gs)) := PG.weak (PG.or (pg_tup hc h hn hst) (pg_lst hc h hn hst)) fun v σ H Q q => by
  obtain ⟨ι, S, env, d, R, E, r, q⟩ := q
  have go : ∀ (xs : List D) (vs : List V), RelDs K cA ι H xs vs → (match (if xs.length = n then gs xs env S else none) with
      | some (e', S') => ∀ σ' H' ι', Ext ι H ι' H' → RS K cA ι' S' H' → REnv K cA ι' H' e' σ' → Q σ' H'
      | none => False) → vs.length = n ∧ rdGs K cA gs vs σ H Q := fun xs vs rr q => by
    by_cases hl : xs.length = n
    · rw [if_pos hl] at q
      exact ⟨by rw [← rr.length]; exact hl, ι, S, env, xs, R, E, rr, q⟩
    · rw [if_neg hl] at q; exact q.elim
  have rest : ∀ xs, getL S d = some xs → (match (if xs.length = n then gs xs env S else none) with
      | some (e', S') => ∀ σ' H' ι', Ext ι H ι' H' → RS K cA ι' S' H' → REnv K cA ι' H' e' σ' → Q σ' H'
      | none => False) → gLst X.K n (rdGs K cA gs) v σ H Q := fun xs hx q => by
    obtain ⟨a, vs, e1, e2, e3⟩ := R.getL r hx
    obtain ⟨e4, e5⟩ := go xs vs e3 q
    rw [hK]
    exact ⟨a, vs, e1, e2, e4, e5⟩
  cases z0 : d.tupL with
  | some xs =>
    obtain ⟨a, vs, e1, e2, e3⟩ := r.tupR z0
    unfold gUn at q
    simp only [z0] at q
    obtain ⟨e4, e5⟩ := go xs vs e3 q
    refine .inl ?_
    rw [hK]
    exact ⟨a, vs, e1, e2, e4, e5⟩
  | none =>
    unfold gUn at q
    simp only [z0] at q
    cases z : getL S d with
    | none => rw [z] at q; exact q.elim
    | some xs => rw [z] at q; exact .inr (rest xs z q)
theorem ds_asg {tg : Expr} {g : Tgt} (he : PE X e (rdE K cA W m)) (hg : PG X tg (rdG K cA g)) (hs : swapsWithSole [tg] e pos.line X.env = pure false := by rfl) (hw : swappedStores [tg] e X.env = pure none := by rfl)
    (h1 : (assignEach [tg] X.env).map (·.2) = [assign tg X.env] := by rfl) : PS X (.Assign [tg] e pos) (rdS K cA W (sAsg m g)) := PS.weak (ps_asg he hg hs hw h1) fun D σ H q => by
  obtain ⟨ι, S, env, R, E, q⟩ := q
  refine rd_out R E q fun d v S1 H1 ι1 x1 R1 E1 r1 q1 => ?_
  refine ⟨ι1, S1, env, d, R1, E1, r1, ?_⟩
  cases z : g d env S1 with
  | none => rw [z] at q1; exact q1
  | some p => rw [z] at q1; exact q1

/-! ### loops -/
/-- the iterator J gives the items, while what has to stand stands -/
def ItOk (K : PySem.W.Frag) (cA : String → Addr) (ι1 : List Addr) (H1 : Hp) (I : Itr) (J : It) : Prop := ∃ (G : Hp → Prop) (Y : Nat → Hp → V → Hp → Prop), Walk J I.items.length G Y ∧
  (∀ ι H S, Ext ι1 H1 ι H → RS K cA ι S H → I.ok S → G H) ∧
  ∀ ι H S i x H', Ext ι1 H1 ι H → RS K cA ι S H → I.ok S → i < I.items.length → Y i H x H' → ∃ d, I.items[i]? = some d ∧ RS K cA ι S H' ∧ Ext ι H ι H' ∧ RelD K cA ι H' d x
def rdI (K : PySem.W.Frag) (cA : String → Addr) (W : WX) (it : SI) : TI := fun σ H R => ∃ ι S env, RS K cA ι S H ∧ REnv K cA ι H env σ ∧
  match it env S with
  | .ok I S1 => ∀ J H1 ι1, Ext ι H ι1 H1 → RS K cA ι1 S1 H1 → ItOk K cA ι1 H1 I J → R J H1
  | .exc C S1 => ∀ H' ι', Ext ι H ι' H' → RS K cA ι' S1 H' → W (.ref (cA C)) none σ H'
  | .stuck => False
theorem PI.weak {tg iter : Expr} {w w' : TI} (h : PI X tg iter w) (k : ∀ σ H R, w' σ H R → w σ H R) : PI X tg iter w' := ⟨fun pins s σ H R I q => h.run pins s σ H R I (k σ H R q)⟩
theorem ds_for {tg iter : Expr} {body : List Stmt} {it : SI} {g : Tgt} {sb : SS} (hp : PassesOwn (model X.prog X.w) X.A X.env X.xe) (hc : X.calm = true) (hi : PI X tg iter (rdI K cA W it)) (hg : PG X tg (rdG K cA g)) (hb : PSs X body (rdS K cA W sb))
    (hs : ∀ x, foldedSetIterable iter X.env x = pure x := by intro _; rfl) : PS X (.For tg iter body [] pos) (rdS K cA W (sFor it g sb)) := PS.weak (ps_for hp hc hi hg hb hs) fun D σ H q => by
  obtain ⟨ι, S, env, R, E, q⟩ := q
  refine ⟨ι, S, env, R, E, ?_⟩
  unfold sFor at q
  cases z : it env S with
  | stuck => rw [z] at q; exact q
  | exc C S1 => rw [z] at q; exact fun H' ι' x' R' => q σ H' ι' x' R' (E.mono x')
  | ok I S1 =>
    rw [z] at q
    intro J H1 ι1 x1 R1 ⟨G, Y, wk, hG, hY⟩
    refine for_it wk (fun j σ' H' => ∃ ι' S' env', Ext ι1 H1 ι' H' ∧ RS K cA ι' S' H' ∧ REnv K cA ι' H' env' σ' ∧ endsD K cA W ι' H' D (forL g sb I.ok (I.items.drop j) env' S'))
      ⟨ι1, S1, env, Ext.refl, R1, E.mono x1, endsD.mono q x1⟩ ?_ ?_ ?_
    · rintro j σ' H' hj ⟨ι', S', env', x', R', E', q'⟩
      refine hG ι' H' S' x' R' ?_
      cases hd : I.items.drop j with
      | nil =>
        rw [hd] at q'
        unfold forL at q'
        by_cases ok : I.ok S'
        · exact ok
        · rw [if_neg ok] at q'; exact q'.elim
      | cons y ys =>
        rw [hd] at q'
        unfold forL at q'
        by_cases ok : I.ok S'
        · exact ok
        · rw [if_neg ok] at q'; exact q'.elim
    · rintro j x σ' H' H2 hj ⟨ι', S', env', x', R', E', q'⟩ y
      have hd : I.items.drop j = I.items[j] :: I.items.drop (j + 1) := List.drop_eq_getElem_cons hj
      rw [hd] at q'
      unfold forL at q'
      by_cases ok : I.ok S'
      · rw [if_pos ok] at q'
        obtain ⟨d, e1, R2, x2, r2⟩ := hY ι' H' S' j x H2 x' R' ok hj y
        rw [List.getElem?_eq_getElem hj] at e1
        cases e1
        refine ⟨ι', S', env', _, R2, E'.mono x2, r2, ?_⟩
        cases z2 : g I.items[j] env' S' with
        | none => rw [z2] at q'; exact q'
        | some p =>
          rw [z2] at q'
          intro σ3 H3 ι3 x3 R3 E3
          refine rdS_mk R3 E3 ?_
          have x4 : Ext ι' H' ι3 H3 := x2.trans x3
          simp only at q'
          cases z3 : sb p.1 p.2 with
          | nx e2 S2 =>
            rw [z3] at q'
            exact fun σ5 H5 ι5 x5 R5 E5 => ⟨ι5, S2, e2, x'.trans (x4.trans x5), R5, E5, endsD.mono q' (x4.trans x5)⟩
          | ct e2 S2 =>
            rw [z3] at q'
            exact fun σ5 H5 ι5 x5 R5 E5 => ⟨ι5, S2, e2, x'.trans (x4.trans x5), R5, E5, endsD.mono q' (x4.trans x5)⟩
          | bk e2 S2 =>
            rw [z3] at q'
            exact fun σ5 H5 ι5 x5 R5 E5 => q' σ5 H5 ι5 (x4.trans x5) R5 E5
          | rt d S2 =>
            rw [z3] at q'
            exact fun σ5 H5 ι5 x5 R5 E5 => q' σ5 H5 ι5 (x4.trans x5) R5 E5
          | exc C e2 S2 =>
            rw [z3] at q'
            exact fun σ5 H5 ι5 x5 R5 E5 => q' σ5 H5 ι5 (x4.trans x5) R5 E5
          | stuck => rw [z3] at q'; exact q'
      · rw [if_neg ok] at q'; exact q'.elim
    · rintro σ' H' ⟨ι', S', env', x', R', E', q'⟩
      rw [List.drop_length] at q'
      unfold forL at q'
      by_cases ok : I.ok S'
      · rw [if_pos ok] at q'
        exact q' σ' H' ι' Ext.refl R' E'
      · rw [if_neg ok] at q'; exact q'.elim
theorem ds_while {body : List Stmt} {sb : SS} (hp : PassesOwn (model X.prog X.w) X.A X.env X.xe) (hc : PT X c (rdT K cA W t)) (hb : PSs X body (rdS K cA W sb)) : PS X (.While c body [] pos) (rdS K cA W (sWhile t sb)) :=
  PS.weak (ps_while hp hc hb) fun D σ H q => by
  obtain ⟨ι, S, env, R, E, q⟩ := q
  unfold sWhile at q
  by_cases h : ∃ n, whN t sb n env S ≠ .stuck
  · rw [dif_pos h] at q
    refine ⟨fun n σ' H' => ∃ ι' S' env', RS K cA ι' S' H' ∧ REnv K cA ι' H' env' σ' ∧ endsD K cA W ι' H' D (whN t sb n env' S'), ⟨h.choose, ι, S, env, R, E, q⟩, ?_⟩
    rintro n σ' H' ⟨ι', S', env', R', E', q'⟩
    cases n with
    | zero => exact q'.elim
    | succ n =>
      unfold whN at q'
      refine rdT_out R' E' q' fun k S1 H1 ι1 x1 R1 E1 q1 => ?_
      cases k with
      | false => exact q1 σ' H1 ι1 Ext.refl R1 E1
      | true =>
        rw [if_pos rfl] at q1
        rw [if_pos rfl]
        refine ⟨fun σ2 H2 => ∃ ι2 S2 env2, RS K cA ι2 S2 H2 ∧ REnv K cA ι2 H2 env2 σ2 ∧ endsD K cA W ι2 H2 D (whN t sb n env2 S2), fun σ2 H2 z => ⟨n, Nat.lt_succ_self n, z⟩, rdS_mk R1 E1 ?_⟩
        cases z3 : sb env' S1 with
        | nx e2 S2 =>
          rw [z3] at q1
          exact fun σ5 H5 ι5 x5 R5 E5 => ⟨ι5, S2, e2, R5, E5, endsD.mono q1 x5⟩
        | ct e2 S2 =>
          rw [z3] at q1
          exact fun σ5 H5 ι5 x5 R5 E5 => ⟨ι5, S2, e2, R5, E5, endsD.mono q1 x5⟩
        | bk e2 S2 => rw [z3] at q1; exact q1
        | rt d S2 => rw [z3] at q1; exact q1
        | exc C e2 S2 => rw [z3] at q1; exact q1
        | stuck => rw [z3] at q1; exact q1
  · rw [dif_neg h] at q; exact q.elim
/-- what a while tells by enough turns -/
theorem whN_more {t : ST} {sb : SS} : ∀ {n k : Nat} {env : ES} {S : Store}, whN t sb n env S ≠ .stuck → n ≤ k → whN t sb k env S = whN t sb n env S
  | 0, _, _, _, h, _ => absurd rfl h
  | n + 1, 0, _, _, _, hk => absurd hk (by omega)
  | n + 1, k + 1, env, S, h, hk => by
    unfold whN at h ⊢
    cases q : t env S with
    | stuck => rfl
    | exc C S1 => rfl
    | ok b S1 =>
      rw [q] at h
      simp only [Res.out] at h ⊢
      cases b with
      | false => rfl
      | true =>
        simp only [if_true] at h ⊢
        cases z : sb env S1 with
        | nx e2 S2 => rw [z] at h; exact whN_more h (by omega)
        | ct e2 S2 => rw [z] at h; exact whN_more h (by omega)
        | _ => rfl
theorem sWhile_of {t : ST} {sb : SS} {n : Nat} {env : ES} {S : Store} {o : Out} (h : whN t sb n env S = o) (ho : o ≠ .stuck) : sWhile t sb env S = o := by
  have hh : ∃ n, whN t sb n env S ≠ .stuck := ⟨n, by rw [h]; exact ho⟩
  unfold sWhile
  rw [dif_pos hh]
  have hc := hh.choose_spec
  rcases Nat.le_total n hh.choose with l | l
  · rw [whN_more (by rw [h]; exact ho) l, h]
  · rw [← whN_more hc l, h]
end
end Z
set_option Elab.async false
set_option linter.all false
set_option maxRecDepth 100000
set_option maxHeartbeats 2000000
namespace Z
open PySem L2

/-! ### what bears no number of a cell -/
mutual
def D.flat : D → Bool
  | .ref _ => false
  | .tup xs => D.flats xs
  | .ct xs => D.flats xs
  | .non => true
  | .bl _ => true
  | .int _ => true
  | .str _ => true
  | .exv _ => true
  | .kl _ => true
  | .gl _ => true
  | .kd _ => true
def D.flats : List D → Bool
  | [] => true
  | d :: r => d.flat && D.flats r
end
def Cell.flat : Cell → Bool
  | .lst xs => D.flats xs
  | .dK kvs => kvs.all fun p => p.2.flat
  | .dT kvs => kvs.all fun p => p.2.flat
  | .ins _ fs => fs.all fun p => p.2.flat
  | .frz c => c.flat
section
variable {K : PySem.W.Frag} {cA : String → Addr} {ι ι' ι1 ι2 : List Addr} {H H' H1 H2 : Hp} {S S' : Store} {env : ES} {σ : L2.St}
mutual
theorem RelD.flatAt {d : D} {v : V} (h : RelD K cA ι H d v) (f : d.flat = true) : RelD K cA ι' H d v := by
  cases h with
  | non => exact .non
  | bl b => exact .bl b
  | int i => exact .int i
  | str s => exact .str s
  | tup h1 h2 => exact .tup h1 (h2.flatAt (by simpa [D.flat] using f))
  | ktup h1 h2 h3 h4 h5 h6 => exact .ktup h1 h2 h3 h4 h5 (h6.flatAt (by simpa [D.flat] using f))
  | ref h1 => simp [D.flat] at f
  | exv h1 => exact .exv h1
  | kd => exact .kd
  | kl h => exact .kl h
  | gl => exact .gl
theorem RelDs.flatAt {ds : List D} {vs : List V} (h : RelDs K cA ι H ds vs) (f : D.flats ds = true) : RelDs K cA ι' H ds vs := by
  cases h with
  | nil => exact .nil
  | cons h1 h2 =>
    simp [D.flats] at f
    exact .cons (h1.flatAt f.1) (h2.flatAt f.2)
end
theorem Paired.imp2 {α β : Type} {F G : α → β → Prop} {P : α → Prop} : ∀ {l₁ : List α} {l₂ : List β}, Paired F l₁ l₂ → (∀ a ∈ l₁, P a) → (∀ a b, P a → F a b → G a b) → Paired G l₁ l₂
  | _, _, .nil, _, _ => .nil
  | _, _, .cons r t, p, f => .cons (f _ _ (p _ List.mem_cons_self) r) (Paired.imp2 t (fun a ha => p a (List.mem_cons_of_mem _ ha)) f)
theorem RelC.flatAt {c : Cell} {o : HO} (h : RelC K cA ι H c o) (f : c.flat = true) : RelC K cA ι' H c o := by
  induction h with
  | lst h => exact .lst (h.flatAt (by simpa [Cell.flat] using f))
  | dK h => exact .dK (Paired.imp2 h (P := fun p => p.2.flat = true) (by simpa [Cell.flat] using f) fun a b p r => ⟨r.1, r.2.flatAt p⟩)
  | dT h => exact .dT (Paired.imp2 h (P := fun p => p.2.flat = true) (by simpa [Cell.flat] using f) fun a b p r => ⟨r.1, r.2.flatAt p⟩)
  | ins h => exact .ins (Paired.imp2 h (P := fun p => p.2.flat = true) (by simpa [Cell.flat] using f) fun a b p r => ⟨r.1, r.2.flatAt p⟩)
  | frz h ih => exact .frz (ih (by simpa [Cell.flat] using f))
mutual
/-- what was closed stays so -/
theorem RelD.back {d : D} {v v0 : V} {t : List Addr} (h : RelD K cA (ι ++ t) H' d v) (h0 : RelD K cA ι H d v0) : RelD K cA ι H' d v := by
  cases h with
  | non => exact .non
  | bl b => exact .bl b
  | int i => exact .int i
  | str s => exact .str s
  | tup h1 h2 =>
    obtain ⟨_, _, _, _, r⟩ := h0.tupR rfl
    exact .tup h1 (h2.back r)
  | ktup h1 h2 h3 h4 h5 h6 =>
    obtain ⟨_, _, _, _, r⟩ := h0.tupR rfl
    exact .ktup h1 h2 h3 h4 h5 (h6.back r)
  | ref h1 =>
    cases h0 with
    | ref h2 =>
      rw [List.getElem?_append_left (List.getElem?_eq_some_iff.mp h2).1] at h1
      exact .ref h1
  | exv h1 => exact .exv h1
  | kd => exact .kd
  | kl h => exact .kl h
  | gl => exact .gl
theorem RelDs.back {ds : List D} {vs vs0 : List V} {t : List Addr} (h : RelDs K cA (ι ++ t) H' ds vs) (h0 : RelDs K cA ι H ds vs0) : RelDs K cA ι H' ds vs := by
  cases h with
  | nil => exact .nil
  | cons h1 h2 =>
    cases h0 with
    | cons g1 g2 => exact .cons (h1.back g1) (h2.back g2)
end
theorem Paired.two {α β γ : Type} {F : α → β → Prop} {F' : α → γ → Prop} {G : α → β → Prop} : ∀ {l : List α} {l₁ : List β} {l₂ : List γ}, Paired F l l₁ → Paired F' l l₂ → (∀ a b c, F a b → F' a c → G a b) → Paired G l l₁
  | _, _, _, .nil, .nil, _ => .nil
  | _, _, _, .cons r t, .cons r' t', f => .cons (f _ _ _ r r') (Paired.two t t' f)
theorem RelC.back {c : Cell} : ∀ {o o0 : HO} {t : List Addr}, RelC K cA (ι ++ t) H' c o → RelC K cA ι H c o0 → RelC K cA ι H' c o := by
  induction c with
  | lst xs => intro o o0 t h h0; cases h with | lst h => cases h0 with | lst g => exact .lst (h.back g)
  | dK xs => intro o o0 t h h0; cases h with | dK h => cases h0 with | dK g => exact .dK (Paired.two h g fun a b c r r' => ⟨r.1, r.2.back r'.2⟩)
  | dT xs => intro o o0 t h h0; cases h with | dT h => cases h0 with | dT g => exact .dT (Paired.two h g fun a b c r r' => ⟨r.1, r.2.back r'.2⟩)
  | ins C xs => intro o o0 t h h0; cases h with | ins h => cases h0 with | ins g => exact .ins (Paired.two h g fun a b c r r' => ⟨r.1, r.2.back r'.2⟩)
  | frz c ih => intro o o0 t h h0; cases h with | frz h => cases h0 with | frz g => exact .frz (ih h g)
/-- the elder cells stand, or changed into what bears no number -/
def SameP (S S' : Store) : Prop := S.length ≤ S'.length ∧ ∀ (i : Nat) (c : Cell), S[i]? = some c → S'[i]? = some c ∨ ∃ c', S'[i]? = some c' ∧ c'.flat = true
theorem RS.drop (R : RS K cA ι S H) (R' : RS K cA ι' S' H') (x : Ext ι H ι' H') (sp : SameP S S') : RS K cA ι (S'.take S.length) H' := by
  obtain ⟨⟨t, rfl, nt⟩, _⟩ := id x
  refine ⟨by rw [List.length_take, R.len]; have := sp.1; omega, R.nd, fun n a c h1 h2 => ?_⟩
  have hn : n < S.length := by rw [← R.len]; exact (List.getElem?_eq_some_iff.mp h1).1
  rw [List.getElem?_take_of_lt hn] at h2
  have h1' : (ι ++ t)[n]? = some a := x.get h1
  obtain ⟨o, h3, h4⟩ := R'.at_ n a c h1' h2
  refine ⟨o, h3, ?_⟩
  rcases sp.2 n S[n] (List.getElem?_eq_getElem hn) with q | ⟨c', q, f⟩
  · rw [h2] at q
    cases q
    obtain ⟨o0, g1, g2⟩ := R.at_ n a _ h1 (List.getElem?_eq_getElem hn)
    exact h4.back g2
  · rw [h2] at q
    cases q
    exact h4.flatAt f
theorem Ext.drop (x : Ext ι H ι' H') : Ext ι H ι H' := ⟨⟨[], (List.append_nil _).symm, fun _ z => nomatch z⟩, x.imm, x.frm, x.dom⟩
end
open Classical in
/-- behind a call or an expression: what bears no number, or one new cell that bears none, is kept alone -/
noncomputable def gcR (S : Store) : Res D → Res D
  | .ok d S' => if SameP S S' then (if d.flat = true then .ok d (S'.take S.length) else match d with
      | .ref n => (match S'[n]? with
        | some c => if S.length ≤ n ∧ c.flat = true then .ok (.ref S.length) (S'.take S.length ++ [c]) else .ok d S'
        | none => .ok d S')
      | d => .ok d S') else .ok d S'
  | r => r
noncomputable def gcE (m : SE) : SE := fun env S => gcR S (m env S)
open Classical in
noncomputable def gcT (m : ST) : ST := fun env S => match m env S with
  | .ok b S' => if SameP S S' then .ok b (S'.take S.length) else .ok b S'
  | r => r
section
variable {K : PySem.W.Frag} {cA : String → Addr} {W : WX} {X : Cx} {a b c e o i : Expr} {es rest : List Expr} {pos : Pos} {ma mb mc m : SE} {t u : ST} {r : SA} {st : Stmt} {sts : List Stmt} {s1 s2 : SS}
theorem gc_fin {ι : List Addr} {S : Store} {H : Hp} {σ : L2.St} {Q : VK} {r : Res D} (R : RS K cA ι S H) (h : fin K cA W σ ι H Q (gcR S r)) : fin K cA W σ ι H Q r := by
  cases r with
  | exc C S' => exact h
  | stuck => exact h
  | ok d S' =>
    unfold gcR at h
    by_cases sp : SameP S S'
    · simp only [if_pos sp] at h
      by_cases f : d.flat = true
      · rw [if_pos f] at h
        exact fun v H' ι' x R' r' => h v H' ι x.drop (R.drop R' x sp) (r'.flatAt f)
      · rw [if_neg f] at h
        cases d with
        | ref n =>
          simp only at h
          cases q : S'[n]? with
          | none => rw [q] at h; exact h
          | some c =>
            rw [q] at h
            by_cases k : S.length ≤ n ∧ c.flat = true
            · simp only [if_pos k] at h
              intro v H' ι' x R' r'
              obtain ⟨⟨t, rfl, nt⟩, _⟩ := id x
              cases r' with
              | @ref _ a ha =>
                obtain ⟨o, ho, hc⟩ := R'.at_ n a c ha q
                have ht : t[n - ι.length]? = some a := by
                  rw [List.getElem?_append_right (by rw [R.len]; exact k.1)] at ha
                  exact ha
                have hat : a ∈ t := List.mem_of_getElem? ht
                have na : a ∉ ι := fun z => by
                  have := R'.nd
                  rw [List.nodup_append] at this
                  exact this.2.2 a z a hat rfl
                refine h (.ref a) H' (ι ++ [a]) ⟨⟨[a], rfl, fun b hb => by simp at hb; subst hb; exact nt _ hat⟩, x.imm, x.frm, x.dom⟩ ?_ (.ref (by rw [← R.len]; simp))
                have D1 := R.drop R' x sp
                have hlt : (S'.take S.length).length = ι.length := D1.len.symm
                refine ⟨by simp [D1.len], ?_, fun m b c' h1 h2 => ?_⟩
                · rw [List.nodup_append]
                  refine ⟨R.nd, by simp, fun p hp p' hp' e => ?_⟩
                  simp at hp'; subst hp'; subst e
                  exact na hp
                · by_cases hm : m < ι.length
                  · rw [List.getElem?_append_left hm] at h1
                    rw [List.getElem?_append_left (by rw [hlt]; exact hm)] at h2
                    obtain ⟨o', g1, g2⟩ := D1.at_ m b c' h1 h2
                    exact ⟨o', g1, g2.low ⟨fun n a h => by rw [List.getElem?_append_left (List.getElem?_eq_some_iff.mp h).1]; exact h, fun _ _ _ h => h⟩⟩
                  · have hm' : m = ι.length := by
                      have := (List.getElem?_eq_some_iff.mp h1).1
                      simp at this; omega
                    subst hm'
                    simp at h1
                    rw [List.getElem?_append_right (by rw [hlt]; exact Nat.le_refl _), hlt] at h2
                    simp at h2
                    subst h1; subst h2
                    exact ⟨o, ho, hc.flatAt k.2⟩
            · simp only [if_neg k] at h; exact h
        | _ => exact h
    · simp only [if_neg sp] at h; exact h
theorem de_gc (h : PE X e (rdE K cA W m)) : PE X e (rdE K cA W (gcE m)) := PE.weak h fun σ H Q q => by
  obtain ⟨ι, S, env, R, E, q⟩ := rdE_fin q
  exact rdE_mk R E (gc_fin R q)
theorem dt_gc (h : PT X e (rdT K cA W t)) : PT X e (rdT K cA W (gcT t)) := PT.weak h fun σ H Q q => by
  obtain ⟨ι, S, env, R, E, q⟩ := rdT_fin q
  refine rdT_mk R E ?_
  unfold gcT at q
  cases z : t env S with
  | stuck => rw [z] at q; exact q
  | exc C S1 => rw [z] at q; exact q
  | ok b S1 =>
    rw [z] at q
    by_cases sp : SameP S S1
    · simp only [if_pos sp] at q
      exact fun H' ι' x R' => q H' ι x.drop (R.drop R' x sp)
    · simp only [if_neg sp] at q; exact q

/-! ### comprehensions -/
def wipeD (env : ES) : List Nat → ES
  | [] => env
  | v :: vs => (wipeD env vs).set v none
theorem REnv.none_ {ι : List Addr} {H : Hp} {env : ES} {σ : L2.St} (h : REnv K cA ι H env σ) (v : Nat) : REnv K cA ι H (env.set v none) (σ.set v none) := by
  refine ⟨by simp [h.len], fun j d q => ?_⟩
  by_cases hj : j = v
  · subst hj
    have hl : j < env.length := by
      have := (List.getElem?_eq_some_iff.mp q).1
      simpa using this
    rw [List.getElem?_set_self hl] at q
    cases q
  · rw [List.getElem?_set_ne (Ne.symm hj)] at q ⊢
    exact h.at_ j d q
theorem REnv.wipe {ι : List Addr} {H : Hp} {env : ES} {σ : L2.St} (h : REnv K cA ι H env σ) : ∀ vs : List Nat, REnv K cA ι H (wipeD env vs) (L2.wipe σ vs)
  | [] => h
  | v :: vs => (REnv.wipe h vs).none_ v
/-- slots outside js stand -/
def AgreeOut (js : List Nat) (σ σ' : L2.St) : Prop := σ'.length = σ.length ∧ ∀ j, j ∉ js → σ'[j]? = σ[j]?
theorem AgreeOut.refl {js : List Nat} {σ : L2.St} : AgreeOut js σ σ := ⟨rfl, fun _ _ => rfl⟩
theorem AgreeOut.set {js : List Nat} {σ : L2.St} {i : Nat} {v : Option V} (h : i ∈ js) : AgreeOut js σ (σ.set i v) := ⟨by simp, fun j hj => by rw [List.getElem?_set_ne]; intro z; subst z; exact hj h⟩
theorem AgreeOut.trans {js : List Nat} {σ σ1 σ2 : L2.St} (a : AgreeOut js σ σ1) (b : AgreeOut js σ1 σ2) : AgreeOut js σ σ2 := ⟨b.1.trans a.1, fun j hj => (b.2 j hj).trans (a.2 j hj)⟩
theorem wipe_at {σ : L2.St} : ∀ {vs : List Nat} {j : Nat}, (L2.wipe σ vs)[j]? = if j ∈ vs ∧ j < σ.length then some none else σ[j]?
  | [], j => by simp [L2.wipe]
  | v :: vs, j => by
    unfold L2.wipe
    rw [List.getElem?_set]
    by_cases h : v = j
    · subst h
      simp only [if_true, wipe_length, List.mem_cons, true_or, true_and]
      by_cases hl : v < σ.length
      · rw [if_pos hl, if_pos hl]
      · rw [if_neg hl, if_neg hl, List.getElem?_eq_none (by omega)]
    · rw [if_neg h, wipe_at]
      have : j ∈ v :: vs ↔ j ∈ vs := by simp [Ne.symm h]
      simp only [this]
theorem AgreeOut.wipe {vs : List Nat} {σ σ2 : L2.St} (h : AgreeOut vs (L2.wipe σ vs) σ2) : L2.wipe σ2 vs = L2.wipe σ vs := by
  apply List.ext_getElem?
  intro j
  rw [wipe_at, wipe_at]
  have hl : σ2.length = σ.length := by rw [h.1, wipe_length]
  by_cases hj : j ∈ vs
  · by_cases k : j < σ.length
    · rw [if_pos ⟨hj, by rw [hl]; exact k⟩, if_pos ⟨hj, k⟩]
    · rw [if_neg (fun z => k (by rw [← hl]; exact z.2)), if_neg (fun z => k z.2), List.getElem?_eq_none (by omega), List.getElem?_eq_none (by omega)]
  · rw [if_neg (fun z => hj z.1), if_neg (fun z => hj z.1), h.2 j hj, wipe_at, if_neg (fun z => hj z.1)]
/-- targets of a comprehension: which slots they touch is told -/
def rdGc (K : PySem.W.Frag) (cA : String → Addr) (js : List Nat) (g : Tgt) : TG := fun v σ H Q => ∃ ι S env d, RS K cA ι S H ∧ REnv K cA ι H env σ ∧ RelD K cA ι H d v ∧
  match g d env S with
  | some (e', S') => ∀ σ' H' ι', Ext ι H ι' H' → RS K cA ι' S' H' → REnv K cA ι' H' e' σ' → AgreeOut js σ σ' → Q σ' H'
  | none => False
def rdGcs (K : PySem.W.Frag) (cA : String → Addr) (js : List Nat) (g : Tgts) : TGs := fun vs σ H Q => ∃ ι S env ds, RS K cA ι S H ∧ REnv K cA ι H env σ ∧ RelDs K cA ι H ds vs ∧
  match g ds env S with
  | some (e', S') => ∀ σ' H' ι', Ext ι H ι' H' → RS K cA ι' S' H' → REnv K cA ι' H' e' σ' → AgreeOut js σ σ' → Q σ' H'
  | none => False
theorem dgc_name {i : Nat} {x : Str} {js : List Nat} (h : PG X (.Name x pos) (gName i)) (hj : i ∈ js := by decide) : PG X (.Name x pos) (rdGc K cA js (gNm i)) := PG.weak h fun v σ H Q q => by
  obtain ⟨ι, S, env, d, R, E, r, q⟩ := q
  exact q _ _ ι Ext.refl R (E.set r) (.set hj)
theorem dgcs_nil {js : List Nat} : PGs X [] (rdGcs K cA js gsNil) := PGs.weak pgs_nil fun v σ H Q q => by
  obtain ⟨ι, S, env, ds, R, E, r, q⟩ := q
  cases r with
  | nil => exact ⟨rfl, q σ H ι Ext.refl R E .refl⟩
  | cons r1 r2 => exact q.elim
theorem dgcs_cons {g : Tgt} {gs : Tgts} {js : List Nat} (h1 : PG X e (rdGc K cA js g)) (h2 : PGs X es (rdGcs K cA js gs)) (hs : (assignEach (e :: es) X.env).map (·.2) = assign e X.env :: (assignEach es X.env).map (·.2) := by rfl) :
    PGs X (e :: es) (rdGcs K cA js (gsCons g gs)) := PGs.weak (pgs_cons h1 h2 hs) fun v σ H Q q => by
  obtain ⟨ι, S, env, ds, R, E, r, q⟩ := q
  cases r with
  | nil => exact q.elim
  | @cons d v ds vs r1 r2 =>
    refine ⟨v, vs, rfl, ι, S, env, d, R, E, r1, ?_⟩
    unfold gsCons at q
    cases z : g d env S with
    | none => simp only [z, Option.bind_none] at q
    | some p =>
      simp only [z, Option.bind_some] at q
      intro σ' H' ι' x' R' E' ag
      refine ⟨ι', p.2, p.1, ds, R', E', r2.mono x', ?_⟩
      cases z2 : gs ds p.1 p.2 with
      | none => rw [z2] at q; exact q
      | some p2 => rw [z2] at q; exact fun σ2 H2 ι2 x2 R2 E2 a2 => q σ2 H2 ι2 (x'.trans x2) R2 E2 (ag.trans a2)
theorem dgc_un {k n : Nat} {gs : Tgts} {js : List Nat} (hK : X.K = K) (hc : X.calm = true) (h : PGs X es (rdGcs K cA js gs)) (hn : (assignEach es X.env).length = n := by rfl) (hst : (assignEach es X.env).findIdx? (·.1) = none := by rfl) :
    PG X (.Tuple es k pos) (rdGc K cA js (gUn n gs)) := PG.weak (PG.or (pg_tup hc h hn hst) (pg_lst hc h hn hst)) fun v σ H Q q => by
  obtain ⟨ι, S, env, d, R, E, r, q⟩ := q
  have go : ∀ (xs : List D) (vs : List V), RelDs K cA ι H xs vs → (match (if xs.length = n then gs xs env S else none) with
      | some (e', S') => ∀ σ' H' ι', Ext ι H ι' H' → RS K cA ι' S' H' → REnv K cA ι' H' e' σ' → AgreeOut js σ σ' → Q σ' H'
      | none => False) → vs.length = n ∧ rdGcs K cA js gs vs σ H Q := fun xs vs rr q => by
    by_cases hl : xs.length = n
    · rw [if_pos hl] at q
      exact ⟨by rw [← rr.length]; exact hl, ι, S, env, xs, R, E, rr, q⟩
    · rw [if_neg hl] at q; exact q.elim
  cases z0 : d.tupL with
  | some xs =>
    obtain ⟨a, vs, e1, e2, e3⟩ := r.tupR z0
    unfold gUn at q
    simp only [z0] at q
    obtain ⟨e4, e5⟩ := go xs vs e3 q
    refine .inl ?_
    rw [hK]
    exact ⟨a, vs, e1, e2, e4, e5⟩
  | none =>
    unfold gUn at q
    simp only [z0] at q
    cases z : getL S d with
    | none => rw [z] at q; exact q.elim
    | some xs =>
      rw [z] at q
      obtain ⟨a, vs, e1, e2, e3⟩ := R.getL r z
      obtain ⟨e4, e5⟩ := go xs vs e3 q
      refine .inr ?_
      rw [hK]
      exact ⟨a, vs, e1, e2, e4, e5⟩
def sYes : ST := fun _ S => .ok true S
theorem dts_nil : PTs X [] (rdT K cA W sYes) := ⟨fun pins s σ H Q I q => by
  obtain ⟨ι, S, env, R, E, q⟩ := rdT_fin q
  exact pts_nil.run pins s σ H Q I (q H ι Ext.refl R)⟩
theorem dts_one (h : PT X c (rdT K cA W t)) : PTs X [c] (rdT K cA W t) := pts_one h
end
/-- within a comprehension nothing may be raised -/
def noX {α : Type} : Res α → Res α
  | .ok a S => .ok a S
  | _ => .stuck
open Classical in
noncomputable def lcL (g : Tgt) (cond : ST) (elt : SE) (ok : Store → Prop) (wenv : ES) : List D → List D → Store → Res (List D)
  | [], acc, S => if ok S then .ok acc S else .stuck
  | x :: xs, acc, S => if ok S then (match g x wenv S with
    | some (e1, S1) => (noX (cond e1 S1)).bind fun b S2 => if b = true then (noX (elt e1 S2)).bind fun y S3 => if acc.length < sizeLine then lcL g cond elt ok wenv xs (acc ++ [y]) S3 else .stuck
        else lcL g cond elt ok wenv xs acc S2
    | none => .stuck) else .stuck
noncomputable def sLc (vs : List Nat) (it : SI) (g : Tgt) (cond : ST) (elt : SE) : SE := fun env S => (it env S).bind fun I S1 => (lcL g cond elt I.ok (wipeD env vs) I.items [] S1).bind fun ys S2 => .ok (.ref S2.length) (S2 ++ [.lst ys])
section
variable {K : PySem.W.Frag} {cA : String → Addr} {W : WX} {X : Cx}
theorem lc_ok {it : SI} {g : Tgt} {cond : ST} {elt : SE} {vs : List Nat} {σ : L2.St} {H : Hp} {Q : VK} (q : rdE K cA W (sLc vs it g cond elt) σ H Q) : tLc (rdI K cA W it) (rdGc K cA vs g) (rdT K cA W0 cond) (rdE K cA W0 elt) vs σ H Q := by
  obtain ⟨ι, S, env, R, E, q⟩ := rdE_fin q
  refine ⟨ι, S, env, R, E, ?_⟩
  unfold sLc at q
  cases z : it env S with
  | stuck => rw [z] at q; exact q
  | exc C S1 => rw [z] at q; exact q
  | ok I S1 =>
    rw [z] at q
    simp only [bind_ok] at q
    intro J H1 ι1 x1 R1 ⟨G, Y, wk, hG, hY⟩ Dl hD
    have q1 := fin.mono q x1
    have X0 : Ext ι1 H1 ι1 (upd H1 Dl (.lst [])) := Ext.new hD
    -- what stays true
    refine lc_it wk (fun j H' => ∃ ι' S' ys vs', Ext ι1 H1 ι' H' ∧ RS K cA ι' S' H' ∧ Dl ∉ ι' ∧ H' Dl = some (.lst vs') ∧ RelDs K cA ι' H' ys vs' ∧
        fin K cA W σ ι1 H1 Q ((lcL g cond elt I.ok (wipeD env vs) (I.items.drop j) ys S').bind fun ys S2 => .ok (.ref S2.length) (S2 ++ [Cell.lst ys])))
      ⟨ι1, S1, [], [], X0, R1.grow hD, R1.fresh hD, upd_same, .nil, by rw [List.drop_zero]; exact q1⟩ ?_ ?_ ?_
    · rintro j H' hj ⟨ι', S', ys, vs', x', R', nD, hDl, ry, q'⟩
      refine hG ι' H' S' x' R' ?_
      cases hd : I.items.drop j with
      | nil =>
        rw [hd] at q'
        unfold lcL at q'
        by_cases ok : I.ok S'
        · exact ok
        · rw [if_neg ok] at q'; exact q'.elim
      | cons y ys =>
        rw [hd] at q'
        unfold lcL at q'
        by_cases ok : I.ok S'
        · exact ok
        · rw [if_neg ok] at q'; exact q'.elim
    · rintro j x H' H2 hj ⟨ι', S', ys, vs', x', R', nD, hDl, ry, q'⟩ y
      have hd : I.items.drop j = I.items[j] :: I.items.drop (j + 1) := List.drop_eq_getElem_cons hj
      rw [hd] at q'
      unfold lcL at q'
      by_cases ok : I.ok S'
      · rw [if_pos ok] at q'
        obtain ⟨d, e1, R2, x2, r2⟩ := hY ι' H' S' j x H2 x' R' ok hj y
        rw [List.getElem?_eq_getElem hj] at e1
        cases e1
        refine ⟨ι', S', wipeD env vs, _, R2, ((E.mono x1).wipe vs).mono (x'.trans x2), r2, ?_⟩
        cases z2 : g I.items[j] (wipeD env vs) S' with
        | none => rw [z2] at q'; exact q'
        | some p =>
          rw [z2] at q'
          intro σ3 H3 ι3 x3 R3 E3 ag
          refine ⟨ag.wipe, rdT_mk R3 E3 ?_⟩
          simp only at q'
          cases z3 : cond p.1 p.2 with
          | stuck => rw [z3] at q'; exact q'
          | exc C S4 =>
            rw [z3] at q'
            exact q'.elim
          | ok b S4 =>
            rw [z3] at q'
            simp only [noX, bind_ok] at q'
            intro H4 ι4 x4 R4
            have x14 : Ext ι' H' ι4 H4 := x2.trans (x3.trans x4)
            cases b with
            | false => exact ⟨ι4, S4, ys, vs', x'.trans x14, R4, x14.notin nD hDl, x14.frm _ _ nD hDl, ry.mono x14, q'⟩
            | true =>
              rw [if_pos rfl] at q'
              refine rdE_mk R4 (E3.mono x4) ?_
              cases z4 : elt p.1 S4 with
              | stuck => rw [z4] at q'; exact q'
              | exc C S5 =>
                rw [z4] at q'
                exact q'.elim
              | ok yd S5 =>
                rw [z4] at q'
                simp only [noX, bind_ok] at q'
                intro yv H5 ι5 x5 R5 r5
                have x15 : Ext ι' H' ι5 H5 := x14.trans x5
                have h5 : H5 Dl = some (.lst vs') := x15.frm _ _ nD hDl
                have n5 : Dl ∉ ι5 := x15.notin nD hDl
                have ry5 : RelDs K cA ι5 H5 ys vs' := ry.mono x15
                by_cases hl : ys.length < sizeLine
                · rw [if_pos hl] at q'
                  refine ⟨vs', h5, by rw [← ry5.length]; exact hl, ι5, S5, ys ++ [yd], vs' ++ [yv], (x'.trans x15).off hD, R5.off n5 h5 (fun z => z), n5, upd_same, ?_, q'⟩
                  exact (ry5.append (.cons r5 .nil)).low (Low.off h5 fun z => z)
                · rw [if_neg hl] at q'; exact q'.elim
      · rw [if_neg ok] at q'; exact q'.elim
    · rintro H' ⟨ι', S', ys, vs', x', R', nD, hDl, ry, q'⟩
      rw [List.drop_length] at q'
      unfold lcL at q'
      by_cases ok : I.ok S'
      · rw [if_pos ok] at q'
        have xx : Ext ι' H' (ι' ++ [Dl]) H' → True := fun _ => trivial
        refine q' (.ref Dl) H' (ι' ++ [Dl]) ?_ ?_ (.ref (by rw [← R'.len]; simp))
        · obtain ⟨t, e, nt⟩ := x'.pre
          refine ⟨⟨t ++ [Dl], by rw [e, List.append_assoc], fun a ha => ?_⟩, x'.imm, x'.frm, x'.dom⟩
          rcases List.mem_append.mp ha with h | h
          · exact nt a h
          · simp at h; subst h; exact hD
        · refine ⟨by simp [R'.len], ?_, fun n a c h1 h2 => ?_⟩
          · rw [List.nodup_append]
            refine ⟨R'.nd, by simp, fun p hp p' hp' e => ?_⟩
            simp at hp'; subst hp'; subst e
            exact nD hp
          · have lw : Low ι' H' (ι' ++ [Dl]) H' := ⟨fun n a h => by rw [List.getElem?_append_left (List.getElem?_eq_some_iff.mp h).1]; exact h, fun _ _ _ h => h⟩
            by_cases hn : n < ι'.length
            · rw [List.getElem?_append_left hn] at h1
              rw [List.getElem?_append_left (by rw [← R'.len]; exact hn)] at h2
              obtain ⟨u, h3, h4⟩ := R'.at_ n a c h1 h2
              exact ⟨u, h3, h4.low lw⟩
            · have hn' : n = ι'.length := by
                have := (List.getElem?_eq_some_iff.mp h1).1
                simp at this; omega
              subst hn'
              simp at h1
              rw [R'.len] at h2
              simp at h2
              subst h1; subst h2
              exact ⟨_, hDl, .lst (ry.low lw)⟩
      · rw [if_neg ok] at q'; exact q'.elim
end
end Z
set_option Elab.async false
set_option linter.all false
set_option maxRecDepth 100000
set_option maxHeartbeats 2000000
namespace Z
open PySem PySem.Spec PyProof.Rows L2

/-! ### defs and their calls -/
/-- a def's body as a function -/
def fnB (n N : Nat) (body : SS) : SF := fun ds S => if ds.length = n then (match body (ds.map some ++ List.replicate (N - n) none) S with
  | .nx _ S' => .ok .non S'
  | .rt d S' => .ok d S'
  | .exc C _ S' => .exc C S'
  | _ => .stuck) else .stuck
noncomputable def sCall (F : SF) (r : SA) : SE := fun env S => (r env S).bind fun ds S1 => gcR S1 (F ds S1)
/-- the attributes of an instance of the class C -/
def getI (S : Store) (C : String) (d : D) : Option (Nat × List (Str × D)) := match d with
  | .ref n => match S[n]? with
    | some (.ins C' fs) => if C' = C then some (n, fs) else none
    | _ => none
  | _ => none
noncomputable def sMeth (C : String) (m : Str) (F : SF) (mo : SE) (r : SA) : SE := fun env S => (mo env S).bind fun o S1 => match getI S1 C o with
  | some (_, fs) => if fs.lookup m = none then (r env S1).bind fun ds S2 => gcR S2 (F (o :: ds) S2) else .stuck
  | none => .stuck
def sMake (C : String) (F : SF) (r : SA) : SE := fun env S => (r env S).bind fun ds S1 => match F (.ref S1.length :: ds) (S1 ++ [.ins C []]) with
  | .ok .non S2 => .ok (.ref S1.length) S2
  | .exc E S2 => .exc E S2
  | _ => .stuck
def sFldR (C : String) (f : Str) (mo : SE) : SE := fun env S => (mo env S).bind fun o S1 => match getI S1 C o with
  | some (_, fs) => match fs.lookup f with
    | some d => .ok d S1
    | none => .stuck
  | none => .stuck
def putD (f : Str) (v : D) : List (Str × D) → List (Str × D)
  | [] => [(f, v)]
  | (g, x) :: r => if g = f then (g, v) :: r else (g, x) :: putD f v r
def sFldS (C : String) (f : Str) (mo mv : SE) : SS := fun env S => (mv env S).out env fun v S1 => (mo env S1).out env fun o S2 => match getI S2 C o with
  | some (n, fs) => if fs.length < 1000 then .nx env (S2.set n (.ins C (putD f v fs))) else .stuck
  | none => .stuck
/-- the promise that goes with a function -/
def spD (K : PySem.W.Frag) (cA : String → Addr) (F : SF) : Sp := fun vs H Q E => ∃ ι S ds, RS K cA ι S H ∧ RelDs K cA ι H ds vs ∧ fin K cA (fun cls d _ H' => E cls d H') [] ι H Q (F ds S)
section
variable {P : Program} {w : World} {K : PySem.W.Frag} {mg : Str → Option Value} {base : Heap} {cA : String → Addr}
theorem fnB_len {n N : Nat} {b : SS} {ds : List D} {S : Store} (h : fnB n N b ds S ≠ .stuck) : ds.length = n := by
  unfold fnB at h
  by_cases e : ds.length = n
  · exact e
  · rw [if_neg e] at h; exact absurd rfl h
theorem start_env {ι : List Addr} {H : Hp} {ds : List D} {vs : List V} (r : RelDs K cA ι H ds vs) (N : List Str) (n : Nat) (hn : ds.length = n) : REnv K cA ι H (ds.map some ++ List.replicate (N.length - n) none) (L2.start N vs) := by
  subst hn
  unfold L2.start
  have hl := r.length
  refine ⟨by simp [hl], fun i d q => ?_⟩
  by_cases hi : i < ds.length
  · rw [List.getElem?_append_left (by simpa using hi)] at q
    rw [List.getElem?_map] at q
    cases z : ds[i]? with
    | none => rw [z] at q; cases q
    | some d' =>
      rw [z] at q
      cases q
      obtain ⟨v, e1, e2⟩ := r.get z
      refine ⟨v, ?_, e2⟩
      rw [List.getElem?_append_left (by simp; omega), List.getElem?_map, e1]
      rfl
  · rw [List.getElem?_append_right (by simpa using hi)] at q
    rw [List.getElem?_replicate] at q
    split at q <;> cases q
/-- a def keeps the promise of its body's function -/
theorem def_ok {x qual : Str} {st : Stmt} {f : Addr} {fd : FuncData} {N ps : List Str} {k : Nat} {b : SS} (F : Fun K x qual st f fd) (S : FnScope N ps (defScope st))
    (hb : ∀ (cdv : Value) (A : Around) (outer : List Env) (s : Shared) (H : Hp) (E : XK), Room k (A.deeper (envOfC qual (defScope st) s.heap.objs.size f cdv)) →
      PSs (cxOf (L2.CX P w) P w K mg base N qual (defScope st) f cdv A outer s H E) (defBody st) (rdS K cA (fun cls d _ H' => E cls d H') b)) :
    FnOk P w K mg base (L2.CX P w) (k + 1) f fd ps (spD K cA (fnB ps.length N.length b)) := by
  refine F.okX S (fun vs H Q E h => ?_) (fun cdv A outer s H vs Q E hr h => ⟨_, hb cdv A outer s H E hr, ?_⟩)
  · obtain ⟨ι, St, ds, R, r, q⟩ := h
    rw [← r.length]
    refine fnB_len (N := N.length) (b := b) (S := St) fun z => ?_
    rw [z] at q; exact q
  · obtain ⟨ι, St, ds, R, r, q⟩ := h
    have hl : ds.length = ps.length := fnB_len (N := N.length) (b := b) (S := St) fun z => by rw [z] at q; exact q
    refine ⟨ι, St, _, R, start_env r N ps.length hl, ?_⟩
    unfold fnB at q
    rw [if_pos hl] at q
    cases z : b (ds.map some ++ List.replicate (N.length - ps.length) none) St with
    | nx e S' => rw [z] at q; exact fun σ' H' ι' x' R' E' => q .non H' ι' x' R' .non
    | rt d S' => rw [z] at q; exact q
    | exc C e S' => rw [z] at q; exact fun σ' H' ι' x' R' E' => q H' ι' x' R'
    | bk e S' => rw [z] at q; exact q.elim
    | ct e S' => rw [z] at q; exact q.elim
    | stuck => rw [z] at q; exact q.elim
end
section
variable {K : PySem.W.Frag} {cA : String → Addr} {W : WX} {X : Cx} {a b c e o i : Expr} {es rest : List Expr} {pos p apos : Pos} {ma mb mc m mo : SE} {t u : ST} {r : SA} {st : Stmt} {sts : List Stmt} {s1 s2 : SS} {F : SF} {k : Nat} {f C : Addr} {fd : FuncData} {ps : List Str} {x : Str}
theorem fin_sp {ι : List Addr} {H : Hp} {σ : L2.St} {Q : VK} {S : Store} {ds : List D} {vs : List V} (R : RS K cA ι S H) (r : RelDs K cA ι H ds vs) (q : fin K cA W σ ι H Q (gcR S (F ds S))) : spD K cA F vs H Q (WE W σ) := by
  refine ⟨ι, S, ds, R, r, ?_⟩
  have q2 := gc_fin R q
  cases z : F ds S with
  | ok d S' => rw [z] at q2; exact q2
  | exc C S' => rw [z] at q2; exact q2
  | stuck => rw [z] at q2; exact q2
theorem de_call (G : FnOk X.prog X.w X.K X.mg X.base (L2.CX X.prog X.w) k f fd ps (spD K cA F)) (tk : Takes X W) (hr : Room k X.A) (hg : Gl X x) (hm : X.mg x = some (.ref f)) (hk : PySem.W.keepIn X.K (.ref f) = true) (hb : Binds X.K fd ps [])
    (ha : PA X (e :: es) (rdA K cA W r)) (hdb : (x == ("__debug__" : Str)) = false := by decide) (he : starEach (e :: es) X.env = (false, eval e X.env) :: starEach es X.env := by rfl) (hpl : (backTo pos (starEach es X.env)).any (·.1) = false := by rfl) :
    PE X (.Call (.Name x p) (e :: es) [] pos) (rdE K cA W (sCall F r)) := PE.weak (pe_callS G hr hg hm hk hb (fun σ => passAt tk σ) ha hdb he hpl) fun σ H Q q => by
  obtain ⟨ι, S, env, R, E, q⟩ := rdE_fin q
  exact rdA_seq R E q fun ds vs S1 H1 ι1 x1 R1 E1 r1 q1 => fin_sp R1 r1 q1
theorem de_call0 (G : FnOk X.prog X.w X.K X.mg X.base (L2.CX X.prog X.w) k f fd ps (spD K cA F)) (tk : Takes X W) (hr : Room k X.A) (hg : Gl X x) (hm : X.mg x = some (.ref f)) (hk : PySem.W.keepIn X.K (.ref f) = true) (hb : Binds X.K fd ps [])
    (hdb : (x == ("__debug__" : Str)) = false := by decide) : PE X (.Call (.Name x p) [] [] pos) (rdE K cA W (sCall F sNilA)) := by
  refine ⟨fun pins s σ H Q I q => ?_⟩
  obtain ⟨ι, S, env, R, E, q⟩ := rdE_fin q
  have z : spD K cA F [] H Q (WE W σ) := fin_sp R .nil q
  refine wpAny_Call_Name_kw (ld_glob I hg hm (PySem.W.callWith_K0 I.kIn hk ?_) hdb)
  exact run_fnS (us := []) G hr hb (passAt tk σ) I .nil z
/-- the instance that a datum names -/
theorem RS.getI {ι : List Addr} {S : Store} {H : Hp} (R : RS K cA ι S H) {d : D} {v : V} {C : String} {n : Nat} {fs : List (Str × D)} (rr : RelD K cA ι H d v) (h : getI S C d = some (n, fs)) :
    ∃ a dx ws, d = .ref n ∧ v = .ref a ∧ ι[n]? = some a ∧ H a = some (.ins (cA C) dx ws) ∧ Paired (fun (p : Str × D) (q : Str × V) => p.1 = q.1 ∧ RelD K cA ι H p.2 q.2) fs ws := by
  cases rr with
  | @ref m a ha =>
    unfold Z.getI at h
    simp only at h
    cases q : S[m]? with
    | none => rw [q] at h; cases h
    | some c =>
      obtain ⟨o, h1, h2⟩ := R.cellAt q ha
      rw [q] at h
      cases h2 with
      | @ins C' fs' ws dx h3 =>
        simp only at h
        by_cases e : C' = C
        · rw [if_pos e] at h
          cases h
          subst e
          exact ⟨a, dx, ws, rfl, rfl, ha, h1, h3⟩
        · rw [if_neg e] at h; cases h
      | _ => cases h
  | _ => cases h
theorem lookup_rel {ι : List Addr} {H : Hp} {f : Str} : ∀ {fs : List (Str × D)} {ws : List (Str × V)}, Paired (fun (p : Str × D) (q : Str × V) => p.1 = q.1 ∧ RelD K cA ι H p.2 q.2) fs ws →
    (fs.lookup f = none → ws.lookup f = none) ∧ ∀ d, fs.lookup f = some d → ∃ v, ws.lookup f = some v ∧ RelD K cA ι H d v
  | _, _, .nil => ⟨fun _ => rfl, fun d h => by cases h⟩
  | (g, d) :: fs, (g', v) :: ws, .cons r t => by
    obtain ⟨e, r⟩ := r
    simp only at e
    subst e
    obtain ⟨i1, i2⟩ := lookup_rel (f := f) t
    by_cases h : (f == g) = true
    · refine ⟨fun z => ?_, fun d' z => ?_⟩
      · simp only [List.lookup, h] at z; cases z
      · simp only [List.lookup, h] at z ⊢; cases z; exact ⟨v, rfl, r⟩
    · have h' : (f == g) = false := by simpa using h
      simp only [List.lookup, h']
      exact ⟨i1, i2⟩
theorem Paired.length' {α β : Type} {G : α → β → Prop} : ∀ {l₁ : List α} {l₂ : List β}, Paired G l₁ l₂ → l₁.length = l₂.length
  | _, _, .nil => rfl
  | _, _, .cons _ t => by rw [List.length_cons, List.length_cons, Paired.length' t]
theorem put_rel {ι : List Addr} {H : Hp} {f : Str} {d : D} {v : V} (rd : RelD K cA ι H d v) : ∀ {fs : List (Str × D)} {ws : List (Str × V)}, Paired (fun (p : Str × D) (q : Str × V) => p.1 = q.1 ∧ RelD K cA ι H p.2 q.2) fs ws →
    Paired (fun (p : Str × D) (q : Str × V) => p.1 = q.1 ∧ RelD K cA ι H p.2 q.2) (putD f d fs) (putF f v ws)
  | _, _, .nil => .cons ⟨rfl, rd⟩ .nil
  | (g, d') :: fs, (g', v') :: ws, .cons r t => by
    obtain ⟨e, r⟩ := r
    simp only at e
    subst e
    unfold putD putF
    by_cases h : g = f
    · rw [if_pos h, if_pos h]; exact .cons ⟨rfl, rd⟩ t
    · rw [if_neg h, if_neg h]; exact .cons ⟨rfl, r⟩ (put_rel rd t)
/-- what a class of the text is for the layer -/
structure ClsOk (K : PySem.W.Frag) (cA : String → Addr) (C : String) : Prop where
  cls : Cls K (cA C)
theorem rd_at {m : SE} {σ : L2.St} {H : Hp} {Q : VK} (h : rdE K cA W m σ H Q) {P : VK} (k : ∀ v H', Q v H' → P v H') : rdE K cA W m σ H P := by
  obtain ⟨ι, S, env, R, E, q⟩ := rdE_fin h
  refine rdE_mk R E ?_
  cases z : m env S with
  | ok d S' => rw [z] at q; exact fun v H' ι' x R' r' => k v H' (q v H' ι' x R' r')
  | exc C S' => rw [z] at q; exact q
  | stuck => rw [z] at q; exact q
theorem meth_ok {C : String} {mm : Str} {σ : L2.St} {H : Hp} {Q : VK} (q : rdE K cA W (sMeth C mm F mo r) σ H Q) :
    rdE K cA W mo σ H fun x H1 => ∃ a dx ws, x = .ref a ∧ H1 a = some (.ins (cA C) dx ws) ∧ ws.lookup mm = none ∧ rdA K cA W r σ H1 fun vs H2 => spD K cA F (x :: vs) H2 Q (WE W σ) := by
  obtain ⟨ι, S, env, R, E, q⟩ := rdE_fin q
  refine rd_seq R E q fun d v S1 H1 ι1 x1 R1 E1 r1 q1 => ?_
  cases z : getI S1 C d with
  | none => rw [z] at q1; exact q1.elim
  | some p =>
    rw [z] at q1
    obtain ⟨n, fs⟩ := p
    obtain ⟨a, dx, ws, ed, ev, ha, ho, hf⟩ := R1.getI r1 z
    simp only at q1
    by_cases hl : fs.lookup mm = none
    · rw [if_pos hl] at q1
      refine ⟨a, dx, ws, ev, ho, (lookup_rel hf).1 hl, ?_⟩
      exact rdA_seq R1 E1 q1 fun ds vs S2 H2 ι2 x2 R2 E2 r2 q2 => fin_sp R2 (.cons (r1.mono x2) r2) q2
    · rw [if_neg hl] at q1; exact q1.elim
theorem de_meth {pl : Sem Bool} {C : String} {mm : Str} (hK : X.K = K) (he : PE X o (rdE K cA W mo)) (c : Cls K (cA C)) (hm : Meth K (cA C) mm f) (G : FnOk X.prog X.w X.K X.mg X.base (L2.CX X.prog X.w) k f fd ps (spD K cA F)) (tk : Takes X W) (hr : Room k X.A)
    (hb : Binds X.K fd ps []) (ha : PA X (e :: es) (rdA K cA W r)) (hst : starEach (e :: es) X.env = (false, eval e X.env) :: starEach es X.env := by rfl) (hpl : (backTo pos (starEach es X.env)).any (·.1) = false := by rfl)
    (ht : eval (.Call (.Attribute o mm apos) (e :: es) [] pos) X.env = (eval o X.env >>= fun ov => standAt apos.atName >>= fun _ => holding [ov] (getMethod ov mm pl) >>= fun z =>
      callWith pos z.1 z.2 (backTo pos (starEach (e :: es) X.env)) (backToKw pos (keywordEach [] X.env))) := by rfl) :
    PE X (.Call (.Attribute o mm apos) (e :: es) [] pos) (rdE K cA W (sMeth C mm F mo r)) := by
  subst hK
  refine ⟨fun pins s σ H Q I q => ?_⟩
  refine PySem.W.methodCall_KW (pl := pl) (thn (he.run pins s σ H _ I (meth_ok q)) ?_) ht
  rintro uo s1 ⟨y, H1, I1, ry, a, dx, ws, ey, hy, hl, q1⟩
  subst ey
  cases ry
  refine getmeth_ok I1 hy c hm hl (PySem.W.callWith_K (first := [Value.ref a]) (h₀ := X.base) I.ok.mod.kin hm.kp (thn (ha.run pos pins s1 σ H1 _ I1 q1) ?_) hst hpl)
  rintro us s2 ⟨vs, H2, I2, rv, q2⟩
  exact ⟨I2.kIn, run_fnS (us := Value.ref a :: us) (vs := V.ref a :: vs) G hr hb (passAt tk σ) I2 (.cons rfl rv) q2⟩
theorem de_meth0 {pl : Sem Bool} {C : String} {mm : Str} (hK : X.K = K) (he : PE X o (rdE K cA W mo)) (c : Cls K (cA C)) (hm : Meth K (cA C) mm f) (G : FnOk X.prog X.w X.K X.mg X.base (L2.CX X.prog X.w) k f fd ps (spD K cA F)) (tk : Takes X W) (hr : Room k X.A)
    (hb : Binds X.K fd ps [])
    (ht : eval (.Call (.Attribute o mm apos) [] [] pos) X.env = (eval o X.env >>= fun ov => standAt apos.atName >>= fun _ => holding [ov] (getMethod ov mm pl) >>= fun z =>
      callWith pos z.1 z.2 (backTo pos (starEach [] X.env)) (backToKw pos (keywordEach [] X.env))) := by rfl) :
    PE X (.Call (.Attribute o mm apos) [] [] pos) (rdE K cA W (sMeth C mm F mo sNilA)) := by
  subst hK
  refine ⟨fun pins s σ H Q I q => ?_⟩
  refine PySem.W.methodCall_KW (pl := pl) (thn (he.run pins s σ H _ I (meth_ok q)) ?_) ht
  rintro uo s1 ⟨y, H1, I1, ry, a, dx, ws, ey, hy, hl, q1⟩
  subst ey
  cases ry
  have q2 : spD X.K cA F [V.ref a] H1 Q (WE W σ) := by
    obtain ⟨ι, S, env, R, E, q3⟩ := rdA_fin q1
    exact q3 [] H1 ι Ext.refl R .nil
  exact getmeth_ok I1 hy c hm hl (PySem.W.callWith_K0 (first := [Value.ref a]) I1.kIn hm.kp (run_fnS (us := [Value.ref a]) (vs := [V.ref a]) G hr hb (passAt tk σ) I1 (.cons rfl .nil) q2))
theorem de_fld {C : String} {fl : Str} (hK : X.K = K) (he : PE X e (rdE K cA W mo)) (c : Cls K (cA C)) (hn : NoAttr K (cA C) fl) (hb : attributeBase e fl X.env (eval e X.env) = eval e X.env := by rfl) : PE X (.Attribute e fl pos) (rdE K cA W (sFldR C fl mo)) := PE.weak (pe_fld he hb) fun σ H Q q => by
  subst hK
  obtain ⟨ι, S, env, R, E, q⟩ := rdE_fin q
  refine rd_seq R E q fun d v S1 H1 ι1 x1 R1 E1 r1 q1 => ?_
  cases z : getI S1 C d with
  | none => rw [z] at q1; exact q1.elim
  | some p =>
    rw [z] at q1
    obtain ⟨n, fs⟩ := p
    obtain ⟨a, dx, ws, ed, ev, ha, ho, hf⟩ := R1.getI r1 z
    simp only at q1
    cases hl : fs.lookup fl with
    | none => rw [hl] at q1; exact q1.elim
    | some d' =>
      rw [hl] at q1
      obtain ⟨v', e1, e2⟩ := (lookup_rel hf).2 d' hl
      exact ⟨a, _, dx, ws, v', ev, ho, c, hn, e1, q1 v' H1 ι1 Ext.refl R1 e2⟩
theorem ds_fld {C : String} {fl : Str} {pos' : Pos} (hK : X.K = K) (ho : PE X o (rdE K cA W mo)) (hv : PE X e (rdE K cA W m)) (c : Cls K (cA C)) (hn : NoAttr K (cA C) fl) (hs : swapsWith e (some (.Attribute o fl pos')) pos.line X.env = pure false := by rfl) :
    PS X (.Assign [.Attribute o fl pos'] e pos) (rdS K cA W (sFldS C fl mo m)) := PS.weak (ps_fld ho hv hs) fun D σ H q => by
  subst hK
  obtain ⟨ι, S, env, R, E, q⟩ := q
  refine rd_out R E q fun dv v S1 H1 ι1 x1 R1 E1 r1 q1 => ?_
  refine rd_out R1 E1 q1 fun d vo S2 H2 ι2 x2 R2 E2 r2 q2 => ?_
  cases z : getI S2 C d with
  | none => rw [z] at q2; exact q2.elim
  | some p =>
    rw [z] at q2
    obtain ⟨n, fs⟩ := p
    obtain ⟨a, dx, ws, ed, ev, ha, ho, hf⟩ := R2.getI r2 z
    simp only at q2
    by_cases hl : fs.length < 1000
    · rw [if_pos hl] at q2
      refine ⟨a, _, dx, ws, ev, ho, c, hn, by rw [← Paired.length' hf]; exact hl, ?_⟩
      have mu : ¬ Imm (HO.ins (cA C) dx ws) := fun z => z
      refine q2 σ _ ι2 (Ext.mut ha ho mu) (R2.write ha ho mu (.ins ?_)) (E2.mono (Ext.mut ha ho mu))
      exact put_rel ((r1.mono x2).mono (Ext.mut ha ho mu)) (Paired.mapP hf fun p q rr => ⟨rr.1, rr.2.mono (Ext.mut ha ho mu)⟩)
    · rw [if_neg hl] at q2; exact q2.elim
/-- a new instance, its __init__ -/
theorem de_make {C : String} (hK : X.K = K) (M : Mk K (cA C) f) (G : FnOk X.prog X.w X.K X.mg X.base (L2.CX X.prog X.w) k f fd ps (spD K cA F)) (tk : Takes X W) (hr : Room (k + 1) X.A) (hg : Gl X x) (hm : X.mg x = some (.ref (cA C))) (hb : Binds X.K fd ps [])
    (ha : PA X (e :: es) (rdA K cA W r)) (hdb : (x == ("__debug__" : Str)) = false := by decide) (he : starEach (e :: es) X.env = (false, eval e X.env) :: starEach es X.env := by rfl) (hpl : (backTo pos (starEach es X.env)).any (·.1) = false := by rfl) :
    PE X (.Call (.Name x p) (e :: es) [] pos) (rdE K cA W (sMake C F r)) := by
  subst hK
  refine ⟨fun pins s σ H Q I q => ?_⟩
  obtain ⟨ι, S, env, R, E, q⟩ := rdE_fin q
  have hw : rdA X.K cA W r σ H fun vs H1 => ∀ y dy, H1 y = none → H1 dy = none → dy ≠ y → spD X.K cA F (.ref y :: vs) (upd (upd H1 dy (.own y)) y (.ins (cA C) dy [])) (fun v H2 => v = .non ∧ Q (.ref y) H2) (WE W σ) := by
    refine rdA_seq R E q fun ds vs S1 H1 ι1 x1 R1 E1 r1 q1 y dy hy hdy hne => ?_
    have hy2 : (upd H1 dy (.own y)) y = none := by rw [upd_ne (Ne.symm hne)]; exact hy
    have X1 : Ext ι1 H1 ι1 (upd H1 dy (.own y)) := Ext.new hdy
    have X2 : Ext ι1 (upd H1 dy (.own y)) (ι1 ++ [y]) (upd (upd H1 dy (.own y)) y (.ins (cA C) dy [])) := Ext.alloc hy2
    refine ⟨ι1 ++ [y], S1 ++ [.ins C []], .ref S1.length :: ds, (R1.grow hdy).alloc hy2 (.ins .nil), .cons (.ref (by rw [← R1.len]; simp)) ((r1.mono X1).mono X2), ?_⟩
    have xx := X1.trans X2
    cases z : F (.ref S1.length :: ds) (S1 ++ [.ins C []]) with
    | stuck => rw [z] at q1; exact q1
    | exc E' S2 => rw [z] at q1; exact fun H' ι' x' R' => q1 H' ι' (xx.trans x') R'
    | ok d S2 =>
      rw [z] at q1
      cases d with
      | non =>
        intro v H' ι' x' R' r'
        cases r'
        refine ⟨rfl, q1 (.ref y) H' ι' (xx.trans x') R' (.ref (x'.get ?_))⟩
        rw [← R1.len]; simp
      | _ => exact q1.elim
  refine wpAny_Call_Name_kw (ld_glob I hg hm ?_ hdb)
  refine PySem.W.callWith_K (h₀ := X.base) I.ok.mod.kin M.kp (thn (ha.run pos pins s σ H _ I hw) ?_) he hpl
  rintro us s1 ⟨vs, H1, I1, rv, q1⟩
  refine ⟨I1.kIn, ?_⟩
  have q2 := q1 (s1.heap.objs.size + 1) s1.heap.objs.size (I1.hok.fresh (Nat.le_succ _)) (I1.hok.fresh (Nat.le_refl _)) (Nat.ne_of_lt (Nat.lt_succ_self _))
  have J := Inv.made (C := cA C) I1
  have rr : Vals (V.ref (s1.heap.objs.size + 1) :: vs) (Value.ref (s1.heap.objs.size + 1) :: us) := .cons rfl rv
  have hlen : ((Value.ref (s1.heap.objs.size + 1) :: us) ++ []).length = ps.length := by
    rw [List.append_nil, ← rr.length]
    exact G.len _ _ _ _ q2
  have bd := hb _ (Value.ref (s1.heap.objs.size + 1) :: us) J.kIn hlen
  rw [List.append_nil] at bd
  refine wpAny_call (make_map (f := f) I1.kIn M.makes M.init (beq_iff_eq.mp M.fn) (codeAny_mono (G.run _ X.stack _ _ ⟨Value.ref (s1.heap.objs.size + 1) :: us, []⟩ _ _ _ (WE W σ) (hr.make (cA C) us []) (J.env0.make (cA C) us []) bd rr q2) ?_))
  intro res s' hres
  match res, hres with
  | .error ex, hres => exact passAt tk σ pins _ _ ex s' J hres
  | .ok (.ret u), hres =>
    obtain ⟨v, H', I3, rv3, ev, q3⟩ := J.after hres
    subst ev
    exact ⟨rv3, ⟨V.ref (s1.heap.objs.size + 1), H', I3, rfl, q3⟩⟩
end
end Z
set_option Elab.async false
set_option linter.all false
set_option maxRecDepth 100000
set_option maxHeartbeats 2000000
namespace Z
open PySem PySem.Spec PySem.W PySem.Calls PyProof.Rows L2

/-! ### what is walked -/
section
variable {K : PySem.W.Frag} {cA : String → Addr} {W : WX} {X : Cx} {a b c e o i tg : Expr} {es rest : List Expr} {pos p apos : Pos} {ma mb mc m mo : SE} {t u : ST} {r : SA}
theorem rdI_mk {it : SI} {σ : L2.St} {H : Hp} {R1 : It → Hp → Prop} {ι : List Addr} {S : Store} {env : ES} (R : RS K cA ι S H) (E : REnv K cA ι H env σ)
    (h : match it env S with
      | .ok I S1 => ∀ J H1 ι1, Ext ι H ι1 H1 → RS K cA ι1 S1 H1 → ItOk K cA ι1 H1 I J → R1 J H1
      | .exc C S1 => ∀ H' ι', Ext ι H ι' H' → RS K cA ι' S1 H' → W (.ref (cA C)) none σ H'
      | .stuck => False) : rdI K cA W it σ H R1 := ⟨ι, S, env, R, E, h⟩
/-- what is wanted of an iterable's result -/
def finI (K : PySem.W.Frag) (cA : String → Addr) (W : WX) (σ : L2.St) (ι : List Addr) (H : Hp) (R1 : It → Hp → Prop) : Res Itr → Prop
  | .ok I S1 => ∀ J H1 ι1, Ext ι H ι1 H1 → RS K cA ι1 S1 H1 → ItOk K cA ι1 H1 I J → R1 J H1
  | .exc C S1 => ∀ H' ι', Ext ι H ι' H' → RS K cA ι' S1 H' → W (.ref (cA C)) none σ H'
  | .stuck => False
theorem rdI_fin {it : SI} {σ : L2.St} {H : Hp} {R1 : It → Hp → Prop} (h : rdI K cA W it σ H R1) : ∃ ι S env, RS K cA ι S H ∧ REnv K cA ι H env σ ∧ finI K cA W σ ι H R1 (it env S) := by
  obtain ⟨ι, S, env, R, E, h⟩ := h
  refine ⟨ι, S, env, R, E, ?_⟩
  cases q : it env S with
  | ok d S' => rw [q] at h; exact h
  | exc C S' => rw [q] at h; exact h
  | stuck => rw [q] at h; exact h
theorem finI.mono {σ : L2.St} {ι ι1 : List Addr} {H H1 : Hp} {R1 : It → Hp → Prop} {r : Res Itr} (h : finI K cA W σ ι H R1 r) (x : Ext ι H ι1 H1) : finI K cA W σ ι1 H1 R1 r := by
  cases r with
  | ok I S => exact fun J H2 ι2 x2 => h J H2 ι2 (x.trans x2)
  | exc C S => exact fun H2 ι2 x2 => h H2 ι2 (x.trans x2)
  | stuck => exact h
theorem rdE_I {f : D → Store → Res Itr} {σ : L2.St} {H : Hp} {R1 : It → Hp → Prop} {Q1 : VK} {ι : List Addr} {S : Store} {env : ES} (R : RS K cA ι S H) (E : REnv K cA ι H env σ) (h : finI K cA W σ ι H R1 ((m env S).bind f))
    (k : ∀ d v S1 H1 ι1, Ext ι H ι1 H1 → RS K cA ι1 S1 H1 → REnv K cA ι1 H1 env σ → RelD K cA ι1 H1 d v → finI K cA W σ ι1 H1 R1 (f d S1) → Q1 v H1) : rdE K cA W m σ H Q1 := by
  refine rdE_mk R E ?_
  cases q : m env S with
  | ok d S1 =>
    rw [q] at h
    exact fun v H1 ι1 x R1 r1 => k d v S1 H1 ι1 x R1 (E.mono x) r1 (finI.mono h x)
  | exc C S1 => rw [q] at h; exact h
  | stuck => rw [q] at h; exact h
theorem getL_keep {ι1 ι : List Addr} {H1 H : Hp} {S : Store} {d : D} {v : V} {a : Addr} {xs : List D} {vs : List V} (r1 : RelD K cA ι1 H1 d v) (x : Ext ι1 H1 ι H) (R : RS K cA ι S H) (h : getL S d = some xs) (ev : v = .ref a) : ∃ vs, SqL K H a vs ∧ RelDs K cA ι H xs vs := by
  obtain ⟨a', vs, e1, e2, e3⟩ := R.getL (r1.mono x) h
  rw [ev] at e1
  cases e1
  exact ⟨vs, e2, e3⟩
/-- a list that stands, walked -/
theorem itOk_list {ι1 : List Addr} {H1 : Hp} {d : D} {a : Addr} {xs : List D} (r1 : RelD K cA ι1 H1 d (.ref a)) : ItOk K cA ι1 H1 ⟨xs, fun S' => getL S' d = some xs⟩ (Itl K a) := by
  refine ⟨fun H => ∃ vs, SqL K H a vs ∧ vs.length = xs.length, fun i H x H' => H' = H ∧ ∀ vs, SqL K H a vs → vs[i]? = some x, ⟨fun i H hi ⟨vs, q, hl⟩ => ?_, fun H ⟨vs, q, hl⟩ => ⟨vs, q, by rw [hl]; exact Nat.le_refl _⟩, fun i H x H' _ _ y => y⟩, fun ι H S x R ok => ?_, fun ι H S i x H' xx R ok hi y => ?_⟩
  · have hi' : i < vs.length := by rw [hl]; exact hi
    exact ⟨vs, vs[i], q, List.getElem?_eq_getElem hi'⟩
  · obtain ⟨vs, e1, e2⟩ := getL_keep (vs := []) r1 x R ok rfl
    exact ⟨vs, e1, e2.length.symm⟩
  · obtain ⟨vs, e1, e2⟩ := getL_keep (vs := []) r1 xx R ok rfl
    obtain ⟨rfl, y⟩ := y
    obtain ⟨d', h1, h2⟩ := e2.get' (y vs e1)
    exact ⟨d', h1, R, Ext.refl, h2⟩
theorem SqT.keep {H H' : Hp} {a : Addr} {vs : List V} (h : H a = some (.tup vs)) (i : ∀ a o, Imm o → H a = some o → H' a = some o) : H' a = some (.tup vs) := i a _ trivial h
theorem itOk_tup {ι1 : List Addr} {H1 : Hp} {a : Addr} {d : D} {xs : List D} (r1 : RelD K cA ι1 H1 d (.ref a)) (h0 : d.tupL = some xs) : ItOk K cA ι1 H1 ⟨xs, fun _ => True⟩ (Itt K a) := by
  have key : ∀ ι H, Ext ι1 H1 ι H → ∃ vs, SqT K H a vs ∧ RelDs K cA ι H xs vs := fun ι H x => by
    obtain ⟨a', vs, e1, e2, e3⟩ := (r1.mono x).tupR h0
    cases e1
    exact ⟨vs, e2, e3⟩
  refine ⟨fun H => ∃ vs, SqT K H a vs ∧ vs.length = xs.length, fun i H x H' => H' = H ∧ ∀ vs, SqT K H a vs → vs[i]? = some x, ⟨fun i H hi ⟨vs, q, hl⟩ => ?_, fun H ⟨vs, q, hl⟩ => ⟨vs, q, by rw [hl]; exact Nat.le_refl _⟩, fun i H x H' _ _ y => y⟩, fun ι H S x R ok => ?_, fun ι H S i x H' xx R ok hi y => ?_⟩
  · have hi' : i < vs.length := by rw [hl]; exact hi
    exact ⟨vs, vs[i], q, List.getElem?_eq_getElem hi'⟩
  · obtain ⟨vs, e1, e2⟩ := key ι H x
    exact ⟨vs, e1, e2.length.symm⟩
  · obtain ⟨vs, e1, e2⟩ := key ι H xx
    obtain ⟨rfl, y⟩ := y
    obtain ⟨d', h1, h2⟩ := e2.get' (y vs e1)
    exact ⟨d', h1, R, Ext.refl, h2⟩
theorem PI.or {w1 w2 : TI} (h1 : PI X tg e w1) (h2 : PI X tg e w2) : PI X tg e (fun σ H R => w1 σ H R ∨ w2 σ H R) := ⟨fun pins s σ H R I q => q.elim (h1.run pins s σ H R I) (h2.run pins s σ H R I)⟩
theorem PE.val {t : TE} (h : PE X e t) : PE X e t := h
/-- what is walked by values: a list or a tuple -/
theorem pi_seq {l : Expr} {tl : TE} (hl : PE X l tl) : PI X tg l (fun σ H R => tl σ H fun x H1 => (∃ a, x = .ref a ∧ (∃ xs, SqL X.K H1 a xs) ∧ R (Itl X.K a) H1) ∨ ∃ a, x = .ref a ∧ (∃ xs, SqT X.K H1 a xs) ∧ R (Itt X.K a) H1) := by
  refine ⟨fun pins s σ H R I q => thn (hl.run pins s σ H _ I q) fun u s1 ⟨y, H1, I1, ry, z⟩ => ?_⟩
  -- each way by the layer's own rule, over an expression that is read already
  have one : PE X l (fun σ' H' Q => σ' = σ ∧ H' = H ∧ tl σ H Q) := ⟨fun pins' s' σ' H' Q' I' ⟨e1, e2, q'⟩ => by subst e1; subst e2; exact hl.run pins' s' _ _ Q' I' q'⟩
  rcases z with ⟨a, rfl, ⟨xs, hx⟩, z⟩ | ⟨a, rfl, ⟨xs, hx⟩, z⟩
  · cases ry
    obtain ⟨its, rv, p1, hz⟩ := I1.list hx
    refine wpAny_pyIter_list p1.isList ?_
    exact pi_one (tk := s1.toks) I1 _ (turn_list a _) ⟨_, Heap.get?_push_size _ rfl, rfl, rfl⟩ z
  · cases ry
    obtain ⟨its, rv, p1, hz⟩ := I1.tuple hx
    refine wpAny_pyIter_tuple (show s1.heap.IsTuple a its.toArray from p1) ?_
    exact pi_one (tk := s1.toks) I1 _ (turn_tuple a _) ⟨_, Heap.get?_push_size _ rfl, rfl, rfl⟩ z
theorem di_seq (hK : X.K = K) (h : PE X e (rdE K cA W m)) : PI X tg e (rdI K cA W (itL m)) := PI.weak (pi_seq h) fun σ H RR q => by
  subst hK
  obtain ⟨ι, S, env, R, E, q⟩ := rdI_fin q
  refine rdE_I R E q fun d v S1 H1 ι1 x1 R1 E1 r1 q1 => ?_
  have fromL : ∀ xs, getL S1 d = some xs → finI X.K cA W σ ι1 H1 RR (.ok ⟨xs, fun S' => getL S' d = some xs⟩ S1) → ∃ a, v = .ref a ∧ (∃ xs, SqL X.K H1 a xs) ∧ RR (Itl X.K a) H1 := fun xs hx q1 => by
    obtain ⟨a, vs, ev, e2, e3⟩ := R1.getL r1 hx
    subst ev
    exact ⟨a, rfl, ⟨vs, e2⟩, q1 _ H1 ι1 Ext.refl R1 (itOk_list r1)⟩
  cases z0 : d.tupL with
  | some xs =>
    obtain ⟨a, vs, ev, e2, e3⟩ := r1.tupR z0
    subst ev
    simp only [z0] at q1
    exact .inr ⟨a, rfl, ⟨vs, e2⟩, q1 _ H1 ι1 Ext.refl R1 (itOk_tup r1 z0)⟩
  | none =>
    simp only [z0] at q1
    cases z : getL S1 d with
    | none => simp only [z] at q1; exact q1.elim
    | some xs => simp only [z] at q1; exact .inl (fromL xs z q1)
theorem di_str (h : PE X e (rdE K cA W m)) : PI X tg e (rdI K cA W (itS m)) := PI.weak (pi_str h) fun σ H RR q => by
  obtain ⟨ι, S, env, R, E, q⟩ := rdI_fin q
  refine rdE_I R E q fun d v S1 H1 ι1 x1 R1 E1 r1 q1 => ?_
  cases d with
  | str z =>
    cases r1
    refine ⟨z, rfl, q1 _ H1 ι1 Ext.refl R1 ⟨_, (fun i H v H' => H' = H ∧ ∃ c, z.cps[i]? = some c ∧ v = .str ⟨#[c]⟩), ?_, fun _ _ _ _ _ _ => trivial, fun ι H S i x H' xx R ok hi y => ?_⟩⟩
    · have w := walk_str (z := z)
      have e : (z.cps.toList.map fun c => D.str ⟨#[c]⟩).length = z.cps.size := by simp
      rw [show (Itr.mk (z.cps.toList.map fun c => D.str ⟨#[c]⟩) fun _ => True).items.length = z.cps.size from e]
      exact w
    · obtain ⟨rfl, c, hc, rfl⟩ := y
      refine ⟨.str ⟨#[c]⟩, ?_, R, Ext.refl, .str _⟩
      rw [List.getElem?_map, Array.getElem?_toList, hc]
      rfl
  | _ => exact q1.elim
theorem itOk_range {ι1 : List Addr} {H1 : Hp} {lo : Int} {n : Nat} : ItOk K cA ι1 H1 ⟨rangeD lo 1 n, fun _ => True⟩ (L2.Itr lo n) := by
  refine ⟨(fun _ => True), (fun i H x H' => H' = H ∧ x = .int (lo + (i : Nat))), ?_, fun _ _ _ _ _ _ => trivial, fun ι H S i x H' xx R ok hi y => ?_⟩
  · have w := walk_range (lo := lo) (n := n)
    have e : (rangeD lo 1 n).length = n := by simp [rangeD]
    rw [show (Itr.mk (rangeD lo 1 n) fun _ => True).items.length = n from e]
    exact w
  · obtain ⟨rfl, rfl⟩ := y
    have hn : i < n := by simpa [rangeD] using hi
    refine ⟨.int (lo + i), ?_, R, Ext.refl, .int _⟩
    simp [rangeD, hn]
theorem small62_iff {i : Int} (h : small62 i = true) : -(2 ^ 62) ≤ i ∧ i < 2 ^ 62 := by simpa [small62] using h
theorem di_range1 (hg : Gl X "range") (hm : X.mg "range" = none) (ha : PE X a (rdE K cA W m)) (hs : starEach [a] X.env = [(false, eval a X.env)] := by rfl) (hs2 : starEach (a :: []) X.env = (false, eval a X.env) :: starEach [] X.env := by rfl) :
    PI X tg (.Call (.Name "range" p) [a] [] pos) (rdI K cA W (itR1 m)) := PI.weak (pi_range1 hg hm (pa_cons ha pa_nil hs2) hs) fun σ H RR q => by
  obtain ⟨ι, S, env, R, E, q⟩ := rdI_fin q
  refine rdE_I R E q fun d v S1 H1 ι1 x1 R1 E1 r1 q1 => ?_
  cases d with
  | int j =>
    cases r1
    by_cases h : small62 j = true
    · simp only [if_pos h] at q1
      obtain ⟨h1, h2⟩ := small62_iff h
      exact ⟨j, rfl, h1, h2, q1 _ H1 ι1 Ext.refl R1 itOk_range⟩
    · simp only [if_neg h] at q1; exact q1.elim
  | _ => exact q1.elim
theorem di_range2 (hg : Gl X "range") (hm : X.mg "range" = none) (ha : PE X a (rdE K cA W ma)) (hb : PE X b (rdE K cA W mb)) (hs : starEach [a, b] X.env = [(false, eval a X.env), (false, eval b X.env)] := by rfl)
    (hs2 : starEach [b] X.env = [(false, eval b X.env)] := by rfl) (hs3 : starEach (a :: [b]) X.env = (false, eval a X.env) :: starEach [b] X.env := by rfl) (hs4 : starEach (b :: []) X.env = (false, eval b X.env) :: starEach [] X.env := by rfl) :
    PI X tg (.Call (.Name "range" p) [a, b] [] pos) (rdI K cA W (itR2 ma mb)) := PI.weak (pi_range2 hg hm (pa_cons ha (pa_cons hb pa_nil hs4) hs3) hs hs2) fun σ H RR q => by
  obtain ⟨ι, S, env, R, E, q⟩ := rdI_fin q
  refine rdE_I R E q fun d v S1 H1 ι1 x1 R1 E1 r1 q1 => ?_
  refine rdE_I R1 E1 q1 fun d2 v2 S2 H2 ι2 x2 R2 E2 r2 q2 => ?_
  cases d with
  | int i =>
    cases d2 with
    | int j =>
      cases r1; cases r2
      by_cases h : small62 i = true ∧ small62 j = true
      · simp only [if_pos h] at q2
        obtain ⟨h1, h2⟩ := small62_iff h.1
        obtain ⟨h3, h4⟩ := small62_iff h.2
        exact ⟨i, j, rfl, ⟨h1, h2, h3, h4⟩, q2 _ H2 ι2 Ext.refl R2 itOk_range⟩
      · simp only [if_neg h] at q2; exact q2.elim
    | _ => exact q2.elim
  | _ => cases d2 <;> exact q2.elim
/-- a new pair -/
theorem RS.pair {ι : List Addr} {S : Store} {H : Hp} {T : Addr} {x y : V} {dx dy : D} (R : RS K cA ι S H) (hT : H T = none) (rx : RelD K cA ι H dx x) (ry : RelD K cA ι H dy y) :
    RS K cA ι S (upd H T (.tup [x, y])) ∧ Ext ι H ι (upd H T (.tup [x, y])) ∧ RelD K cA ι (upd H T (.tup [x, y])) (.tup [dx, dy]) (.ref T) :=
  ⟨R.grow hT, Ext.new hT, .tup upd_same (.cons (rx.mono (Ext.new hT)) (.cons (ry.mono (Ext.new hT)) .nil))⟩
theorem itOk_enum {ι1 : List Addr} {H1 : Hp} {d : D} {a : Addr} {xs : List D} (r1 : RelD K cA ι1 H1 d (.ref a)) : ItOk K cA ι1 H1 ⟨enumD xs, fun S' => getL S' d = some xs⟩ (Ite K a) := by
  have el : (enumD xs).length = xs.length := by simp [enumD]
  refine ⟨fun H => ∃ vs, SqL K H a vs ∧ vs.length = xs.length, fun i H v H' => ∃ T x, v = .ref T ∧ H T = none ∧ H' = upd H T (.tup [.int (i : Nat), x]) ∧ ∀ vs, SqL K H a vs → vs[i]? = some x, ⟨fun i H hi ⟨vs, q, hl⟩ => ?_, fun H ⟨vs, q, hl⟩ => ⟨vs, q, ?_⟩, fun i H x H' _ _ y => y⟩, fun ι H S x R ok => ?_, fun ι H S i x H' xx R ok hi y => ?_⟩
  · have hi' : i < vs.length := by rw [hl, ← el]; exact hi
    exact ⟨vs, vs[i], q, List.getElem?_eq_getElem hi'⟩
  · show vs.length ≤ (enumD xs).length
    rw [el, hl]; exact Nat.le_refl _
  · obtain ⟨vs, e1, e2⟩ := getL_keep (vs := []) r1 x R ok rfl
    exact ⟨vs, e1, e2.length.symm⟩
  · obtain ⟨vs, e1, e2⟩ := getL_keep (vs := []) r1 xx R ok rfl
    obtain ⟨T, z, rfl, hT, rfl, y⟩ := y
    obtain ⟨d', h1, h2⟩ := e2.get' (y vs e1)
    obtain ⟨g1, g2, g3⟩ := R.pair hT (.int (i : Nat)) h2
    have hi' : i < xs.length := by rw [← el]; exact hi
    refine ⟨_, ?_, g1, g2, g3⟩
    show (enumD xs)[i]? = _
    unfold enumD
    rw [List.getElem?_map, List.getElem?_range hi']
    show some (D.tup [.int (i : Nat), xs[i]?.getD .non]) = _
    rw [h1] <;> rfl
theorem di_enum {elts : List Expr} {kk : Nat} {tpos : Pos} (hK : X.K = K) (hg : Gl X "enumerate") (hm : X.mg "enumerate" = none) (ha : PE X e (rdE K cA W m)) (hs : starEach [e] X.env = [(false, eval e X.env)] := by rfl) (hs2 : starEach (e :: []) X.env = (false, eval e X.env) :: starEach [] X.env := by rfl) :
    PI X (.Tuple elts kk tpos) (.Call (.Name "enumerate" p) [e] [] pos) (rdI K cA W (itEnum m)) := PI.weak (pi_enum hg hm (pa_cons ha pa_nil hs2) hs) fun σ H RR q => by
  subst hK
  obtain ⟨ι, S, env, R, E, q⟩ := rdI_fin q
  refine rdE_I R E q fun d v S1 H1 ι1 x1 R1 E1 r1 q1 => ?_
  cases z : getL S1 d with
  | none => simp only [z] at q1; exact q1.elim
  | some xs =>
    simp only [z] at q1
    obtain ⟨a, vs, ev, e2, e3⟩ := R1.getL r1 z
    subst ev
    exact ⟨a, vs, rfl, e2, q1 _ H1 ι1 Ext.refl R1 (itOk_enum r1)⟩
theorem itOk_zip {ι1 : List Addr} {H1 : Hp} {d d2 : D} {a b : Addr} {xs ys : List D} (r1 : RelD K cA ι1 H1 d (.ref a)) (r2 : RelD K cA ι1 H1 d2 (.ref b)) : ItOk K cA ι1 H1 ⟨zipD xs ys, fun S' => getL S' d = some xs ∧ getL S' d2 = some ys⟩ (Itz K a b) := by
  have el : (zipD xs ys).length = min xs.length ys.length := by simp [zipD]
  refine ⟨fun H => ∃ vs ws, SqL K H a vs ∧ SqL K H b ws ∧ vs.length = xs.length ∧ ws.length = ys.length, fun i H v H' => ∃ T x y, v = .ref T ∧ H T = none ∧ H' = upd H T (.tup [x, y]) ∧ (∀ vs, SqL K H a vs → vs[i]? = some x) ∧ ∀ vs, SqL K H b vs → vs[i]? = some y, ⟨fun i H hi ⟨vs, ws, q, q2, hl, hl2⟩ => ?_, fun H ⟨vs, ws, q, q2, hl, hl2⟩ => ⟨vs, ws, q, q2, ?_⟩, fun i H x H' _ _ y => y⟩, fun ι H S x R ok => ?_, fun ι H S i x H' xx R ok hi y => ?_⟩
  · have hi0 : i < min xs.length ys.length := by rw [← el]; exact hi
    have hi' : i < vs.length := by omega
    have hi2 : i < ws.length := by omega
    exact ⟨vs, ws, vs[i], ws[i], q, q2, List.getElem?_eq_getElem hi', List.getElem?_eq_getElem hi2⟩
  · show vs.length ≤ (zipD xs ys).length ∨ ws.length ≤ (zipD xs ys).length
    rw [el]; omega
  · obtain ⟨vs, e1, e2⟩ := getL_keep (vs := []) r1 x R ok.1 rfl
    obtain ⟨ws, f1, f2⟩ := getL_keep (vs := []) r2 x R ok.2 rfl
    exact ⟨vs, ws, e1, f1, e2.length.symm, f2.length.symm⟩
  · obtain ⟨vs, e1, e2⟩ := getL_keep (vs := []) r1 xx R ok.1 rfl
    obtain ⟨ws, f1, f2⟩ := getL_keep (vs := []) r2 xx R ok.2 rfl
    obtain ⟨T, z, z2, rfl, hT, rfl, y, y2⟩ := y
    obtain ⟨d', h1, h2⟩ := e2.get' (y vs e1)
    obtain ⟨d'', h3, h4⟩ := f2.get' (y2 ws f1)
    obtain ⟨g1, g2, g3⟩ := R.pair hT h2 h4
    have hi' : i < min xs.length ys.length := by rw [← el]; exact hi
    have i1 : i < xs.length := by omega
    have i2 : i < ys.length := by omega
    refine ⟨_, ?_, g1, g2, g3⟩
    show (zipD xs ys)[i]? = _
    unfold zipD
    rw [List.getElem?_map, List.getElem?_range hi']
    show some (D.tup [xs[i]?.getD .non, ys[i]?.getD .non]) = _
    rw [h1, h3] <;> rfl
theorem di_zip {elts : List Expr} {kk : Nat} {tpos : Pos} (hK : X.K = K) (hg : Gl X "zip") (hm : X.mg "zip" = none) (ha : PE X a (rdE K cA W ma)) (hb : PE X b (rdE K cA W mb)) (hs : starEach [a, b] X.env = (false, eval a X.env) :: starEach [b] X.env := by rfl)
    (hpl : (backTo pos (starEach [b] X.env)).any (·.1) = false := by rfl) (hs4 : starEach (b :: []) X.env = (false, eval b X.env) :: starEach [] X.env := by rfl) :
    PI X (.Tuple elts kk tpos) (.Call (.Name "zip" p) [a, b] [] pos) (rdI K cA W (itZip ma mb)) := PI.weak (pi_zip hg hm (pa_cons ha (pa_cons hb pa_nil hs4) hs) hs hpl) fun σ H RR q => by
  subst hK
  obtain ⟨ι, S, env, R, E, q⟩ := rdI_fin q
  refine rdE_I R E q fun d v S1 H1 ι1 x1 R1 E1 r1 q1 => ?_
  refine rdE_I R1 E1 q1 fun d2 v2 S2 H2 ι2 x2 R2 E2 r2 q2 => ?_
  cases z : getL S2 d with
  | none => simp only [z] at q2; exact q2.elim
  | some xs =>
    cases z2 : getL S2 d2 with
    | none => simp only [z, z2] at q2; exact q2.elim
    | some ys =>
      simp only [z, z2] at q2
      obtain ⟨a, vs, ev, e2, e3⟩ := R2.getL (r1.mono x2) z
      obtain ⟨b, ws, ev2, f2, f3⟩ := R2.getL r2 z2
      subst ev; subst ev2
      exact ⟨a, b, vs, ws, rfl, e2, f2, q2 _ H2 ι2 Ext.refl R2 (itOk_zip (r1.mono x2) r2)⟩
theorem itOk_rev {ι1 : List Addr} {H1 : Hp} {d : D} {a : Addr} {xs : List D} (r1 : RelD K cA ι1 H1 d (.ref a)) : ItOk K cA ι1 H1 ⟨xs.reverse, fun S' => getL S' d = some xs⟩ (Itv K a xs.length) := by
  have el : xs.reverse.length = xs.length := by simp
  refine ⟨fun H => ∃ vs, SqL K H a vs ∧ vs.length = xs.length, fun i H x H' => H' = H ∧ ∀ vs, SqL K H a vs → vs[xs.length - 1 - i]? = some x, ⟨fun i H hi ⟨vs, q, hl⟩ => ?_, fun H ⟨vs, q, hl⟩ => ?_, fun i H x H' _ _ y => y⟩, fun ι H S x R ok => ?_, fun ι H S i x H' xx R ok hi y => ?_⟩
  · have hi0 : i < xs.length := by rw [← el]; exact hi
    have hi' : xs.length - 1 - i < vs.length := by omega
    exact ⟨hi0, vs, vs[xs.length - 1 - i], q, List.getElem?_eq_getElem hi'⟩
  · show xs.length ≤ xs.reverse.length
    rw [el]; exact Nat.le_refl _
  · obtain ⟨vs, e1, e2⟩ := getL_keep (vs := []) r1 x R ok rfl
    exact ⟨vs, e1, e2.length.symm⟩
  · obtain ⟨vs, e1, e2⟩ := getL_keep (vs := []) r1 xx R ok rfl
    obtain ⟨rfl, y⟩ := y
    obtain ⟨d', h1, h2⟩ := e2.get' (y vs e1)
    have hi' : i < xs.length := by rw [← el]; exact hi
    exact ⟨d', by rw [List.getElem?_reverse hi', h1], R, Ext.refl, h2⟩
theorem di_rev (hK : X.K = K) (hg : Gl X "reversed") (hm : X.mg "reversed" = none) (ha : PE X e (rdE K cA W m)) (hs : starEach [e] X.env = (false, eval e X.env) :: starEach [] X.env := by rfl) :
    PI X tg (.Call (.Name "reversed" p) [e] [] pos) (rdI K cA W (itRev m)) := PI.weak (RT.pi_revA hg hm ha hs) fun σ H RR q => by
  subst hK
  obtain ⟨ι, S, env, R, E, q⟩ := rdI_fin q
  refine rdE_I R E q fun d v S1 H1 ι1 x1 R1 E1 r1 q1 => ?_
  cases z : getL S1 d with
  | none => simp only [z] at q1; exact q1.elim
  | some xs =>
    simp only [z] at q1
    obtain ⟨a, vs, ev, e2, e3⟩ := R1.getL r1 z
    subst ev
    refine ⟨a, vs, rfl, .inl ⟨e2, ?_⟩⟩
    rw [← e3.length]
    exact q1 _ H1 ι1 Ext.refl R1 (itOk_rev r1)
end
end Z
set_option Elab.async false
set_option linter.all false
set_option maxRecDepth 100000
set_option maxHeartbeats 2000000
namespace Z
open PySem PySem.Spec PySem.W PySem.Calls PyProof.Rows L2

def kD : Key → D
  | .inl i => .int i
  | .inr x => .str x
/-- a dict's pairs -/
def dPairs : Cell → Option (List (D × D))
  | .dK kvs => some (kvs.map fun p => (kD p.1, p.2))
  | .dT kvs => some (kvs.map fun p => (.tup (p.1.map kD), p.2))
  | .frz c => dPairs c
  | _ => none
def Cell.lock : Cell → Cell
  | .frz c => .frz c
  | c => .frz c
def getP (S : Store) (d : D) : Option (Nat × Cell × List (D × D)) := match d with
  | .ref n => match S[n]? with
    | some c => match dPairs c with
      | some kvs => some (n, c, kvs)
      | none => none
    | none => none
  | _ => none
def itDict (f : D × D → D) (m : SE) : SI := fun env S => (m env S).bind fun d S1 => match getP S1 d with
  | some (n, c, kvs) => .ok ⟨kvs.map f, fun S' => S'[n]? = some c.lock⟩ (S1.set n c.lock)
  | none => .stuck
def itItems (m : SE) : SI := itDict (fun p => .tup [p.1, p.2]) m
def itKeys (m : SE) : SI := itDict (fun p => p.1) m
def itVals (m : SE) : SI := itDict (fun p => p.2) m
/-- a statement while the thing at a slot is locked -/
noncomputable def sLock (m : SE) (s : SS) : SS := fun env S => match m env S with
  | .ok (.ref n) S1 => match S1[n]? with
    | some (.frz _) => .stuck
    | some (.ins _ _) => .stuck
    | some c => let back : ES → Store → (ES → Store → Out) → Out := fun e S' k => open Classical in if S'[n]? = some (.frz c) then k e (S'.set n c) else .stuck
      match s env (S1.set n (.frz c)) with
      | .nx e S' => back e S' .nx
      | .rt d S' => back [] S' fun _ S2 => .rt d S2
      | .bk e S' => back e S' .bk
      | .ct e S' => back e S' .ct
      | .exc C e S' => back e S' (.exc C)
      | .stuck => .stuck
    | none => .stuck
  | _ => .stuck
def sRaise (C : String) : SS := fun env S => .exc C env S

section
variable {K : PySem.W.Frag} {cA : String → Addr} {W : WX} {X : Cx} {a b c e o i tg : Expr} {es rest : List Expr} {pos p apos cpos : Pos} {ma mb mc m mo : SE} {t u : ST} {r : SA} {st : Stmt}
theorem kD_rel {ι : List Addr} {H : Hp} (k : Key) : RelD K cA ι H (kD k) (kV k) := by
  cases k with
  | inl i => exact .int i
  | inr x => exact .str x
theorem kDs_rel {ι : List Addr} {H : Hp} : ∀ ks : List Key, RelDs K cA ι H (ks.map kD) (ks.map kV)
  | [] => .nil
  | k :: r => .cons (kD_rel k) (kDs_rel r)
theorem keys_rel {ι : List Addr} {H : Hp} : ∀ {kvs : List (Key × D)} {ws : List (Key × V)}, Paired (fun (p : Key × D) (q : Key × V) => p.1 = q.1 ∧ RelD K cA ι H p.2 q.2) kvs ws →
    RelDs K cA ι H ((kvs.map fun p => (kD p.1, p.2)).map (·.1)) (ws.map fun q => kV q.1) ∧ RelDs K cA ι H ((kvs.map fun p => (kD p.1, p.2)).map (·.2)) (ws.map (·.2))
  | _, _, .nil => ⟨.nil, .nil⟩
  | (k, d) :: kvs, (k', v) :: ws, .cons r t => by
    obtain ⟨e, r⟩ := r
    simp only at e
    subst e
    obtain ⟨i1, i2⟩ := keys_rel t
    exact ⟨.cons (kD_rel k) i1, .cons r i2⟩
theorem tkeys_rel {ι : List Addr} {H : Hp} : ∀ {kvs : List (List Key × D)} {ws : List (List Key × V)} (xs : List (List Key × Addr × Value)), Paired (fun (p : List Key × D) (q : List Key × V) => p.1 = q.1 ∧ RelD K cA ι H p.2 q.2) kvs ws →
    Paired (fun (p : List Key × V) (q : List Key × Addr × Value) => p.1 = q.1 ∧ H q.2.1 = some (.tup (p.1.map kV)) ∧ RelV p.2 q.2.2) ws xs →
    RelDs K cA ι H ((kvs.map fun p => (D.tup (p.1.map kD), p.2)).map (·.1)) (xs.map fun q => V.ref q.2.1) ∧ RelDs K cA ι H ((kvs.map fun p => (D.tup (p.1.map kD), p.2)).map (·.2)) (ws.map (·.2))
  | [], [], xs, .nil, t2 => by
    cases t2
    exact ⟨.nil, .nil⟩
  | (k, d) :: kvs, (k', v) :: ws, xs, .cons r t, t2 => by
    obtain ⟨e, r⟩ := r
    simp only at e
    subst e
    cases t2 with
    | cons r2 t2 =>
      obtain ⟨i1, i2⟩ := tkeys_rel _ t t2
      exact ⟨.cons (.tup r2.2.1 (kDs_rel k)) i1, .cons r i2⟩
/-- a raw view of a dict that stands at a: its entries' keys and values -/
structure RawV (X : Cx) (K : PySem.W.Frag) (cA : String → Addr) (ι : List Addr) (H : Hp) (o : Obj) (kvs : List (D × D)) (es : Array DictEntry) (ep : Nat) (ks vs : List V) : Prop where
  ex : o.ExactDict
  dat : o.data = .dict es ep
  size : es.size = kvs.length
  key : ∀ (i : Nat) (hi : i < es.size), ∃ k, ks[i]? = some k ∧ RelV k es[i].key
  val : ∀ (i : Nat) (hi : i < es.size), ∃ v, vs[i]? = some v ∧ RelV v es[i].val
  rk : RelDs K cA ι H (kvs.map (·.1)) ks
  rv : RelDs K cA ι H (kvs.map (·.2)) vs
theorem raw_dK {ι : List Addr} {H : Hp} {s : Shared} {a : Addr} {ws : List (Key × V)} {kvs : List (Key × D)} (ob : ObjOk X.prog X.w H s.heap a (.dK ws)) (hp : Paired (fun (p : Key × D) (q : Key × V) => p.1 = q.1 ∧ RelD K cA ι H p.2 q.2) kvs ws) :
    (a == sysModules) = false ∧ ∃ o es ep ks vs, s.heap.get? a = some o ∧ RawV X K cA ι H o (kvs.map fun p => (kD p.1, p.2)) es ep ks vs := by
  obtain ⟨z, hs, us, kv, dof⟩ := ob
  obtain ⟨es, ep, ⟨o, ho, hx, hd⟩, hsz, hent⟩ := dof.raw
  have l1 : ws.length = us.length := Paired.length kv
  have l2 : kvs.length = ws.length := Paired.length' hp
  refine ⟨hs, o, es, ep, ws.map (fun q => kV q.1), ws.map (·.2), ho, hx, hd, by simp; omega, fun i hi => ?_, fun i hi => ?_, ?_, ?_⟩
  · have hiw : i < ws.length := by omega
    obtain ⟨u, hu, ru⟩ := kv_get kv (i := i) (k := ws[i].1) (v := ws[i].2) (by rw [List.getElem?_eq_getElem hiw])
    obtain ⟨e1, e2⟩ := hent i hi _ _ hu
    exact ⟨kV ws[i].1, by simp [hiw], relV_key e1⟩
  · have hiw : i < ws.length := by omega
    obtain ⟨u, hu, ru⟩ := kv_get kv (i := i) (k := ws[i].1) (v := ws[i].2) (by rw [List.getElem?_eq_getElem hiw])
    obtain ⟨e1, e2⟩ := hent i hi _ _ hu
    exact ⟨ws[i].2, by simp [hiw], by rw [e2]; exact ru⟩
  · exact (keys_rel hp).1
  · exact (keys_rel hp).2
theorem raw_dT {ι : List Addr} {H : Hp} {s : Shared} {a : Addr} {ws : List (List Key × V)} {kvs : List (List Key × D)} (ob : ObjOk X.prog X.w H s.heap a (.dT ws)) (hp : Paired (fun (p : List Key × D) (q : List Key × V) => p.1 = q.1 ∧ RelD K cA ι H p.2 q.2) kvs ws) :
    (a == sysModules) = false ∧ ∃ o es ep ks vs, s.heap.get? a = some o ∧ RawV X K cA ι H o (kvs.map fun p => (.tup (p.1.map kD), p.2)) es ep ks vs := by
  obtain ⟨z, hs, xs, pr, o, es, ep, ho, hx, hd, he, nd⟩ := ob
  have l1 : es.size = xs.length := size_of_entries he
  have l2 : ws.length = xs.length := Paired.length pr
  have l3 : kvs.length = ws.length := Paired.length' hp
  refine ⟨hs, o, es, ep, xs.map (fun q => V.ref q.2.1), ws.map (·.2), ho, hx, hd, by simp; omega, fun i hi => ?_, fun i hi => ?_, ?_, ?_⟩
  · have hix : i < xs.length := by omega
    have q := entry_at he i
    rw [List.getElem?_eq_getElem hix, Array.getElem?_eq_getElem hi] at q
    have q' : es[i] = entryOfKey (tupleKind (mixKind X.prog X.w)) xs[i] := Option.some.inj q
    exact ⟨.ref xs[i].2.1, by simp [hix], by rw [q']; rfl⟩
  · have hix : i < xs.length := by omega
    have hiw : i < ws.length := by omega
    have q := entry_at he i
    rw [List.getElem?_eq_getElem hix, Array.getElem?_eq_getElem hi] at q
    have q' : es[i] = entryOfKey (tupleKind (mixKind X.prog X.w)) xs[i] := Option.some.inj q
    obtain ⟨b, hb, e1, e2, e3⟩ := paired_get pr (i := i) (a := ws[i]) (List.getElem?_eq_getElem hiw)
    rw [List.getElem?_eq_getElem hix] at hb
    cases hb
    exact ⟨ws[i].2, by simp [hiw], by rw [q']; exact e3⟩
  · exact (tkeys_rel _ hp pr).1
  · exact (tkeys_rel _ hp pr).2
theorem raw_of {ι : List Addr} {H : Hp} {s : Shared} {a : Addr} : ∀ {c : Cell} {u : HO} {kvs : List (D × D)}, ObjOk X.prog X.w H s.heap a u → RelC K cA ι H c u → dPairs c = some kvs →
    (a == sysModules) = false ∧ ∃ o es ep ks vs, s.heap.get? a = some o ∧ RawV X K cA ι H o kvs es ep ks vs
  | .dK _, _, _, ob, rc, h => by
    cases rc with
    | dK hp => cases h; exact raw_dK ob hp
  | .dT _, _, _, ob, rc, h => by
    cases rc with
    | dT hp => cases h; exact raw_dT ob hp
  | .frz _, _, _, ob, rc, h => by
    cases rc with
    | frz rc => exact raw_of ob.2 rc h
  | .lst _, _, _, _, _, h => by cases h
  | .ins _ _, _, _, _, _, h => by cases h

/-- the pairs of the locked dict at d, each a new tuple -/
def ItR (d : Addr) (o : Obj) (n : Nat) (ks vs : List V) : It :=
  ⟨fun i H => (∃ u, H d = some (.frz o u)) ∧ i < n, fun i H x H' => ∃ T k v, ks[i]? = some k ∧ vs[i]? = some v ∧ x = .ref T ∧ H T = none ∧ H' = upd H T (.tup [k, v]), fun i H => (∃ u, H d = some (.frz o u)) ∧ n ≤ i⟩
/-- its keys, its values -/
def ItR1 (d : Addr) (o : Obj) (n : Nat) (ks : List V) : It :=
  ⟨fun i H => (∃ u, H d = some (.frz o u)) ∧ i < n, fun i H x H' => H' = H ∧ ks[i]? = some x, fun i H => (∃ u, H d = some (.frz o u)) ∧ n ≤ i⟩
theorem frz_at {pins : List (Addr × Obj)} {σ : L2.St} {H : Hp} {s : Shared} {d : Addr} {o : Obj} {es : Array DictEntry} {ep : Nat} (I : Inv X pins σ H s) (h : ∃ u, H d = some (.frz o u)) (hx : o.ExactDict) (hd : o.data = .dict es ep) : s.heap.DictRaw d es ep := by
  obtain ⟨u, h⟩ := h
  exact ⟨o, (I.hok d _ h).1, hx, hd⟩
theorem turn_itemsR {P : Program} {w : World} {elts : List Expr} {kk : Nat} {tpos : Pos} {d it : Addr} {o : Obj} {es : Array DictEntry} {ep n : Nat} {ks vs : List V} (hx : o.ExactDict) (hd : o.data = .dict es ep) (hn : es.size = n)
    (hk : ∀ (i : Nat) (hi : i < es.size), ∃ k, ks[i]? = some k ∧ RelV k es[i].key) (hv : ∀ (i : Nat) (hi : i < es.size), ∃ k, vs[i]? = some k ∧ RelV k es[i].val) :
    Turn P w K (.Tuple elts kk tpos) (ItR d o n ks vs) [it] it (fun i h => ∃ ok ov, IsItemIter h it d i es.size ep ok ov) where
  mem := by simp
  obj := fun i h st b hb => by
    have e : b = it := by simpa using hb
    subst e
    obtain ⟨ok, ov, e⟩ := st
    exact ⟨_, e, fun v z => nomatch z⟩
  keep := fun i h h' st k => let ⟨ok, ov, e⟩ := st; ⟨ok, ov, k it (by simp) _ e⟩
  item := by
    intro X hP hw hK hc i pins s σ H E I hf st hg
    subst hP hw hK
    obtain ⟨hfz, hi⟩ := hg
    obtain ⟨ok, ov, he⟩ := st
    have hlt : it < s.heap.objs.size := Heap.lt_size he
    have hi' : i < es.size := by rw [hn]; exact hi
    obtain ⟨k, hk1, hk2⟩ := hk i hi'
    obtain ⟨v, hv1, hv2⟩ := hv i hi'
    refine wpAny_pyNext_items_item_raw he (frz_at I hfz hx hd) hi' fun h' ho hT hz hkp => ?_
    refine ⟨_, rfl, wpAny_letOwnedTupleGo_items (s := { s with heap := h' }) ho fun h'' he' sb => ?_⟩
    have hT2 := (sb.2 _ (Nat.ne_of_gt hlt)).trans hT
    have new : ObjOk X.prog X.w (upd H s.heap.objs.size (.tup [k, v])) h'' s.heap.objs.size (.tup [k, v]) :=
      ⟨by show 2 ≤ sizeLine; decide, [es[i].key, es[i].val], .cons hk2 (.cons hv2 .nil), ⟨_, hT2, rfl, _, rfl⟩⟩
    have I1 := I.turnedNew (t' := s.toks) (ch := [it]) (fun b ob hb e => (sb.2 b (by simpa using hb)).trans (hkp b ob (by simpa using hb) e)) hf (Nat.le_refl _) new
    refine ⟨.ref s.heap.objs.size, _, I1, rfl, ⟨_, k, v, hk1, hv1, rfl, I.hok.fresh (Nat.le_refl _), rfl⟩, ⟨_, _, he'⟩, fun b hb => ?_⟩
    have e : b = it := by simpa using hb
    rw [e, upd_ne (Nat.ne_of_lt hlt)]
    exact (hf it (by simp)).1
  done := by
    intro X hP hw hK hc i pins s σ H E I hf st hg
    subst hP hw hK
    obtain ⟨hfz, hi⟩ := hg
    obtain ⟨f0, f1, f2, f3, f4, f5⟩ := hf it (by simp)
    obtain ⟨ok, ov, he⟩ := st
    exact wpAny_pyNext_items_end_raw (I.ok.hd hc) he (frz_at I hfz hx hd) (by omega) fun h' eb => ⟨rfl, I.turned (t' := s.toks) (fun b ob hb e => eb b ob hb e) f0 f1 f3 f4 f5⟩
  self := fun A i s Q E st h => let ⟨_, _, e⟩ := st; PySem.W.kcp_self e h
theorem turn_keysR {P : Program} {w : World} {d it : Addr} {o : Obj} {es : Array DictEntry} {ep n : Nat} {ks : List V} (hx : o.ExactDict) (hd : o.data = .dict es ep) (hn : es.size = n)
    (hk : ∀ (i : Nat) (hi : i < es.size), ∃ k, ks[i]? = some k ∧ RelV k es[i].key) : Turn P w K tg (ItR1 d o n ks) [it] it (fun i h => h.IsKeyIter it d i es.size ep) where
  mem := by simp
  obj := fun i h st b hb => by
    have e : b = it := by simpa using hb
    subst e
    obtain ⟨oi, e, c, dd⟩ := st
    exact ⟨oi, e, fun v z => by rw [dd] at z; cases z⟩
  keep := fun i h h' st k => st.at fun oi e => k it (by simp) oi e
  item := by
    intro X hP hw hK hc i pins s σ H E I hf st hg
    subst hP hw hK
    obtain ⟨hfz, hi⟩ := hg
    obtain ⟨f0, f1, f2, f3, f4, f5⟩ := hf it (by simp)
    have hi' : i < es.size := by rw [hn]; exact hi
    obtain ⟨k, hk1, hk2⟩ := hk i hi'
    refine wpAny_pyNext_keys_item_raw st (frz_at I hfz hx hd) hi' fun h' st' sb => ?_
    have I1 : Inv X pins σ H { s with heap := h' } := I.turned (t' := s.toks) (fun b ob hb e => (sb.2 b hb).trans e) f0 f1 f3 f4 f5
    obtain ⟨oi, e, c, dd⟩ := id st'
    exact ⟨_, rfl, go_of (s := { s with heap := h' }) e c dd (by decide) ⟨k, H, I1, hk2, ⟨rfl, hk1⟩, st', fun b hb => (hf b hb).1⟩⟩
  done := by
    intro X hP hw hK hc i pins s σ H E I hf st hg
    subst hP hw hK
    obtain ⟨hfz, hi⟩ := hg
    obtain ⟨f0, f1, f2, f3, f4, f5⟩ := hf it (by simp)
    exact wpAny_pyNext_keys_end_raw (I.ok.hd hc) st (frz_at I hfz hx hd) (by omega) fun h' eb => ⟨rfl, I.turned (t' := s.toks) (fun b ob hb e => eb b ob hb e) f0 f1 f3 f4 f5⟩
  self := fun A i s Q E st h => by
    refine wpAny_pyIter_slot st.typeIs F.slot_dict_keyiterator_iter (wpAny_call_entry F.slot_dict_keyiterator_iter st.typeIs F.entry_dict_keyiterator_iter ?_ (F.args_dict_keyiterator_iter_1 _))
    show wpAny _ _ (ret (.ref it)) _ _ s
    exact wpAny_pure ⟨_, rfl, "dict_keyiterator", _, st.typeIs, F.slot_dict_keyiterator_next.lookup, h⟩
theorem turn_valsR {P : Program} {w : World} {d it : Addr} {o : Obj} {es : Array DictEntry} {ep n : Nat} {ks : List V} (hx : o.ExactDict) (hd : o.data = .dict es ep) (hn : es.size = n)
    (hk : ∀ (i : Nat) (hi : i < es.size), ∃ k, ks[i]? = some k ∧ RelV k es[i].val) : Turn P w K tg (ItR1 d o n ks) [it] it (fun i h => h.IsValIter it d i es.size ep) where
  mem := by simp
  obj := fun i h st b hb => by
    have e : b = it := by simpa using hb
    subst e
    obtain ⟨oi, e, c, dd⟩ := st
    exact ⟨oi, e, fun v z => by rw [dd] at z; cases z⟩
  keep := fun i h h' st k => st.at fun oi e => k it (by simp) oi e
  item := by
    intro X hP hw hK hc i pins s σ H E I hf st hg
    subst hP hw hK
    obtain ⟨hfz, hi⟩ := hg
    obtain ⟨f0, f1, f2, f3, f4, f5⟩ := hf it (by simp)
    have hi' : i < es.size := by rw [hn]; exact hi
    obtain ⟨k, hk1, hk2⟩ := hk i hi'
    refine wpAny_pyNext_values_item_raw st (frz_at I hfz hx hd) hi' fun h' st' sb => ?_
    have I1 : Inv X pins σ H { s with heap := h' } := I.turned (t' := s.toks) (fun b ob hb e => (sb.2 b hb).trans e) f0 f1 f3 f4 f5
    obtain ⟨oi, e, c, dd⟩ := id st'
    exact ⟨_, rfl, go_of (s := { s with heap := h' }) e c dd (by decide) ⟨k, H, I1, hk2, ⟨rfl, hk1⟩, st', fun b hb => (hf b hb).1⟩⟩
  done := by
    intro X hP hw hK hc i pins s σ H E I hf st hg
    subst hP hw hK
    obtain ⟨hfz, hi⟩ := hg
    obtain ⟨f0, f1, f2, f3, f4, f5⟩ := hf it (by simp)
    exact wpAny_pyNext_values_end_raw (I.ok.hd hc) st (frz_at I hfz hx hd) (by omega) fun h' eb => ⟨rfl, I.turned (t' := s.toks) (fun b ob hb e => eb b ob hb e) f0 f1 f3 f4 f5⟩
  self := fun A i s Q E st h => wpAny_pyIter_valiter st h
/-- the dict that is to be walked, locked now -/
theorem lock_now {pins : List (Addr × Obj)} {σ : L2.St} {H : Hp} {s : Shared} {ι : List Addr} {S : Store} {a : Addr} {n : Nat} {c : Cell} {kvs : List (D × D)} (I : Inv X pins σ H s) (R : RS K cA ι S H) (ha : ι[n]? = some a) (hc : S[n]? = some c) (hp : dPairs c = some kvs) :
    ∃ H' o es ep ks vs, Inv X pins σ H' s ∧ Ext ι H ι H' ∧ RS K cA ι (S.set n c.lock) H' ∧ (∃ u, H' a = some (.frz o u)) ∧ (a == sysModules) = false ∧ s.heap.get? a = some o ∧ RawV X K cA ι H' o kvs es ep ks vs := by
  obtain ⟨u, hu, rc⟩ := R.at_ n a c ha hc
  have hn : n < S.length := (List.getElem?_eq_some_iff.mp hc).1
  by_cases hf : ∃ c0, c = .frz c0
  · obtain ⟨c0, rfl⟩ := hf
    cases rc with
    | @frz _ o u rc =>
      have ob := I.hok a _ hu
      obtain ⟨hs, o', es, ep, ks, vs, ho, rv⟩ := raw_of ob.2 rc hp
      have eo : s.heap.get? a = some o := ob.1
      rw [eo] at ho
      cases ho
      have es' : S.set n (Cell.frz c0).lock = S := by
        show S.set n (.frz c0) = S
        apply List.ext_getElem?
        intro j
        by_cases hj : n = j
        · subst hj; rw [List.getElem?_set_self hn, hc]
        · rw [List.getElem?_set_ne hj]
      exact ⟨H, o, es, ep, ks, vs, I, Ext.refl, by rw [es']; exact R, ⟨_, hu⟩, hs, eo, rv⟩
  · have el : c.lock = .frz c := by
      cases c with
      | frz c0 => exact absurd ⟨c0, rfl⟩ hf
      | _ => rfl
    have mu : Mut (some u) := by
      cases rc with
      | frz _ => exact absurd ⟨_, rfl⟩ hf
      | _ => trivial
    obtain ⟨od, I1⟩ := I.lock hu mu
    have ni : ¬ Imm u := rc.nimm fun c0 e => hf ⟨c0, e⟩
    have X1 : Ext ι H ι (upd H a (.frz od u)) := Ext.mut ha hu ni
    have rc1 : RelC K cA ι (upd H a (.frz od u)) (.frz c) (.frz od u) := .frz (rc.mono X1)
    have ob := I1.hok a _ upd_same
    obtain ⟨hs, o', es, ep, ks, vs, ho, rv⟩ := raw_of ob.2 (rc.mono X1) hp
    have eo : s.heap.get? a = some od := ob.1
    rw [eo] at ho
    cases ho
    exact ⟨_, od, es, ep, ks, vs, I1, X1, by rw [el]; exact R.write ha hu ni rc1, ⟨_, upd_same⟩, hs, eo, rv⟩
theorem getP_at {S : Store} {d : D} {n : Nat} {c : Cell} {kvs : List (D × D)} (h : getP S d = some (n, c, kvs)) : d = .ref n ∧ S[n]? = some c ∧ dPairs c = some kvs := by
  cases d with
  | ref m =>
    unfold getP at h
    cases q : S[m]? with
    | none => simp [q] at h
    | some c' =>
      simp only [q] at h
      cases q2 : dPairs c' with
      | none => simp [q2] at h
      | some kvs' =>
        simp only [q2, Option.some.injEq, Prod.mk.injEq] at h
        obtain ⟨rfl, rfl, rfl⟩ := h
        exact ⟨rfl, q, q2⟩
  | _ => cases h
/-- a locked dict, walked -/
theorem frz_ext {ι1 ι : List Addr} {H1 H : Hp} {a : Addr} {o : Obj} (h : ∃ u, H1 a = some (.frz o u)) (x : Ext ι1 H1 ι H) : ∃ u, H a = some (.frz o u) := let ⟨u, h⟩ := h; ⟨u, x.imm a _ trivial h⟩
theorem itOk_items {ι1 : List Addr} {H1 : Hp} {a : Addr} {o : Obj} {kvs : List (D × D)} {ks vs : List V} {n : Nat} {c : Cell} (hz : ∃ u, H1 a = some (.frz o u)) (rk : RelDs K cA ι1 H1 (kvs.map (·.1)) ks) (rv : RelDs K cA ι1 H1 (kvs.map (·.2)) vs) :
    ItOk K cA ι1 H1 ⟨kvs.map fun p => .tup [p.1, p.2], fun S' => S'[n]? = some c⟩ (ItR a o kvs.length ks vs) := by
  have el : (kvs.map fun p => D.tup [p.1, p.2]).length = kvs.length := by simp
  refine ⟨fun H => ∃ u, H a = some (.frz o u), fun i H x H' => ∃ T k v, ks[i]? = some k ∧ vs[i]? = some v ∧ x = .ref T ∧ H T = none ∧ H' = upd H T (.tup [k, v]), ⟨fun i H hi q => ⟨q, by rw [← el]; exact hi⟩, fun H q => ⟨q, by show kvs.length ≤ (kvs.map fun p => D.tup [p.1, p.2]).length; rw [el]; exact Nat.le_refl _⟩, fun i H x H' _ _ y => y⟩, fun ι H S x R ok => frz_ext hz x, fun ι H S i x H' xx R ok hi y => ?_⟩
  obtain ⟨T, k, v, e1, e2, rfl, hT, rfl⟩ := y
  have hi' : i < kvs.length := by rw [← el]; exact hi
  obtain ⟨dk, h1, h2⟩ := rk.get' e1
  obtain ⟨dv, h3, h4⟩ := rv.get' e2
  rw [List.getElem?_map, List.getElem?_eq_getElem hi'] at h1 h3
  cases h1; cases h3
  obtain ⟨g1, g2, g3⟩ := R.pair hT (h2.mono xx) (h4.mono xx)
  exact ⟨_, by show (kvs.map fun p => D.tup [p.1, p.2])[i]? = _; rw [List.getElem?_map, List.getElem?_eq_getElem hi'] <;> rfl, g1, g2, g3⟩
theorem itOk_one {ι1 : List Addr} {H1 : Hp} {a : Addr} {o : Obj} {ds : List D} {ks : List V} {n m : Nat} {c : Cell} (hz : ∃ u, H1 a = some (.frz o u)) (hm : m = ds.length) (rk : RelDs K cA ι1 H1 ds ks) :
    ItOk K cA ι1 H1 ⟨ds, fun S' => S'[n]? = some c⟩ (ItR1 a o m ks) := by
  subst hm
  refine ⟨fun H => ∃ u, H a = some (.frz o u), fun i H x H' => H' = H ∧ ks[i]? = some x, ⟨fun i H hi q => ⟨q, hi⟩, fun H q => ⟨q, Nat.le_refl _⟩, fun i H x H' _ _ y => y⟩, fun ι H S x R ok => frz_ext hz x, fun ι H S i x H' xx R ok hi y => ?_⟩
  obtain ⟨rfl, e⟩ := y
  obtain ⟨dk, h1, h2⟩ := rk.get' e
  exact ⟨dk, h1, R, Ext.refl, h2.mono xx⟩
/-- what is known where the dict's expression is read -/
def DictQ (K : PySem.W.Frag) (cA : String → Addr) (f : D × D → D) (R1 : It → Hp → Prop) : VK := fun v H1 => ∃ ι1 S1 n c kvs a, RS K cA ι1 S1 H1 ∧ v = .ref a ∧ ι1[n]? = some a ∧ S1[n]? = some c ∧ dPairs c = some kvs ∧
  ∀ J H2 ι2, Ext ι1 H1 ι2 H2 → RS K cA ι2 (S1.set n c.lock) H2 → ItOk K cA ι2 H2 ⟨kvs.map f, fun S' => S'[n]? = some c.lock⟩ J → R1 J H2
theorem dict_q {f : D × D → D} {σ : L2.St} {H : Hp} {RR : It → Hp → Prop} (q : rdI K cA W (itDict f m) σ H RR) : rdE K cA W m σ H (DictQ K cA f RR) := by
  obtain ⟨ι, S, env, R, E, q⟩ := rdI_fin q
  refine rdE_I R E q fun d v S1 H1 ι1 x1 R1 E1 r1 q1 => ?_
  cases z : getP S1 d with
  | none => simp only [z] at q1; exact q1.elim
  | some p =>
    obtain ⟨n, c, kvs⟩ := p
    simp only [z] at q1
    obtain ⟨rfl, e2, e3⟩ := getP_at z
    cases r1 with
    | @ref _ a ha => exact ⟨ι1, S1, n, c, kvs, a, R1, rfl, ha, e2, e3, q1⟩
theorem di_items {elts : List Expr} {kk : Nat} {tpos : Pos} (he : PE X e (rdE K cA W m)) (hbase : attributeBase e "items" X.env (eval e X.env) = eval e X.env := by rfl) (hline : (apos.endLine == cpos.line) = true := by rfl) :
    PI X (.Tuple elts kk tpos) (.Call (.Attribute e "items" apos) [] [] cpos) (rdI K cA W (itItems m)) := by
  refine ⟨fun pins s σ H RR I q => ?_⟩
  refine wpAny_Call_method (T := "dict") (id := "dict.items") hbase rfl hline F.plainAttrs_dict F.slot_dict_items F.type_dict_items (thn (he.run pins s σ H _ I (dict_q q)) ?_)
  rintro u s1 ⟨y, H1, I1, ry, ι1, S1, n, c, kvs, a, R1, rfl, ha, hc, hp, k⟩
  cases ry
  obtain ⟨H2, o, es, ep, ks, vs, I2, x2, R2, hz, hs, ho, rv⟩ := lock_now I1 R1 ha hc hp
  have hraw : s1.heap.DictRaw a es ep := ⟨o, ho, rv.ex, rv.dat⟩
  refine ⟨hraw.typeIs, fun d e => ?_, ?_⟩
  · cases e
    exact ⟨o, ho, rv.ex.2.1⟩
  have I3 : Inv X pins σ H2 { s1 with heap := s1.heap.push { cls := .type "dict_items", data := .fields #[.ref a] } } := I2.kept (t' := s1.toks) fun b ob q => Heap.get?_push_of_some _ q
  have fin : wpAny (model X.prog X.w) X.A (pyIter (.ref s1.heap.objs.size)) (PIE X pins σ (.Tuple elts kk tpos) RR) X.xe { s1 with heap := s1.heap.push { cls := .type "dict_items", data := .fields #[.ref a] } } := by
    refine wpAny_pyIter_items_raw (d := a) ⟨_, Heap.get?_push_size _ rfl, rfl, rfl⟩ (hraw.at fun _ e => Heap.get?_push_of_some _ e) (pi_one (tk := s1.toks) I3 _ (turn_itemsR rv.ex rv.dat rv.size rv.key rv.val) ⟨.none, .none, Heap.get?_push_size _ rfl⟩ ?_)
    exact k _ _ ι1 x2 R2 (itOk_items hz rv.rk rv.rv)
  show wpAny _ _ (callWith cpos (.builtin "dict.items") [.ref a] [] []) _ X.xe s1
  exact method_meetsIn F.slot_dict_items F.entry_dict_items rfl (PySem.evalArgs_none ⟨rfl, hraw.typeIs, F.args_dict_items_1 _, _, meets_dict_items_raw a hs, ⟨es, ep, hraw⟩, fin⟩)
theorem di_keys (he : PE X e (rdE K cA W m)) : PI X tg e (rdI K cA W (itKeys m)) := by
  refine ⟨fun pins s σ H RR I q => ?_⟩
  refine thn (he.run pins s σ H _ I (dict_q q)) ?_
  rintro u s1 ⟨y, H1, I1, ry, ι1, S1, n, c, kvs, a, R1, rfl, ha, hc, hp, k⟩
  cases ry
  obtain ⟨H2, o, es, ep, ks, vs, I2, x2, R2, hz, hs, ho, rv⟩ := lock_now I1 R1 ha hc hp
  refine wpAny_pyIter_dict_raw hs ⟨o, ho, rv.ex, rv.dat⟩ (pi_one (tk := s1.toks) I2 _ (turn_keysR rv.ex rv.dat rv.size rv.key) ⟨_, Heap.get?_push_size _ rfl, rfl, rfl⟩ ?_)
  exact k _ _ ι1 x2 R2 (itOk_one hz (by simp) rv.rk)
theorem di_vals (he : PE X e (rdE K cA W m)) (hbase : attributeBase e "values" X.env (eval e X.env) = eval e X.env := by rfl) (hline : (apos.endLine == cpos.line) = true := by rfl) :
    PI X tg (.Call (.Attribute e "values" apos) [] [] cpos) (rdI K cA W (itVals m)) := by
  refine ⟨fun pins s σ H RR I q => ?_⟩
  refine wpAny_Call_method (T := "dict") (id := "dict.values") hbase rfl hline F.plainAttrs_dict F.slot_dict_values F.type_dict_values (thn (he.run pins s σ H _ I (dict_q q)) ?_)
  rintro u s1 ⟨y, H1, I1, ry, ι1, S1, n, c, kvs, a, R1, rfl, ha, hc, hp, k⟩
  cases ry
  obtain ⟨H2, o, es, ep, ks, vs, I2, x2, R2, hz, hs, ho, rv⟩ := lock_now I1 R1 ha hc hp
  have hraw : s1.heap.DictRaw a es ep := ⟨o, ho, rv.ex, rv.dat⟩
  refine ⟨hraw.typeIs, fun d e => ?_, ?_⟩
  · cases e
    exact ⟨o, ho, rv.ex.2.1⟩
  have I3 : Inv X pins σ H2 { s1 with heap := s1.heap.push { cls := .type "dict_values", data := .fields #[.ref a] } } := I2.kept (t' := s1.toks) fun b ob q => Heap.get?_push_of_some _ q
  have fin : wpAny (model X.prog X.w) X.A (pyIter (.ref s1.heap.objs.size)) (PIE X pins σ tg RR) X.xe { s1 with heap := s1.heap.push { cls := .type "dict_values", data := .fields #[.ref a] } } := by
    refine wpAny_pyIter_values_raw (d := a) ⟨_, Heap.get?_push_size _ rfl, rfl, rfl⟩ (hraw.at fun _ e => Heap.get?_push_of_some _ e) (pi_one (tk := s1.toks) I3 _ (turn_valsR rv.ex rv.dat rv.size rv.val) ⟨_, Heap.get?_push_size _ rfl, rfl, rfl⟩ ?_)
    exact k _ _ ι1 x2 R2 (itOk_one hz (by simp) rv.rv)
  show wpAny _ _ (callWith cpos (.builtin "dict.values") [.ref a] [] []) _ X.xe s1
  exact method_meetsIn F.slot_dict_values F.entry_dict_values rfl (PySem.evalArgs_none ⟨rfl, hraw.typeIs, F.args_dict_values_1 _, _, meets_dict_values_raw a hs, ⟨es, ep, hraw⟩, fin⟩)

/-! ### a statement under a lock -/
/-- the wish inside: the lock is taken off first -/
def unl (X : Cx) (W : WX) : WX := fun cls d σ H' => ∃ a od u, H' a = some (.frz od u) ∧ (∀ o' u', X.H_0 a ≠ some (.frz o' u')) ∧ W cls d σ (upd H' a u)
theorem takes_unl (tk : Takes X W) : Takes X (unl X W) := by
  rintro u s' ⟨a, B, sI, pins, σ, H, cls, d, e, I, nb, up, sky, na, os, ag, a2, od, u2, h1, h2, w⟩
  refine tk u s' ⟨a, B, sI, pins, σ, _, cls, d, e, I.unlock h1 h2, nb, up, sky, ?_, os, ag, w⟩
  rw [upd_ne]
  · exact na
  · intro z; subst z; rw [na] at h1; cases h1
/-- behind the locked part: the lock is taken off -/
theorem unlock_rel {ι ι' : List Addr} {S' : Store} {H H' : Hp} {n : Nat} {a : Addr} {c : Cell} {od : Obj} {u : HO} (ha : ι[n]? = some a) (hu : H a = some u) (nu : ¬ Imm u) (x : Ext ι (upd H a (.frz od u)) ι' H') (R : RS K cA ι' S' H') (hc : S'[n]? = some (.frz c)) :
    H' a = some (.frz od u) ∧ Ext ι H ι' (upd H' a u) ∧ RS K cA ι' (S'.set n c) (upd H' a u) ∧ Low ι' H' ι' (upd H' a u) := by
  have h1 : H' a = some (.frz od u) := x.imm a _ trivial upd_same
  have lw : Low ι' H' ι' (upd H' a u) := Low.off h1 fun z => z
  have ha' := x.get ha
  refine ⟨h1, ⟨?_, fun b o i h => ?_, fun b o nb h => ?_, fun b h => ?_⟩, ⟨by simp [R.len], R.nd, fun m b c' e1 e2 => ?_⟩, lw⟩
  · obtain ⟨t, e, nt⟩ := x.pre
    refine ⟨t, e, fun b hb => ?_⟩
    have q := nt b hb
    by_cases e : b = a
    · subst e; rw [upd_same] at q; cases q
    · rw [upd_ne e] at q; exact q
  · have nb : b ≠ a := fun z => by subst z; rw [hu] at h; cases h; exact nu i
    rw [upd_ne nb]
    exact x.imm b o i (by rw [upd_ne nb]; exact h)
  · have nb' : b ≠ a := fun z => nb (by rw [z]; exact List.mem_of_getElem? ha)
    rw [upd_ne nb']
    exact x.frm b o nb (by rw [upd_ne nb']; exact h)
  · have nb : b ≠ a := fun z => by subst z; rw [upd_same] at h; cases h
    rw [upd_ne nb] at h
    have q := x.dom b h
    rw [upd_ne nb] at q
    exact q
  · by_cases hm : m = n
    · subst hm
      rw [ha'] at e1; cases e1
      have hl : m < S'.length := (List.getElem?_eq_some_iff.mp hc).1
      rw [List.getElem?_set_self hl] at e2
      cases e2
      obtain ⟨o, g1, g2⟩ := R.at_ m a _ ha' hc
      rw [h1] at g1; cases g1
      cases g2 with
      | frz rc => exact ⟨u, upd_same, rc.low lw⟩
    · rw [List.getElem?_set_ne (Ne.symm hm)] at e2
      obtain ⟨v, g1, g2⟩ := R.at_ m b c' e1 e2
      have nb : b ≠ a := fun z => by
        subst z
        obtain ⟨l1, f1⟩ := List.getElem?_eq_some_iff.mp e1
        obtain ⟨l2, f2⟩ := List.getElem?_eq_some_iff.mp ha'
        exact hm ((List.getElem_inj R.nd).mp (f1.trans f2.symm))
      exact ⟨v, by rw [upd_ne nb]; exact g1, g2.low lw⟩
theorem REnv.low {ι ι' : List Addr} {H H' : Hp} {env : ES} {σ : L2.St} (h : REnv K cA ι H env σ) (e : Low ι H ι' H') : REnv K cA ι' H' env σ :=
  ⟨h.len, fun i d q => let ⟨v, h1, h2⟩ := h.at_ i d q; ⟨v, h1, h2.low e⟩⟩
/-- the expression that names what is locked is a name -/
theorem ds_lock {i : Nat} {s : SS} (h : PS X st (rdS K cA (unl X W) s)) : PS X st (rdS K cA W (sLock (sVar i) s)) := by
  refine ⟨fun pins sh σ H D I q => ?_⟩
  obtain ⟨ι, S, env, R, E, q⟩ := q
  unfold sLock sVar at q
  cases e1 : env[i]? with
  | none => simp only [e1] at q; exact q.elim
  | some od =>
    cases od with
    | none => simp only [e1] at q; exact q.elim
    | some d =>
      cases d with
      | ref n =>
        simp only [e1] at q
        cases e2 : S[n]? with
        | none => simp only [e2] at q; exact q.elim
        | some c =>
          simp only [e2] at q
          obtain ⟨a, u, ha, hu, rc⟩ := R.cell e2
          have go : (∀ c0, c ≠ .frz c0) → Mut (some u) → endsD K cA W ι H D (match s env (S.set n (.frz c)) with
              | .nx e S' => (open Classical in if S'[n]? = some (.frz c) then .nx e (S'.set n c) else .stuck)
              | .rt d S' => (open Classical in if S'[n]? = some (.frz c) then .rt d (S'.set n c) else .stuck)
              | .bk e S' => (open Classical in if S'[n]? = some (.frz c) then .bk e (S'.set n c) else .stuck)
              | .ct e S' => (open Classical in if S'[n]? = some (.frz c) then .ct e (S'.set n c) else .stuck)
              | .exc C e S' => (open Classical in if S'[n]? = some (.frz c) then .exc C e (S'.set n c) else .stuck)
              | .stuck => .stuck) → wpAny (model X.prog X.w) X.A (exec st X.env) (SP X pins D) X.xe sh := fun hf mu q => by
            have nu := rc.nimm hf
            obtain ⟨ob, I1⟩ := I.lock hu mu
            have X1 : Ext ι H ι (upd H a (.frz ob u)) := Ext.mut ha hu nu
            have R1 : RS K cA ι (S.set n (.frz c)) (upd H a (.frz ob u)) := R.write ha hu nu (.frz (rc.mono X1))
            have nz := I.nofrz hu mu
            -- the ends inside: the lock stands, and behind it what was wanted
            have inner : rdS K cA (unl X W) s ⟨fun σ' H' => H' a = some (.frz ob u) ∧ D.nx σ' (upd H' a u), fun v H' => H' a = some (.frz ob u) ∧ D.rt v (upd H' a u), fun σ' H' => H' a = some (.frz ob u) ∧ D.bk σ' (upd H' a u), fun σ' H' => H' a = some (.frz ob u) ∧ D.ct σ' (upd H' a u)⟩ σ (upd H a (.frz ob u)) := by
              refine ⟨ι, _, env, R1, E.mono X1, ?_⟩
              cases e3 : s env (S.set n (.frz c)) with
              | stuck => rw [e3] at q; exact q
              | nx e S' =>
                simp only [e3] at q
                by_cases ok : S'[n]? = some (.frz c)
                · rw [if_pos ok] at q
                  intro σ' H' ι' x' R' E'
                  obtain ⟨g1, g2, g3, g4⟩ := unlock_rel ha hu nu x' R' ok
                  exact ⟨g1, q σ' _ ι' g2 g3 (E'.low g4)⟩
                · rw [if_neg ok] at q; exact q.elim
              | bk e S' =>
                simp only [e3] at q
                by_cases ok : S'[n]? = some (.frz c)
                · rw [if_pos ok] at q
                  intro σ' H' ι' x' R' E'
                  obtain ⟨g1, g2, g3, g4⟩ := unlock_rel ha hu nu x' R' ok
                  exact ⟨g1, q σ' _ ι' g2 g3 (E'.low g4)⟩
                · rw [if_neg ok] at q; exact q.elim
              | ct e S' =>
                simp only [e3] at q
                by_cases ok : S'[n]? = some (.frz c)
                · rw [if_pos ok] at q
                  intro σ' H' ι' x' R' E'
                  obtain ⟨g1, g2, g3, g4⟩ := unlock_rel ha hu nu x' R' ok
                  exact ⟨g1, q σ' _ ι' g2 g3 (E'.low g4)⟩
                · rw [if_neg ok] at q; exact q.elim
              | rt d S' =>
                simp only [e3] at q
                by_cases ok : S'[n]? = some (.frz c)
                · rw [if_pos ok] at q
                  intro v H' ι' x' R' r'
                  obtain ⟨g1, g2, g3, g4⟩ := unlock_rel ha hu nu x' R' ok
                  exact ⟨g1, q v _ ι' g2 g3 (r'.low g4)⟩
                · rw [if_neg ok] at q; exact q.elim
              | exc C e S' =>
                simp only [e3] at q
                by_cases ok : S'[n]? = some (.frz c)
                · rw [if_pos ok] at q
                  intro σ' H' ι' x' R' E'
                  obtain ⟨g1, g2, g3, g4⟩ := unlock_rel ha hu nu x' R' ok
                  exact ⟨a, ob, u, g1, nz, q σ' _ ι' g2 g3 (E'.low g4)⟩
                · rw [if_neg ok] at q; exact q.elim
            refine thn (h.run pins sh σ _ _ I1 inner) fun f s1 q => ?_
            cases f with
            | next => obtain ⟨σ', H', I2, e, q⟩ := q; exact ⟨σ', _, I2.unlock e nz, q⟩
            | brk => obtain ⟨σ', H', I2, e, q⟩ := q; exact ⟨σ', _, I2.unlock e nz, q⟩
            | cont => obtain ⟨σ', H', I2, e, q⟩ := q; exact ⟨σ', _, I2.unlock e nz, q⟩
            | ret v => obtain ⟨y, σ', H', I2, r, e, q⟩ := q; exact ⟨y, σ', _, I2.unlock e nz, r, q⟩
          cases c with
          | frz c0 => exact q.elim
          | ins c0 c1 => exact q.elim
          | lst xs => cases rc with | lst h0 => exact go (fun _ z => nomatch z) trivial q
          | dK xs => cases rc with | dK h0 => exact go (fun _ z => nomatch z) trivial q
          | dT xs => cases rc with | dT h0 => exact go (fun _ z => nomatch z) trivial q
      | _ => simp only [e1] at q; exact q.elim
/-! ### raise -/
theorem ds_raise {C : String} {x mm : Str} {j : Nat} {p2 : Pos} {bmB : List Value} {B newId initId : String} (hc : X.calm = true) (tk : Takes X W) (F : ExcBaseFacts B newId initId bmB) (q : PySem.W.excIn X.K (cA C) bmB newId = true) (gC : X.mg x = some (.ref (cA C))) (kC : PySem.W.keepIn X.K (.ref (cA C)) = true)
    (r : Raises X (.ref (cA C))) (hg : Gl X x) (hdb : (x == ("__debug__" : Str)) = false := by decide) : PS X (.Raise (some (.Call (.Name x p) [.Constant (.str mm) j p2] [] cpos)) none pos) (rdS K cA W (sRaise C)) :=
  PS.weak (ps_raise hc tk (pmk_own F q gC kC r hg hdb)) fun D σ H h => by
  obtain ⟨ι, S, env, R, E, h⟩ := h
  exact h σ H ι Ext.refl R E
end
end Z
set_option Elab.async false
set_option linter.all false
set_option maxRecDepth 100000
set_option maxHeartbeats 2000000
namespace Z
open PySem PySem.Spec PySem.W PySem.Calls PyProof.Rows L2

/-! ### operations on data -/
def fI (C : Int → Int → Bool) (g : Int → Int → D) : Op2 := fun x y S => match x, y with
  | .int i, .int j => if C i j = true then some (g i j, S) else none
  | _, _ => none
def fT : Int → Int → Bool := fun _ _ => true
def fAddI : Op2 := fI fT fun i j => .int (i + j)
def fAddS : Op2 := fun x y S => match x, y with
  | .str a, .str b => if a.length + b.length ≤ sizeLine then some (.str (a ++ b), S) else none
  | _, _ => none
/-- a list that may be changed -/
def getM (S : Store) (d : D) : Option (Nat × List D) := match d with
  | .ref n => match S[n]? with
    | some (.lst xs) => some (n, xs)
    | _ => none
  | _ => none
def fAddL : Op2 := fun x y S => match getM S x, getM S y with
  | some (_, xs), some (_, ys) => if xs.length + ys.length ≤ sizeLine then some (.ref S.length, S ++ [.lst (xs ++ ys)]) else none
  | _, _ => none
def fAddT : Op2 := fun x y S => match x, y with
  | .tup xs, .tup ys => if xs.length + ys.length ≤ sizeLine then some (.tup (xs ++ ys), S) else none
  | _, _ => none
def fAdd : Op2 := orE2 (orE2 fAddI fAddS) (orE2 fAddL fAddT)
def fSub : Op2 := fI fT fun i j => .int (i - j)
def small64 (i : Int) : Bool := decide (-(2 ^ 64) < i ∧ i < 2 ^ 64)
def fMulI : Op2 := fI (fun i j => small64 i || small64 j) fun i j => .int (i * j)
def fMulL : Op2 := fun x y S => match getM S x, y with
  | some (_, xs), .int k => if -(2 ^ 63) ≤ k ∧ k < 2 ^ 63 ∧ xs.length * k.toNat ≤ sizeLine then some (.ref S.length, S ++ [.lst (List.replicate k.toNat xs).flatten]) else none
  | _, _ => none
def fMul : Op2 := orE2 fMulI fMulL
/-- // and % by a positive number below 2 ^ 9000 (% by any positive one) -/
def fDiv : Op2 := fI (fun _ j => decide (0 < j ∧ j.natAbs.log2 < 9000)) fun i j => .int (i / j)
def fMod : Op2 := fI (fun _ j => decide (0 < j)) fun i j => .int (i % j)
def fPow : Op2 := fI (fun i j => decide (0 ≤ j ∧ j ≤ 1000000 ∧ i.natAbs < 2 ^ 64)) fun i j => .int (i ^ j.toNat)
def fCmp (p : Int → Int → Bool) : Op2 := fI fT fun i j => .bl (p i j)
def fLt : Op2 := fCmp fun i j => decide (i < j)
def fLe : Op2 := fCmp fun i j => decide (i ≤ j)
def fGt : Op2 := fCmp fun i j => decide (j < i)
def fGe : Op2 := fCmp fun i j => decide (j ≤ i)
def fNeg : Op1 := fun x S => match x with
  | .int i => some (.int (-i), S)
  | _ => none
def D.isNon : D → Bool
  | .non => true
  | _ => false
def fIsN : Op2 := fun x y S => match y with
  | .non => some (.bl x.isNon, S)
  | _ => none
def fNotN : Op2 := fun x y S => match y with
  | .non => some (.bl (!x.isNon), S)
  | _ => none
/-! subscripts -/
def fIxL : Op2 := fun x y S => match getL S x, y with
  | some xs, .int i => (atI xs i).map fun d => (d, S)
  | _, _ => none
def fIxT : Op2 := fun x y S => match x.tupL, y with
  | some xs, .int i => (atI xs i).map fun d => (d, S)
  | _, _ => none
def fIxS : Op2 := fun x y S => match x, y with
  | .str z, .int i => if z.length ≤ sizeLine then (atI z.cps.toList i).map fun c => (.str ⟨#[c]⟩, S) else none
  | _, _ => none
/-- a key as a dict's own key -/
def keyOf : D → Option Key
  | .int i => some (.inl i)
  | .str x => some (.inr x)
  | _ => none
def keysOf : List D → Option (List Key)
  | [] => some []
  | d :: r => match keyOf d, keysOf r with
    | some k, some ks => some (k :: ks)
    | _, _ => none
def look {κ : Type} [DecidableEq κ] (kvs : List (κ × D)) (k : κ) : Option D := (kvs.find? fun kv => decide (kv.1 = k)).map (·.2)
def putKD {κ : Type} [DecidableEq κ] (kvs : List (κ × D)) (k : κ) (v : D) : List (κ × D) :=
  if (kvs.any fun kv => decide (kv.1 = k)) = true then kvs.map (fun kv => if kv.1 = k then (kv.1, v) else kv) else kvs ++ [(k, v)]
/-- what a dict says of a key: none where the question can't be asked here -/
def cLook : Cell → D → Option (Option D)
  | .dK kvs, y => (keyOf y).map fun k => look kvs k
  | .dT kvs, .tup ys => (keysOf ys).map fun k => look kvs k
  | .frz (.dK kvs), y => (keyOf y).map fun k => look kvs k
  | .frz (.dT kvs), .tup ys => (keysOf ys).map fun k => look kvs k
  | _, _ => none
def getC (S : Store) (d : D) : Option (Nat × Cell) := match d with
  | .ref n => match S[n]? with
    | some c => some (n, c)
    | none => none
  | _ => none
def dLook (S : Store) (d y : D) : Option (Option D) := match getC S d with
  | some (_, c) => cLook c y
  | none => none
def fIxD : Op2 := fun x y S => match dLook S x y with
  | some (some d) => some (d, S)
  | _ => none
def fIx : Op2 := orE2 (orE2 fIxL fIxT) (orE2 fIxS fIxD)

section
variable {K : PySem.W.Frag} {cA : String → Addr} {W : WX} {X : Cx}
theorem o_int {C : Int → Int → Bool} {C' : Int → Int → Prop} {g : Int → Int → D} {g' : Int → Int → V} (hC : ∀ i j, C i j = true → C' i j) (hg : ∀ ι H i j, RelD K cA ι H (g i j) (g' i j)) : Op2D K cA (rI C' g') (fI C g) := by
  intro ι H S x y v u d S' Q R r1 r2 e p
  unfold fI at e
  cases x with
  | int i =>
    cases y with
    | int j =>
      simp only at e
      by_cases c : C i j = true
      · rw [if_pos c] at e
        cases e
        cases r1; cases r2
        exact ⟨i, j, rfl, rfl, hC i j c, p _ H ι Ext.refl R (hg ι H i j)⟩
      · rw [if_neg c] at e; cases e
    | _ => cases e
  | _ => cases e
theorem o_int0 {g : Int → Int → D} {g' : Int → Int → V} (hg : ∀ ι H i j, RelD K cA ι H (g i j) (g' i j)) : Op2D K cA (rI0 g') (fI fT g) := by
  intro ι H S x y v u d S' Q R r1 r2 e p
  unfold fI at e
  cases x with
  | int i =>
    cases y with
    | int j =>
      simp only [fT, if_true] at e
      cases e
      cases r1; cases r2
      exact ⟨i, j, rfl, rfl, p _ H ι Ext.refl R (hg ι H i j)⟩
    | _ => cases e
  | _ => cases e
theorem getM_L {S : Store} {d : D} {n : Nat} {xs : List D} (h : getM S d = some (n, xs)) : d = .ref n ∧ S[n]? = some (.lst xs) := by
  unfold getM at h
  cases d with
  | ref m =>
    simp only at h
    cases q : S[m]? with
    | none => rw [q] at h; cases h
    | some c =>
      rw [q] at h
      cases c with
      | lst ys => cases h; exact ⟨rfl, q⟩
      | _ => cases h
  | _ => cases h
/-- a list that may be changed, in the heap -/
theorem RS.getM {ι : List Addr} {S : Store} {H : Hp} (R : RS K cA ι S H) {d : D} {v : V} {n : Nat} {xs : List D} (r : RelD K cA ι H d v) (h : getM S d = some (n, xs)) : ∃ a vs, d = .ref n ∧ v = .ref a ∧ ι[n]? = some a ∧ H a = some (.lst vs) ∧ RelDs K cA ι H xs vs := by
  obtain ⟨rfl, hc⟩ := getM_L h
  cases r with
  | @ref _ a ha =>
    obtain ⟨o, h1, h2⟩ := R.cellAt hc ha
    cases h2 with
    | lst h3 => exact ⟨a, _, rfl, rfl, ha, h1, h3⟩
/-- a new list -/
theorem new_list {ι : List Addr} {S : Store} {H : Hp} {xs : List D} {vs : List V} {Q : VK} (R : RS K cA ι S H) (r : RelDs K cA ι H xs vs) (p : Post K cA ι H (.ref S.length) (S ++ [.lst xs]) Q) : ∀ a, H a = none → Q (.ref a) (upd H a (.lst vs)) := fun a ha =>
  p (.ref a) _ (ι ++ [a]) (Ext.alloc ha) (R.alloc ha (.lst (r.mono (Ext.alloc ha)))) (.ref (by rw [← R.len]; simp))
theorem new_tup {ι : List Addr} {S : Store} {H : Hp} {xs : List D} {vs : List V} {Q : VK} (R : RS K cA ι S H) (r : RelDs K cA ι H xs vs) (p : Post K cA ι H (.tup xs) S Q) : ∀ a, H a = none → Q (.ref a) (upd H a (.tup vs)) := fun a ha =>
  p (.ref a) _ ι (Ext.new ha) (R.grow ha) (.tup upd_same (r.mono (Ext.new ha)))
theorem o_addS : Op2D K cA (fun x y H Q => ∃ i j, x = .str i ∧ y = .str j ∧ i.length + j.length ≤ sizeLine ∧ Q (.str (i ++ j)) H) fAddS := by
  intro ι H S x y v u d S' Q R r1 r2 e p
  unfold fAddS at e
  cases x with
  | str i =>
    cases y with
    | str j =>
      simp only at e
      by_cases c : i.length + j.length ≤ sizeLine
      · rw [if_pos c] at e
        cases e
        cases r1; cases r2
        exact ⟨i, j, rfl, rfl, c, p _ H ι Ext.refl R (.str _)⟩
      · rw [if_neg c] at e; cases e
    | _ => cases e
  | _ => cases e
theorem o_addL : Op2D K cA rCat fAddL := by
  intro ι H S x y v u d S' Q R r1 r2 e p
  unfold fAddL at e
  cases q1 : getM S x with
  | none => simp only [q1] at e; cases e
  | some a =>
    obtain ⟨n, xs⟩ := a
    cases q2 : getM S y with
    | none => simp only [q1, q2] at e; cases e
    | some b =>
      obtain ⟨m, ys⟩ := b
      simp only [q1, q2] at e
      by_cases c : xs.length + ys.length ≤ sizeLine
      · rw [if_pos c] at e
        cases e
        obtain ⟨a, vs, -, rfl, -, ha, rx⟩ := R.getM r1 q1
        obtain ⟨b, ws, -, rfl, -, hb, ry⟩ := R.getM r2 q2
        exact ⟨a, b, vs, ws, rfl, rfl, ha, hb, by rw [← rx.length, ← ry.length]; exact c, new_list R (rx.append ry) p⟩
      · rw [if_neg c] at e; cases e
theorem o_addT : Op2D K cA (rCatA K) fAddT := by
  intro ι H S x y v u d S' Q R r1 r2 e p
  unfold fAddT at e
  cases x with
  | tup xs =>
    cases y with
    | tup ys =>
      simp only at e
      by_cases c : xs.length + ys.length ≤ sizeLine
      · rw [if_pos c] at e
        cases e
        obtain ⟨a, vs, rfl, ha, rx⟩ := r1.tupR rfl
        obtain ⟨b, ws, rfl, hb, ry⟩ := r2.tupR rfl
        refine ⟨a, b, vs, ws, rfl, rfl, ha, hb, by rw [← rx.length, ← ry.length]; exact c, fun z => ?_, fun _ z => ?_, fun _ _ => new_tup R (rx.append ry) p⟩
        · subst z
          cases rx
          exact p _ H ι Ext.refl R r2
        · subst z
          cases ry
          rw [List.append_nil] at p
          exact p _ H ι Ext.refl R r1
      · rw [if_neg c] at e; cases e
    | _ => cases e
  | _ => cases e
abbrev rAddAll (K : PySem.W.Frag) : R2 := fun x y H Q => ((rI0 (fun i j => V.int (i + j))) x y H Q ∨ (fun x y H Q => ∃ i j, x = V.str i ∧ y = V.str j ∧ i.length + j.length ≤ sizeLine ∧ Q (V.str (i ++ j)) H) x y H Q) ∨ (rCat x y H Q ∨ rCatA K x y H Q)
theorem op_addAll : OpR X (binaryOp .Add) (rAddAll X.K) := OpR.or (OpR.or op_add op_add_str) (OpR.or op_cat op_catA)
theorem o_add : Op2D K cA (rAddAll K) fAdd := Op2D.or (Op2D.or (o_int0 fun _ _ _ _ => .int _) o_addS) (Op2D.or o_addL o_addT)
theorem o_sub : Op2D K cA (rI0 fun i j => .int (i - j)) fSub := o_int0 fun _ _ _ _ => .int _
theorem small64_iff {i : Int} (h : small64 i = true) : -(2 ^ 64) < i ∧ i < 2 ^ 64 := by simpa [small64] using h
theorem o_mulL : Op2D K cA rRep fMulL := by
  intro ι H S x y v u d S' Q R r1 r2 e p
  unfold fMulL at e
  cases q1 : getM S x with
  | none => simp only [q1] at e; cases e
  | some a =>
    obtain ⟨n, xs⟩ := a
    cases y with
    | int k =>
      simp only [q1] at e
      by_cases c : -(2 ^ 63) ≤ k ∧ k < 2 ^ 63 ∧ xs.length * k.toNat ≤ sizeLine
      · rw [if_pos c] at e
        cases e
        obtain ⟨a, vs, -, rfl, -, ha, rx⟩ := R.getM r1 q1
        cases r2
        refine ⟨a, k, vs, rfl, rfl, ha, c.1, c.2.1, by rw [← rx.length]; exact c.2.2, new_list R ?_ p⟩
        clear c p
        generalize k.toNat = m
        induction m with
        | zero => exact .nil
        | succ m ih => rw [List.replicate_succ, List.replicate_succ, List.flatten_cons, List.flatten_cons]; exact rx.append ih
      · rw [if_neg c] at e; cases e
    | _ => simp only [q1] at e; cases e
abbrev rMulAll : R2 := fun x y H Q => (rI CMul fun i j => .int (i * j)) x y H Q ∨ rRep x y H Q
theorem op_mulAll : OpR X (binaryOp .Mult) rMulAll := OpR.or op_mul op_rep
theorem o_mul : Op2D K cA rMulAll fMul := Op2D.or (o_int (fun i j h => by
  simp only [Bool.or_eq_true] at h
  rcases h with h | h
  · exact .inl (small64_iff h)
  · exact .inr (small64_iff h)) fun _ _ _ _ => .int _) o_mulL
theorem o_div : Op2D K cA (rI CDivW fun i j => .int (i / j)) fDiv := o_int (fun i j h => (of_decide_eq_true h : 0 < j ∧ j.natAbs.log2 < 9000)) fun _ _ _ _ => .int _
theorem o_mod : Op2D K cA (rI (fun _ j => 0 < j) fun i j => .int (i % j)) fMod := o_int (fun i j h => of_decide_eq_true h) fun _ _ _ _ => .int _
theorem o_pow : Op2D K cA (rI CPow fun i j => .int (i ^ j.toNat)) fPow := o_int (fun i j h => (of_decide_eq_true h : 0 ≤ j ∧ j ≤ 1000000 ∧ i.natAbs < 2 ^ 64)) fun _ _ _ _ => .int _
theorem o_lt : Op2D K cA (rI0 fun i j => .bl (decide (i < j))) fLt := o_int0 fun _ _ _ _ => .bl _
theorem o_le : Op2D K cA (rI0 fun i j => .bl (decide (i ≤ j))) fLe := o_int0 fun _ _ _ _ => .bl _
theorem o_gt : Op2D K cA (rI0 fun i j => .bl (decide (j < i))) fGt := o_int0 fun _ _ _ _ => .bl _
theorem o_ge : Op2D K cA (rI0 fun i j => .bl (decide (j ≤ i))) fGe := o_int0 fun _ _ _ _ => .bl _
theorem o_neg : Op1D K cA (rU fun i => .int (-i)) fNeg := by
  intro ι H S x v d S' Q R r e p
  cases x with
  | int i => cases e; cases r; exact ⟨i, rfl, p _ H ι Ext.refl R (.int _)⟩
  | _ => cases e
theorem isNon_rel {ι : List Addr} {H : Hp} {x : D} {v : V} (r : RelD K cA ι H x v) : x.isNon = decide (v = .non) := by
  cases r <;> rfl
theorem o_isN : Op2D K cA (fun x y H Q => y = .non ∧ Q (.bl (decide (x = .non))) H) fIsN := by
  intro ι H S x y v u d S' Q R r1 r2 e p
  cases y with
  | non => cases e; cases r2; exact ⟨rfl, by rw [← isNon_rel r1]; exact p _ H ι Ext.refl R (.bl _)⟩
  | _ => cases e
theorem o_notN : Op2D K cA (fun x y H Q => y = .non ∧ Q (.bl (!decide (x = .non))) H) fNotN := by
  intro ι H S x y v u d S' Q R r1 r2 e p
  cases y with
  | non => cases e; cases r2; exact ⟨rfl, by rw [← isNon_rel r1]; exact p _ H ι Ext.refl R (.bl _)⟩
  | _ => cases e
/-! chains of two comparisons of numbers -/
def sChain (p q : Int → Int → Bool) (ma mb mc : SE) : SE := fun env S => (ma env S).bind fun x S1 => (mb env S1).bind fun y S2 => match x, y with
  | .int i, .int j => if p i j = true then (mc env S2).bind fun z S3 => match z with
      | .int k => .ok (.bl (q j k)) S3
      | _ => .stuck
    else .ok (.bl false) S2
  | _, _ => .stuck
theorem chain_ok {ma mb mc : SE} {p q : Int → Int → Bool} {σ : L2.St} {H : Hp} {Q : VK} (h : rdE K cA W (sChain p q ma mb mc) σ H Q) : tChain (rI0 fun i j => .bl (p i j)) (rI0 fun i j => .bl (q i j)) (rdE K cA W ma) (rdE K cA W mb) (rdE K cA W mc) σ H Q := by
  obtain ⟨ι, S, env, R, E, h⟩ := rdE_fin h
  refine rd_seq R E h fun x v S1 H1 ι1 x1 R1 E1 r1 h1 => ?_
  refine rd_seq R1 E1 h1 fun y u S2 H2 ι2 x2 R2 E2 r2 h2 => ?_
  cases x with
  | int i =>
    cases y with
    | int j =>
      cases r1; cases r2
      refine ⟨i, j, rfl, rfl, p i j, rfl, ?_⟩
      simp only at h2
      by_cases c : p i j = true
      · rw [if_pos c] at h2
        rw [if_pos c]
        refine rd_seq R2 E2 h2 fun z w S3 H3 ι3 x3 R3 E3 r3 h3 => ?_
        cases z with
        | int k => cases r3; exact ⟨j, k, rfl, rfl, h3 _ H3 ι3 Ext.refl R3 (.bl _)⟩
        | _ => exact h3.elim
      · rw [if_neg c] at h2
        rw [if_neg c]
        exact h2 _ H2 ι2 Ext.refl R2 (.bl _)
    | _ => exact h2.elim
  | _ => cases y <;> exact h2.elim
theorem de_chain {a b c : Expr} {op op' : CmpOp} {pos : Pos} {ma mb mc : SE} {p q : Int → Int → Bool} (ha : PE X a (rdE K cA W ma)) (hb : PE X b (rdE K cA W mb)) (hc : PE X c (rdE K cA W mc)) (ho : OpR X (compareOp op) (rI0 fun i j => .bl (p i j)))
    (ho' : OpR X (compareOp op') (rI0 fun i j => .bl (q i j))) (hm : lastMarks [op, op'] [b, c] = false := by rfl) : PE X (.Compare a [op, op'] [b, c] pos) (rdE K cA W (sChain p q ma mb mc)) := PE.weak (pe_chain ho ho' ha hb hc (hm := hm)) fun σ H Q h => chain_ok h
theorem dt_chain {a b c : Expr} {op op' : CmpOp} {pos : Pos} {ma mb mc : SE} {p q : Int → Int → Bool} (ha : PE X a (rdE K cA W ma)) (hb : PE X b (rdE K cA W mb)) (hc : PE X c (rdE K cA W mc)) (ho : OpR X (compareOp op) (rI0 fun i j => .bl (p i j)))
    (ho' : OpR X (compareOp op') (rI0 fun i j => .bl (q i j))) (hm : lastMarks [op, op'] [b, c] = false := by rfl) : PT X (.Compare a [op, op'] [b, c] pos) (rdT K cA W (tOf (sChain p q ma mb mc))) := PT.weak (pt_chain ho ho' ha hb hc (hm := hm)) fun σ H Q h => chain_ok (tb_ok h)

/-! ### subscripts -/
theorem atI_rel {ι : List Addr} {H : Hp} {xs : List D} {vs : List V} (r : RelDs K cA ι H xs vs) {i : Int} {d : D} (h : atI xs i = some d) : ∃ v, atI vs i = some v ∧ RelD K cA ι H d v := by
  unfold atI at h ⊢
  rw [← r.length]
  cases q : ixN xs.length i with
  | none => rw [q] at h; cases h
  | some j =>
    rw [q] at h
    obtain ⟨v, h1, h2⟩ := r.get h
    exact ⟨v, h1, h2⟩
theorem o_ixL : Op2D K cA (rIxL K) fIxL := by
  intro ι H S x y v u d S' Q R r1 r2 e p
  unfold fIxL at e
  cases q1 : getL S x with
  | none => simp only [q1] at e; cases e
  | some xs =>
    cases y with
    | int i =>
      simp only [q1] at e
      cases q2 : atI xs i with
      | none => rw [q2] at e; cases e
      | some z =>
        rw [q2] at e
        cases e
        obtain ⟨a, vs, rfl, ha, rx⟩ := R.getL r1 q1
        cases r2
        obtain ⟨w, h1, h2⟩ := atI_rel rx q2
        exact ⟨a, vs, i, w, rfl, rfl, ha, h1, p _ H ι Ext.refl R h2⟩
    | _ => simp only [q1] at e; cases e
theorem o_ixT : Op2D K cA (rIxT K) fIxT := by
  intro ι H S x y v u d S' Q R r1 r2 e p
  unfold fIxT at e
  cases q1 : x.tupL with
  | none => simp only [q1] at e; cases e
  | some xs =>
    cases y with
    | int i =>
      simp only [q1] at e
      cases q2 : atI xs i with
      | none => rw [q2] at e; cases e
      | some z =>
        rw [q2] at e
        cases e
        obtain ⟨a, vs, rfl, ha, rx⟩ := r1.tupR q1
        cases r2
        obtain ⟨w, h1, h2⟩ := atI_rel rx q2
        exact ⟨a, vs, i, w, rfl, rfl, ha, h1, p _ H ι Ext.refl R h2⟩
    | _ => simp only [q1] at e; cases e
theorem o_ixS : Op2D K cA rIxS fIxS := by
  intro ι H S x y v u d S' Q R r1 r2 e p
  unfold fIxS at e
  cases x with
  | str z =>
    cases y with
    | int i =>
      simp only at e
      by_cases c : z.length ≤ sizeLine
      · rw [if_pos c] at e
        cases q2 : atI z.cps.toList i with
        | none => rw [q2] at e; cases e
        | some k =>
          rw [q2] at e
          cases e
          cases r1; cases r2
          exact ⟨z, i, k, rfl, rfl, c, q2, p _ H ι Ext.refl R (.str _)⟩
      · rw [if_neg c] at e; cases e
    | _ => cases e
  | _ => cases e
theorem keyOf_rel {ι : List Addr} {H : Hp} {d : D} {k : Key} {v : V} (h : keyOf d = some k) (r : RelD K cA ι H d v) : v = kV k := by
  cases d with
  | int i => cases h; cases r; rfl
  | str x => cases h; cases r; rfl
  | _ => cases h
theorem keysOf_rel {ι : List Addr} {H : Hp} : ∀ {ds : List D} {ks : List Key} {vs : List V}, keysOf ds = some ks → RelDs K cA ι H ds vs → vs = ks.map kV
  | [], _, _, h, r => by cases h; cases r; rfl
  | d :: ds, ks, _, h, r => by
    cases r with
    | cons r1 r2 =>
      unfold keysOf at h
      cases q1 : keyOf d with
      | none => simp only [q1] at h; cases h
      | some k =>
        cases q2 : keysOf ds with
        | none => simp only [q1, q2] at h; cases h
        | some ks' =>
          simp only [q1, q2] at h
          cases h
          rw [keyOf_rel q1 r1, keysOf_rel q2 r2]
          rfl
/-- a key's tuple is not one of the text's constants -/
theorem look_rel {κ : Type} [DecidableEq κ] {ι : List Addr} {H : Hp} {k : κ} : ∀ {kvs : List (κ × D)} {ws : List (κ × V)}, Paired (fun (p : κ × D) (q : κ × V) => p.1 = q.1 ∧ RelD K cA ι H p.2 q.2) kvs ws →
    (look kvs k = none → valV ws k = none) ∧ ∀ d, look kvs k = some d → ∃ v, valV ws k = some v ∧ RelD K cA ι H d v
  | _, _, .nil => ⟨fun _ => rfl, fun d h => by cases h⟩
  | (k1, d) :: kvs, (k2, v) :: ws, .cons r t => by
    obtain ⟨e, r⟩ := r
    simp only at e
    subst e
    obtain ⟨i1, i2⟩ := look_rel (k := k) t
    by_cases h : k1 = k
    · rw [valV_pos (p := (k1, v)) h]
      have e : look ((k1, d) :: kvs) k = some d := by simp [look, List.find?_cons, h]
      rw [e]
      exact ⟨fun z => (nomatch z), fun d' z => by cases z; exact ⟨v, rfl, r⟩⟩
    · rw [valV_neg (p := (k1, v)) h]
      have e : look ((k1, d) :: kvs) k = look kvs k := by simp [look, List.find?_cons, h]
      rw [e]
      exact ⟨i1, i2⟩
theorem getC_at {S : Store} {d : D} {n : Nat} {c : Cell} (h : getC S d = some (n, c)) : d = .ref n ∧ S[n]? = some c := by
  unfold getC at h
  cases d with
  | ref m =>
    simp only at h
    cases q : S[m]? with
    | none => rw [q] at h; cases h
    | some c' => rw [q] at h; cases h; exact ⟨rfl, q⟩
  | _ => cases h
theorem lookK_rel {ι : List Addr} {H : Hp} {y : D} {u : V} {a : Addr} {kvs : List (Key × D)} {ws : List (Key × V)} {r : Option D} (hy : RelD K cA ι H y u) (hp : Paired (fun (p : Key × D) (q : Key × V) => p.1 = q.1 ∧ RelD K cA ι H p.2 q.2) kvs ws) (rd : Rd H a (.dK ws))
    (h : ((keyOf y).map fun k => look kvs k) = some r) : ∃ w, DGet H a u w ∧ (r = none → w = none) ∧ ∀ d, r = some d → ∃ v, w = some v ∧ RelD K cA ι H d v := by
  cases q : keyOf y with
  | none => rw [q] at h; cases h
  | some k =>
    rw [q] at h
    cases h
    obtain ⟨i1, i2⟩ := look_rel (k := k) hp
    exact ⟨_, .inl ⟨_, k, rd, keyOf_rel q hy, rfl⟩, i1, i2⟩
theorem lookT_rel {ι : List Addr} {H : Hp} {ys : List D} {u : V} {a : Addr} {kvs : List (List Key × D)} {ws : List (List Key × V)} {r : Option D} (hy : RelD K cA ι H (.tup ys) u) (hp : Paired (fun (p : List Key × D) (q : List Key × V) => p.1 = q.1 ∧ RelD K cA ι H p.2 q.2) kvs ws) (rd : Rd H a (.dT ws))
    (h : ((keysOf ys).map fun k => look kvs k) = some r) : ∃ w, DGet H a u w ∧ (r = none → w = none) ∧ ∀ d, r = some d → ∃ v, w = some v ∧ RelD K cA ι H d v := by
  cases q : keysOf ys with
  | none => rw [q] at h; cases h
  | some k =>
    rw [q] at h
    cases h
    obtain ⟨b, vs, rfl, hb, ry⟩ := hy.tupOf
    rw [keysOf_rel q ry] at hb
    obtain ⟨i1, i2⟩ := look_rel (k := k) hp
    exact ⟨_, .inr ⟨_, k, b, rd, rfl, hb, rfl⟩, i1, i2⟩
theorem cLook_rel {ι : List Addr} {H : Hp} {y : D} {u : V} {a : Addr} {c : Cell} {o : HO} {r : Option D} (hy : RelD K cA ι H y u) (rc : RelC K cA ι H c o) (rd : H a = some o) (h : cLook c y = some r) :
    ∃ w, DGet H a u w ∧ (r = none → w = none) ∧ ∀ d, r = some d → ∃ v, w = some v ∧ RelD K cA ι H d v := by
  cases rc with
  | dK hp => exact lookK_rel hy hp (.inl rd) h
  | dT hp =>
    cases y with
    | tup ys => exact lookT_rel hy hp (.inl rd) h
    | _ => cases h
  | frz rc =>
    cases rc with
    | dK hp => exact lookK_rel hy hp (.inr ⟨_, rd⟩) h
    | dT hp =>
      cases y with
      | tup ys => exact lookT_rel hy hp (.inr ⟨_, rd⟩) h
      | _ => cases h
    | _ => cases h
  | _ => cases h
theorem dLook_rel {ι : List Addr} {S : Store} {H : Hp} {x y : D} {v u : V} {r : Option D} (R : RS K cA ι S H) (hx : RelD K cA ι H x v) (hy : RelD K cA ι H y u) (h : dLook S x y = some r) :
    ∃ a w, v = .ref a ∧ DGet H a u w ∧ (r = none → w = none) ∧ ∀ d, r = some d → ∃ v, w = some v ∧ RelD K cA ι H d v := by
  unfold dLook at h
  cases q : getC S x with
  | none => simp only [q] at h; cases h
  | some p =>
    obtain ⟨n, c⟩ := p
    simp only [q] at h
    obtain ⟨rfl, hc⟩ := getC_at q
    cases hx with
    | @ref _ a ha =>
      obtain ⟨o, h1, h2⟩ := R.cellAt hc ha
      obtain ⟨w, g⟩ := cLook_rel hy h2 h1 h
      exact ⟨a, w, rfl, g⟩
/-- d[k] by values -/
def rIxD : R2 := fun x y H Q => ∃ a v, x = .ref a ∧ DGet H a y (some v) ∧ Q v H
theorem ix_dict (hu : X.A.units + 1 < cLine) : IxR X rIxD := by
  intro value slice pins s σ H x y v u Q I rx ry h hs
  obtain ⟨a, z, rfl, g, q⟩ := h
  cases rx
  have ht : s.TypeIs (.ref a) "dict" := by
    have isd : IsD H a := by
      rcases g with ⟨kvs, k, e, _⟩ | ⟨kvs, k, b, e, _⟩
      · exact .inl ⟨kvs, e⟩
      · exact .inr ⟨kvs, e⟩
    exact (isD_at I isd).1
  exact tail_any ht PySem.F.slot_dict_getitem.lookup (d_getItem hu I g ry fun w' s' I' r' => ⟨z, H, I', r', q⟩) hs
theorem o_ixD : Op2D K cA rIxD fIxD := by
  intro ι H S x y v u d S' Q R r1 r2 e p
  unfold fIxD at e
  cases q : dLook S x y with
  | none => simp only [q] at e; cases e
  | some r =>
    cases r with
    | none => simp only [q] at e; cases e
    | some z =>
      simp only [q] at e
      cases e
      obtain ⟨a, w, rfl, g, _, g2⟩ := dLook_rel R r1 r2 q
      obtain ⟨z', rfl, rz⟩ := g2 _ rfl
      exact ⟨a, z', rfl, g, p _ H ι Ext.refl R rz⟩
abbrev rIxAll (K : PySem.W.Frag) : R2 := fun x y H Q => (rIxL K x y H Q ∨ rIxT K x y H Q) ∨ (rIxS x y H Q ∨ rIxD x y H Q)
theorem ix_all (hu : X.A.units + 1 < cLine) : IxR X (rIxAll X.K) := IxR.or (IxR.or ix_list ix_tup) (IxR.or ix_str (ix_dict hu))
theorem o_ix : Op2D K cA (rIxAll K) fIx := Op2D.or (Op2D.or o_ixL o_ixT) (Op2D.or o_ixS o_ixD)
end
end Z
set_option Elab.async false
set_option linter.all false
set_option maxRecDepth 100000
set_option maxHeartbeats 2000000
namespace Z
open PySem PySem.Spec PySem.W PySem.Calls PyProof.Rows L2

/-! ### ==, !=: what a datum says, lists and tuples within -/
def mapO {α β : Type} (f : α → Option β) : List α → Option (List β)
  | [] => some []
  | x :: xs => match f x, mapO f xs with
    | some y, some ys => some (y :: ys)
    | _, _ => none
def pd : Nat → Store → D → Option PyData
  | _, _, .non => some .none
  | _, _, .bl b => some (.bool b)
  | _, _, .int i => some (.int i)
  | _, _, .str x => if strOk x = true then some (.str x) else none
  | n + 1, S, .tup xs => (mapO (pd n S) xs).map .tuple
  | n + 1, S, .ct xs => (mapO (pd n S) xs).map .tuple
  | n + 1, S, .ref m => match getL S (.ref m) with
    | some xs => (mapO (pd n S) xs).map .list
    | none => none
  | _, _, _ => none
def pdS (S : Store) (d : D) : Option PyData := match pd 60 S d with
  | some x => if SeqAt.shaped x = true then some x else none
  | none => none
def fEq : Op2 := fun x y S => match pdS S x, pdS S y with
  | some d, some e => some (.bl (PyData.eqv d e), S)
  | _, _ => none
def fNe : Op2 := fun x y S => match pdS S x, pdS S y with
  | some d, some e => some (.bl (!PyData.eqv d e), S)
  | _, _ => none
section
variable {K : PySem.W.Frag} {cA : String → Addr} {W : WX} {X : Cx}
theorem mapO_dp {ι : List Addr} {H : Hp} {f : D → Option PyData} (hf : ∀ d v x, RelD K cA ι H d v → f d = some x → Dp K H v x) : ∀ {ds : List D} {vs : List V} {xs : List PyData}, RelDs K cA ι H ds vs → mapO f ds = some xs → DpAll K H vs xs
  | [], _, _, .nil, h => by cases h; exact .nil
  | d :: ds, _, xs, .cons r1 r2, h => by
    unfold mapO at h
    cases q1 : f d with
    | none => simp only [q1] at h; cases h
    | some y =>
      cases q2 : mapO f ds with
      | none => simp only [q1, q2] at h; cases h
      | some ys =>
        simp only [q1, q2] at h
        cases h
        exact .cons (hf _ _ _ r1 q1) (mapO_dp hf r2 q2)
theorem pd_dp {ι : List Addr} {S : Store} {H : Hp} (R : RS K cA ι S H) : ∀ (n : Nat) (d : D) (v : V) (x : PyData), RelD K cA ι H d v → pd n S d = some x → Dp K H v x
  | n, .non, v, x, r, h => by cases n <;> (cases h; cases r; exact .non)
  | n, .bl b, v, x, r, h => by cases n <;> (cases h; cases r; exact .bl b)
  | n, .int i, v, x, r, h => by cases n <;> (cases h; cases r; exact .int i)
  | n, .str z, v, x, r, h => by
    have h' : (if strOk z = true then some (PyData.str z) else none) = some x := by cases n <;> exact h
    by_cases c : strOk z = true
    · rw [if_pos c] at h'; cases h'; cases r; exact .str z
    · rw [if_neg c] at h'; cases h'
  | 0, .tup xs, v, x, r, h => by cases h
  | 0, .ct xs, v, x, r, h => by cases h
  | 0, .ref m, v, x, r, h => by cases h
  | n + 1, .tup xs, v, x, r, h => by
    have h' : (mapO (pd n S) xs).map PyData.tuple = some x := h
    cases q : mapO (pd n S) xs with
    | none => rw [q] at h'; cases h'
    | some ys =>
      rw [q] at h'; cases h'
      obtain ⟨a, vs, rfl, ha, rx⟩ := r.tupR rfl
      exact .tup ha (mapO_dp (ι := ι) (fun d v x => pd_dp R n d v x) rx q)
  | n + 1, .ct xs, v, x, r, h => by
    have h' : (mapO (pd n S) xs).map PyData.tuple = some x := h
    cases q : mapO (pd n S) xs with
    | none => rw [q] at h'; cases h'
    | some ys =>
      rw [q] at h'; cases h'
      obtain ⟨a, vs, rfl, ha, rx⟩ := r.tupR rfl
      exact .tup ha (mapO_dp (ι := ι) (fun d v x => pd_dp R n d v x) rx q)
  | n + 1, .ref m, v, x, r, h => by
    have h' : (match getL S (.ref m) with
      | some xs => (mapO (pd n S) xs).map PyData.list
      | none => none) = some x := h
    cases z : getL S (.ref m) with
    | none => rw [z] at h'; cases h'
    | some xs =>
      rw [z] at h'
      simp only at h'
      cases q : mapO (pd n S) xs with
      | none => rw [q] at h'; cases h'
      | some ys =>
        rw [q] at h'; cases h'
        obtain ⟨a, vs, rfl, ha, rx⟩ := R.getL r z
        exact .lst ha (mapO_dp (ι := ι) (fun d v x => pd_dp R n d v x) rx q)
  | n, .exv C, v, x, r, h => by cases n <;> cases h
  | n, .kd a, v, x, r, h => by cases n <;> cases h
  | n, .kl a, v, x, r, h => by cases n <;> cases h
  | n, .gl a, v, x, r, h => by cases n <;> cases h
theorem pdS_dp {ι : List Addr} {S : Store} {H : Hp} (R : RS K cA ι S H) {d : D} {v : V} {x : PyData} (r : RelD K cA ι H d v) (h : pdS S d = some x) : Dp K H v x ∧ SeqAt.shaped x = true := by
  unfold pdS at h
  cases q : pd 60 S d with
  | none => rw [q] at h; cases h
  | some y =>
    rw [q] at h
    simp only at h
    by_cases c : SeqAt.shaped y = true
    · rw [if_pos c] at h; cases h; exact ⟨pd_dp R 60 d v x r q, c⟩
    · rw [if_neg c] at h; cases h
theorem o_eq : Op2D K cA (rEqD K) fEq := by
  intro ι H S x y v u d S' Q R r1 r2 e p
  unfold fEq at e
  cases q1 : pdS S x with
  | none => simp only [q1] at e; cases e
  | some a =>
    cases q2 : pdS S y with
    | none => simp only [q1, q2] at e; cases e
    | some b =>
      simp only [q1, q2] at e
      cases e
      obtain ⟨h1, h2⟩ := pdS_dp R r1 q1
      obtain ⟨h3, h4⟩ := pdS_dp R r2 q2
      exact ⟨a, b, h1, h3, h2, h4, p _ H ι Ext.refl R (.bl _)⟩
theorem o_ne : Op2D K cA (rNeD K) fNe := by
  intro ι H S x y v u d S' Q R r1 r2 e p
  unfold fNe at e
  cases q1 : pdS S x with
  | none => simp only [q1] at e; cases e
  | some a =>
    cases q2 : pdS S y with
    | none => simp only [q1, q2] at e; cases e
    | some b =>
      simp only [q1, q2] at e
      cases e
      obtain ⟨h1, h2⟩ := pdS_dp R r1 q1
      obtain ⟨h3, h4⟩ := pdS_dp R r2 q2
      exact ⟨a, b, h1, h3, h2, h4, p _ H ι Ext.refl R (.bl _)⟩
end

/-! ### in, not in -/
/-- a list's or a tuple's items -/
def getS (S : Store) (d : D) : Option (List D) := match d.tupL with
  | some xs => some xs
  | none => getL S d
def eqF : D → D → Option Bool := fun y x => match y, x with
  | .non, .non => some true
  | .bl a, .bl b => some (a == b)
  | .int a, .int b => some (a == b)
  | .str a, .str b => some (a == b)
  | _, _ => none
def occ (x y : Str) : Bool := !(Builtin.Str.occurrences y x 0 y.length 1).isEmpty
/-- in: for a text in a text; for data in a list or a tuple of data; for a key in a dict -/
def inB (S : Store) (x y : D) : Option Bool := match y with
  | .str b => match x with
    | .str a => some (occ a b)
    | _ => none
  | _ => match dLook S y x with
    | some o => some o.isSome
    | none => none
/-- in a list (that may be changed) of data -/
def inLB (S : Store) (x y : D) : Option Bool := match getL S y with
  | some xs => match pdS S x, pdS S y with
    | some d, some (.list ds) => some (ds.any fun z => PyData.eqv z d)
    | _, _ => none
  | none => none
def flatD0 : D → Bool
  | .non => true
  | .bl _ => true
  | .int _ => true
  | .str _ => true
  | _ => false
def toV : D → V
  | .non => .non
  | .bl b => .bl b
  | .int i => .int i
  | .str s => .str s
  | _ => .non
/-- in a tuple of plain data -/
def inTB (x y : D) : Option Bool := match y.tupL with
  | some xs => if flatD0 x = true ∧ xs.all flatD0 = true then some (inV (toV x) (xs.map toV)) else none
  | none => none
def op_of (f : D → D → Option Bool) (neg : Bool) : Op2 := fun x y S => match f x y with
  | some b => some (.bl (if neg then !b else b), S)
  | none => none
def fIn (neg : Bool) : Op2 := fun x y S => orE2 (orE2 (op_of (inTB) neg) (op_of (inLB S) neg)) (op_of (inB S) neg) x y S
/-- what the dict says, by values -/
def rInDct (neg : Bool) : R2 := fun x y H Q => ∃ a o, y = .ref a ∧ DGet H a x o ∧ Q (.bl (if neg then !o.isSome else o.isSome)) H
def rInStr (neg : Bool) : R2 := fun x y H Q => ∃ i j, x = .str i ∧ y = .str j ∧ Q (.bl (if neg then !occ i j else occ i j)) H
def rInDl (K : PySem.W.Frag) (neg : Bool) : R2 := fun x y H Q => ∃ d ds, Dp K H x d ∧ Dp K H y (.list ds) ∧ SeqAt.shaped d = true ∧ SeqAt.shaped (.list ds) = true ∧ Q (.bl (if neg then !(ds.any fun z => PyData.eqv z d) else ds.any fun z => PyData.eqv z d)) H
section
variable {K : PySem.W.Frag} {cA : String → Addr} {W : WX} {X : Cx}
theorem flat0_rel {ι : List Addr} {H : Hp} {d : D} {v : V} (r : RelD K cA ι H d v) (h : flatD0 d = true) : v = toV d ∧ flatV v = true := by
  cases r <;> first | exact ⟨rfl, rfl⟩ | cases h
theorem flats0_rel {ι : List Addr} {H : Hp} : ∀ {ds : List D} {vs : List V}, RelDs K cA ι H ds vs → ds.all flatD0 = true → vs = ds.map toV ∧ vs.all flatV = true
  | _, _, .nil, _ => ⟨rfl, rfl⟩
  | d :: ds, v :: vs, .cons r1 r2, h => by
    rw [List.all_cons, Bool.and_eq_true] at h
    obtain ⟨e1, f1⟩ := flat0_rel r1 h.1
    obtain ⟨e2, f2⟩ := flats0_rel r2 h.2
    refine ⟨by rw [e1, e2]; rfl, ?_⟩
    rw [List.all_cons, f1, f2]; rfl
theorem op_of_some {f : D → D → Option Bool} {neg : Bool} {x y d : D} {S S' : Store} (h : op_of f neg x y S = some (d, S')) : ∃ b, f x y = some b ∧ d = .bl (if neg then !b else b) ∧ S' = S := by
  unfold op_of at h
  cases q : f x y with
  | none => rw [q] at h; cases h
  | some b => rw [q] at h; cases h; exact ⟨b, rfl, rfl, rfl⟩
abbrev rInAll (K : PySem.W.Frag) (neg : Bool) : R2 := fun x y H Q => (rIn K neg x y H Q ∨ rInDl K neg x y H Q) ∨ (rInStr neg x y H Q ∨ rInDct neg x y H Q)
theorem o_in {neg : Bool} : Op2D K cA (rInAll K neg) (fIn neg) := by
  intro ι H S x y v u d S' Q R r1 r2 e p
  unfold fIn orE2 at e
  cases q1 : op_of inTB neg x y S with
  | some z =>
    simp only [q1] at e
    cases e
    obtain ⟨b, h, rfl, rfl⟩ := op_of_some q1
    unfold inTB at h
    cases z : y.tupL with
    | none => rw [z] at h; cases h
    | some xs =>
      simp only [z] at h
      by_cases c : flatD0 x = true ∧ xs.all flatD0 = true
      · rw [if_pos c] at h
        cases h
        obtain ⟨a, vs, rfl, ha, rx⟩ := r2.tupR z
        obtain ⟨e1, f1⟩ := flat0_rel r1 c.1
        obtain ⟨e2, f2⟩ := flats0_rel rx c.2
        refine .inl (.inl ⟨a, vs, rfl, .inr ha, f1, f2, ?_⟩)
        rw [e1, e2]
        exact p _ H ι Ext.refl R (.bl _)
      · rw [if_neg c] at h; cases h
  | none =>
    simp only [q1] at e
    cases q2 : op_of (inLB S) neg x y S with
    | some z =>
      simp only [q2] at e
      cases e
      obtain ⟨b, h, rfl, rfl⟩ := op_of_some q2
      unfold inLB at h
      cases z : getL S' y with
      | none => rw [z] at h; cases h
      | some xs =>
        simp only [z] at h
        cases q3 : pdS S' x with
        | none => simp only [q3] at h; cases h
        | some a =>
          cases q4 : pdS S' y with
          | none => simp only [q3, q4] at h; cases h
          | some c =>
            cases c with
            | list ds =>
              simp only [q3, q4] at h
              cases h
              obtain ⟨h1, h2⟩ := pdS_dp R r1 q3
              obtain ⟨h3, h4⟩ := pdS_dp R r2 q4
              exact .inl (.inr ⟨a, ds, h1, h3, h2, h4, p _ H ι Ext.refl R (.bl _)⟩)
            | _ => simp only [q3, q4] at h; cases h
    | none =>
      simp only [q2] at e
      obtain ⟨b, h, rfl, rfl⟩ := op_of_some e
      by_cases ys : ∃ z, y = .str z
      · obtain ⟨z, rfl⟩ := ys
        cases r2
        unfold inB at h
        cases x with
        | str a => cases h; cases r1; exact .inr (.inl ⟨a, z, rfl, rfl, p _ H ι Ext.refl R (.bl _)⟩)
        | _ => cases h
      · have h' : (match dLook S' y x with
          | some o => some o.isSome
          | none => none) = some b := by
          cases y <;> first | exact h | exact absurd ⟨_, rfl⟩ ys
        cases q3 : dLook S' y x with
        | none => rw [q3] at h'; cases h'
        | some o =>
          rw [q3] at h'
          cases h'
          obtain ⟨a, w, rfl, g, g1, g2⟩ := dLook_rel R r2 r1 q3
          have es : w.isSome = o.isSome := by
            cases o with
            | none => rw [g1 rfl]; rfl
            | some z => obtain ⟨z', rfl, _⟩ := g2 z rfl; rfl
          exact .inr (.inr ⟨a, w, rfl, g, by rw [es]; exact p _ H ι Ext.refl R (.bl _)⟩)
theorem op_inAll (hu : X.A.units + 65 < cLine) : OpR X (compareOp .In) (rInAll X.K false) := by
  refine OpR.or (OpR.or op_in_seq ?_) (OpR.or op_in_str ?_)
  · intro pins s σ H x y v u Q I rx ry h
    exact op_inD hu pins s σ H x y v u Q I rx ry h
  · intro pins s σ H x y v u Q I rx ry h
    obtain ⟨a, o, rfl, g, q⟩ := h
    cases ry
    exact d_in (by omega) I g rx fun s' I' => ⟨.bl _, H, I', rfl, q⟩
theorem op_notInAll (hu : X.A.units + 65 < cLine) : OpR X (compareOp .NotIn) (rInAll X.K true) := by
  refine OpR.or (OpR.or op_notIn_seq ?_) (OpR.or op_notIn_str ?_)
  · intro pins s σ H x y v u Q I rx ry h
    exact op_notInD hu pins s σ H x y v u Q I rx ry h
  · intro pins s σ H x y v u Q I rx ry h
    obtain ⟨a, o, rfl, g, q⟩ := h
    cases ry
    exact d_notIn (by omega) I g rx fun s' I' => ⟨.bl _, H, I', rfl, q⟩
end
end Z
set_option Elab.async false
set_option linter.all false
set_option maxRecDepth 100000
set_option maxHeartbeats 2000000
namespace Z
open PySem PySem.Spec PySem.W PySem.Calls PyProof.Rows L2

/-! ### calls of builtins, by values -/
def fLen : OpL := fun xs S => match xs with
  | [.str y] => if y.length ≤ sizeLine then some (.int (y.length : Nat), S) else none
  | [d] => match getS S d with
    | some ys => some (.int (ys.length : Nat), S)
    | none => match getC S d with
      | some (_, .dK kvs) => some (.int (kvs.length : Nat), S)
      | some (_, .dT kvs) => some (.int (kvs.length : Nat), S)
      | _ => none
  | _ => none
def f2I (g : Int → Int → Int) : OpL := fun xs S => match xs with
  | [.int i, .int j] => some (.int (g i j), S)
  | _ => none
def fMin2 : OpL := f2I fun i j => if j < i then j else i
def fMax2 : OpL := f2I fun i j => if j > i then j else i
def fAbs : OpL := fun xs S => match xs with
  | [.int i] => some (.int (if i < 0 then -i else i), S)
  | _ => none
def fInt : OpL := fun xs S => match xs with
  | [.int i] => some (.int i, S)
  | [.bl k] => some (.int (if k then 1 else 0), S)
  | [.str a] => match PySem.intText? a with
    | some n => if a.length ≤ 640 then some (.int n, S) else none
    | none => none
  | _ => none
def fStr : OpL := fun xs S => match xs with
  | [.int i] => if i.natAbs.log2 < 1920 then some (.str (toString i), S) else none
  | [.str a] => some (.str a, S)
  | _ => none
def fDivmod : OpL := fun xs S => match xs with
  | [.int i, .int j] => if 0 < j ∧ j.natAbs.log2 < 9000 then some (.tup [.int (i / j), .int (i % j)], S) else none
  | _ => none
def blsOf : List D → Option (List Bool)
  | [] => some []
  | .bl b :: r => (blsOf r).map (b :: ·)
  | _ => none
def intsOf : List D → Option (List Int)
  | [] => some []
  | .int b :: r => (intsOf r).map (b :: ·)
  | _ => none
def strsOf : List D → Option (List Str)
  | [] => some []
  | .str b :: r => (strsOf r).map (b :: ·)
  | _ => none
def fAny : OpL := fun xs S => match xs with
  | [d] => match getL S d with
    | some ys => (blsOf ys).map fun bs => (.bl (bs.any id), S)
    | none => none
  | _ => none
def fAll : OpL := fun xs S => match xs with
  | [d] => match getL S d with
    | some ys => (blsOf ys).map fun bs => (.bl (bs.all id), S)
    | none => none
  | _ => none
def fSum : OpL := fun xs S => match xs with
  | [d] => match getL S d with
    | some ys => (intsOf ys).map fun ns => (.int ns.sum, S)
    | none => none
  | _ => none
def extI (g : Int → Int → Int) : List Int → Int
  | [] => 0
  | [x] => x
  | x :: r => g x (extI g r)
def fMaxL : OpL := fun xs S => match xs with
  | [d] => match getL S d with
    | some ys => match intsOf ys with
      | some (n :: ns) => some (.int (extI max (n :: ns)), S)
      | _ => none
    | none => none
  | _ => none
def fMinL : OpL := fun xs S => match xs with
  | [d] => match getL S d with
    | some ys => match intsOf ys with
      | some (n :: ns) => some (.int (extI min (n :: ns)), S)
      | _ => none
    | none => none
  | _ => none
def fListOf : OpL := fun xs S => match xs with
  | [d] => match getS S d with
    | some ys => some (.ref S.length, S ++ [.lst ys])
    | none => none
  | _ => none
def fTupleOf : OpL := fun xs S => match xs with
  | [d] => match d.tupL with
    | some _ => some (d, S)
    | none => match getL S d with
      | some ys => some (.tup ys, S)
      | none => none
  | _ => none

section
variable {K : PySem.W.Frag} {cA : String → Addr} {W : WX} {X : Cx}
theorem RelDs.one {ι : List Addr} {H : Hp} {d : D} {vs : List V} (r : RelDs K cA ι H [d] vs) : ∃ v, vs = [v] ∧ RelD K cA ι H d v := by
  cases r with
  | cons r1 r2 => cases r2; exact ⟨_, rfl, r1⟩
theorem RelDs.two {ι : List Addr} {H : Hp} {d e : D} {vs : List V} (r : RelDs K cA ι H [d, e] vs) : ∃ v u, vs = [v, u] ∧ RelD K cA ι H d v ∧ RelD K cA ι H e u := by
  cases r with
  | cons r1 r2 => obtain ⟨u, rfl, r3⟩ := r2.one; exact ⟨_, _, rfl, r1, r3⟩
theorem getS_rel {ι : List Addr} {S : Store} {H : Hp} (R : RS K cA ι S H) {d : D} {v : V} {xs : List D} (r : RelD K cA ι H d v) (h : getS S d = some xs) : ∃ a vs, v = .ref a ∧ (SqL K H a vs ∨ SqT K H a vs) ∧ RelDs K cA ι H xs vs := by
  unfold getS at h
  cases q : d.tupL with
  | some ys =>
    rw [q] at h; cases h
    obtain ⟨a, vs, e, h1, h2⟩ := r.tupR q
    exact ⟨a, vs, e, .inr h1, h2⟩
  | none =>
    rw [q] at h
    obtain ⟨a, vs, e, h1, h2⟩ := R.getL r h
    exact ⟨a, vs, e, .inl h1, h2⟩
theorem bls_rel {ι : List Addr} {H : Hp} : ∀ {ds : List D} {vs : List V} {bs : List Bool}, RelDs K cA ι H ds vs → blsOf ds = some bs → vs = bs.map V.bl
  | [], _, _, .nil, h => by cases h; rfl
  | d :: ds, _, bs, .cons r1 r2, h => by
    cases d with
    | bl b =>
      unfold blsOf at h
      cases q : blsOf ds with
      | none => rw [q] at h; cases h
      | some cs => rw [q] at h; cases h; cases r1; rw [bls_rel r2 q]; rfl
    | _ => cases h
theorem ints_rel {ι : List Addr} {H : Hp} : ∀ {ds : List D} {vs : List V} {bs : List Int}, RelDs K cA ι H ds vs → intsOf ds = some bs → vs = bs.map V.int
  | [], _, _, .nil, h => by cases h; rfl
  | d :: ds, _, bs, .cons r1 r2, h => by
    cases d with
    | int b =>
      unfold intsOf at h
      cases q : intsOf ds with
      | none => rw [q] at h; cases h
      | some cs => rw [q] at h; cases h; cases r1; rw [ints_rel r2 q]; rfl
    | _ => cases h
theorem strs_rel {ι : List Addr} {H : Hp} : ∀ {ds : List D} {vs : List V} {bs : List Str}, RelDs K cA ι H ds vs → strsOf ds = some bs → vs = bs.map V.str
  | [], _, _, .nil, h => by cases h; rfl
  | d :: ds, _, bs, .cons r1 r2, h => by
    cases d with
    | str b =>
      unfold strsOf at h
      cases q : strsOf ds with
      | none => rw [q] at h; cases h
      | some cs => rw [q] at h; cases h; cases r1; rw [strs_rel r2 q]; rfl
    | _ => cases h
abbrev rLenAll (K : PySem.W.Frag) : List V → Hp → VK → Prop := fun xs H Q => ((fun xs H Q => ∃ x n, xs = [x] ∧ LenV K x H n ∧ Q (.int n) H) xs H Q ∨ (fun xs H Q => ∃ a kvs, xs = [V.ref a] ∧ H a = some (.dK kvs) ∧ Q (.int kvs.length) H) xs H Q) ∨ rLenT xs H Q
theorem call_lenAll : CallR X (.builtin "len") (rLenAll X.K) := CallR.or (CallR.or call_len call_lenD) call_len_dT
theorem o_len : OpLD K cA (rLenAll K) fLen := by
  intro ι H S xs vs d S' Q R r e p
  cases xs with
  | nil => cases e
  | cons x xs =>
    cases xs with
    | cons y ys => cases x <;> cases e
    | nil =>
      obtain ⟨v, rfl, r0⟩ := r.one
      have go : (match getS S x with
        | some ys => some (D.int (ys.length : Nat), S)
        | none => match getC S x with
          | some (_, .dK kvs) => some (.int (kvs.length : Nat), S)
          | some (_, .dT kvs) => some (.int (kvs.length : Nat), S)
          | _ => none) = some (d, S') → rLenAll K [v] H Q := fun e => by
        cases q : getS S x with
        | some ys =>
          rw [q] at e; cases e
          obtain ⟨a, vs, rfl, h1, h2⟩ := getS_rel R r0 q
          refine .inl (.inl ⟨_, ys.length, rfl, ?_, p _ H ι Ext.refl R (.int _)⟩)
          rw [h2.length]
          rcases h1 with h1 | h1
          · exact .inl ⟨vs, h1, rfl⟩
          · exact .inr ⟨vs, h1, rfl⟩
        | none =>
          simp only [q] at e
          cases q2 : getC S x with
          | none => rw [q2] at e; cases e
          | some z =>
            obtain ⟨n, c⟩ := z
            rw [q2] at e
            obtain ⟨rfl, hc⟩ := getC_at q2
            cases r0 with
            | @ref _ a ha =>
              obtain ⟨o, h1, h2⟩ := R.cellAt hc ha
              cases h2 with
              | dK hp => cases e; exact .inl (.inr ⟨a, _, rfl, h1, by rw [← Paired.length' hp]; exact p _ H ι Ext.refl R (.int _)⟩)
              | dT hp => cases e; exact .inr ⟨a, _, rfl, h1, by rw [← Paired.length' hp]; exact p _ H ι Ext.refl R (.int _)⟩
              | _ => cases e
      cases x with
      | str y =>
        unfold fLen at e
        simp only at e
        by_cases c : y.length ≤ sizeLine
        · rw [if_pos c] at e; cases e; cases r0
          exact .inl (.inl ⟨_, y.length, rfl, ⟨c, rfl⟩, p _ H ι Ext.refl R (.int _)⟩)
        · rw [if_neg c] at e; cases e
      | _ => exact go e
theorem o_2I {g : Int → Int → Int} : OpLD K cA (fun xs H Q => ∃ i j, xs = [.int i, .int j] ∧ Q (.int (g i j)) H) (f2I g) := by
  intro ι H S xs vs d S' Q R r e p
  unfold f2I at e
  split at e
  · cases e
    obtain ⟨v, u, rfl, r1, r2⟩ := r.two
    cases r1; cases r2
    exact ⟨_, _, rfl, p _ H ι Ext.refl R (.int _)⟩
  · cases e
theorem o_abs : OpLD K cA (fun xs H Q => ∃ i, xs = [.int i] ∧ Q (.int (if i < 0 then -i else i)) H) fAbs := by
  intro ι H S xs vs d S' Q R r e p
  unfold fAbs at e
  split at e
  · cases e
    obtain ⟨v, rfl, r0⟩ := r.one
    cases r0
    exact ⟨_, rfl, p _ H ι Ext.refl R (.int _)⟩
  · cases e
abbrev rIntAll : List V → Hp → VK → Prop := fun xs H Q => ((fun xs H Q => (∃ i, xs = [V.int i] ∧ Q (.int i) H) ∨ ∃ k, xs = [V.bl k] ∧ Q (.int (if k then 1 else 0)) H) : List V → Hp → VK → Prop) xs H Q ∨
  ((fun xs H Q => ∃ a n, xs = [V.str a] ∧ PySem.intText? a = some n ∧ a.length ≤ 640 ∧ Q (.int n) H) : List V → Hp → VK → Prop) xs H Q
theorem call_intAll : CallR X (.type "int") rIntAll := CallR.or call_int1 call_int_str
theorem o_intc : OpLD K cA rIntAll fInt := by
  intro ι H S xs vs d S' Q R r e p
  unfold fInt at e
  split at e
  · cases e
    obtain ⟨v, rfl, r0⟩ := r.one
    cases r0
    exact .inl (.inl ⟨_, rfl, p _ H ι Ext.refl R (.int _)⟩)
  · cases e
    obtain ⟨v, rfl, r0⟩ := r.one
    cases r0
    exact .inl (.inr ⟨_, rfl, p _ H ι Ext.refl R (.int _)⟩)
  · rename_i a
    obtain ⟨v, rfl, r0⟩ := r.one
    cases r0
    cases q : PySem.intText? a with
    | none => rw [q] at e; cases e
    | some n =>
      rw [q] at e
      simp only at e
      by_cases c : a.length ≤ 640
      · rw [if_pos c] at e; cases e
        exact .inr ⟨_, _, rfl, q, c, p _ H ι Ext.refl R (.int _)⟩
      · rw [if_neg c] at e; cases e
  · cases e
abbrev rStrAll : List V → Hp → VK → Prop := fun xs H Q => ((fun xs H Q => ∃ i : Int, xs = [V.int i] ∧ i.natAbs.log2 < 1920 ∧ Q (.str (toString i)) H) : List V → Hp → VK → Prop) xs H Q ∨
  ((fun xs H Q => ∃ a, xs = [V.str a] ∧ Q (.str a) H) : List V → Hp → VK → Prop) xs H Q
theorem call_strAll : CallR X (.type "str") rStrAll := CallR.or call_str_int SkE.call_str_str
theorem o_strc : OpLD K cA rStrAll fStr := by
  intro ι H S xs vs d S' Q R r e p
  unfold fStr at e
  split at e
  · rename_i i
    obtain ⟨v, rfl, r0⟩ := r.one
    cases r0
    by_cases c : i.natAbs.log2 < 1920
    · rw [if_pos c] at e; cases e
      exact .inl ⟨_, rfl, c, p _ H ι Ext.refl R (.str _)⟩
    · rw [if_neg c] at e; cases e
  · cases e
    obtain ⟨v, rfl, r0⟩ := r.one
    cases r0
    exact .inr ⟨_, rfl, p _ H ι Ext.refl R (.str _)⟩
  · cases e
theorem o_divmod : OpLD K cA (fun xs H Q => ∃ i j, xs = [.int i, .int j] ∧ CDivP i j ∧ ∀ p, H p = none → Q (.ref p) (upd H p (.tup [.int (i / j), .int (i % j)]))) fDivmod := by
  intro ι H S xs vs d S' Q R r e p
  unfold fDivmod at e
  split at e
  · rename_i i j
    obtain ⟨v, u, rfl, r1, r2⟩ := r.two
    cases r1; cases r2
    by_cases c : 0 < j ∧ j.natAbs.log2 < 9000
    · rw [if_pos c] at e; cases e
      exact ⟨i, j, rfl, ⟨c.1, PyProof.noPylong_of_log2 c.2⟩, new_tup R (.cons (.int _) (.cons (.int _) .nil)) p⟩
    · rw [if_neg c] at e; cases e
  · cases e
theorem o_any : OpLD K cA (rAny K) fAny := by
  intro ι H S xs vs d S' Q R r e p
  unfold fAny at e
  split at e
  · rename_i x
    obtain ⟨v, rfl, r0⟩ := r.one
    cases q : getL S x with
    | none => rw [q] at e; cases e
    | some ys =>
      simp only [q] at e
      cases q2 : blsOf ys with
      | none => rw [q2] at e; cases e
      | some bs =>
        rw [q2] at e; cases e
        obtain ⟨a, ws, rfl, h1, h2⟩ := R.getL r0 q
        rw [bls_rel h2 q2] at h1
        exact ⟨a, bs, rfl, h1, p _ H ι Ext.refl R (.bl _)⟩
  · cases e
theorem o_all : OpLD K cA (rAll K) fAll := by
  intro ι H S xs vs d S' Q R r e p
  unfold fAll at e
  split at e
  · rename_i x
    obtain ⟨v, rfl, r0⟩ := r.one
    cases q : getL S x with
    | none => rw [q] at e; cases e
    | some ys =>
      simp only [q] at e
      cases q2 : blsOf ys with
      | none => rw [q2] at e; cases e
      | some bs =>
        rw [q2] at e; cases e
        obtain ⟨a, ws, rfl, h1, h2⟩ := R.getL r0 q
        rw [bls_rel h2 q2] at h1
        exact ⟨a, bs, rfl, h1, p _ H ι Ext.refl R (.bl _)⟩
  · cases e
theorem o_sum : OpLD K cA (rSum K) fSum := by
  intro ι H S xs vs d S' Q R r e p
  unfold fSum at e
  split at e
  · rename_i x
    obtain ⟨v, rfl, r0⟩ := r.one
    cases q : getL S x with
    | none => rw [q] at e; cases e
    | some ys =>
      simp only [q] at e
      cases q2 : intsOf ys with
      | none => rw [q2] at e; cases e
      | some bs =>
        rw [q2] at e; cases e
        obtain ⟨a, ws, rfl, h1, h2⟩ := R.getL r0 q
        rw [ints_rel h2 q2] at h1
        exact ⟨a, bs, rfl, h1, p _ H ι Ext.refl R (.int _)⟩
  · cases e
theorem ext_max : ∀ (ns : List Int) (m : Int), m ∈ ns → (∀ y, y ∈ ns → y ≤ m) → extI max ns = m
  | [], _, h, _ => nomatch h
  | [x], m, h, _ => by simp at h; exact h.symm
  | x :: y :: r, m, h, hb => by
    have hx : x ≤ m := hb x List.mem_cons_self
    show max x (extI max (y :: r)) = m
    by_cases c : m ∈ y :: r
    · rw [ext_max (y :: r) m c fun z hz => hb z (List.mem_cons_of_mem _ hz)]; omega
    · have hm : m = x := by
        rcases List.mem_cons.mp h with h | h
        · exact h
        · exact absurd h c
      subst hm
      have : ∀ ns : List Int, ns ≠ [] → (∀ z, z ∈ ns → z ≤ m) → extI max ns ≤ m := by
        intro ns
        induction ns with
        | nil => intro h; exact absurd rfl h
        | cons a t ih =>
          intro _ hz
          cases t with
          | nil => exact hz a List.mem_cons_self
          | cons b t =>
            have h1 := ih (by simp) fun z hz' => hz z (List.mem_cons_of_mem _ hz')
            have h2 := hz a List.mem_cons_self
            show max a (extI max (b :: t)) ≤ m
            omega
      have := this (y :: r) (by simp) fun z hz => hb z (List.mem_cons_of_mem _ hz)
      omega
theorem ext_min : ∀ (ns : List Int) (m : Int), m ∈ ns → (∀ y, y ∈ ns → m ≤ y) → extI min ns = m
  | [], _, h, _ => nomatch h
  | [x], m, h, _ => by simp at h; exact h.symm
  | x :: y :: r, m, h, hb => by
    have hx : m ≤ x := hb x List.mem_cons_self
    show min x (extI min (y :: r)) = m
    by_cases c : m ∈ y :: r
    · rw [ext_min (y :: r) m c fun z hz => hb z (List.mem_cons_of_mem _ hz)]; omega
    · have hm : m = x := by
        rcases List.mem_cons.mp h with h | h
        · exact h
        · exact absurd h c
      subst hm
      have : ∀ ns : List Int, ns ≠ [] → (∀ z, z ∈ ns → m ≤ z) → m ≤ extI min ns := by
        intro ns
        induction ns with
        | nil => intro h; exact absurd rfl h
        | cons a t ih =>
          intro _ hz
          cases t with
          | nil => exact hz a List.mem_cons_self
          | cons b t =>
            have h1 := ih (by simp) fun z hz' => hz z (List.mem_cons_of_mem _ hz')
            have h2 := hz a List.mem_cons_self
            show m ≤ min a (extI min (b :: t))
            omega
      have := this (y :: r) (by simp) fun z hz => hb z (List.mem_cons_of_mem _ hz)
      omega
theorem o_maxL : OpLD K cA (rMax K) fMaxL := by
  intro ι H S xs vs d S' Q R r e p
  unfold fMaxL at e
  split at e
  · rename_i x
    obtain ⟨v, rfl, r0⟩ := r.one
    cases q : getL S x with
    | none => rw [q] at e; cases e
    | some ys =>
      simp only [q] at e
      cases q2 : intsOf ys with
      | none => rw [q2] at e; cases e
      | some bs =>
        cases bs with
        | nil => rw [q2] at e; cases e
        | cons n ns =>
          rw [q2] at e; cases e
          obtain ⟨a, ws, rfl, h1, h2⟩ := R.getL r0 q
          rw [ints_rel h2 q2] at h1
          exact ⟨a, _, rfl, h1, by simp, fun m h3 h4 => by rw [← ext_max _ m h3 h4]; exact p _ H ι Ext.refl R (.int _)⟩
  · cases e
theorem o_minL : OpLD K cA (rMin K) fMinL := by
  intro ι H S xs vs d S' Q R r e p
  unfold fMinL at e
  split at e
  · rename_i x
    obtain ⟨v, rfl, r0⟩ := r.one
    cases q : getL S x with
    | none => rw [q] at e; cases e
    | some ys =>
      simp only [q] at e
      cases q2 : intsOf ys with
      | none => rw [q2] at e; cases e
      | some bs =>
        cases bs with
        | nil => rw [q2] at e; cases e
        | cons n ns =>
          rw [q2] at e; cases e
          obtain ⟨a, ws, rfl, h1, h2⟩ := R.getL r0 q
          rw [ints_rel h2 q2] at h1
          exact ⟨a, _, rfl, h1, by simp, fun m h3 h4 => by rw [← ext_min _ m h3 h4]; exact p _ H ι Ext.refl R (.int _)⟩
  · cases e
theorem o_listOf : OpLD K cA (fun xs H Q => ∃ p ys, xs = [.ref p] ∧ (SqL K H p ys ∨ SqT K H p ys) ∧ ∀ l, H l = none → Q (.ref l) (upd H l (.lst ys))) fListOf := by
  intro ι H S xs vs d S' Q R r e p
  unfold fListOf at e
  split at e
  · rename_i x
    obtain ⟨v, rfl, r0⟩ := r.one
    cases q : getS S x with
    | none => rw [q] at e; cases e
    | some ys =>
      rw [q] at e; cases e
      obtain ⟨a, ws, rfl, h1, h2⟩ := getS_rel R r0 q
      exact ⟨a, ws, rfl, h1, new_list R h2 p⟩
  · cases e
theorem o_tupleOf : OpLD K cA (fun xs H Q => ∃ p ys, xs = [.ref p] ∧ ((SqL K H p ys ∧ ∀ l, H l = none → Q (.ref l) (upd H l (.tup ys))) ∨ (SqT K H p ys ∧ Q (.ref p) H))) fTupleOf := by
  intro ι H S xs vs d S' Q R r e p
  unfold fTupleOf at e
  split at e
  · rename_i x
    obtain ⟨v, rfl, r0⟩ := r.one
    cases q : x.tupL with
    | some ys =>
      simp only [q] at e; cases e
      obtain ⟨a, ws, rfl, h1, h2⟩ := r0.tupR q
      exact ⟨a, ws, rfl, .inr ⟨h1, p _ H ι Ext.refl R r0⟩⟩
    | none =>
      simp only [q] at e
      cases q2 : getL S x with
      | none => rw [q2] at e; cases e
      | some ys =>
        rw [q2] at e; cases e
        obtain ⟨a, ws, rfl, h1, h2⟩ := R.getL r0 q2
        exact ⟨a, ws, rfl, .inl ⟨h1, new_tup R h2 p⟩⟩
  · cases e
end

/-! ### isinstance of a builtin type -/
def isiT (t c : String) : Bool := t == c || (t == "bool" && c == "int")
def tyNames : List String := ["NoneType", "bool", "int", "str", "list", "tuple", "dict"]
def tyD (S : Store) : D → Option String
  | .non => some "NoneType"
  | .bl _ => some "bool"
  | .int _ => some "int"
  | .str _ => some "str"
  | .tup _ => some "tuple"
  | .ct _ => some "tuple"
  | .ref n => match S[n]? with
    | some (.lst _) => some "list"
    | some (.frz (.lst _)) => some "list"
    | some (.dK _) => some "dict"
    | some (.frz (.dK _)) => some "dict"
    | some (.dT _) => some "dict"
    | _ => none
  | _ => none
def sIsi (c : String) (m : SE) : SE := fun env S => (m env S).bind fun d S1 => match tyD S1 d with
  | some t => .ok (.bl (isiT t c)) S1
  | none => .stuck
def kitOkB (c : String) : Bool := tyNames.all fun t => kitB t c == some (isiT t c)
section
variable {K : PySem.W.Frag} {cA : String → Addr} {W : WX} {X : Cx}
theorem tyD_rel {ι : List Addr} {S : Store} {H : Hp} (R : RS K cA ι S H) {d : D} {v : V} {t : String} (r : RelD K cA ι H d v) (h : tyD S d = some t) : TyX K H v (.type t) ∧ t ∈ tyNames := by
  cases r with
  | non => cases h; exact ⟨.base .non, by decide⟩
  | bl b => cases h; exact ⟨.base (.bl b), by decide⟩
  | int i => cases h; exact ⟨.base (.int i), by decide⟩
  | str s => cases h; exact ⟨.base (.str s), by decide⟩
  | tup h1 h2 => cases h; exact ⟨.base (.tup h1), by decide⟩
  | ktup h1 h2 h3 h4 h5 h6 => cases h; exact ⟨.kTuple h1 h2, by decide⟩
  | @ref n a ha =>
    unfold tyD at h
    simp only at h
    cases q : S[n]? with
    | none => rw [q] at h; cases h
    | some c =>
      obtain ⟨o, h1, h2⟩ := R.cellAt q ha
      rw [q] at h
      cases h2 with
      | lst h3 => cases h; exact ⟨.base (.lst h1), by decide⟩
      | dK h3 => cases h; exact ⟨.base (.dK h1), by decide⟩
      | dT h3 => cases h; exact ⟨.base (.dT h1), by decide⟩
      | ins h3 => cases h
      | frz h3 =>
        cases h3 with
        | lst h4 => cases h; exact ⟨.base (.frz h1), by decide⟩
        | dK h4 => cases h; exact ⟨.fDict h1, by decide⟩
        | _ => cases h
  | exv h1 => cases h
  | kd => cases h
  | kl h1 => cases h
  | gl => cases h
theorem de_isi {e : Expr} {p p2 pos : Pos} {m : SE} {c : String} {cs : Str} (hK : X.K = K) (he : PE X e (rdE K cA W m)) (hc : PE X (.Name cs p2) (tC (.ty c))) (hk : kitOkB c = true) (hg : Gl X "isinstance") (hm : X.mg "isinstance" = none)
    (hs : starEach [e, .Name cs p2] X.env = (false, eval e X.env) :: starEach [.Name cs p2] X.env := by rfl) :
    PE X (.Call (.Name "isinstance" p) [e, .Name cs p2] [] pos) (rdE K cA W (sIsi c m)) := PE.weak (pe_callB call_isi hg hm (by rfl) (pa_cons he (pa_cons hc pa_nil (by rfl)) hs) (he := hs)) fun σ H Q q => by
  obtain ⟨ι, S, env, R, E, q⟩ := rdE_fin q
  refine rd_seq R E q fun d v S1 H1 ι1 x1 R1 E1 r1 q1 => ?_
  cases z : tyD S1 d with
  | none => rw [z] at q1; exact q1.elim
  | some t =>
    rw [z] at q1
    obtain ⟨h1, h2⟩ := tyD_rel R1 r1 z
    have h3 := List.all_eq_true.mp hk t h2
    simp only [beq_iff_eq] at h3
    refine ⟨v, .ty c, .type t, .type c, isiT t c, rfl, .ty c, by rw [hK]; exact h1, kit_ty h3, ?_⟩
    exact q1 _ H1 ι1 Ext.refl R1 (.bl _)
end
theorem kit_bool : kitOkB "bool" = true := by decide +kernel
theorem kit_int : kitOkB "int" = true := by decide +kernel
theorem kit_str : kitOkB "str" = true := by decide +kernel
theorem kit_list : kitOkB "list" = true := by decide +kernel
theorem kit_tuple : kitOkB "tuple" = true := by decide +kernel
theorem kit_dict : kitOkB "dict" = true := by decide +kernel
end Z
set_option Elab.async false
set_option linter.all false
set_option maxRecDepth 100000
set_option maxHeartbeats 2000000
namespace Z
open PySem PySem.Spec PySem.W PySem.Calls PyProof.Rows L2

/-! ### methods of builtin types -/
def tyB (T : String) (S : Store) : D → Bool
  | .str _ => T == "str"
  | .ref n => match S[n]? with
    | some (.lst _) => T == "list"
    | some (.frz (.lst _)) => T == "list"
    | some (.dK _) => T == "dict"
    | some (.dT _) => T == "dict"
    | _ => false
  | _ => false
def sMt (T : String) (f : D → OpL) (mo : SE) (ma : SA) : SE := fun env S => (mo env S).bind fun o S1 => if tyB T S1 o = true then (ma env S1).bind fun xs S2 => Res.of (f o xs S2) else .stuck
section
variable {K : PySem.W.Frag} {cA : String → Addr} {W : WX} {X : Cx}
theorem tyB_rel {ι : List Addr} {S : Store} {H : Hp} {T : String} (R : RS K cA ι S H) {d : D} {v : V} (r : RelD K cA ι H d v) (h : tyB T S d = true) : tyV K T v H := by
  cases r with
  | str s => exact (show T = "str" by simpa [tyB] using h)
  | @ref n a ha =>
    unfold tyB at h
    simp only at h
    cases q : S[n]? with
    | none => rw [q] at h; cases h
    | some c =>
      obtain ⟨o, h1, h2⟩ := R.cellAt q ha
      rw [q] at h
      cases h2 with
      | lst h3 => exact .inl ⟨by simpa using h, _, SqL.of h1⟩
      | dK h3 => exact .inr (.inr (.inl ⟨by simpa using h, .inl ⟨_, h1⟩⟩))
      | dT h3 => exact .inr (.inr (.inl ⟨by simpa using h, .inr ⟨_, h1⟩⟩))
      | ins h3 => cases h
      | frz h3 =>
        cases h3 with
        | lst h4 => exact .inl ⟨by simpa using h, _, .inl (.inr ⟨_, h1⟩)⟩
        | _ => cases h
  | _ => cases h
theorem mt_ok {T : String} {f : D → OpL} {r : V → List V → Hp → VK → Prop} (hf : MtD K cA r f) {mo : SE} {ma : SA} {σ : L2.St} {H : Hp} {Q : VK} (q : rdE K cA W (sMt T f mo ma) σ H Q) : tBM K T r (rdE K cA W mo) (rdA K cA W ma) σ H Q := by
  obtain ⟨ι, S, env, R, E, q⟩ := rdE_fin q
  refine rd_seq R E q fun d v S1 H1 ι1 x1 R1 E1 r1 q1 => ?_
  by_cases c : tyB T S1 d = true
  · rw [if_pos c] at q1
    refine ⟨tyB_rel R1 r1 c, ?_⟩
    refine rdA_seq R1 E1 q1 fun ds vs S2 H2 ι2 x2 R2 E2 r2 q2 => ?_
    obtain ⟨d', S', e, p⟩ := fin_of q2
    exact hf ι2 H2 S2 d v ds vs d' S' Q R2 (r1.mono x2) r2 e p
  · rw [if_neg c] at q1; exact q1.elim
theorem de_mt {T id : String} {f : D → OpL} {r : V → List V → Hp → VK → Prop} {o e : Expr} {es : List Expr} {name : Str} {apos cpos : Pos} {mo : SE} {ma : SA} (hK : X.K = K) (pa : PlainAttrs T) (slot : Slot T name id) (hty : typeOf (.builtin id) = pure (.type "method_descriptor")) (hm : MtR X id r) (hf : MtD K cA r f)
    (ho : PE X o (rdE K cA W mo)) (ha : PA X (e :: es) (rdA K cA W ma))
    (hbase : attributeBase o name X.env (eval o X.env) = eval o X.env := by rfl)
    (hfew : ((backTo cpos (starEach (e :: es) X.env)).all (fun x => !x.1) && (backToKw cpos (keywordEach [] X.env)).all (fun x => x.1.isSome)
      && decide ((e :: es).length + ([] : List Keyword).length + (if ([] : List Keyword).isEmpty then 0 else 1) < 30)) = true := by rfl)
    (hline : (apos.endLine == cpos.line) = true := by rfl) (hs : starEach (e :: es) X.env = (false, eval e X.env) :: starEach es X.env := by rfl) (hplain : (backTo cpos (starEach es X.env)).any (·.1) = false := by rfl) :
    PE X (.Call (.Attribute o name apos) (e :: es) [] cpos) (rdE K cA W (sMt T f mo ma)) := by
  subst hK
  exact PE.weak (pe_bm pa slot hty hm ho ha hbase hfew hline hs hplain) fun σ H Q q => mt_ok hf q
theorem de_mt0 {T id : String} {f : D → OpL} {r : V → List V → Hp → VK → Prop} {o : Expr} {name : Str} {apos cpos : Pos} {mo : SE} (hK : X.K = K) (pa : PlainAttrs T) (slot : Slot T name id) (hty : typeOf (.builtin id) = pure (.type "method_descriptor")) (hm : MtR X id r) (hf : MtD K cA r f)
    (ho : PE X o (rdE K cA W mo)) (hbase : attributeBase o name X.env (eval o X.env) = eval o X.env := by rfl) (hline : (apos.endLine == cpos.line) = true := by rfl) :
    PE X (.Call (.Attribute o name apos) [] [] cpos) (rdE K cA W (sMt T f mo sNilA)) := by
  subst hK
  refine PE.weak (pe_bm0 pa slot hty hm ho hbase hline) fun σ H Q q => ?_
  obtain ⟨ι, S, env, R, E, q⟩ := rdE_fin (mt_ok hf q)
  refine rdE_mk R E ?_
  revert q
  cases mo env S with
  | ok d S1 =>
    intro q v H1 ι1 x1 R1 r1
    obtain ⟨h1, h2⟩ := q v H1 ι1 x1 R1 r1
    obtain ⟨ι', S', env', R', E', q'⟩ := rdA_fin h2
    exact ⟨h1, q' [] H1 ι' Ext.refl R' .nil⟩
  | exc C S1 => exact fun q => q
  | stuck => exact fun q => q
end
/-! lists' own -/
def mSet (S : Store) (n : Nat) (xs : List D) (d : D) : Option (D × Store) := some (d, S.set n (.lst xs))
def fAppend : D → OpL := fun x vs S => match getM S x, vs with
  | some (n, xs), [y] => if xs.length < sizeLine then mSet S n (xs ++ [y]) .non else none
  | _, _ => none
def fExtend : D → OpL := fun x vs S => match getM S x, vs with
  | some (n, xs), [y] => match getM S y with
    | some (_, ys) => if xs.length + ys.length ≤ sizeLine then mSet S n (xs ++ ys) .non else none
    | none => none
  | _, _ => none
def fReverse : D → OpL := fun x vs S => match getM S x, vs with
  | some (n, xs), [] => mSet S n xs.reverse .non
  | _, _ => none
def fClear : D → OpL := fun x vs S => match getM S x, vs with
  | some (n, _), [] => mSet S n [] .non
  | _, _ => none
def fPop : D → OpL := fun x vs S => match getM S x, vs with
  | some (n, xs), [] => match xs[xs.length - 1]? with
    | some y => mSet S n xs.dropLast y
    | none => none
  | _, _ => none
/-- a text's own -/
def mStr1 (g : Str → Str → D) : D → OpL := fun x vs S => match x, vs with
  | .str a, [.str b] => some (g a b, S)
  | _, _ => none
def fEndswith : D → OpL := mStr1 fun a b => .bl (Txt.endswith a b)
def fStartswith : D → OpL := mStr1 fun a b => .bl (Txt.startswith a b)
def fFind : D → OpL := mStr1 fun a b => .int (Txt.find a b)
def fCount : D → OpL := mStr1 fun a b => .int (Txt.count a b)
def fRstripC : D → OpL := fun x vs S => match x, vs with
  | .str a, [.str b] => if a.length ≤ sizeLine then some (.str (Txt.rstripChars a b), S) else none
  | _, _ => none
def fSplit : D → OpL := fun x vs S => match x, vs with
  | .str a, [.str b] => if (b.length == 0) = false ∧ a.length + 2 ≤ sizeLine then some (.ref S.length, S ++ [.lst ((Txt.split a b).map .str)]) else none
  | _, _ => none
def fJoin : D → OpL := fun x vs S => match x, vs with
  | .str a, [y] => match getS S y with
    | some ds => match strsOf ds with
      | some ys => if (ys.map (·.length)).sum + ys.length * a.length ≤ 16777216 then some (.str (Txt.join a ys), S) else none
      | none => none
    | none => none
  | _, _ => none
section
variable {K : PySem.W.Frag} {cA : String → Addr} {W : WX} {X : Cx}
theorem set_post {ι : List Addr} {S : Store} {H : Hp} {n : Nat} {a : Addr} {vs ws : List V} {ys : List D} {d : D} {v : V} {Q : VK} (R : RS K cA ι S H) (ha : ι[n]? = some a) (ho : H a = some (.lst vs)) (ry : RelDs K cA ι H ys ws) (rd : RelD K cA ι H d v)
    (p : Post K cA ι H d (S.set n (.lst ys)) Q) : Q v (upd H a (.lst ws)) := by
  have mu : ¬ Imm (HO.lst vs) := fun z => z
  exact p v _ ι (Ext.mut ha ho mu) (R.write ha ho mu (.lst (ry.mono (Ext.mut ha ho mu)))) (rd.mono (Ext.mut ha ho mu))
theorem RelDs.nil' {ι : List Addr} {H : Hp} {vs : List V} (r : RelDs K cA ι H [] vs) : vs = [] := by cases r; rfl
theorem RelDs.dropLast {ι : List Addr} {H : Hp} {ds : List D} {vs : List V} (r : RelDs K cA ι H ds vs) : RelDs K cA ι H ds.dropLast vs.dropLast := by
  rw [List.dropLast_eq_take, List.dropLast_eq_take, ← r.length]
  exact RelDs.take (ds := ds) (vs := vs) _ r
theorem m_append : MtD K cA rAppend fAppend := by
  intro ι H S x v xs vs d S' Q R r1 r2 e p
  unfold fAppend at e
  split at e
  · rename_i n ys y q
    obtain ⟨u, rfl, ry⟩ := r2.one
    obtain ⟨a, ws, rfl, rfl, ha, ho, rx⟩ := R.getM r1 q
    by_cases c : ys.length < sizeLine
    · rw [if_pos c] at e; cases e
      exact ⟨a, ws, u, rfl, rfl, ho, by rw [← rx.length]; exact c, set_post R ha ho (rx.append (.cons ry .nil)) .non p⟩
    · rw [if_neg c] at e; cases e
  · cases e
theorem m_extend : MtD K cA rExtend fExtend := by
  intro ι H S x v xs vs d S' Q R r1 r2 e p
  unfold fExtend at e
  split at e
  · rename_i n ys y q
    obtain ⟨u, rfl, ry⟩ := r2.one
    obtain ⟨a, ws, rfl, rfl, ha, ho, rx⟩ := R.getM r1 q
    cases q2 : getM S y with
    | none => rw [q2] at e; cases e
    | some z =>
      obtain ⟨m, zs⟩ := z
      rw [q2] at e
      simp only at e
      obtain ⟨b, us, rfl, rfl, hb, hob, rz⟩ := R.getM ry q2
      by_cases c : ys.length + zs.length ≤ sizeLine
      · rw [if_pos c] at e; cases e
        exact ⟨a, b, ws, us, rfl, rfl, ho, hob, by rw [← rx.length, ← rz.length]; exact c, set_post R ha ho (rx.append rz) .non p⟩
      · rw [if_neg c] at e; cases e
  · cases e
theorem m_reverse : MtD K cA rReverse fReverse := by
  intro ι H S x v xs vs d S' Q R r1 r2 e p
  unfold fReverse at e
  split at e
  · rename_i n ys q
    cases r2.nil'
    obtain ⟨a, ws, rfl, rfl, ha, ho, rx⟩ := R.getM r1 q
    cases e
    exact ⟨a, ws, rfl, rfl, ho, set_post R ha ho rx.reverse .non p⟩
  · cases e
theorem m_clear : MtD K cA rClear fClear := by
  intro ι H S x v xs vs d S' Q R r1 r2 e p
  unfold fClear at e
  split at e
  · rename_i n ys q
    cases r2.nil'
    obtain ⟨a, ws, rfl, rfl, ha, ho, rx⟩ := R.getM r1 q
    cases e
    exact ⟨a, ws, rfl, rfl, ho, set_post R ha ho .nil .non p⟩
  · cases e
theorem m_pop : MtD K cA rPop fPop := by
  intro ι H S x v xs vs d S' Q R r1 r2 e p
  unfold fPop at e
  split at e
  · rename_i n ys q
    cases r2.nil'
    obtain ⟨a, ws, rfl, rfl, ha, ho, rx⟩ := R.getM r1 q
    cases q2 : ys[ys.length - 1]? with
    | none => rw [q2] at e; cases e
    | some y =>
      rw [q2] at e; cases e
      obtain ⟨u, h1, h2⟩ := rx.get q2
      exact ⟨a, ws, u, rfl, rfl, ho, by rw [← rx.length]; exact h1, set_post R ha ho rx.dropLast h2 p⟩
  · cases e
theorem m_str1 {g : Str → Str → D} {g' : Str → Str → V} (hg : ∀ ι H a b, RelD K cA ι H (g a b) (g' a b)) : MtD K cA (fun x xs H Q => ∃ a b, x = .str a ∧ xs = [.str b] ∧ Q (g' a b) H) (mStr1 g) := by
  intro ι H S x v xs vs d S' Q R r1 r2 e p
  unfold mStr1 at e
  split at e
  · cases e
    obtain ⟨u, rfl, ry⟩ := r2.one
    cases r1; cases ry
    exact ⟨_, _, rfl, rfl, p _ H ι Ext.refl R (hg ι H _ _)⟩
  · cases e
theorem m_rstripC : MtD K cA (fun x xs H Q => ∃ a b, x = .str a ∧ xs = [.str b] ∧ a.length ≤ sizeLine ∧ Q (.str (Txt.rstripChars a b)) H) fRstripC := by
  intro ι H S x v xs vs d S' Q R r1 r2 e p
  unfold fRstripC at e
  split at e
  · rename_i a b
    obtain ⟨u, rfl, ry⟩ := r2.one
    cases r1; cases ry
    by_cases c : a.length ≤ sizeLine
    · rw [if_pos c] at e; cases e
      exact ⟨_, _, rfl, rfl, c, p _ H ι Ext.refl R (.str _)⟩
    · rw [if_neg c] at e; cases e
  · cases e
theorem strs_mk {ι : List Addr} {H : Hp} : ∀ ys : List Str, RelDs K cA ι H (ys.map D.str) (ys.map V.str)
  | [] => .nil
  | y :: ys => .cons (.str y) (strs_mk ys)
theorem m_split : MtD K cA (fun x xs H Q => ∃ a b, x = .str a ∧ xs = [.str b] ∧ (b.length == 0) = false ∧ a.length + 2 ≤ sizeLine ∧ rNewStrs (Txt.split a b) H Q) fSplit := by
  intro ι H S x v xs vs d S' Q R r1 r2 e p
  unfold fSplit at e
  split at e
  · rename_i a b
    obtain ⟨u, rfl, ry⟩ := r2.one
    cases r1; cases ry
    by_cases c : (b.length == 0) = false ∧ a.length + 2 ≤ sizeLine
    · rw [if_pos c] at e; cases e
      exact ⟨_, _, rfl, rfl, c.1, c.2, new_list R (strs_mk _) p⟩
    · rw [if_neg c] at e; cases e
  · cases e
theorem m_join : MtD K cA (fun x xs H Q => ∃ a p, ∃ ys : List Str, x = .str a ∧ xs = [.ref p] ∧ (SqL K H p (ys.map V.str) ∨ SqT K H p (ys.map V.str)) ∧ (ys.map (·.length)).sum + ys.length * a.length ≤ 16777216 ∧ Q (.str (Txt.join a ys)) H) fJoin := by
  intro ι H S x v xs vs d S' Q R r1 r2 e p
  unfold fJoin at e
  split at e
  · rename_i a y
    obtain ⟨u, rfl, ry⟩ := r2.one
    cases r1
    cases q : getS S y with
    | none => rw [q] at e; cases e
    | some ds =>
      simp only [q] at e
      cases q2 : strsOf ds with
      | none => rw [q2] at e; cases e
      | some ys =>
        simp only [q2] at e
        by_cases c : (ys.map (·.length)).sum + ys.length * a.length ≤ 16777216
        · rw [if_pos c] at e; cases e
          obtain ⟨b, ws, rfl, h1, h2⟩ := getS_rel R ry q
          rw [strs_rel h2 q2] at h1
          exact ⟨a, b, ys, rfl, rfl, h1, c, p _ H ι Ext.refl R (.str _)⟩
        · rw [if_neg c] at e; cases e
  · cases e
end

/-! ### slices -/
def cutD (xs : List D) (lo hi : Option Int) : List D := (xs.drop (HT.sIx xs.length 0 lo)).take (HT.sIx xs.length xs.length hi - HT.sIx xs.length 0 lo)
def optI (d : D) : Option (Option Int) := match d with
  | .non => some none
  | .int i => some (some i)
  | _ => none
/-- a part of a slice that stands -/
abbrev SO := ES → Store → Res (Option Int)
def soNone : SO := fun _ S => .ok none S
def soSome (m : SE) : SO := fun env S => (m env S).bind fun d S1 => match d with
  | .int i => .ok (some i) S1
  | _ => .stuck
def fSl (x : D) (lo hi : Option Int) (S : Store) : Option (D × Store) := match x with
  | .str z => if z.length ≤ sizeLine then some (.str (cutS z lo hi), S) else none
  | .tup xs => some (.tup (cutD xs lo hi), S)
  | .ct xs => if HT.sIx xs.length 0 lo = 0 ∧ HT.sIx xs.length xs.length hi = xs.length then none else some (.tup (cutD xs lo hi), S)
  | _ => match getL S x with
    | some xs => some (.ref S.length, S ++ [.lst (cutD xs lo hi)])
    | none => none
def sSl (m : SE) (l h : SO) : SE := fun env S => (m env S).bind fun x S1 => (l env S1).bind fun lo S2 => (h env S2).bind fun hi S3 => Res.of (fSl x lo hi S3)
section
variable {K : PySem.W.Frag} {cA : String → Addr} {W : WX} {X : Cx}
def finO (K : PySem.W.Frag) (cA : String → Addr) (W : WX) (σ : L2.St) (ι : List Addr) (H : Hp) (Q : Option Int → Hp → Prop) : Res (Option Int) → Prop
  | .ok b S' => ∀ H' ι', Ext ι H ι' H' → RS K cA ι' S' H' → Q b H'
  | .exc C S' => ∀ H' ι', Ext ι H ι' H' → RS K cA ι' S' H' → W (.ref (cA C)) none σ H'
  | .stuck => False
def rdO (K : PySem.W.Frag) (cA : String → Addr) (W : WX) (m : SO) : TO := fun σ H Q => ∃ ι S env, RS K cA ι S H ∧ REnv K cA ι H env σ ∧ finO K cA W σ ι H Q (m env S)
theorem PO.weak {e : Option Expr} {t t' : TO} (h : PO X e t) (w : ∀ σ H Q, t' σ H Q → t σ H Q) : PO X e t' := ⟨fun pins s σ H Q I q => h.run pins s σ H Q I (w σ H Q q)⟩
theorem do_none : PO X none (rdO K cA W soNone) := PO.weak po_none fun σ H Q q => by
  obtain ⟨ι, S, env, R, E, q⟩ := q
  exact q H ι Ext.refl R
theorem do_some {e : Expr} {m : SE} (h : PE X e (rdE K cA W m)) : PO X (some e) (rdO K cA W (soSome m)) := PO.weak (po_some h) fun σ H Q q => by
  obtain ⟨ι, S, env, R, E, q⟩ := q
  unfold soSome at q
  refine rdE_mk R E ?_
  cases z : m env S with
  | stuck => rw [z] at q; exact q
  | exc C S1 => rw [z] at q; exact q
  | ok d S1 =>
    rw [z] at q
    simp only [bind_ok] at q
    intro v H1 ι1 x1 R1 r1
    cases d with
    | int i => cases r1; exact ⟨i, rfl, q H1 ι1 x1 R1⟩
    | _ => exact q.elim
theorem ro_seq {m : SO} {f : Option Int → Store → Res D} {σ : L2.St} {H : Hp} {Q : VK} {Q1 : Option Int → Hp → Prop} {ι : List Addr} {S : Store} {env : ES} (R : RS K cA ι S H) (E : REnv K cA ι H env σ)
    (h : fin K cA W σ ι H Q ((m env S).bind f))
    (k : ∀ b S1 H1 ι1, Ext ι H ι1 H1 → RS K cA ι1 S1 H1 → REnv K cA ι1 H1 env σ → fin K cA W σ ι1 H1 Q (f b S1) → Q1 b H1) : rdO K cA W m σ H Q1 := by
  refine ⟨ι, S, env, R, E, ?_⟩
  cases q : m env S with
  | ok b S1 =>
    rw [q] at h
    intro H1 ι1 x R1
    exact k b S1 H1 ι1 x R1 (E.mono x) (fin.mono h x)
  | exc C S1 => rw [q] at h; exact h
  | stuck => rw [q] at h; exact h
theorem cut_rel {ι : List Addr} {H : Hp} {xs : List D} {vs : List V} (r : RelDs K cA ι H xs vs) (lo hi : Option Int) : RelDs K cA ι H (cutD xs lo hi) (cutV vs lo hi) := by
  unfold cutD cutV
  rw [← r.length]
  exact RelDs.take (ds := xs) (vs := vs) _ (RelDs.drop (ds := xs) (vs := vs) _ r)
theorem cutD_all {xs : List D} {lo hi : Option Int} (h : HT.sIx xs.length 0 lo = 0 ∧ HT.sIx xs.length xs.length hi = xs.length) : cutD xs lo hi = xs := by
  unfold cutD
  rw [h.1, h.2]
  simp
abbrev rSlAll (K : PySem.W.Frag) : V → Option Int → Option Int → Hp → VK → Prop := fun x lo hi H Q => (rSlS x lo hi H Q ∨ rSlA K x lo hi H Q) ∨ rSlL K x lo hi H Q
theorem sl_all : SlR X (rSlAll X.K) := SlR.or (SlR.or sl_str sl_tupA) sl_list
theorem fSl_ok {ι : List Addr} {S S' : Store} {H : Hp} {x d : D} {v : V} {lo hi : Option Int} {Q : VK} (R : RS K cA ι S H) (r : RelD K cA ι H x v) (e : fSl x lo hi S = some (d, S')) (p : Post K cA ι H d S' Q) : rSlAll K v lo hi H Q := by
  have gl : (match getL S x with
    | some xs => some (.ref S.length, S ++ [.lst (cutD xs lo hi)])
    | none => none) = some (d, S') → rSlAll K v lo hi H Q := fun e => by
    cases q : getL S x with
    | none => rw [q] at e; cases e
    | some xs =>
      rw [q] at e; cases e
      obtain ⟨a, vs, rfl, h1, h2⟩ := R.getL r q
      exact .inr ⟨a, vs, rfl, h1, new_list R (cut_rel h2 lo hi) p⟩
  cases x with
  | str z =>
    unfold fSl at e
    simp only at e
    by_cases c : z.length ≤ sizeLine
    · rw [if_pos c] at e; cases e; cases r
      exact .inl (.inl ⟨z, rfl, c, p _ H ι Ext.refl R (.str _)⟩)
    · rw [if_neg c] at e; cases e
  | tup xs =>
    cases e
    obtain ⟨a, vs, rfl, h1, h2⟩ := r.tupR rfl
    refine .inl (.inr ⟨a, vs, rfl, h1, fun w => ?_, fun _ => new_tup R (cut_rel h2 lo hi) p⟩)
    rw [← h2.length] at w
    rw [cutD_all w] at p
    exact p _ H ι Ext.refl R r
  | ct xs =>
    unfold fSl at e
    simp only at e
    by_cases c : HT.sIx xs.length 0 lo = 0 ∧ HT.sIx xs.length xs.length hi = xs.length
    · rw [if_pos c] at e; cases e
    · rw [if_neg c] at e; cases e
      obtain ⟨a, vs, rfl, h1, h2⟩ := r.tupR rfl
      exact .inl (.inr ⟨a, vs, rfl, h1, fun w => absurd (by rw [← h2.length] at w; exact w) c, fun _ => new_tup R (cut_rel h2 lo hi) p⟩)
  | _ => exact gl e
theorem de_slice {e : Expr} {l h : Option Expr} {p2 pos : Pos} {m : SE} {ml mh : SO} (hK : X.K = K) (he : PE X e (rdE K cA W m)) (hl : PO X l (rdO K cA W ml)) (hh : PO X h (rdO K cA W mh)) : PE X (.Subscript e (.Slice l h none p2) pos) (rdE K cA W (sSl m ml mh)) := by
  subst hK
  exact PE.weak (pe_slice sl_all he hl hh) fun σ H Q q => by
    obtain ⟨ι, S, env, R, E, q⟩ := rdE_fin q
    refine rd_seq R E q fun x v S1 H1 ι1 x1 R1 E1 r1 q1 => ?_
    refine ro_seq R1 E1 q1 fun lo S2 H2 ι2 x2 R2 E2 q2 => ?_
    refine ro_seq R2 E2 q2 fun hi S3 H3 ι3 x3 R3 E3 q3 => ?_
    obtain ⟨d', S', e', p⟩ := fin_of q3
    exact fSl_ok R3 ((r1.mono x2).mono x3) e' p
end

/-! ### o[i] = v -/
def gSubL (mo mi : SE) : Tgt := fun d env S => match mo env S with
  | .ok o S1 => match mi env S1 with
    | .ok (.int k) S2 => match getM S2 o with
      | some (n, xs) => match ixN xs.length k with
        | some j => some (env, S2.set n (.lst (xs.set j d)))
        | none => none
      | none => none
    | _ => none
  | _ => none
section
variable {K : PySem.W.Frag} {cA : String → Addr} {W : WX} {X : Cx}
theorem dg_subL {o i : Expr} {pos : Pos} {mo mi : SE} (ho : PE X o (rdE K cA W mo)) (hi : PE X i (rdE K cA W mi))
    (ha : ∀ v, assign (.Subscript o i pos) X.env v = (do
      let ov ← holding [v] (eval o X.env)
      let iv ← holding [v, ov] (eval i X.env)
      standAt pos
      holding [v, ov, iv] (setItem ov iv v)
      release [v, ov, iv] []) := by intro _; rfl) : PG X (.Subscript o i pos) (rdG K cA (gSubL mo mi)) := PG.weak (pg_sub ho hi set_list ha) fun v σ H Q q => by
  obtain ⟨ι, S, env, d, R, E, r, q⟩ := q
  unfold gSubL at q
  refine rdE_mk R E ?_
  cases z1 : mo env S with
  | stuck => simp only [z1] at q
  | exc C S1 => simp only [z1] at q
  | ok od S1 =>
    simp only [z1] at q
    intro ov H1 ι1 x1 R1 r1
    refine rdE_mk R1 (E.mono x1) ?_
    cases z2 : mi env S1 with
    | stuck => simp only [z2] at q
    | exc C S2 => simp only [z2] at q
    | ok kd S2 =>
      cases kd with
      | int k =>
        simp only [z2] at q
        intro iv H2 ι2 x2 R2 r2
        cases r2
        cases z3 : getM S2 od with
        | none => simp only [z3] at q
        | some p =>
          obtain ⟨n, xs⟩ := p
          simp only [z3] at q
          cases z4 : ixN xs.length k with
          | none => simp only [z4] at q
          | some j =>
            simp only [z4] at q
            obtain ⟨a, vs, -, rfl, ha', ho', rx⟩ := R2.getM (r1.mono x2) z3
            have mu : ¬ Imm (HO.lst vs) := fun z => z
            have xx := Ext.mut (ι := ι2) (o' := HO.lst (vs.set j v)) ha' ho' mu
            refine ⟨a, vs, k, j, rfl, rfl, ho', by rw [← rx.length]; exact z4, ?_⟩
            refine q σ _ ι2 ((x1.trans x2).trans xx) (R2.write ha' ho' mu (.lst (RelDs.mono (RelDs.set (ds := xs) (vs := vs) ((r.mono x1).mono x2) j rx) xx))) (((E.mono x1).mono x2).mono xx)
      | _ => simp only [z2] at q
/-! ### comprehensions -/
theorem de_lc {elt tg iter : Expr} {ifs : List Expr} {scope : Scope} {own : List (Str × Nat)} {pos : Pos} {it : SI} {g : Tgt} {cond : ST} {m : SE} (hc : X.calm = true) (hN : X.N.Nodup) (hi : PI X tg iter (rdI K cA W it)) (ok : BlkOk X.N X.env.scope scope own)
    (hg : ∀ (s : Shared) (H : Hp) (C : Addr) (cl : List (Str × Addr)) (fp : List Addr), PG (X.blk s H scope (compEnvC scope cl C X.env) fp) tg (rdGc K cA (own.map (·.2)) g)) (ht : ∀ (s : Shared) (H : Hp) (C : Addr) (cl : List (Str × Addr)) (fp : List Addr), PTs (X.blk s H scope (compEnvC scope cl C X.env) fp) ifs (rdT K cA W0 cond))
    (he : ∀ (s : Shared) (H : Hp) (C : Addr) (cl : List (Str × Addr)) (fp : List Addr), PE (X.blk s H scope (compEnvC scope cl C X.env) fp) elt (rdE K cA W0 m)) (hs : ∀ x, foldedSetIterable iter X.env x = pure x := by intro _; rfl) :
    PE X (.ListComp elt [⟨tg, iter, ifs, 0⟩] scope pos) (rdE K cA W (sLc (own.map (·.2)) it g cond m)) := PE.weak (pe_lc hc hN hi ok hg ht he hs) fun σ H Q q => lc_ok q
theorem ds_setLc {i : Nat} {y : Str} {py : Pos} {elt tg iter : Expr} {ifs : List Expr} {scope : Scope} {own : List (Str × Nat)} {pos spos : Pos} {it : SI} {g : Tgt} {cond : ST} {m : SE} (hc : X.calm = true) (hN : X.N.Nodup) (hy : X.N[i]? = some y) (hyl : X.env.scope.names.lookup y = some .local)
    (hsw : swapsWith (.ListComp elt [⟨tg, iter, ifs, 0⟩] scope pos) (some (.Name y py)) spos.line X.env = pure true) (hi : PI X tg iter (rdI K cA W it)) (ok : BlkOk X.N X.env.scope scope own)
    (hg : ∀ (s : Shared) (H : Hp) (C : Addr) (cl : List (Str × Addr)) (fp : List Addr), PG (X.blk s H scope (compEnvC scope cl C X.env) fp) tg (rdGc K cA (own.map (·.2)) g)) (ht : ∀ (s : Shared) (H : Hp) (C : Addr) (cl : List (Str × Addr)) (fp : List Addr), PTs (X.blk s H scope (compEnvC scope cl C X.env) fp) ifs (rdT K cA W0 cond))
    (he : ∀ (s : Shared) (H : Hp) (C : Addr) (cl : List (Str × Addr)) (fp : List Addr), PE (X.blk s H scope (compEnvC scope cl C X.env) fp) elt (rdE K cA W0 m)) (hs : ∀ x, foldedSetIterable iter X.env x = pure x := by intro _; rfl) :
    PS X (.Assign [.Name y py] (.ListComp elt [⟨tg, iter, ifs, 0⟩] scope pos) spos) (rdS K cA W (sSet i (sLc (own.map (·.2)) it g cond m))) := PS.weak (ps_setLc hc hN hy hyl hsw hi ok hg ht he hs) fun D σ H q => by
  obtain ⟨ι, S, env, R, E, q⟩ := q
  refine lc_ok (rd_out R E q fun d v S1 H1 ι1 x1 R1 E1 r1 q1 => ?_)
  exact q1 _ _ ι1 Ext.refl R1 (E1.set r1)
end
end Z
set_option Elab.async false
set_option linter.all false
set_option maxRecDepth 100000
set_option maxHeartbeats 2000000
namespace Z
open PySem PySem.Spec PySem.W PySem.Calls PyProof.Rows L2

/-! ### exceptions as values -/
def sExc (C : String) (m : SE) : SE := fun env S => (m env S).bind fun _ S1 => .ok (.exv C) S1
def sExc0 (C : String) : SE := fun _ S => .ok (.exv C) S
/-- isinstance(e, Y), e an exception of one of the classes XS; is: the answer -/
def sIsX (XS : List String) (is : String → Bool) (m : SE) : SE := fun env S => (m env S).bind fun d S1 => match d with
  | .exv C => if C ∈ XS then .ok (.bl (is C)) S1 else .stuck
  | _ => .stuck
/-- what a class X of the top is, asked of Y -/
def KitX2 (K : PySem.W.Frag) (cA : String → Addr) (XS : List String) (cv : Value) (is : String → Bool) : Prop := ∀ C ∈ XS, ExcC K (cA C) ∧ PySem.W.kitOne K (.ref (cA C)) cv = some (is C)
section
variable {K : PySem.W.Frag} {cA : String → Addr} {W : WX} {X : Cx}
theorem exv_post {ι : List Addr} {S : Store} {H : Hp} {C : String} {Q : VK} (R : RS K cA ι S H) (p : Post K cA ι H (.exv C) S Q) : ∀ a, H a = none → Q (.ref a) (upd H a (ExO (.ref (cA C)) a)) := fun a ha =>
  p (.ref a) _ ι (Ext.new ha) (R.grow ha) (.exv upd_same)
theorem de_exc1 {C : String} {bmB : List Value} {B newId initId : String} {x : Str} {e : Expr} {m : SE} {p pos : Pos} (F : ExcBaseFacts B newId initId bmB) (q : PySem.W.excIn X.K (cA C) bmB newId = true) (gC : X.mg x = some (.ref (cA C))) (kC : PySem.W.keepIn X.K (.ref (cA C)) = true) (hg : Gl X x)
    (he : PE X e (rdE K cA W m)) (hs : starEach [e] X.env = (false, eval e X.env) :: starEach [] X.env := by rfl) (hdb : (x == ("__debug__" : Str)) = false := by decide) :
    PE X (.Call (.Name x p) [e] [] pos) (rdE K cA W (sExc C m)) := PE.weak (pe_exc1 F q gC kC hg he hs hdb) fun σ H Q q => by
  obtain ⟨ι, S, env, R, E, q⟩ := rdE_fin q
  exact rd_seq R E q fun d v S1 H1 ι1 x1 R1 E1 r1 q1 => exv_post R1 q1
theorem de_exc0 {C : String} {bmB : List Value} {B newId initId : String} {x : Str} {p pos : Pos} (F : ExcBaseFacts B newId initId bmB) (q : PySem.W.excIn X.K (cA C) bmB newId = true) (gC : X.mg x = some (.ref (cA C))) (kC : PySem.W.keepIn X.K (.ref (cA C)) = true) (hg : Gl X x)
    (hdb : (x == ("__debug__" : Str)) = false := by decide) : PE X (.Call (.Name x p) [] [] pos) (rdE K cA W (sExc0 C)) := by
  refine ⟨fun pins s σ H Q I h => ?_⟩
  obtain ⟨ι, S, env, R, E, h⟩ := rdE_fin h
  refine wpAny_Call_Name_kw (ld_glob I hg gC ?_ hdb)
  refine PySem.W.callWith_K0 I.kIn kC ?_
  show wpAny _ _ (call (.ref (cA C)) []) _ _ _
  obtain ⟨bm, N, nm, qn, bs, hdct, sn, sub, ab, col, dd, k0, k1, k2, k3, k5, mN, hC, hN, hni, T⟩ := exc_obj I.kIn q
  refine wpAny_call_exc_subT F T hC hN hni (fun h' a hm => ?_) (by show 0 ≤ sizeLine; omega)
  have hn : H a = none := I.hok.gone hm.new
  obtain ⟨t, ht, _, _⟩ := hm.there
  exact ⟨.ref a, upd H a (ExO (.ref (cA C)) a), I.laidN hm.keeps hm.new hn (exO_ok ht ⟨rfl, rfl⟩ rfl rfl rfl (show 4 < 6 by decide)), rfl, exv_post R h a hn⟩
theorem de_isx {XS : List String} {is : String → Bool} {e ce : Expr} {p pos : Pos} {m : SE} {c : V} {cv : Value} (hK : X.K = K) (he : PE X e (rdE K cA W m)) (hc : PE X ce (tC c)) (hcv : ∀ u, RelV c u → u = cv) (hk : KitX2 K cA XS cv is) (hg : Gl X "isinstance") (hm : X.mg "isinstance" = none)
    (hs : starEach [e, ce] X.env = (false, eval e X.env) :: starEach [ce] X.env := by rfl) (hs2 : starEach (ce :: []) X.env = (false, eval ce X.env) :: starEach [] X.env := by rfl) (hpl : (backTo pos (starEach [ce] X.env)).any (·.1) = false := by rfl) :
    PE X (.Call (.Name "isinstance" p) [e, ce] [] pos) (rdE K cA W (sIsX XS is m)) := by
  subst hK
  have rule : CallR X (.builtin "isinstance") (fun xs H Q => ∃ (a D : Addr) (b : Bool), xs = [V.ref a, c] ∧ H a = some (ExO (.ref D) a) ∧ ExcC X.K D ∧ PySem.W.kitOne X.K (.ref D) cv = some b ∧ Q (.bl b) H) := by
    intro pins s σ H xs us Q I r h
    obtain ⟨a, D, b, rfl, ha, Cc, e, q⟩ := h
    obtain ⟨u1, u2, rfl, r1, r2⟩ := vals2 r
    have ec := hcv _ r2
    subst ec
    cases (show u1 = Value.ref a from r1)
    obtain ⟨⟨oe, vs, ho, hz, hd, _⟩, _, _⟩ := I.hok a _ ha
    have J : PySem.W.InstAt s.heap a oe D none := by
      obtain ⟨oc, od, oda, osl⟩ := oe
      obtain ⟨h1, h2⟩ := hz
      dsimp only at h1 h2 hd
      subst h1 h2 hd
      exact ⟨ho, rfl, rfl, trivial⟩
    exact PySem.W.kia_one (PySem.W.handS_kitx_exc Cc.hg Cc.hk Cc.hs Cc.hd Cc.ha Cc.hn Cc.ht Cc.hm) I.kIn J e (fun z => nomatch z) fun tk => ⟨.bl b, H, I.kept (t' := tk) fun _ _ z => z, rfl, q⟩
  refine PE.weak (pe_callB rule hg hm (by rfl) (pa_cons he (pa_cons hc pa_nil hs2) hs) (he := hs) (hpl := hpl)) fun σ H Q q => ?_
  obtain ⟨ι, S, env, R, E, q⟩ := rdE_fin q
  refine rd_seq R E q fun d v S1 H1 ι1 x1 R1 E1 r1 q1 => ?_
  cases d with
  | exv C =>
    simp only at q1
    by_cases h : C ∈ XS
    · rw [if_pos h] at q1
      obtain ⟨h1, h2⟩ := hk C h
      cases r1 with
      | @exv _ a ha => exact ⟨a, cA C, is C, rfl, ha, h1, h2, q1 _ H1 ι1 Ext.refl R1 (.bl _)⟩
    · rw [if_neg h] at q1; exact q1.elim
  | _ => exact q1.elim
end
/-! ### names of the top -/
section
variable {K : PySem.W.Frag} {cA : String → Addr} {W : WX} {X : Cx}
theorem de_gint {x : Str} {i : Int} {pos : Pos} (hg : Gl X x) (hm : ∃ t, X.mg x = some (.int i t)) (hd : (x == ("__debug__" : Str)) = false := by decide) : PE X (.Name x pos) (rdE K cA W (sC (.int i))) := by
  obtain ⟨t, hm⟩ := hm
  exact de_c (pe_glob (v := .int i) hg hm ⟨t, rfl⟩ hd) fun _ _ => .int i
theorem de_gstr {x : Str} {i : Str} {pos : Pos} (hg : Gl X x) (hm : ∃ t, X.mg x = some (.str i t)) (hd : (x == ("__debug__" : Str)) = false := by decide) : PE X (.Name x pos) (rdE K cA W (sC (.str i))) := by
  obtain ⟨t, hm⟩ := hm
  exact de_c (pe_glob (v := .str i) hg hm ⟨t, rfl⟩ hd) fun _ _ => .str i
theorem de_gtup {x : Str} {ds : List D} {a : Addr} {pos : Pos} (hg : Gl X x) (hm : X.mg x = some (.ref a)) (r : ∀ ι H, RelD K cA ι H (.ct ds) (.ref a)) (hd : (x == ("__debug__" : Str)) = false := by decide) : PE X (.Name x pos) (rdE K cA W (sC (.ct ds))) :=
  de_c (pe_glob (v := .ref a) hg hm rfl hd) r
/-- nothing is said -/
def sStuckE : SE := fun _ _ => .stuck
def sStuckS : SS := fun _ _ => .stuck
theorem de_stuck {e : Expr} : PE X e (rdE K cA W sStuckE) := ⟨fun pins s σ H Q I q => by
  obtain ⟨ι, S, env, R, E, q⟩ := rdE_fin q
  exact q.elim⟩
theorem ds_stuck {st : Stmt} : PS X st (rdS K cA W sStuckS) := ⟨fun pins s σ H D I q => by
  obtain ⟨ι, S, env, R, E, q⟩ := q
  exact q.elim⟩
theorem dss_stuck {st : List Stmt} : PSs X st (rdS K cA W sStuckS) := ⟨fun pins s σ H D I q => by
  obtain ⟨ι, S, env, R, E, q⟩ := q
  exact q.elim⟩
/-! dicts anew -/
def sDNewT : SE := fun _ S => .ok (.ref S.length) (S ++ [.dT []])
def sDNewK : SE := fun _ S => .ok (.ref S.length) (S ++ [.dK []])
theorem de_dnewT {pos : Pos} : PE X (.Dict [] [] pos) (rdE K cA W sDNewT) := PE.weak pe_dnewT fun σ H Q q => by
  obtain ⟨ι, S, env, R, E, q⟩ := rdE_fin q
  intro a ha
  exact q (.ref a) _ (ι ++ [a]) (Ext.alloc ha) (R.alloc ha (.dT .nil)) (.ref (by rw [← R.len]; simp))
theorem de_dnewK {pos : Pos} : PE X (.Dict [] [] pos) (rdE K cA W sDNewK) := PE.weak pe_dnewK fun σ H Q q => by
  obtain ⟨ι, S, env, R, E, q⟩ := rdE_fin q
  intro a ha
  exact q (.ref a) _ (ι ++ [a]) (Ext.alloc ha) (R.alloc ha (.dK .nil)) (.ref (by rw [← R.len]; simp))
/-- dict(d), d of one key each -/
def fDictK : OpL := fun xs S => match xs with
  | [d] => match getC S d with
    | some (_, .dK kvs) => some (.ref S.length, S ++ [.dK kvs])
    | some (_, .frz (.dK kvs)) => some (.ref S.length, S ++ [.dK kvs])
    | _ => none
  | _ => none
theorem o_dictK : OpLD K cA (fun xs H Q => ∃ (a : Addr) (kvs : List (Key × V)), xs = [.ref a] ∧ Rd H a (.dK kvs) ∧ ∀ p, H p = none → Q (.ref p) (upd H p (.dK kvs))) fDictK := by
  intro ι H S xs vs d S' Q R r e p
  unfold fDictK at e
  split at e
  · rename_i x
    obtain ⟨v, rfl, r0⟩ := r.one
    cases q : getC S x with
    | none => rw [q] at e; cases e
    | some z =>
      obtain ⟨n, c⟩ := z
      rw [q] at e
      obtain ⟨rfl, hc⟩ := getC_at q
      cases r0 with
      | @ref _ a ha =>
        obtain ⟨o, h1, h2⟩ := R.cellAt hc ha
        have go : ∀ (kvs : List (Key × D)) (ws : List (Key × V)), Paired (fun (p : Key × D) (q : Key × V) => p.1 = q.1 ∧ RelD K cA ι H p.2 q.2) kvs ws → Post K cA ι H (.ref S.length) (S ++ [.dK kvs]) Q → ∀ p, H p = none → Q (.ref p) (upd H p (.dK ws)) := fun kvs ws hp p b hb =>
          p (.ref b) _ (ι ++ [b]) (Ext.alloc hb) (R.alloc hb (.dK (Paired.mapP hp fun _ _ r => ⟨r.1, r.2.mono (Ext.alloc hb)⟩))) (.ref (by rw [← R.len]; simp))
        cases h2 with
        | dK hp => cases e; exact ⟨a, _, rfl, .inl h1, go _ _ hp p⟩
        | frz h3 =>
          cases h3 with
          | dK hp => cases e; exact ⟨a, _, rfl, .inr ⟨_, h1⟩, go _ _ hp p⟩
          | _ => cases e
        | _ => cases e
  · cases e
end
end Z
set_option Elab.async false
set_option linter.all false
set_option maxRecDepth 100000
set_option maxHeartbeats 2000000
namespace Z
open PySem PySem.Spec PyProof.Rows L2
section
variable {P : Program} {w : World} {K : PySem.W.Frag} {mg : Str → Option Value} {base : Heap} {cA : String → Addr}
/-- a def keeps the promise of its body's function -/
theorem def_okD {x qual : Str} {params : Arguments} {body : List Stmt} {scope : Scope} {f : Addr} {fd : FuncData} {N ps : List Str} {k : Nat} {b : SS} (F : FunD K x qual params body scope [] [] f fd) (S : FnScope N ps scope)
    (hb : ∀ (cdv : Value) (A : Around) (outer : List Env) (s : Shared) (H : Hp) (E : XK), Room k (A.deeper (envOfC qual scope s.heap.objs.size f cdv)) → (A.deeper (envOfC qual scope s.heap.objs.size f cdv)).units + 66 < cLine →
      PSs (cxOf (L2.CX P w) P w K mg base N qual scope f cdv A outer s H E) body (rdS K cA (fun cls d _ H' => E cls d H') b)) :
    FnOk P w K mg base (L2.CX P w) (k + 1) f fd ps (spD K cA (fnB ps.length N.length b)) := by
  refine F.ok S (fun vs H Q E h => ?_) (fun cdv A outer s H vs Q E hr h => ⟨_, hb cdv A outer s H E hr (by have := hr.un; omega), ?_⟩)
  · obtain ⟨ι, St, ds, R, r, q⟩ := h
    rw [← r.length]
    refine fnB_len (N := N.length) (b := b) (S := St) fun z => ?_
    rw [z] at q; exact q
  · obtain ⟨ι, St, ds, R, r, q⟩ := h
    have hl : ds.length = ps.length := fnB_len (N := N.length) (b := b) (S := St) fun z => by rw [z] at q; exact q
    refine ⟨ι, St, _, R, start_env r N ps.length hl, ?_⟩
    unfold fnB at q
    rw [if_pos hl] at q
    cases z : b (ds.map some ++ List.replicate (N.length - ps.length) none) St with
    | nx e S' => rw [z] at q; exact fun σ' H' ι' x' R' E' => q .non H' ι' x' R' .non
    | rt d S' => rw [z] at q; exact q
    | exc C e S' => rw [z] at q; exact fun σ' H' ι' x' R' E' => q H' ι' x' R'
    | bk e S' => rw [z] at q; exact q.elim
    | ct e S' => rw [z] at q; exact q.elim
    | stuck => rw [z] at q; exact q.elim
/-- a def at f keeps the promise of F, at the level k -/
def OkF (P : Program) (w : World) (K : PySem.W.Frag) (mg : Str → Option Value) (base : Heap) (cA : String → Addr) (k : Nat) (f : Addr) (ps : List Str) (F : SF) : Prop :=
  ∃ fd, Binds K fd ps [] ∧ PySem.W.keepIn K (.ref f) = true ∧ FnOk P w K mg base (L2.CX P w) k f fd ps (spD K cA F)
end
end Z
set_option Elab.async false
set_option linter.all false
set_option maxRecDepth 100000
set_option maxHeartbeats 2000000
namespace Z
open PySem PySem.Spec PyProof.Rows L2
/-! ### facts of the top that are looked at in one Bool -/
/-- where the global of that name stands -/
def cG (K : PySem.W.Frag) (C : String) : Addr := He.ga K (Str.ofString C)
def excCB (K : PySem.W.Frag) (C : String) : Bool := He.eqO (PySem.W.findIn K (.ref (cG K C)) "__getattribute__") (some (some (.builtin "BaseException.__getattribute__"))) && (He.eqO (PySem.W.findIn K (.ref (cG K C)) "__getattr__") (some none) &&
  (decide (PySem.W.subIn K (.ref (cG K C)) (.type "BaseException") = some true) && (PySem.W.hasDictIn K (cG K C) && (He.eqO (PySem.W.findIn K (.ref (cG K C)) "__class__") (some (some (.builtin "object.__class__"))) &&
  (He.eqO (PySem.W.specialIn K (.builtin "object.__class__") "__get__") (some (some (.builtin "getset_descriptor.__get__"))) && (decide (PySem.W.takesIn K (.builtin "object.__class__") = some true) && decide (PySem.W.mroIn K (cG K C) (.type "object") = some true)))))))
theorem excC_ok {K : PySem.W.Frag} {C : String} (h : excCB K C = true) : ExcC K (cG K C) := by
  obtain ⟨h1, h⟩ := He.ba h
  obtain ⟨h2, h⟩ := He.ba h
  obtain ⟨h3, h⟩ := He.ba h
  obtain ⟨h4, h⟩ := He.ba h
  obtain ⟨h5, h⟩ := He.ba h
  obtain ⟨h6, h⟩ := He.ba h
  obtain ⟨h7, h8⟩ := He.ba h
  exact ⟨He.eqO_ok h1, He.eqO_ok h2, of_decide_eq_true h3, h4, He.eqO_ok h5, He.eqO_ok h6, of_decide_eq_true h7, of_decide_eq_true h8⟩
/-- what class C is asked of an own class Y -/
def isX (Y : String) (C : String) : Bool := C == Y || Y == "FallError"
def kitB2 (K : PySem.W.Frag) (XS YS : List String) : Bool := (XS.all fun C => excCB K C) && ((XS.all fun C => YS.all fun Y => decide (PySem.W.kitOne K (.ref (cG K C)) (.ref (cG K Y)) = some (isX Y C))) && XS.all fun C => decide (PySem.W.kitOne K (.ref (cG K C)) (.type "ValueError") = some true))
theorem kitX2_own {K : PySem.W.Frag} {XS YS : List String} (h : kitB2 K XS YS = true) {Y : String} (hY : Y ∈ YS) : KitX2 K (cG K) XS (.ref (cG K Y)) (isX Y) := fun C hC => by
  obtain ⟨h1, h⟩ := He.ba h
  obtain ⟨h2, h3⟩ := He.ba h
  exact ⟨excC_ok (List.all_eq_true.mp h1 C hC), of_decide_eq_true (List.all_eq_true.mp (List.all_eq_true.mp h2 C hC) Y hY)⟩
theorem kitX2_val {K : PySem.W.Frag} {XS YS : List String} (h : kitB2 K XS YS = true) : KitX2 K (cG K) XS (.type "ValueError") (fun _ => true) := fun C hC => by
  obtain ⟨h1, h⟩ := He.ba h
  obtain ⟨h2, h3⟩ := He.ba h
  exact ⟨excC_ok (List.all_eq_true.mp h1 C hC), of_decide_eq_true (List.all_eq_true.mp h3 C hC)⟩
def exmB (K : PySem.W.Frag) (XS : List String) (Y : String) : Bool := XS.all fun C => decide (PySem.W.exmOne K (.ref (cG K C)) (.ref (cG K Y)) = some true)
theorem exmB_ok {K : PySem.W.Frag} {XS : List String} {Y : String} (h : exmB K XS Y = true) : ∀ C ∈ XS, PySem.W.exmOne K (.ref (cG K C)) (.ref (cG K Y)) = some true := fun C hC => of_decide_eq_true (List.all_eq_true.mp h C hC)
/-- a tuple of texts of the top -/
theorem tup_strs {K : PySem.W.Frag} {x : String} {ys : List Str} (h : He.tupB K (Str.ofString x) (ys.map .str) = true) (ι : List Addr) (H : Hp) : RelD K (cG K) ι H (.ct (ys.map .str)) (.ref (cG K x)) := by
  have e : ((ys.map He.Dv.str).map (He.Dv.v K)) = ys.map V.str := by
    rw [List.map_map]; rfl
  unfold He.tupB at h
  have hs : SqT K (fun _ => none) (He.ga K (Str.ofString x)) ((ys.map He.Dv.str).map (He.Dv.v K)) := He.tupB_ok h _
  rw [e] at hs
  rcases hs with hs | ⟨o, its, n, h1, h2, h3, h4, h5⟩
  · exact absurd hs (by
      rintro (h | ⟨_, h⟩) <;> cases h)
  · exact .ktup h1 h2 h3 h4 h5 (strs_mk ys)
theorem tk0 {X : Cx} : Takes X W0 := fun _ _ x => by
  obtain ⟨_, _, _, _, _, _, _, _, _, _, _, _, _, _, _, _, w⟩ := x
  exact w.elim
end Z
set_option Elab.async false
set_option linter.all false
set_option maxRecDepth 100000
set_option maxHeartbeats 2000000
namespace Z
open PySem PySem.Spec PySem.W PySem.Calls PyProof.Rows L2

/-! ### a def that is called with the exception that a suite holds: no loops, nothing raised within -/
/-- isinstance of that exception, which stands at a -/
def sIsP (a : Addr) (b : Bool) (m : SE) : SE := fun env S => (m env S).bind fun d S1 => match d with
  | .kd a' => if a' = a then .ok (.bl b) S1 else .stuck
  | _ => .stuck
section
variable {K : PySem.W.Frag} {cA : String → Addr} {W : WX} {X : Cx}
theorem de_isp {p : Addr × Obj} {D : Addr} {b : Bool} {e ce : Expr} {q pos : Pos} {m : SE} {c : V} {cv : Value} (hK : X.K = K) (hp : p ∈ X.pn) (hz : Zc (.ref D) none p.2) (hf : ∃ vs, p.2.data = .fields vs) (Cc : ExcC K D) (he : PE X e (rdE K cA W m)) (hc : PE X ce (tC c)) (hcv : ∀ u, RelV c u → u = cv)
    (hk : PySem.W.kitOne K (.ref D) cv = some b) (hg : Gl X "isinstance") (hm : X.mg "isinstance" = none)
    (hs : starEach [e, ce] X.env = (false, eval e X.env) :: starEach [ce] X.env := by rfl) (hs2 : starEach (ce :: []) X.env = (false, eval ce X.env) :: starEach [] X.env := by rfl) (hpl : (backTo pos (starEach [ce] X.env)).any (·.1) = false := by rfl) :
    PE X (.Call (.Name "isinstance" q) [e, ce] [] pos) (rdE K cA W (sIsP p.1 b m)) := by
  subst hK
  have rule : CallR X (.builtin "isinstance") (fun xs H Q => xs = [V.ref p.1, c] ∧ Q (.bl b) H) := by
    intro pins s σ H xs us Q I r h
    obtain ⟨rfl, q⟩ := h
    obtain ⟨u1, u2, rfl, r1, r2⟩ := vals2 r
    have ec := hcv _ r2
    subst ec
    cases (show u1 = Value.ref p.1 from r1)
    obtain ⟨hget, _⟩ := I.pin p (List.mem_append_left _ hp)
    obtain ⟨vs, hv⟩ := hf
    have J : PySem.W.InstAt s.heap p.1 p.2 D none := by
      obtain ⟨pa, oc, od, oda, osl⟩ := p
      obtain ⟨h1, h2⟩ := hz
      dsimp only at h1 h2 hv
      subst h1 h2 hv
      exact ⟨hget, rfl, rfl, trivial⟩
    exact PySem.W.kia_one (PySem.W.handS_kitx_exc Cc.hg Cc.hk Cc.hs Cc.hd Cc.ha Cc.hn Cc.ht Cc.hm) I.kIn J hk (fun z => nomatch z) fun tk => ⟨.bl b, H, I.kept (t' := tk) fun _ _ z => z, rfl, q⟩
  refine PE.weak (pe_callB rule hg hm (by rfl) (pa_cons he (pa_cons hc pa_nil hs2) hs) (he := hs) (hpl := hpl)) fun σ H Q q => ?_
  obtain ⟨ι, S, env, R, E, q⟩ := rdE_fin q
  refine rd_seq R E q fun d v S1 H1 ι1 x1 R1 E1 r1 q1 => ?_
  cases d with
  | kd a' =>
    simp only at q1
    by_cases h : a' = p.1
    · rw [if_pos h] at q1
      subst h
      cases r1
      exact ⟨rfl, q1 _ H1 ι1 Ext.refl R1 (.bl _)⟩
    · rw [if_neg h] at q1; exact q1.elim
  | _ => exact q1.elim
/-- what is promised of the exception's class -/
def spE (K : PySem.W.Frag) (cA : String → Addr) (G : String → Store → Res D) (C : String) (H : Hp) (Q : VK) : Prop := ∃ ι S, RS K cA ι S H ∧ fin K cA W0 [] ι H Q (G C S)
structure FnE (P : Program) (w : World) (K : PySem.W.Frag) (mg : Str → Option Value) (base : Heap) (cA : String → Addr) (k : Nat) (f : Addr) (fd : FuncData) (ps : List Str) (XS : List String) (G : String → Store → Res D) : Prop where
  run : ∀ (A : Around) (outer : List Env) (s : Shared) (H : Hp) (args : Args) (Q : VK) (p : Addr × Obj) (C : String), C ∈ XS → L2H.RoomH k A → L2H.PinOk outer H s p → Zc (.ref (cA C)) none p.2 → (∃ vs, p.2.data = .fields vs) → Env0 P w K mg base A outer s H →
    BindsTo s fd args (ps.zip [.ref p.1]) → spE K cA G C H Q → codeAny (model P w) A (.call (.ref f) args) (CR (L2.CX P w) outer P w H s Q (fun _ _ _ => False)) s
theorem fnE_of {P : Program} {w : World} {mg : Str → Option Value} {base : Heap} {k : Nat} {f : Addr} {x qual : Str} {params : Arguments} {body : List Stmt} {scope : Scope} {fd : FuncData} {N : List Str} {x1 : Str} {B : Addr → String → SS} {G : String → Store → Res D} {XS : List String}
    (F : FunD K x qual params body scope [] [] f fd) (S : FnScope N [x1] scope) (hG : ∀ a C S, fnB 1 N.length (B a C) [.kd a] S = G C S)
    (hb : ∀ (cdv : Value) (A : Around) (outer : List Env) (s : Shared) (H : Hp) (p : Addr × Obj) (C : String), C ∈ XS → Zc (.ref (cA C)) none p.2 → (∃ vs, p.2.data = .fields vs) →
      PSs (L2H.cxH (L2.CX P w) P w K mg base N qual scope f cdv A outer s H (fun _ _ _ => False) p) body (rdS K cA W0 (B p.1 C))) :
    FnE P w K mg base cA (k + 1) f fd [x1] XS G := by
  obtain ⟨oc, od, dV, kV, doc, pm, an, cdv, ct, osl, rfl, lk, hcd, _, _⟩ := F.ex
  refine ⟨fun A outer s H args Q p C hCx hr hpin hz hf e0 hbd hsp => ?_⟩
  have KX : K.In s.heap := e0.mod.kin.keeps fun b o e => (e0.bs b o e).1
  have lim : s.heap.NoLimit := e0.mod.nolimit.keeps fun b o e => (e0.bs b o e).1
  have hkind : ∀ y ∈ [x1].zip [Value.ref p.1], scope.names.lookup y.1 = some .local ∨ (scope.names.lookup y.1 = some .cell ∧ ((cellsFrom (s.heap.objs.size + 1) scope.names []).lookup y.1).isSome = true) := fun ⟨n, v⟩ hy => by
    rcases S.par n (List.of_mem_zip hy).1 with q | q
    · exact .inl q
    · exact .inr ⟨q, PySem.W.cellsFrom_some _ _ _ (.inl q)⟩
  refine codeAny_call_function hr.depth (KX _ _ lk) rfl S.co S.gen rfl (PySem.W.codeRec_of KX hcd) (hbd _ _ _ _ ?_)
  refine wpAny_newFunctionEnv_cells S.kind hkind fun env he s1 xx => ?_
  subst he
  refine ⟨lim.keeps xx.toInCall.keep, codeAny_func ?_⟩
  have r : Vals [V.ref p.1] [Value.ref p.1] := .cons rfl .nil
  have I := L2H.inv_startH (CX := L2.CX P w) (E := fun _ _ _ => False) S hpin e0 (show [V.ref p.1].length = [x1].length from rfl) r xx
  have ht := hb cdv A outer s H p C hCx hz hf
  obtain ⟨ι, St, R, q⟩ := hsp
  have hq : rdS K cA W0 (B p.1 C) { nx := fun _ H' => Q .non H', rt := Q } (L2.start N [V.ref p.1]) H := by
    refine ⟨ι, St, _, R, start_env (.cons .kd .nil) N 1 rfl, ?_⟩
    have e := hG p.1 C St
    rw [← e] at q
    unfold fnB at q
    rw [if_pos (show [D.kd p.1].length = 1 from rfl)] at q
    cases z : B p.1 C ([D.kd p.1].map some ++ List.replicate (N.length - 1) none) St with
    | nx e S' => rw [z] at q; exact fun σ' H' ι' x' R' E' => q .non H' ι' x' R' .non
    | rt d S' => rw [z] at q; exact q
    | exc C e S' => rw [z] at q; exact fun σ' H' ι' x' R' E' => q H' ι' x' R'
    | bk e S' => rw [z] at q; exact q.elim
    | ct e S' => rw [z] at q; exact q.elim
    | stuck => rw [z] at q; exact q.elim
  refine wpAny_mono (ht.run [] s1 (L2.start N [V.ref p.1]) H _ I hq) (fun fl s' hs => ?_) fun e s' hs => hs
  have fin : ∀ {σ' : L2.St} {H' : Hp} {v : V} {u : Value}, Inv (L2H.cxH (L2.CX P w) P w K mg base N qual scope f cdv A outer s H (fun _ _ _ => False) p) [] σ' H' s' → RelV v u → Q v H' → CE outer P w H s Q u s' :=
    fun {σ' H' v u} J rv q => ⟨v, H', J.os, J.bare, J.base, J.hok, rv, q⟩
  cases fl with
  | ret u =>
    obtain ⟨v, σ', H', J, rv, q⟩ := hs
    exact fin J rv q
  | next =>
    obtain ⟨σ', H', J, q⟩ := hs
    exact fin (v := V.non) (u := Value.none) J rfl q
  | brk =>
    obtain ⟨_, _, _, q⟩ := hs
    exact False.elim q
  | cont =>
    obtain ⟨_, _, _, q⟩ := hs
    exact False.elim q
end

/-! ### try: .. except FallError as e: y = f(e) -/
noncomputable def sTryC (XS : List String) (body : SS) (i y : Nat) (G : String → Store → Res D) : SS := fun env S => match body env S with
  | .exc C e1 S1 => if C ∈ XS ∧ i < e1.length then (match gcR S1 (G C S1) with
    | .ok d S2 => .nx ((e1.set y (some d)).set i none) S2
    | _ => .stuck) else .stuck
  | o => o
section
variable {K : PySem.W.Frag} {cA : String → Addr} {W : WX} {X : Cx}
theorem ds_tryC {XS : List String} {x n yv fx : Str} {c : Value} {i y k : Nat} {body : List Stmt} {np pos pos' p1 p2 p3 p4 p5 : Pos} {sb : SS} {G : String → Store → Res D} {f : Addr} {fd : FuncData} {x1 : Str}
    (hK : X.K = K) (hs : X.stack = X.env :: X.outer) (hf : X.env.frame = some X.env.locals) (hN : X.N.Nodup) (hi : X.N[i]? = some n) (hln : X.env.kindOf n = some .local) (hc : Names X x c) (tk : Takes X W) (hexm : ∀ C ∈ XS, PySem.W.exmOne K (.ref (cA C)) c = some true)
    (hy : X.N[y]? = some yv) (hyl : Loc X.env.scope yv) (hni : n ≠ yv) (hV : Vis X.env.scope n)
    (hyf : X.fn yv = true ∨ X.env.scope.names.lookup yv = some .local)
    (FE : FnE X.prog X.w X.K X.mg X.base cA k f fd [x1] XS G) (hr : Room k X.A) (hg : Gl X fx) (hm : X.mg fx = some (.ref f)) (hk : PySem.W.keepIn X.K (.ref f) = true) (hbn : Binds X.K fd [x1] [])
    (hb : ∀ (W' : WX) (pn : List (Addr × Obj)) (xe : Value → Shared → Prop), Takes (X.tr pn xe) W' → PassesOwn (model X.prog X.w) X.A X.env xe → PSs (X.tr pn xe) body (rdS K cA W' sb))
    (hd1 : (n == ("__debug__" : Str)) = false := by decide) (hd2 : (n == ("__classdict__" : Str)) = false := by decide) (hd3 : (fx == ("__debug__" : Str)) = false := by decide)
    (hsw : ∀ A' : Unit, swapsWith (.Call (.Name fx p1) [.Name n p2] [] p3) (some (.Name yv p4)) p5.line X.env = pure false := by intro _; rfl)
    (hse : starEach [.Name n p2] X.env = (false, eval (.Name n p2) X.env) :: starEach [] X.env := by rfl) (hpl : (backTo p3 (starEach [] X.env)).any (·.1) = false := by rfl) :
    PS X (.Try body [.ExceptHandler (some (.Name x np)) (some n) [.Assign [.Name yv p4] (.Call (.Name fx p1) [.Name n p2] [] p3) p5] pos'] [] [] pos) (rdS K cA W (sTryC XS sb i y G)) := by
  subst hK
  have hsu : ∀ (a : Addr) (oe : Obj) (cls : Value) (d : Option Addr) (pn : List (Addr × Obj)), Zc cls d oe → (∃ vs, oe.data = .fields vs) → PSs (X.suite a ((a, oe) :: pn)) [.Assign [.Name yv p4] (.Call (.Name fx p1) [.Name n p2] [] p3) p5]
      (fun D σ H => ∃ C, C ∈ XS ∧ cls = .ref (cA C) ∧ d = none ∧ σ[i]? = some (some (.ref a)) ∧ spE X.K cA G C H (fun v H' => D.nx (σ.set y (some v)) H')) := by
    intro a oe cls d pn hz hfl
    have hcall : PE (X.suite a ((a, oe) :: pn)) (.Call (.Name fx p1) [.Name n p2] [] p3) (fun σ H Q => ∃ C, C ∈ XS ∧ cls = .ref (cA C) ∧ d = none ∧ σ[i]? = some (some (.ref a)) ∧ spE X.K cA G C H Q) := by
      refine ⟨fun pins s σ H Q I h => ?_⟩
      obtain ⟨C, hCx, rfl, rfl, hsi, hsp⟩ := h
      have hv : PE (X.suite a ((a, oe) :: pn)) (.Name n p2) (tVar i) := pe_var (X := X.suite a ((a, oe) :: pn)) hi hV hd1 hd2
      refine wpAny_Call_Name_kw (ld_glob (X := X.suite a ((a, oe) :: pn)) I hg hm ?_ hd3)
      have ha : PA (X.suite a ((a, oe) :: pn)) [.Name n p2] (tCons (tVar i) tNil) := pa_cons hv pa_nil hse
      refine PySem.W.callWith_K (h₀ := X.base) I.ok.mod.kin hk (thn (ha.run p3 pins s σ H (fun vs H1 => vs = [V.ref a] ∧ spE X.K cA G C H1 Q) I ⟨.ref a, hsi, rfl, hsp⟩) fun us s1 ⟨vs, H1, I1, r, ev, q⟩ => ⟨I1.kIn, ?_⟩) hse hpl
      subst ev
      cases r with
      | cons ru rn =>
        cases rn
        obtain rfl : _ = Value.ref a := ru
        have P1 := I1.pin (a, oe) (List.mem_append_left _ List.mem_cons_self)
        have hpin : L2H.PinOk X.stack H1 s1 (a, oe) := ⟨P1.1, P1.2.1, fun hm => (List.mem_cons.mp (I1.stkSub a hm)).elim P1.2.2.1 P1.2.2.2.1, P1.2.2.2.2⟩
        have bb := hbn s1 [Value.ref a] I1.kIn rfl
        rw [List.append_nil] at bb
        refine wpAny_call (codeAny_mono (FE.run (X.A.mark (some (.ref a))) X.stack s1 H1 ⟨[Value.ref a], []⟩ Q (a, oe) C hCx ⟨hr.dp, hr.un⟩ hpin hz hfl I1.env0 bb q) fun r s' hq => ?_)
        cases r with
        | error e =>
          obtain ⟨_, _, _, _, _, _, _, _, _, _, _, _, z⟩ := hq
          exact z.elim
        | ok fl =>
          cases fl with
          | ret u => exact I1.after hq
          | next => exact False.elim hq
          | brk => exact False.elim hq
          | cont => exact False.elim hq
    refine PSs.weak (pss_one (ps_set (X := X.suite a ((a, oe) :: pn)) hN hy hyl hcall (hsw ()) hyf)) fun D σ H q => ?_
    exact q
  refine PS.weak (ps_try_as (c := c) (Wout := W) (tb := fun W' => rdS X.K cA W' sb) hs hf hN hi hln hc tk hb hsu) fun D σ H q => ?_
  obtain ⟨ι, S, env, R, E, q⟩ := q
  refine ⟨ι, S, env, R, E, ?_⟩
  unfold sTryC at q
  cases z : sb env S with
  | nx e1 S1 => rw [z] at q; exact q
  | rt d S1 => rw [z] at q; exact q
  | bk e1 S1 => rw [z] at q; exact q
  | ct e1 S1 => rw [z] at q; exact q
  | stuck => rw [z] at q; exact q.elim
  | exc C e1 S1 =>
    rw [z] at q
    simp only at q
    by_cases hC : C ∈ XS ∧ i < e1.length
    · rw [if_pos hC] at q
      intro σ1 H1 ι1 x1' R1 E1
      refine ⟨true, hexm C hC.1, fun _ a ha => ⟨C, hC.1, rfl, rfl, ?_, ι1, S1, R1, ?_⟩, fun z => nomatch z⟩
      · have hl : i < σ1.length := by rw [← E1.len]; exact hC.2
        rw [List.getElem?_set_self hl]
      · have key : fin X.K cA W0 [] ι1 H1 (fun v H' => D.nx (((σ1.set i (some (.ref a))).set y (some v)).set i none) H') (gcR S1 (G C S1)) := by
          cases z2 : gcR S1 (G C S1) with
          | ok d S2 =>
            rw [z2] at q
            intro v H2 ι2 x2 R2 r2
            refine q _ H2 ι2 (x1'.trans x2) R2 ?_
            have E2 := ((E1.mono x2).set (i := y) r2).none_ i
            have e3 : ((σ1.set i (some (.ref a))).set y (some v)).set i none = (σ1.set y (some v)).set i none := by
              apply List.ext_getElem?
              intro j
              by_cases hj : i = j
              · subst hj
                simp [List.getElem?_set]
              · simp [List.getElem?_set, hj]
            rw [e3]
            exact E2
          | exc C' S2 => rw [z2] at q; exact q.elim
          | stuck => rw [z2] at q; exact q.elim
        have k2 := gc_fin R1 key
        exact k2
    · rw [if_neg hC] at q; exact q.elim
end
end Z
set_option Elab.async false
set_option linter.all false
set_option maxRecDepth 100000
set_option maxHeartbeats 2000000
namespace Z
open PySem PySem.Spec PyProof.Rows L2
/-- the script, as a datum in a store -/
inductive IsScript (ns : List Int) : D → Store → Prop
  | own : IsScript ns (.ref 0) [.lst (ns.map .int)]
  | frz : IsScript ns (.ref 0) [.frz (.lst (ns.map .int))]
  | kl : IsScript ns (.kl ns) []
theorem IsScript.get {ns : List Int} {d : D} {S : Store} (h : IsScript ns d S) : getL S d = some (ns.map .int) := by
  cases h <;> rfl
theorem script_sp {K : PySem.W.Frag} {cA : String → Addr} {F : SF} {ns : List Int} {H : Hp} {a : Addr} (h : SqL K H a (ns.map V.int)) (hF : ∀ d S, IsScript ns d S → ∃ S', F [d] S = .ok (.bl true) S') :
    spD K cA F [.ref a] H (fun v _ => v = .bl true) fun _ _ _ => False := by
  have fin_ : ∀ {ι : List Addr} {d : D} {S : Store}, IsScript ns d S → RS K cA ι S H → RelD K cA ι H d (.ref a) → spD K cA F [.ref a] H (fun v _ => v = .bl true) fun _ _ _ => False := fun {ι d S} hs R r => by
    obtain ⟨S', e⟩ := hF d S hs
    refine ⟨ι, S, [d], R, .cons r .nil, ?_⟩
    rw [e]
    intro v H' ι' x R' r'
    cases r'
    rfl
  rcases h with (h | ⟨o, h⟩) | h
  · exact fin_ (ι := [a]) .own ⟨rfl, by simp, fun n b c h1 h2 => by
      cases n with
      | zero =>
        simp at h1 h2
        subst h1 h2
        exact ⟨_, h, .lst (ints_kl ns)⟩
      | succ n => simp at h1⟩ (.ref rfl)
  · exact fin_ (ι := [a]) .frz ⟨rfl, by simp, fun n b c h1 h2 => by
      cases n with
      | zero =>
        simp at h1 h2
        subst h1 h2
        exact ⟨_, h, .frz (.lst (ints_kl ns))⟩
      | succ n => simp at h1⟩ (.ref rfl)
  · exact fin_ (ι := []) .kl ⟨rfl, by simp, fun n b c h1 h2 => by simp at h1⟩ (.kl h)
theorem lawAtD {l : PySem.W.OpenLaw} {w : World} {K : PySem.W.Frag} {cA : String → Addr} {F : SF} {k : Nat} {x : Str} {mg : Str → Option Value} {fa : Addr} {h : Heap} {fd : FuncData} {qual : Str} {nm : Str} {params : Arguments} {body : List Stmt} {scope : Scope}
    (FD : FunD K nm qual params body scope [] [] fa fd)
    (hbind : ∀ (kV doc pm : Value) (an : Option Addr) (cdv ct : Value) (us : List Value), us.length = [x].length → bindArgs (PySem.W.fnOf nm qual params body scope .none kV doc pm an cdv ct) ⟨us, []⟩ = pure ([x].zip us))
    (G : ∀ base : Heap, FnOk l.prog w K mg base (L2.CX l.prog w) k fa fd [x] (spD K cA F))
    (hF : ∀ ns : List Int, ns.length ≤ 63 → (∀ z ∈ ns, Builtin.Int.intBits z ≤ 1048576) → ∀ d S, IsScript ns d S → ∃ S', F [d] S = .ok (.bl true) S') : LamX.LawAtS l w K (L2.CX l.prog w) k 63 x mg fa h :=
  ⟨fd, [], spD K cA F, fun p z => (nomatch z), fun p z => (nomatch z), fun p z => (nomatch z), fun s u => FD.bindsA hbind s [u] rfl, fun H a ns hl hb _ hS => script_sp hS (hF ns hl hb), fun base _ _ _ => G base⟩
end Z
set_option Elab.async false
set_option linter.all false
set_option maxRecDepth 100000
namespace Z
open PySem PySem.Spec PyProof.Rows L2
/-! ### reading a store that has grown -/
theorem lk {α : Type} (S L : List α) (n : Nat) : (S ++ L)[S.length + n]? = L[n]? := by
  rw [List.getElem?_append_right (Nat.le_add_right _ _), Nat.add_sub_cancel_left]
theorem lk0 {α : Type} (S L : List α) : (S ++ L)[S.length]? = L[0]? := lk S L 0
theorem lkc {α : Type} (x : α) (L : List α) : (x :: L)[0]? = some x := rfl
theorem lks {α : Type} (x : α) (L : List α) (n : Nat) : (x :: L)[n + 1]? = L[n]? := rfl
theorem ifT {α : Type} (a b : α) : (if (true = true) then a else b) = a := rfl
theorem SameP.refl (S : Store) : SameP S S := ⟨Nat.le_refl _, fun _ _ h => .inl h⟩
theorem SameP.app (S T : Store) : SameP S (S ++ T) := ⟨by simp, fun i c h => .inl (by
  rw [List.getElem?_append_left (List.getElem?_eq_some_iff.mp h).1]; exact h)⟩
theorem SameP.set {S : Store} {n : Nat} {c : Cell} (T : Store) (h : c.flat = true) : SameP S (S.set n c ++ T) := ⟨by simp, fun i c' hc => by
  have hi := (List.getElem?_eq_some_iff.mp hc).1
  rw [List.getElem?_append_left (by simpa using hi)]
  by_cases e : n = i
  · subst e
    exact .inr ⟨c, by rw [List.getElem?_set_self hi], h⟩
  · exact .inl (by rw [List.getElem?_set_ne e]; exact hc)⟩
/-- a flat result behind a store that has grown -/
theorem gc_app {S T : Store} {d : D} (h : d.flat = true) : gcR S (.ok d (S ++ T)) = .ok d S := by
  unfold gcR
  simp only [if_pos (SameP.app S T), if_pos h, List.take_left']
theorem gc_eq {S : Store} {d : D} (h : d.flat = true) : gcR S (.ok d S) = .ok d S := by
  have := gc_app (S := S) (T := []) h
  rwa [List.append_nil] at this
theorem gc_set {S T : Store} {d : D} {n : Nat} {c : Cell} (h : d.flat = true) (hc : c.flat = true) : gcR S (.ok d (S.set n c ++ T)) = .ok d (S.set n c) := by
  unfold gcR
  have e : (S.set n c ++ T).take S.length = S.set n c := by rw [List.take_left' (by simp)]
  simp only [if_pos (SameP.set T hc), if_pos h, e]
theorem gc_set0 {S : Store} {d : D} {n : Nat} {c : Cell} (h : d.flat = true) (hc : c.flat = true) : gcR S (.ok d (S.set n c)) = .ok d (S.set n c) := by
  have := gc_set (S := S) (T := []) (n := n) h hc
  rwa [List.append_nil] at this
/-- one new flat cell is kept -/
theorem gc_ref {S T : Store} {n : Nat} {c : Cell} (h : T[n]? = some c) (hc : c.flat = true) : gcR S (.ok (.ref (S.length + n)) (S ++ T)) = .ok (.ref S.length) (S ++ [c]) := by
  unfold gcR
  simp only [if_pos (SameP.app S T), D.flat, Bool.false_eq_true, if_false, lk, h, Nat.le_add_right, hc, and_self, if_true, List.take_left']
theorem gc_ref0 {S T : Store} {c : Cell} (h : T[0]? = some c) (hc : c.flat = true) : gcR S (.ok (.ref S.length) (S ++ T)) = .ok (.ref S.length) (S ++ [c]) := gc_ref (n := 0) h hc
theorem gc_exc {S S' : Store} {C : String} : gcR S (.exc C S') = .exc C S' := rfl
/-! ### walking a list -/
theorem forL_nil {g : Tgt} {b : SS} {ok : Store → Prop} {env : ES} {S : Store} (h : ok S) : forL g b ok [] env S = .nx env S := by
  unfold forL; rw [if_pos h]
theorem forL_nx {g : Tgt} {b : SS} {ok : Store → Prop} {x : D} {xs : List D} {env e1 e2 : ES} {S S1 S2 : Store} (h : ok S) (hg : g x env S = some (e1, S1)) (hb : b e1 S1 = .nx e2 S2) : forL g b ok (x :: xs) env S = forL g b ok xs e2 S2 := by
  conv => lhs; unfold forL
  rw [if_pos h, hg]; simp only [hb]
/-- while the walk goes on P holds -/
theorem forL_inv {g : Tgt} {b : SS} {ok : Store → Prop} (P : Nat → ES → Store → Prop) : ∀ (xs : List D) (j : Nat) (env : ES) (S : Store), P j env S → (∀ i env S, P i env S → ok S) →
    (∀ i x env S, P (j + i) env S → xs[i]? = some x → ∃ e1 S1 e2 S2, g x env S = some (e1, S1) ∧ b e1 S1 = .nx e2 S2 ∧ P (j + i + 1) e2 S2) → ∃ e S', forL g b ok xs env S = .nx e S' ∧ P (j + xs.length) e S'
  | [], j, env, S, h, ho, _ => ⟨env, S, forL_nil (ho _ _ _ h), h⟩
  | x :: xs, j, env, S, h, ho, hs => by
    obtain ⟨e1, S1, e2, S2, h1, h2, h3⟩ := hs 0 x env S h rfl
    rw [forL_nx (ho _ _ _ h) h1 h2]
    obtain ⟨e, S', h4, h5⟩ := forL_inv P xs (j + 1) e2 S2 h3 ho fun i y env S hp hy => by
      have := hs (i + 1) y env S (by rw [show j + (i + 1) = j + 1 + i by omega]; exact hp) hy
      rw [show j + (i + 1) = j + 1 + i by omega] at this
      exact this
    exact ⟨e, S', h4, by rw [List.length_cons, show j + (xs.length + 1) = j + 1 + xs.length by omega]; exact h5⟩
/-- a comprehension, item by item -/
theorem lcL_inv {g : Tgt} {c : ST} {m : SE} {ok : Store → Prop} {env : ES} (P : Nat → List D → Store → Prop) : ∀ (xs : List D) (j : Nat) (acc : List D) (S : Store), P j acc S → (∀ i acc S, P i acc S → ok S) →
    (∀ i x acc S, P (j + i) acc S → xs[i]? = some x → ∃ e1 S1 S2 b, g x env S = some (e1, S1) ∧ c e1 S1 = .ok b S2 ∧ (b = true → ∃ y S3, m e1 S2 = .ok y S3 ∧ acc.length < sizeLine ∧ P (j + i + 1) (acc ++ [y]) S3) ∧ (b = false → P (j + i + 1) acc S2)) →
    ∃ ys S', lcL g c m ok env xs acc S = .ok ys S' ∧ P (j + xs.length) ys S'
  | [], j, acc, S, h, ho, _ => ⟨acc, S, by unfold lcL; rw [if_pos (ho _ _ _ h)], h⟩
  | x :: xs, j, acc, S, h, ho, hs => by
    obtain ⟨e1, S1, S2, b, h1, h2, h3, h4⟩ := hs 0 x acc S h rfl
    have step : ∀ acc' S', P (j + 1) acc' S' → ∃ ys S'', lcL g c m ok env xs acc' S' = .ok ys S'' ∧ P (j + (x :: xs).length) ys S'' := fun acc' S' hp => by
      obtain ⟨ys, S'', k1, k2⟩ := lcL_inv P xs (j + 1) acc' S' hp ho fun i y acc S hp hy => by
        have := hs (i + 1) y acc S (by rw [show j + (i + 1) = j + 1 + i by omega]; exact hp) hy
        rw [show j + (i + 1) = j + 1 + i by omega] at this
        exact this
      exact ⟨ys, S'', k1, by rw [List.length_cons, show j + (xs.length + 1) = j + 1 + xs.length by omega]; exact k2⟩
    unfold lcL
    rw [if_pos (ho _ _ _ h), h1]
    simp only [h2, noX, bind_ok]
    cases b with
    | true =>
      obtain ⟨y, S3, k1, k2, k3⟩ := h3 rfl
      rw [if_pos rfl, k1]
      simp only [noX, bind_ok]
      rw [if_pos k2]
      exact step _ _ k3
    | false => exact step _ _ (h4 rfl)
end Z
set_option Elab.async false
set_option linter.all false
set_option maxRecDepth 100000
namespace K17
open PySem PySem.Spec PyProof.Rows L2 Z
def XS : List String := ["FallError", "NoFloor", "NoText", "NoPlace", "NoPush", "NotLight", "NoNumber", "NoRoom", "NoWays", "NoChoice", "NoNet", "NoArrivals", "NoLates", "NoTables", "NoRow", "CantBe", "NoTiming", "TooMany", "NoSay", "NoName"]
def YS : List String := XS
noncomputable def B_law_take : SS := (sSeq (sIfS (tOf (sBin fGt (sBin fIx (sVar 0) (sC (.int 0))) (sC (.int 0)))) (sSeq (sAsg (sApp fDivmod (sConsA (sBin fIx (sVar 0) (sC (.int 0))) (sConsA (sVar 1) sNilA))) (gUn 2 (gsCons (gSubL (sVar 0) (sC (.int 0))) (gsCons (gNm 2) gsNil)))) (sRet (sVar 2))) sSkip) (sSeq (sAsg (sBin fMod (sBin fAdd (sBin fMul (sBin fIx (sVar 0) (sC (.int 1))) (sC (.int 48271))) (sC (.int 11))) (sC (.int 2147483647))) (gSubL (sVar 0) (sC (.int 1)))) (sRet (sBin fMod (sBin fDiv (sBin fMod (sBin fMul (sBin fIx (sVar 0) (sC (.int 1))) (sBin fIx (sVar 0) (sC (.int 1)))) (sC (.int 2147483629))) (sC (.int 5))) (sVar 1)))))
noncomputable def F_law_take : SF := fnB 2 3 B_law_take
noncomputable def B_law_text : SS := (sSeq (sSet 1 (sC (.str " !\"#$&'()*+,-./0123456789:;<=>?@ABCDEFGHIJKLMNOPQRSTUVWXYZ[\\]^_`"))) (sSeq (sSet 1 (sBin fAdd (sVar 1) (sC (.str "abcdefghijklmnopqrstuvwxyz{|}~")))) (sRet (sMt "str" fJoin (sC (.str "")) (sConsA (sLc [2] (itR1 (sCall F_law_take (sConsA (sVar 0) (sConsA (sC (.int 31)) sNilA)))) (gNm 2) sYes (sBin fIx (sVar 1) (sCall F_law_take (sConsA (sVar 0) (sConsA (sApp fLen (sConsA (sVar 1) sNilA)) sNilA))))) sNilA)))))
noncomputable def F_law_text : SF := fnB 1 3 B_law_text
noncomputable def B_law_classes : SS := (sSeq (sSet 1 (sLst (sConsA (sIsX XS (isX "NoFloor") (sVar 0)) (sConsA (sIsX XS (isX "NoText") (sVar 0)) (sConsA (sIsX XS (isX "NoPlace") (sVar 0)) (sConsA (sIsX XS (isX "NoPush") (sVar 0)) sNilA)))))) (sSeq (sSet 1 (sBin fAdd (sVar 1) (sLst (sConsA (sIsX XS (isX "NotLight") (sVar 0)) (sConsA (sIsX XS (isX "NoNumber") (sVar 0)) (sConsA (sIsX XS (isX "NoRoom") (sVar 0)) (sConsA (sIsX XS (isX "NoWays") (sVar 0)) sNilA))))))) (sSeq (sSet 1 (sBin fAdd (sVar 1) (sLst (sConsA (sIsX XS (isX "NoChoice") (sVar 0)) (sConsA (sIsX XS (isX "NoNet") (sVar 0)) (sConsA (sIsX XS (isX "NoArrivals") (sVar 0)) (sConsA (sIsX XS (isX "NoLates") (sVar 0)) sNilA))))))) (sSeq (sSet 1 (sBin fAdd (sVar 1) (sLst (sConsA (sIsX XS (isX "NoTables") (sVar 0)) (sConsA (sIsX XS (isX "NoRow") (sVar 0)) (sConsA (sIsX XS (isX "CantBe") (sVar 0)) (sConsA (sIsX XS (isX "NoTiming") (sVar 0)) sNilA))))))) (sRet (sBin fAdd (sVar 1) (sLst (sConsA (sIsX XS (isX "TooMany") (sVar 0)) (sConsA (sIsX XS (isX "NoSay") (sVar 0)) (sConsA (sIsX XS (isX "NoName") (sVar 0)) sNilA))))))))))
noncomputable def F_law_classes : SF := fnB 1 2 B_law_classes
noncomputable def BH_law_classes (a : Addr) (C : String) : SS := (sSeq (sSet 1 (sLst (sConsA (sIsP a (isX "NoFloor" C) (sVar 0)) (sConsA (sIsP a (isX "NoText" C) (sVar 0)) (sConsA (sIsP a (isX "NoPlace" C) (sVar 0)) (sConsA (sIsP a (isX "NoPush" C) (sVar 0)) sNilA)))))) (sSeq (sSet 1 (sBin fAdd (sVar 1) (sLst (sConsA (sIsP a (isX "NotLight" C) (sVar 0)) (sConsA (sIsP a (isX "NoNumber" C) (sVar 0)) (sConsA (sIsP a (isX "NoRoom" C) (sVar 0)) (sConsA (sIsP a (isX "NoWays" C) (sVar 0)) sNilA))))))) (sSeq (sSet 1 (sBin fAdd (sVar 1) (sLst (sConsA (sIsP a (isX "NoChoice" C) (sVar 0)) (sConsA (sIsP a (isX "NoNet" C) (sVar 0)) (sConsA (sIsP a (isX "NoArrivals" C) (sVar 0)) (sConsA (sIsP a (isX "NoLates" C) (sVar 0)) sNilA))))))) (sSeq (sSet 1 (sBin fAdd (sVar 1) (sLst (sConsA (sIsP a (isX "NoTables" C) (sVar 0)) (sConsA (sIsP a (isX "NoRow" C) (sVar 0)) (sConsA (sIsP a (isX "CantBe" C) (sVar 0)) (sConsA (sIsP a (isX "NoTiming" C) (sVar 0)) sNilA))))))) (sRet (sBin fAdd (sVar 1) (sLst (sConsA (sIsP a (isX "TooMany" C) (sVar 0)) (sConsA (sIsP a (isX "NoSay" C) (sVar 0)) (sConsA (sIsP a (isX "NoName" C) (sVar 0)) sNilA))))))))))
noncomputable def H_law_classes (C : String) (S : Store) : Res D := fnB 1 2 (BH_law_classes 0 C) [.kd 0] S
noncomputable def B_law_are_right : SS := (sSeq (sFor (itEnum (sVar 0)) (gUn 2 (gsCons (gNm 1) (gsCons (gNm 2) gsNil))) (sSeq (sIfS (tOf (sBin fNe (sCall F_law_classes (sConsA (sVar 2) sNilA)) (sLc [3] (itR1 (sC (.int 19))) (gNm 3) sYes (sBin fEq (sVar 3) (sVar 1))))) (sRet (sC (.bl false))) sSkip) (sIfS (sTOr (sTNot (tOf (sIsX XS (isX "FallError") (sVar 2)))) (sTNot (tOf (sIsX XS (fun _ => true) (sVar 2))))) (sRet (sC (.bl false))) sSkip))) (sRet (sBin fEq (sApp fLen (sConsA (sVar 0) sNilA)) (sC (.int 19)))))
noncomputable def F_law_are_right : SF := fnB 1 4 B_law_are_right
noncomputable def B_law_pot : SS := (sSeq (sSet 2 (sIf (tOf (sBin fLt (sVar 1) (sApp fLen (sConsA (sVar 0) sNilA)))) (sBin fIx (sVar 0) (sVar 1)) (sC (.int 0)))) (sRet (sLst (sConsA (sApp fMax2 (sConsA (sC (.int 0)) (sConsA (sBin fSub (sApp fAbs (sConsA (sVar 2) sNilA)) (sBin fPow (sC (.int 10)) (sC (.int 18)))) sNilA))) (sConsA (sBin fAdd (sBin fAdd (sBin fMod (sApp fAbs (sConsA (sVar 2) sNilA)) (sC (.int 2147483587))) (sBin fMul (sC (.int 1013)) (sVar 1))) (sC (.int 7))) sNilA)))))
noncomputable def F_law_pot : SF := fnB 2 3 B_law_pot
noncomputable def B_law_bare : SS := (sSeq (sSet 0 (sLst (sConsA (sExc0 "NoFloor") (sConsA (sExc0 "NoText") (sConsA (sExc0 "NoPlace") (sConsA (sExc0 "NoPush") (sConsA (sExc0 "NotLight") (sConsA (sExc0 "NoNumber") (sConsA (sExc0 "NoRoom") (sConsA (sExc0 "NoWays") (sConsA (sExc0 "NoChoice") (sConsA (sExc0 "NoNet") sNilA)))))))))))) (sSeq (sSet 0 (sBin fAdd (sVar 0) (sLst (sConsA (sExc0 "NoArrivals") (sConsA (sExc0 "NoLates") (sConsA (sExc0 "NoTables") (sConsA (sExc0 "NoRow") (sConsA (sExc0 "CantBe") (sConsA (sExc0 "NoTiming") (sConsA (sExc0 "TooMany") (sConsA (sExc0 "NoSay") (sConsA (sExc0 "NoName") sNilA)))))))))))) (sRet (sVar 0))))
noncomputable def F_law_bare : SF := fnB 0 1 B_law_bare
noncomputable def B_law_made : SS := (sSeq (sSet 1 (sLst (sConsA (sExc "NoFloor" (sVar 0)) (sConsA (sExc "NoText" (sVar 0)) (sConsA (sExc "NoPlace" (sVar 0)) (sConsA (sExc "NoPush" (sVar 0)) (sConsA (sExc "NotLight" (sVar 0)) (sConsA (sExc "NoNumber" (sVar 0)) (sConsA (sExc "NoRoom" (sVar 0)) sNilA))))))))) (sSeq (sSet 1 (sBin fAdd (sVar 1) (sLst (sConsA (sExc "NoWays" (sVar 0)) (sConsA (sExc "NoChoice" (sVar 0)) (sConsA (sExc "NoNet" (sVar 0)) (sConsA (sExc "NoArrivals" (sVar 0)) (sConsA (sExc "NoLates" (sVar 0)) (sConsA (sExc "NoTables" (sVar 0)) sNilA))))))))) (sRet (sBin fAdd (sVar 1) (sLst (sConsA (sExc "NoRow" (sVar 0)) (sConsA (sExc "CantBe" (sVar 0)) (sConsA (sExc "NoTiming" (sVar 0)) (sConsA (sExc "TooMany" (sVar 0)) (sConsA (sExc "NoSay" (sVar 0)) (sConsA (sExc "NoName" (sVar 0)) sNilA)))))))))))
noncomputable def F_law_made : SF := fnB 1 2 B_law_made
noncomputable def B_is_whole : SS := (sRet (sAnd (sIsi "int" (sVar 0)) (sNot (sIsi "bool" (sVar 0)))))
noncomputable def F_is_whole : SF := fnB 1 1 B_is_whole
noncomputable def B_is_between : SS := (sRet (sAnd (sCall F_is_whole (sConsA (sVar 0) sNilA)) (sChain (fun i j => decide (i ≤ j)) (fun i j => decide (i ≤ j)) (sVar 1) (sVar 0) (sVar 2))))
noncomputable def F_is_between : SF := fnB 3 3 B_is_between
noncomputable def B_Floor_init : SS := (sSeq (sIfS (sTOr (sTNot (tOf (sCall F_is_between (sConsA (sVar 1) (sConsA (sC (.int 1)) (sConsA (sC (.int 60)) sNilA)))))) (sTOr (sTNot (tOf (sCall F_is_between (sConsA (sVar 2) (sConsA (sC (.int 1)) (sConsA (sC (.int 60)) sNilA)))))) (sTNot (tOf (sIsi "dict" (sVar 3)))))) (sRaise "NoFloor") sSkip) (sSeq (sLock (sVar 3) (sFor (itItems (sVar 3)) (gUn 2 (gsCons (gNm 4) (gsCons (gNm 5) gsNil))) (sIfS (sTOr (sTNot (tOf sStuckE)) (sTNot (tOf sStuckE))) (sRaise "NoFloor") sSkip))) (sSeq (sFldS "Floor" "many_wide" (sVar 0) (sVar 1)) (sSeq (sFldS "Floor" "many_high" (sVar 0) (sVar 2)) (sFldS "Floor" "stone_at" (sVar 0) (sApp fDictK (sConsA (sVar 3) sNilA)))))))
noncomputable def F_Floor_init : SF := fnB 4 6 B_Floor_init
noncomputable def B_rows_of : SS := (sSeq (sIfS (sTOr (sTNot (tOf (sIsi "str" (sVar 0)))) (sTNot (tOf (sMt "str" fEndswith (sVar 0) (sConsA (sC (.str "\n")) sNilA))))) (sRaise "NoText") sSkip) (sRet (sLc [1] (itL (sMt "str" fSplit (sSl (sVar 0) soNone (soSome (sUn fNeg (sC (.int 1))))) (sConsA (sC (.str "\n")) sNilA))) (gNm 1) sYes (sMt "str" fSplit (sVar 1) (sConsA (sC (.str " ")) sNilA)))))
noncomputable def F_rows_of : SF := fnB 1 2 B_rows_of
noncomputable def B_read_floor : SS := (sSeq (sSet 1 (sCall F_rows_of (sConsA (sVar 0) sNilA))) (sSeq (sSet 2 (sApp fLen (sConsA (sBin fIx (sVar 1) (sC (.int 0))) sNilA))) (sSeq (sIfS (sTOr (tOf (sBin fGt (sApp fLen (sConsA (sVar 1) sNilA)) (sC (.int 60)))) (sTOr (tOf (sBin fGt (sVar 2) (sC (.int 60)))) (sTNot (tOf (sApp fAll (sConsA (sLc [5] (itL (sVar 1)) (gNm 5) sYes (sBin fEq (sApp fLen (sConsA (sVar 5) sNilA)) (sVar 2))) sNilA)))))) (sRaise "NoText") sSkip) (sSeq (sSet 3 sDNewT) (sSeq (sFor (itEnum (sVar 1)) (gUn 2 (gsCons (gNm 4) (gsCons (gNm 5) gsNil))) (sFor (itEnum (sVar 5)) (gUn 2 (gsCons (gNm 6) (gsCons (gNm 7) gsNil))) (sIfS (tOf (sBin fNe (sVar 7) (sC (.str ".")))) (sAsg sStuckE (gSubL (sVar 3) (sTup (sConsA (sVar 6) (sConsA (sVar 4) sNilA))))) sSkip))) (sRet (sMake "Floor" F_Floor_init (sConsA (sVar 2) (sConsA (sApp fLen (sConsA (sVar 1) sNilA)) (sConsA (sVar 3) sNilA))))))))))
noncomputable def F_read_floor : SF := fnB 1 8 B_read_floor
noncomputable def B_is_place : SS := (sSeq (sIfS (sTOr (sTNot (tOf (sIsi "tuple" (sVar 1)))) (sTOr (tOf (sBin fNe (sApp fLen (sConsA (sVar 1) sNilA)) (sC (.int 3)))) (sTNot (tOf sStuckE)))) (sRet (sC (.bl false))) sSkip) (sRet (sAnd (sCall F_is_between (sConsA (sBin fIx (sVar 1) (sC (.int 2))) (sConsA (sC (.int 0)) (sConsA (sC (.int 1)) sNilA)))) (sBin (fIn false) (sVar 1) sStuckE))))
noncomputable def F_is_place : SF := fnB 2 2 B_is_place
noncomputable def B_Floor_want_place : SS := (sIfS (sTNot (tOf (sCall F_is_place (sConsA (sVar 0) (sConsA (sVar 1) sNilA))))) (sRaise "NoPlace") sSkip)
noncomputable def F_Floor_want_place : SF := fnB 2 2 B_Floor_want_place
noncomputable def B_Floor_beats : SS := (sSeq (sDrop (sMeth "Floor" "want_place" F_Floor_want_place (sVar 0) (sConsA (sVar 1) sNilA))) (sRet (sBin fIx (sBin fIx (sFldR "Floor" "stone_at" (sVar 0)) (sSl (sVar 1) soNone (soSome (sC (.int 2))))) (sC (.int 1)))))
noncomputable def F_Floor_beats : SF := fnB 2 2 B_Floor_beats
noncomputable def B_law_said : SS := (sSeq (sSet 2 (sLst sNilA)) (sSeq (sTryC XS (sIfS (tOf (sBin fEq (sVar 0) (sC (.int 0)))) (sDrop (sMake "Floor" F_Floor_init (sConsA (sVar 1) (sConsA (sC (.int 1)) (sConsA sDNewK sNilA))))) (sIfS (tOf (sBin fEq (sVar 0) (sC (.int 1)))) (sDrop (sCall F_read_floor (sConsA (sVar 1) sNilA))) (sDrop (sMeth "Floor" "beats" F_Floor_beats (sMake "Floor" F_Floor_init (sConsA (sC (.int 1)) (sConsA (sC (.int 1)) (sConsA sDNewK sNilA)))) (sConsA (sVar 1) sNilA))))) 3 2 H_law_classes) (sRet (sVar 2))))
noncomputable def F_law_said : SF := fnB 2 4 B_law_said
noncomputable def B_law : SS := (sSeq (sFor (itR1 (sApp fMax2 (sConsA (sC (.int 1)) (sConsA (sApp fMin2 (sConsA (sApp fLen (sConsA (sVar 0) sNilA)) (sConsA (sC (.int 3)) sNilA))) sNilA)))) (gNm 1) (sSeq (sSet 2 (sCall F_law_text (sConsA (sCall F_law_pot (sConsA (sVar 0) (sConsA (sVar 1) sNilA))) sNilA))) (sSeq (sIfS (sTNot (tOf (sCall F_law_are_right (sConsA (sCall F_law_made (sConsA (sVar 2) sNilA)) sNilA)))) (sRet (sC (.bl false))) sSkip) (sIfS (tOf (sBin fNe (sLc [3] (itR1 (sC (.int 3))) (gNm 3) sYes (sCall F_law_said (sConsA (sVar 3) (sConsA (sVar 2) sNilA)))) (sLc [3] (itR1 (sC (.int 3))) (gNm 3) sYes (sLc [4] (itR1 (sC (.int 19))) (gNm 4) sYes (sBin fEq (sVar 4) (sVar 3)))))) (sRet (sC (.bl false))) sSkip)))) (sRet (sAnd (sCall F_law_are_right (sConsA (sCall F_law_bare sNilA) sNilA)) (sIsX XS (fun _ => true) (sExc "FallError" (sC (.str "a")))))))
noncomputable def F_law : SF := fnB 1 5 B_law
end K17
set_option linter.all false
set_option maxRecDepth 100000
namespace K17
open PySem PySem.Spec PyProof.Rows L2 Z
theorem ix_l {S : Store} {d v : D} {xs : List D} {i : Int} (h : getL S d = some xs) (hv : atI xs i = some v) : fIx d (.int i) S = some (v, S) := by
  simp only [fIx, orE2, fIxL, h, hv, Option.map_some]
theorem set_get {S : Store} {n : Nat} {c c' : Cell} (h : S[n]? = some c) : (S.set n c')[n]? = some c' := List.getElem?_set_self (List.getElem?_eq_some_iff.mp h).1
theorem take_ {S : Store} {n : Nat} {a b m : Int} (h : S[n]? = some (.lst [.int a, .int b])) (h0 : 0 < m) (hm : m < 2 ^ 31) : ∃ r a' b', F_law_take [.ref n, .int m] S = .ok (.int r) (S.set n (.lst [.int a', .int b'])) ∧ 0 ≤ r ∧ r < m := by
  have hd : (0 < m ∧ m.natAbs.log2 < 9000) = True := eq_true ⟨h0, by
    have h1 : m.natAbs.log2 < 31 := (Nat.log2_lt (by omega)).mpr (by omega)
    omega⟩
  have hL : getL S (.ref n) = some [.int a, .int b] := by unfold getL; simp only [h]
  have hM : getM S (.ref n) = some (n, [.int a, .int b]) := by unfold getM; simp only [h]
  have a0 : atI [D.int a, D.int b] 0 = some (.int a) := rfl
  by_cases c : 0 < a
  · refine ⟨a % m, a / m, b, ?_, Int.emod_nonneg _ (by omega), Int.emod_lt_of_pos _ h0⟩
    have i0 : ixN 2 0 = some 0 := rfl
    simp only [F_law_take, B_law_take, ix_l hL a0, fGt, fCmp, fI, fT, fDivmod, hd, gSubL, hM, i0, decide_eq_true c, fnB, sSeq, sSet, sRet, sRetN, sDrop, sLst, sTup, sConsA, sNilA, sVar, sC, sBin, sUn, sApp, tOf, asB, sTAnd, sTOr, sTNot, sAnd, sOr, sNot, sIf, sIfS, sSkip, sAsg, gNm, gsNil, gsCons, gUn, Res.out, Out.seq, Res.of, bind_ok, bind_exc, D.tupL, List.map_cons, List.map_nil, List.length_cons, List.length_nil, List.length_append, List.replicate_succ, List.replicate_zero, List.set_cons_succ, List.set_cons_zero, List.cons_append, List.nil_append, List.append_assoc, lk, lk0, List.getElem?_cons_zero, List.getElem?_cons_succ, Nat.add_assoc, Nat.reduceAdd, Nat.reduceSub, Nat.reduceLeDiff, Nat.reduceEqDiff, sizeLine_eq, if_true, if_false, Option.bind_some, Option.bind_none, Bool.not_true, Bool.not_false, Bool.false_eq_true, reduceIte, reduceCtorEq, and_self, and_true, true_and, Bool.and_true, Bool.or_true, Bool.true_and, Nat.le_refl]
  · have hl : n < S.length := (List.getElem?_eq_some_iff.mp h).1
    obtain ⟨v, hv⟩ : ∃ v : Int, v = (b * 48271 + 11) % 2147483647 := ⟨_, rfl⟩
    have v0 : 0 ≤ v := by rw [hv]; exact Int.emod_nonneg _ (by decide)
    have v1 : v < 2147483647 := by rw [hv]; exact Int.emod_lt_of_pos _ (by decide)
    refine ⟨v * v % 2147483629 / 5 % m, a, v, ?_, Int.emod_nonneg _ (by omega), Int.emod_lt_of_pos _ h0⟩
    have b1 : atI [D.int a, D.int b] 1 = some (.int b) := rfl
    have i1 : ixN 2 1 = some 1 := rfl
    have hL2 : getL (S.set n (.lst [.int a, .int v])) (.ref n) = some [.int a, .int v] := by unfold getL; simp only [set_get h]
    have b2 : atI [D.int a, D.int v] 1 = some (.int v) := rfl
    have s1 : (Z.small64 b || Z.small64 48271) = true := by rw [show Z.small64 48271 = true from by decide, Bool.or_true]
    have s2 : (Z.small64 v || Z.small64 v) = true := by
      have : Z.small64 v = true := by unfold Z.small64; exact decide_eq_true ⟨by omega, by omega⟩
      rw [this]; rfl
    have d5 : decide (0 < (5 : Int) ∧ (5 : Int).natAbs.log2 < 9000) = true := by decide
    have dp : decide (0 < (2147483647 : Int)) = true := by decide
    have dq : decide (0 < (2147483629 : Int)) = true := by decide
    simp only [F_law_take, B_law_take, ix_l hL a0, ix_l hL b1, fGt, fCmp, fI, fT, fMul, fMulI, fMod, fDiv, fAdd, fAddI, orE2, s1, s2, d5, dp, dq, decide_eq_true h0, gSubL, hM, i1, decide_eq_false c, ← hv, ix_l hL2 b2, fnB, sSeq, sSet, sRet, sRetN, sDrop, sLst, sTup, sConsA, sNilA, sVar, sC, sBin, sUn, sApp, tOf, asB, sTAnd, sTOr, sTNot, sAnd, sOr, sNot, sIf, sIfS, sSkip, sAsg, gNm, gsNil, gsCons, gUn, Res.out, Out.seq, Res.of, bind_ok, bind_exc, D.tupL, List.map_cons, List.map_nil, List.length_cons, List.length_nil, List.length_append, List.replicate_succ, List.replicate_zero, List.set_cons_succ, List.set_cons_zero, List.cons_append, List.nil_append, List.append_assoc, lk, lk0, List.getElem?_cons_zero, List.getElem?_cons_succ, Nat.add_assoc, Nat.reduceAdd, Nat.reduceSub, Nat.reduceLeDiff, Nat.reduceEqDiff, sizeLine_eq, if_true, if_false, Option.bind_some, Option.bind_none, Bool.not_true, Bool.not_false, Bool.false_eq_true, reduceIte, reduceCtorEq, and_self, and_true, true_and, Bool.and_true, Bool.or_true, Bool.true_and, Nat.le_refl]

/-! ### the drawn text -/
def A1 : Str := " !\"#$&'()*+,-./0123456789:;<=>?@ABCDEFGHIJKLMNOPQRSTUVWXYZ[\\]^_`"
def A2 : Str := "abcdefghijklmnopqrstuvwxyz{|}~"
def AA : Str := A1 ++ A2
def one (c : Nat) : D := .str ⟨#[c]⟩
theorem AA_no : (10 : Nat) ∉ AA.cps.toList := by decide +kernel
theorem AA_len : AA.length = 94 := by decide +kernel
theorem strs_one : ∀ cs : List Nat, strsOf (cs.map one) = some (cs.map fun c => (⟨#[c]⟩ : Str))
  | [] => rfl
  | c :: cs => by
    show (strsOf (cs.map one)).map _ = _
    rw [strs_one cs]; rfl
theorem sum_one : ∀ cs : List Nat, ((cs.map fun c => (⟨#[c]⟩ : Str)).map (·.length)).sum = cs.length
  | [] => rfl
  | c :: cs => by
    rw [List.map_cons, List.map_cons, List.sum_cons, sum_one cs, List.length_cons]
    show 1 + cs.length = cs.length + 1
    omega
theorem ix_s {S : Store} {z : Str} {i : Int} {c : Nat} (hz : z.length ≤ sizeLine) (hv : atI z.cps.toList i = some c) : fIx (.str z) (.int i) S = some (.str ⟨#[c]⟩, S) := by
  unfold fIx orE2 fIxL fIxT fIxS getL
  simp only [D.tupL, if_pos hz, hv, Option.map_some]
theorem atI_in {α : Type} {xs : List α} {i : Int} (h0 : 0 ≤ i) (h1 : i < xs.length) : ∃ c, atI xs i = some c ∧ c ∈ xs := by
  have e : ixN xs.length i = some i.toNat := by unfold ixN; rw [if_pos h0, if_pos h1]
  have hi : i.toNat < xs.length := by omega
  refine ⟨xs[i.toNat], ?_, List.getElem_mem hi⟩
  unfold atI
  rw [e]
  show xs[i.toNat]? = _
  rw [List.getElem?_eq_getElem hi]
theorem rangeD_get {lo c : Int} {n i : Nat} {x : D} (h : (rangeD lo c n)[i]? = some x) : i < n ∧ x = .int (lo + (i : Nat) * c) := by
  unfold rangeD at h
  rw [List.getElem?_map] at h
  cases q : (List.range n)[i]? with
  | none => rw [q] at h; cases h
  | some j =>
    rw [q] at h
    have hi : i < n := by simpa using (List.getElem?_eq_some_iff.mp q).1
    rw [List.getElem?_range hi] at q
    cases q
    cases h
    exact ⟨hi, rfl⟩
theorem rangeD_len {lo c : Int} {n : Nat} : (rangeD lo c n).length = n := by simp [rangeD]
theorem take_call {S : Store} {n : Nat} {a b m : Int} (h : S[n]? = some (.lst [.int a, .int b])) (h0 : 0 < m) (hm : m < 2 ^ 31) : ∃ r a' b', gcR S (F_law_take [.ref n, .int m] S) = .ok (.int r) (S.set n (.lst [.int a', .int b'])) ∧ 0 ≤ r ∧ r < m := by
  obtain ⟨r, a', b', e, h1, h2⟩ := take_ h h0 hm
  exact ⟨r, a', b', by rw [e]; exact gc_set0 rfl rfl, h1, h2⟩
theorem joinL_one : ∀ cs : List Nat, TL.joinL [] (cs.map fun c => [c]) = cs
  | [] => rfl
  | [c] => rfl
  | c :: d :: cs => by
    show [c] ++ ([] ++ TL.joinL [] ((d :: cs).map fun c => [c])) = _
    rw [joinL_one (d :: cs)]
    rfl
theorem join_one (cs : List Nat) : (Txt.join (Str.ofString "") (cs.map fun c => (⟨#[c]⟩ : Str))).cps.toList = cs := by
  have h1 := TL.tl_join (Str.ofString "") (cs.map fun c => (⟨#[c]⟩ : Str))
  rw [← TL.join_eq] at h1
  have h2 : (cs.map fun c => (⟨#[c]⟩ : Str)).map TL.tl = cs.map fun c => [c] := by rw [List.map_map]; rfl
  rw [h2, show TL.tl (Str.ofString "") = [] from by decide, joinL_one] at h1
  exact h1
theorem c94 : ((94 : Nat) : Int) = 94 := rfl
theorem text_ {S : Store} {n : Nat} {a b : Int} (h : S[n]? = some (.lst [.int a, .int b])) : ∃ (x : Str) (a' b' : Int) (T : Store), F_law_text [.ref n] S = .ok (.str x) (S.set n (.lst [.int a', .int b']) ++ T) ∧ x.length ≤ 31 ∧ (10 : Nat) ∉ x.cps.toList := by
  have hl1 : (A1.length + A2.length ≤ 16777216) = True := eq_true (by decide +kernel)
  have hl2 : (AA.length ≤ 16777216) = True := eq_true (by rw [AA_len]; decide)
  obtain ⟨r0, a0, b0, e0, p1, p2⟩ := take_call h (m := 31) (by decide) (by decide)
  have s62 : small62 r0 = true := by unfold small62; exact decide_eq_true ⟨by omega, by omega⟩
  obtain ⟨ys, S', e1, ⟨a', b', rfl⟩, cs, rfl, hcs, hlen⟩ := lcL_inv (g := gNm 2) (c := sYes) (m := (sBin fIx (sVar 1) (sCall F_law_take (sConsA (sVar 0) (sConsA (sApp fLen (sConsA (sVar 1) sNilA)) sNilA))))) (ok := fun _ => True) (env := [some (.ref n), some (.str AA), none])
    (fun j acc S' => (∃ a' b' : Int, S' = S.set n (.lst [.int a', .int b'])) ∧ ∃ cs : List Nat, acc = cs.map one ∧ (∀ c ∈ cs, c ∈ AA.cps.toList) ∧ cs.length = j) (rangeD 0 1 r0.toNat) 0 [] (S.set n (.lst [.int a0, .int b0]))
    ⟨⟨a0, b0, rfl⟩, [], rfl, fun _ z => (nomatch z), rfl⟩ (fun _ _ _ _ => trivial) (by
      rintro i x acc S' ⟨⟨a1, b1, rfl⟩, cs, rfl, hcs, hlen⟩ hx
      obtain ⟨hi, rfl⟩ := rangeD_get hx
      obtain ⟨r, a2, b2, e, q1, q2⟩ := take_call (set_get (c' := .lst [.int a1, .int b1]) h) (m := 94) (by decide) (by decide)
      obtain ⟨c, hc, hm⟩ := atI_in (xs := AA.cps.toList) q1 (by
        have e94 : AA.cps.toList.length = 94 := by have := AA_len; simpa [Str.length] using this
        rw [e94]; exact q2)
      refine ⟨_, _, _, true, rfl, rfl, fun _ => ⟨one c, S.set n (.lst [.int a2, .int b2]), ?_, ?_, ⟨a2, b2, rfl⟩, cs ++ [c], by simp, fun d hd => ?_, by simp [hlen]⟩, fun z => (nomatch z)⟩
      · have hz : AA.length ≤ sizeLine := by rw [AA_len, sizeLine_eq]; decide
        rw [List.set_set] at e
        simp only [sCall, fLen, hl2, AA_len, c94, e, ix_s hz hc, fnB, sSeq, sSet, sRet, sRetN, sDrop, sLst, sTup, sConsA, sNilA, sVar, sC, sBin, sUn, sApp, tOf, asB, sTAnd, sTOr, sTNot, sAnd, sOr, sNot, sIf, sIfS, sSkip, sAsg, gNm, gsNil, gsCons, gUn, Res.out, Out.seq, Res.of, bind_ok, bind_exc, D.tupL, List.map_cons, List.map_nil, List.length_cons, List.length_nil, List.length_append, List.replicate_succ, List.replicate_zero, List.set_cons_succ, List.set_cons_zero, List.cons_append, List.nil_append, List.append_assoc, lk, lk0, List.getElem?_cons_zero, List.getElem?_cons_succ, Nat.add_assoc, Nat.reduceAdd, Nat.reduceSub, Nat.reduceLeDiff, Nat.reduceEqDiff, sizeLine_eq, if_true, if_false, Option.bind_some, Option.bind_none, Bool.not_true, Bool.not_false, Bool.false_eq_true, reduceIte, reduceCtorEq, and_self, and_true, true_and, Bool.and_true, Bool.or_true, Bool.true_and, Nat.le_refl]
        rfl
      · rw [List.length_map, hlen, sizeLine_eq]; omega
      · rcases List.mem_append.mp hd with z | z
        · exact hcs d z
        · simp at z; subst z; exact hm)
  have hB : B_law_text = (sSeq (sSet 1 (sC (.str A1))) (sSeq (sSet 1 (sBin fAdd (sVar 1) (sC (.str A2)))) (sRet (sMt "str" fJoin (sC (.str "")) (sConsA (sLc [2] (itR1 (sCall F_law_take (sConsA (sVar 0) (sConsA (sC (.int 31)) sNilA)))) (gNm 2) sYes (sBin fIx (sVar 1) (sCall F_law_take (sConsA (sVar 0) (sConsA (sApp fLen (sConsA (sVar 1) sNilA)) sNilA))))) sNilA))))) := rfl
  have hj : ((cs.map fun c => (⟨#[c]⟩ : Str)).map (·.length)).sum + (cs.map fun c => (⟨#[c]⟩ : Str)).length * Str.length (Str.ofString "") ≤ 16777216 := by
    rw [sum_one, List.length_map]
    have : Str.length (Str.ofString "") = 0 := by decide
    rw [this]
    rw [rangeD_len] at hlen
    omega
  refine ⟨Txt.join (Str.ofString "") (cs.map fun c => ⟨#[c]⟩), a', b', [.lst (cs.map one)], ?_, ?_, ?_⟩
  · rw [F_law_text, hB]
    have hap : A1 ++ A2 = AA := rfl
    have hsl : ∀ L : Store, (S.set n (.lst [.int a', .int b']) ++ L)[(S.set n (.lst [.int a', .int b'])).length]? = L[0]? := fun L => lk0 _ L
    simp only [fAdd, orE2, fAddI, fI, fAddS, hl1, hap, sMt, sLc, itR1, sCall, e0, s62, wipeD, e1, fJoin, tyB, beq_self_eq_true, getS, getL, hsl, strs_one, hj, fnB, sSeq, sSet, sRet, sRetN, sDrop, sLst, sTup, sConsA, sNilA, sVar, sC, sBin, sUn, sApp, tOf, asB, sTAnd, sTOr, sTNot, sAnd, sOr, sNot, sIf, sIfS, sSkip, sAsg, gNm, gsNil, gsCons, gUn, Res.out, Out.seq, Res.of, bind_ok, bind_exc, D.tupL, List.map_cons, List.map_nil, List.length_cons, List.length_nil, List.length_append, List.replicate_succ, List.replicate_zero, List.set_cons_succ, List.set_cons_zero, List.cons_append, List.nil_append, List.append_assoc, lk, lk0, List.getElem?_cons_zero, List.getElem?_cons_succ, Nat.add_assoc, Nat.reduceAdd, Nat.reduceSub, Nat.reduceLeDiff, Nat.reduceEqDiff, sizeLine_eq, if_true, if_false, Option.bind_some, Option.bind_none, Bool.not_true, Bool.not_false, Bool.false_eq_true, reduceIte, reduceCtorEq, and_self, and_true, true_and, Bool.and_true, Bool.or_true, Bool.true_and, Nat.le_refl]
  · have := congrArg List.length (join_one cs)
    rw [rangeD_len] at hlen
    have e : (Txt.join (Str.ofString "") (cs.map fun c => (⟨#[c]⟩ : Str))).length = (Txt.join (Str.ofString "") (cs.map fun c => (⟨#[c]⟩ : Str))).cps.toList.length := by simp [Str.length]
    rw [e, this]
    omega
  · rw [join_one]
    exact fun hm => AA_no (hcs _ hm)
/-! ### the refusals, the classes -/
def XL : List String := ["NoFloor", "NoText", "NoPlace", "NoPush", "NotLight", "NoNumber", "NoRoom", "NoWays", "NoChoice", "NoNet", "NoArrivals", "NoLates", "NoTables", "NoRow", "CantBe", "NoTiming", "TooMany", "NoSay", "NoName"]
def clsB (C : String) : List Bool := XL.map fun Y => isX Y C
theorem XL_XS : ∀ C ∈ XL, C ∈ XS := by decide
theorem flat_bls : ∀ bs : List Bool, D.flats (bs.map D.bl) = true
  | [] => rfl
  | b :: bs => by simp [D.flats, D.flat, flat_bls bs]
theorem flat_exv : ∀ bs : List String, D.flats (bs.map D.exv) = true
  | [] => rfl
  | b :: bs => by simp [D.flats, D.flat, flat_exv bs]
theorem classes_ {C : String} (hC : C ∈ XS) (S : Store) : gcR S (F_law_classes [.exv C] S) = .ok (.ref S.length) (S ++ [.lst ((clsB C).map .bl)]) := by
  have h : ∃ T, F_law_classes [.exv C] S = .ok (.ref (S.length + 8)) (S ++ T) ∧ T[8]? = some (.lst ((clsB C).map .bl)) := by
    simp only [F_law_classes, B_law_classes, sIsX, hC, fAdd, orE2, fAddI, fI, fT, fAddS, fAddL, fAddT, getM, fnB, sSeq, sSet, sRet, sRetN, sDrop, sLst, sTup, sConsA, sNilA, sVar, sC, sBin, sUn, sApp, tOf, asB, sTAnd, sTOr, sTNot, sAnd, sOr, sNot, sIf, sIfS, sSkip, sAsg, gNm, gsNil, gsCons, gUn, Res.out, Out.seq, Res.of, bind_ok, bind_exc, D.tupL, List.map_cons, List.map_nil, List.length_cons, List.length_nil, List.length_append, List.replicate_succ, List.replicate_zero, List.set_cons_succ, List.set_cons_zero, List.cons_append, List.nil_append, List.append_assoc, lk, lk0, List.getElem?_cons_zero, List.getElem?_cons_succ, Nat.add_assoc, Nat.reduceAdd, Nat.reduceSub, Nat.reduceLeDiff, Nat.reduceEqDiff, sizeLine_eq, if_true, if_false, Option.bind_some, Option.bind_none, Bool.not_true, Bool.not_false, Bool.false_eq_true, reduceIte, reduceCtorEq, and_self, and_true, true_and, Bool.and_true, Bool.or_true, Bool.true_and, Nat.le_refl]
    exact ⟨_, rfl, rfl⟩
  obtain ⟨T, e, ht⟩ := h
  rw [e]
  exact gc_ref ht (by unfold Cell.flat; exact flat_bls _)
theorem hot_ (C : String) (S : Store) : gcR S (H_law_classes C S) = .ok (.ref S.length) (S ++ [.lst ((clsB C).map .bl)]) := by
  have h : ∃ T, H_law_classes C S = .ok (.ref (S.length + 8)) (S ++ T) ∧ T[8]? = some (.lst ((clsB C).map .bl)) := by
    simp only [H_law_classes, BH_law_classes, sIsP, fAdd, orE2, fAddI, fI, fT, fAddS, fAddL, fAddT, getM, fnB, sSeq, sSet, sRet, sRetN, sDrop, sLst, sTup, sConsA, sNilA, sVar, sC, sBin, sUn, sApp, tOf, asB, sTAnd, sTOr, sTNot, sAnd, sOr, sNot, sIf, sIfS, sSkip, sAsg, gNm, gsNil, gsCons, gUn, Res.out, Out.seq, Res.of, bind_ok, bind_exc, D.tupL, List.map_cons, List.map_nil, List.length_cons, List.length_nil, List.length_append, List.replicate_succ, List.replicate_zero, List.set_cons_succ, List.set_cons_zero, List.cons_append, List.nil_append, List.append_assoc, lk, lk0, List.getElem?_cons_zero, List.getElem?_cons_succ, Nat.add_assoc, Nat.reduceAdd, Nat.reduceSub, Nat.reduceLeDiff, Nat.reduceEqDiff, sizeLine_eq, if_true, if_false, Option.bind_some, Option.bind_none, Bool.not_true, Bool.not_false, Bool.false_eq_true, reduceIte, reduceCtorEq, and_self, and_true, true_and, Bool.and_true, Bool.or_true, Bool.true_and, Nat.le_refl]
    exact ⟨_, rfl, rfl⟩
  obtain ⟨T, e, ht⟩ := h
  rw [e]
  exact gc_ref ht (by unfold Cell.flat; exact flat_bls _)
theorem hot_ind (a : Addr) (C : String) (S : Store) : fnB 1 2 (BH_law_classes a C) [.kd a] S = H_law_classes C S := by
  simp only [H_law_classes, BH_law_classes, sIsP, fAdd, orE2, fAddI, fI, fT, fAddS, fAddL, fAddT, getM, fnB, sSeq, sSet, sRet, sRetN, sDrop, sLst, sTup, sConsA, sNilA, sVar, sC, sBin, sUn, sApp, tOf, asB, sTAnd, sTOr, sTNot, sAnd, sOr, sNot, sIf, sIfS, sSkip, sAsg, gNm, gsNil, gsCons, gUn, Res.out, Out.seq, Res.of, bind_ok, bind_exc, D.tupL, List.map_cons, List.map_nil, List.length_cons, List.length_nil, List.length_append, List.replicate_succ, List.replicate_zero, List.set_cons_succ, List.set_cons_zero, List.cons_append, List.nil_append, List.append_assoc, lk, lk0, List.getElem?_cons_zero, List.getElem?_cons_succ, Nat.add_assoc, Nat.reduceAdd, Nat.reduceSub, Nat.reduceLeDiff, Nat.reduceEqDiff, sizeLine_eq, if_true, if_false, Option.bind_some, Option.bind_none, Bool.not_true, Bool.not_false, Bool.false_eq_true, reduceIte, reduceCtorEq, and_self, and_true, true_and, Bool.and_true, Bool.or_true, Bool.true_and, Nat.le_refl]
theorem bare_ (S : Store) : gcR S (F_law_bare [] S) = .ok (.ref S.length) (S ++ [.lst (XL.map .exv)]) := by
  have h : ∃ T n, F_law_bare [] S = .ok (.ref (S.length + n)) (S ++ T) ∧ T[n]? = some (.lst (XL.map .exv)) := by
    simp only [F_law_bare, B_law_bare, sExc0, fAdd, orE2, fAddI, fI, fT, fAddS, fAddL, fAddT, getM, fnB, sSeq, sSet, sRet, sRetN, sDrop, sLst, sTup, sConsA, sNilA, sVar, sC, sBin, sUn, sApp, tOf, asB, sTAnd, sTOr, sTNot, sAnd, sOr, sNot, sIf, sIfS, sSkip, sAsg, gNm, gsNil, gsCons, gUn, Res.out, Out.seq, Res.of, bind_ok, bind_exc, D.tupL, List.map_cons, List.map_nil, List.length_cons, List.length_nil, List.length_append, List.replicate_succ, List.replicate_zero, List.set_cons_succ, List.set_cons_zero, List.cons_append, List.nil_append, List.append_assoc, lk, lk0, List.getElem?_cons_zero, List.getElem?_cons_succ, Nat.add_assoc, Nat.reduceAdd, Nat.reduceSub, Nat.reduceLeDiff, Nat.reduceEqDiff, sizeLine_eq, if_true, if_false, Option.bind_some, Option.bind_none, Bool.not_true, Bool.not_false, Bool.false_eq_true, reduceIte, reduceCtorEq, and_self, and_true, true_and, Bool.and_true, Bool.or_true, Bool.true_and, Nat.le_refl]
    exact ⟨_, _, rfl, rfl⟩
  obtain ⟨T, n, e, ht⟩ := h
  rw [e]
  exact gc_ref ht (by unfold Cell.flat; exact flat_exv _)
theorem made_ (x : Str) (S : Store) : gcR S (F_law_made [.str x] S) = .ok (.ref S.length) (S ++ [.lst (XL.map .exv)]) := by
  have h : ∃ T n, F_law_made [.str x] S = .ok (.ref (S.length + n)) (S ++ T) ∧ T[n]? = some (.lst (XL.map .exv)) := by
    simp only [F_law_made, B_law_made, sExc, fAdd, orE2, fAddI, fI, fT, fAddS, fAddL, fAddT, getM, fnB, sSeq, sSet, sRet, sRetN, sDrop, sLst, sTup, sConsA, sNilA, sVar, sC, sBin, sUn, sApp, tOf, asB, sTAnd, sTOr, sTNot, sAnd, sOr, sNot, sIf, sIfS, sSkip, sAsg, gNm, gsNil, gsCons, gUn, Res.out, Out.seq, Res.of, bind_ok, bind_exc, D.tupL, List.map_cons, List.map_nil, List.length_cons, List.length_nil, List.length_append, List.replicate_succ, List.replicate_zero, List.set_cons_succ, List.set_cons_zero, List.cons_append, List.nil_append, List.append_assoc, lk, lk0, List.getElem?_cons_zero, List.getElem?_cons_succ, Nat.add_assoc, Nat.reduceAdd, Nat.reduceSub, Nat.reduceLeDiff, Nat.reduceEqDiff, sizeLine_eq, if_true, if_false, Option.bind_some, Option.bind_none, Bool.not_true, Bool.not_false, Bool.false_eq_true, reduceIte, reduceCtorEq, and_self, and_true, true_and, Bool.and_true, Bool.or_true, Bool.true_and, Nat.le_refl]
    exact ⟨_, _, rfl, rfl⟩
  obtain ⟨T, n, e, ht⟩ := h
  rw [e]
  exact gc_ref ht (by unfold Cell.flat; exact flat_exv _)
/-! ### lists of truths, compared -/
theorem mapO_bls {n : Nat} {S : Store} : ∀ bs : List Bool, mapO (pd n S) (bs.map D.bl) = some (bs.map PyData.bool)
  | [] => rfl
  | b :: bs => by
    have e : pd n S (.bl b) = some (.bool b) := by cases n <;> rfl
    rw [List.map_cons, mapO, e, mapO_bls bs]
    rfl
theorem lay_bls : ∀ bs : List Bool, PyData.canLayAll0 (bs.map PyData.bool) = true
  | [] => by simp [PyData.canLayAll0]
  | b :: bs => by simp [PyData.canLayAll0, PyData.canLay0, lay_bls bs]
theorem dep_bls : ∀ bs : List Bool, PyData.depthAll (bs.map PyData.bool) = 0
  | [] => by simp [PyData.depthAll]
  | b :: bs => by simp [PyData.depthAll, PyData.depth, dep_bls bs]
theorem pd_bls {S : Store} {n : Nat} {bs : List Bool} (h : S[n]? = some (.lst (bs.map .bl))) : pdS S (.ref n) = some (.list (bs.map .bool)) := by
  have hL : getL S (.ref n) = some (bs.map .bl) := by unfold getL; simp only [h]
  have e : pd 60 S (.ref n) = some (.list (bs.map .bool)) := by
    show (match getL S (.ref n) with | some xs => (mapO (pd 59 S) xs).map PyData.list | none => none) = _
    rw [hL]
    show (mapO (pd 59 S) (bs.map .bl)).map PyData.list = _
    rw [mapO_bls]; rfl
  have hs : SeqAt.shaped (.list (bs.map PyData.bool)) = true := by
    simp [SeqAt.shaped, PyData.canLay0, PyData.depth, lay_bls, dep_bls]
  unfold pdS
  rw [e]
  simp only [if_pos hs]
theorem eqv_bls : ∀ as bs : List Bool, PyData.eqvAll (as.map PyData.bool) (bs.map PyData.bool) = decide (as = bs)
  | [], [] => by simp [PyData.eqvAll]
  | [], _ :: _ => by simp [PyData.eqvAll]
  | _ :: _, [] => by simp [PyData.eqvAll]
  | a :: as, b :: bs => by
    rw [List.map_cons, List.map_cons, PyData.eqvAll, eqv_bls as bs, PyData.eqv]
    by_cases h : a = b
    · subst h; simp
    · simp [h]
theorem ne_bls {S : Store} {n m : Nat} {as bs : List Bool} (h : S[n]? = some (.lst (as.map .bl))) (h' : S[m]? = some (.lst (bs.map .bl))) : fNe (.ref n) (.ref m) S = some (.bl (!decide (as = bs)), S) := by
  unfold fNe
  rw [pd_bls h, pd_bls h']
  show some (D.bl (!PyData.eqv (.list _) (.list _)), S) = _
  rw [PyData.eqv, eqv_bls]
end K17
set_option linter.all false
set_option maxRecDepth 100000
namespace K17
open PySem PySem.Spec PyProof.Rows L2 Z
/-- a row of truths, one place true -/
def rowB (i : Int) (n : Nat) : List Bool := (List.range n).map fun (j : Nat) => decide ((j : Int) = i)
theorem eq_int {S : Store} (i j : Int) : fEq (.int i) (.int j) S = some (.bl (decide (i = j)), S) := by
  have h : ∀ i : Int, pdS S (.int i) = some (.int i) := fun i => rfl
  unfold fEq
  rw [h, h]
  show some (D.bl (PyData.eqv (.int i) (.int j)), S) = _
  rw [PyData.eqv]
  by_cases e : i = j
  · subst e; simp
  · simp [e]
theorem ne_int {S : Store} (i j : Int) : fNe (.int i) (.int j) S = some (.bl (!decide (i = j)), S) := by
  have h : ∀ i : Int, pdS S (.int i) = some (.int i) := fun i => rfl
  unfold fNe
  rw [h, h]
  show some (D.bl (!PyData.eqv (.int i) (.int j)), S) = _
  rw [PyData.eqv]
  by_cases e : i = j
  · subst e; simp
  · simp [e]
/-- a comprehension that leaves the store alone -/
theorem lcL_pure {g : Tgt} {c : ST} {m : SE} {ok : Store → Prop} {env : ES} {S : Store} (f : D → D) : ∀ (xs acc : List D), ok S → (∀ x ∈ xs, ∃ e1, g x env S = some (e1, S) ∧ c e1 S = .ok true S ∧ m e1 S = .ok (f x) S) → acc.length + xs.length ≤ sizeLine →
    lcL g c m ok env xs acc S = .ok (acc ++ xs.map f) S
  | [], acc, h, _, _ => by unfold lcL; rw [if_pos h, List.map_nil, List.append_nil]
  | x :: xs, acc, h, hs, hl => by
    obtain ⟨e1, h1, h2, h3⟩ := hs x List.mem_cons_self
    rw [List.length_cons] at hl
    unfold lcL
    rw [if_pos h, h1]
    simp only [h2, noX, bind_ok, if_true, h3]
    rw [if_pos (by omega), lcL_pure f xs (acc ++ [f x]) h (fun y hy => hs y (List.mem_cons_of_mem _ hy)) (by rw [List.length_append]; simp; omega)]
    rw [List.map_cons, List.append_assoc]
    rfl
theorem row_ {env : ES} {S : Store} {i : Int} {n j k : Nat} (he : ∀ d, ((wipeD env [k]).set k (some d))[k]? = some (some d)) (hi : ∀ d, ((wipeD env [k]).set k (some d))[j]? = some (some (.int i))) (hn : n ≤ 19) :
    sLc [k] (itR1 (sC (.int n))) (gNm k) sYes (sBin fEq (sVar k) (sVar j)) env S = .ok (.ref S.length) (S ++ [.lst ((rowB i n).map .bl)]) := by
  have s62 : small62 (n : Int) = true := by unfold small62; exact decide_eq_true ⟨by omega, by omega⟩
  have e := lcL_pure (g := gNm k) (c := sYes) (m := sBin fEq (sVar k) (sVar j)) (ok := fun _ => True) (env := wipeD env [k]) (S := S) (fun d => match d with | .int z => .bl (decide (z = i)) | _ => .non) (rangeD 0 1 n) [] trivial (fun x hx => by
    obtain ⟨p, hp⟩ := List.getElem?_of_mem hx
    obtain ⟨_, rfl⟩ := rangeD_get hp
    refine ⟨_, rfl, rfl, ?_⟩
    simp only [sBin, sVar, he, hi, bind_ok, eq_int, Res.of]) (by rw [rangeD_len, sizeLine_eq]; simp; omega)
  have en : (n : Int).toNat = n := by simp
  have e2 : (rangeD 0 1 n).map (fun d => match d with | .int z => D.bl (decide (z = i)) | _ => .non) = (rowB i n).map .bl := by
    unfold rangeD rowB
    rw [List.map_map, List.map_map]
    refine List.map_congr_left fun q _ => ?_
    simp
  have h1 : itR1 (sC (.int n)) env S = .ok ⟨rangeD 0 1 n, fun _ => True⟩ S := by
    unfold itR1 sC
    rw [bind_ok]
    show (if small62 (n : Int) = true then _ else _) = _
    rw [if_pos s62, en]
  unfold sLc
  rw [h1, bind_ok]
  show (lcL (gNm k) sYes (sBin fEq (sVar k) (sVar j)) (fun _ => True) (wipeD env [k]) (rangeD 0 1 n) [] S).bind _ = _
  rw [e, bind_ok, List.nil_append, e2]
end K17
set_option linter.all false
set_option maxRecDepth 100000
namespace K17
open PySem PySem.Spec PyProof.Rows L2 Z
theorem XL_row : ∀ i : Nat, i < 19 → clsB (XL.getD i "") = rowB i 19 := by decide +kernel
theorem XL_len : XL.length = 19 := rfl
theorem XL_fall : ∀ C, isX "FallError" C = true := fun C => by unfold isX; simp
theorem enumD_get {xs : List D} {i : Nat} {x : D} (h : (enumD xs)[i]? = some x) : ∃ d, xs[i]? = some d ∧ x = .tup [.int (i : Nat), d] := by
  unfold enumD at h
  rw [List.getElem?_map] at h
  cases q : (List.range xs.length)[i]? with
  | none => rw [q] at h; cases h
  | some j =>
    rw [q] at h
    have hi : i < xs.length := by simpa using (List.getElem?_eq_some_iff.mp q).1
    rw [List.getElem?_range hi] at q
    cases q
    cases h
    exact ⟨xs[i], List.getElem?_eq_getElem hi, by simp [List.getElem?_eq_getElem hi]⟩
theorem app_get {S T : Store} {n : Nat} {c : Cell} (h : S[n]? = some c) : (S ++ T)[n]? = some c := by
  rw [List.getElem?_append_left (List.getElem?_eq_some_iff.mp h).1]; exact h
theorem right_ {S : Store} {n : Nat} (h : S[n]? = some (.lst (XL.map .exv))) : gcR S (F_law_are_right [.ref n] S) = .ok (.bl true) S := by
  have hL : ∀ T : Store, getL (S ++ T) (.ref n) = some (XL.map .exv) := fun T => by unfold getL; simp only [app_get h]
  have hL0 : getL S (.ref n) = some (XL.map .exv) := by have := hL []; rwa [List.append_nil] at this
  obtain ⟨e, S', e1, ⟨T, rfl⟩, v1, v2, rfl⟩ := forL_inv (g := gUn 2 (gsCons (gNm 1) (gsCons (gNm 2) gsNil))) (b := (sSeq (sIfS (tOf (sBin fNe (sCall F_law_classes (sConsA (sVar 2) sNilA)) (sLc [3] (itR1 (sC (.int 19))) (gNm 3) sYes (sBin fEq (sVar 3) (sVar 1))))) (sRet (sC (.bl false))) sSkip) (sIfS (sTOr (sTNot (tOf (sIsX XS (isX "FallError") (sVar 2)))) (sTNot (tOf (sIsX XS (fun _ => true) (sVar 2))))) (sRet (sC (.bl false))) sSkip)))
    (ok := fun S' => getL S' (.ref n) = some (XL.map .exv)) (fun _ env S' => (∃ T, S' = S ++ T) ∧ ∃ v1 v2, env = [some (.ref n), v1, v2, none]) (enumD (XL.map .exv)) 0 [some (.ref n), none, none, none] S
    ⟨⟨[], by simp⟩, none, none, rfl⟩ (by rintro i env S' ⟨⟨T, rfl⟩, _⟩; exact hL T) (by
      rintro i x env S' ⟨⟨T, rfl⟩, v1, v2, rfl⟩ hx
      obtain ⟨d, hd, rfl⟩ := enumD_get hx
      rw [List.getElem?_map] at hd
      cases q : XL[i]? with
      | none => rw [q] at hd; cases hd
      | some C =>
        rw [q] at hd
        cases hd
        have hi : i < 19 := (List.getElem?_eq_some_iff.mp q).1
        have hC : C ∈ XS := XL_XS C (List.mem_of_getElem? q)
        have hrow : clsB C = rowB i 19 := by
          have := XL_row i hi
          rw [show XL.getD i "" = C by rw [List.getD_eq_getElem?_getD, q]; rfl] at this
          exact this
        refine ⟨[some (.ref n), some (.int i), some (.exv C), none], _, [some (.ref n), some (.int i), some (.exv C), none], S ++ (T ++ ([Cell.lst ((clsB C).map .bl)] ++ [Cell.lst ((rowB i 19).map .bl)])), rfl, ?_, ⟨_, rfl⟩, _, _, rfl⟩
        have r1 := row_ (env := [some (.ref n), some (.int i), some (.exv C), none]) (S := S ++ T ++ [Cell.lst ((clsB C).map D.bl)]) (i := i) (n := 19) (j := 1) (k := 3) (fun _ => rfl) (fun _ => rfl) (Nat.le_refl _)
        have n1 := ne_bls (S := S ++ T ++ [Cell.lst ((clsB C).map D.bl)] ++ [Cell.lst ((rowB i 19).map D.bl)]) (n := (S ++ T).length) (m := (S ++ T ++ [Cell.lst ((clsB C).map D.bl)]).length) (as := clsB C) (bs := rowB i 19) (by rw [List.append_assoc, lk0]; rfl) (by rw [lk0]; rfl)
        rw [hrow, decide_eq_true rfl] at n1
        have c19 : ((19 : Nat) : Int) = 19 := rfl
        rw [c19] at r1
        rw [hrow] at r1 ⊢
        have cl := classes_ hC (S ++ T)
        rw [hrow] at cl
        simp only [sSeq, sIfS, tOf, sBin, sCall, sConsA, sNilA, sVar, List.getElem?_cons_succ, List.getElem?_cons_zero, bind_ok, cl, r1, n1, Res.of, asB, Res.out, Bool.not_true, Bool.false_eq_true, if_false, sSkip, Out.seq, sTOr, sTNot, sIsX, hC, if_true, XL_fall]
        simp only [List.append_assoc])
  have hb : F_law_are_right [.ref n] S = .ok (.bl true) (S ++ T) := by
    have hlen : (XL.map D.exv).length = 19 := rfl
    have c19 : ((19 : Nat) : Int) = 19 := rfl
    simp only [F_law_are_right, B_law_are_right, sFor, itEnum, hL0, e1, fLen, getS, hL, hlen, c19, eq_int, decide_true, fnB, sSeq, sSet, sRet, sRetN, sDrop, sLst, sTup, sConsA, sNilA, sVar, sC, sBin, sUn, sApp, tOf, asB, sTAnd, sTOr, sTNot, sAnd, sOr, sNot, sIf, sIfS, sSkip, sAsg, gNm, gsNil, gsCons, gUn, Res.out, Out.seq, Res.of, bind_ok, bind_exc, D.tupL, List.map_cons, List.map_nil, List.length_cons, List.length_nil, List.length_append, List.replicate_succ, List.replicate_zero, List.set_cons_succ, List.set_cons_zero, List.cons_append, List.nil_append, List.append_assoc, lk, lk0, List.getElem?_cons_zero, List.getElem?_cons_succ, Nat.add_assoc, Nat.reduceAdd, Nat.reduceSub, Nat.reduceLeDiff, Nat.reduceEqDiff, sizeLine_eq, if_true, if_false, Option.bind_some, Option.bind_none, Bool.not_true, Bool.not_false, Bool.false_eq_true, reduceIte, reduceCtorEq, and_self, and_true, true_and, Bool.and_true, Bool.or_true, Bool.true_and, Nat.le_refl]
  rw [hb]
  exact gc_app rfl
end K17
set_option linter.all false
set_option maxRecDepth 100000
namespace K17
open PySem PySem.Spec PyProof.Rows L2 Z
theorem st_ {α : Type} (S L : List α) (n : Nat) (x : α) : (S ++ L).set (S.length + n) x = S ++ L.set n x := by
  rw [List.set_append_right _ _ (Nat.le_add_right _ _), Nat.add_sub_cancel_left]
theorem st0 {α : Type} (S L : List α) (x : α) : (S ++ L).set S.length x = S ++ L.set 0 x := st_ S L 0 x
theorem whole_s (x : Str) (S : Store) : gcR S (F_is_whole [.str x] S) = .ok (.bl false) S := by
  have t : isiT "str" "int" = false := by decide
  have h : F_is_whole [.str x] S = .ok (.bl false) S := by
    simp only [F_is_whole, B_is_whole, sIsi, tyD, t, fnB, sSeq, sSet, sRet, sRetN, sDrop, sLst, sTup, sConsA, sNilA, sVar, sC, sBin, sUn, sApp, tOf, asB, sTAnd, sTOr, sTNot, sAnd, sOr, sNot, sIf, sIfS, sSkip, sAsg, gNm, gsNil, gsCons, gUn, Res.out, Out.seq, Res.of, bind_ok, bind_exc, D.tupL, List.map_cons, List.map_nil, List.length_cons, List.length_nil, List.length_append, List.replicate_succ, List.replicate_zero, List.set_cons_succ, List.set_cons_zero, List.cons_append, List.nil_append, List.append_assoc, lk, lk0, List.getElem?_cons_zero, List.getElem?_cons_succ, Nat.add_assoc, Nat.reduceAdd, Nat.reduceSub, Nat.reduceLeDiff, Nat.reduceEqDiff, sizeLine_eq, if_true, if_false, Option.bind_some, Option.bind_none, Bool.not_true, Bool.not_false, Bool.false_eq_true, reduceIte, reduceCtorEq, and_self, and_true, true_and, Bool.and_true, Bool.or_true, Bool.true_and, Nat.le_refl, Nat.reduceLT]
  rw [h, gc_eq rfl]
theorem whole_i (i : Int) (S : Store) : gcR S (F_is_whole [.int i] S) = .ok (.bl true) S := by
  have t : isiT "int" "int" = true := by decide
  have t2 : isiT "int" "bool" = false := by decide
  have h : F_is_whole [.int i] S = .ok (.bl true) S := by
    simp only [F_is_whole, B_is_whole, sIsi, tyD, t, t2, fnB, sSeq, sSet, sRet, sRetN, sDrop, sLst, sTup, sConsA, sNilA, sVar, sC, sBin, sUn, sApp, tOf, asB, sTAnd, sTOr, sTNot, sAnd, sOr, sNot, sIf, sIfS, sSkip, sAsg, gNm, gsNil, gsCons, gUn, Res.out, Out.seq, Res.of, bind_ok, bind_exc, D.tupL, List.map_cons, List.map_nil, List.length_cons, List.length_nil, List.length_append, List.replicate_succ, List.replicate_zero, List.set_cons_succ, List.set_cons_zero, List.cons_append, List.nil_append, List.append_assoc, lk, lk0, List.getElem?_cons_zero, List.getElem?_cons_succ, Nat.add_assoc, Nat.reduceAdd, Nat.reduceSub, Nat.reduceLeDiff, Nat.reduceEqDiff, sizeLine_eq, if_true, if_false, Option.bind_some, Option.bind_none, Bool.not_true, Bool.not_false, Bool.false_eq_true, reduceIte, reduceCtorEq, and_self, and_true, true_and, Bool.and_true, Bool.or_true, Bool.true_and, Nat.le_refl, Nat.reduceLT]
  rw [h, gc_eq rfl]
theorem between_s (x : Str) (a b : D) (S : Store) : gcR S (F_is_between [.str x, a, b] S) = .ok (.bl false) S := by
  have h : F_is_between [.str x, a, b] S = .ok (.bl false) S := by
    simp only [F_is_between, B_is_between, sCall, whole_s, fnB, sSeq, sSet, sRet, sRetN, sDrop, sLst, sTup, sConsA, sNilA, sVar, sC, sBin, sUn, sApp, tOf, asB, sTAnd, sTOr, sTNot, sAnd, sOr, sNot, sIf, sIfS, sSkip, sAsg, gNm, gsNil, gsCons, gUn, Res.out, Out.seq, Res.of, bind_ok, bind_exc, D.tupL, List.map_cons, List.map_nil, List.length_cons, List.length_nil, List.length_append, List.replicate_succ, List.replicate_zero, List.set_cons_succ, List.set_cons_zero, List.cons_append, List.nil_append, List.append_assoc, lk, lk0, List.getElem?_cons_zero, List.getElem?_cons_succ, Nat.add_assoc, Nat.reduceAdd, Nat.reduceSub, Nat.reduceLeDiff, Nat.reduceEqDiff, sizeLine_eq, if_true, if_false, Option.bind_some, Option.bind_none, Bool.not_true, Bool.not_false, Bool.false_eq_true, reduceIte, reduceCtorEq, and_self, and_true, true_and, Bool.and_true, Bool.or_true, Bool.true_and, Nat.le_refl, Nat.reduceLT]
  rw [h, gc_eq rfl]
theorem between_i (i a b : Int) (S : Store) : gcR S (F_is_between [.int i, .int a, .int b] S) = .ok (.bl (decide (a ≤ i) && decide (i ≤ b))) S := by
  have h : F_is_between [.int i, .int a, .int b] S = .ok (.bl (decide (a ≤ i) && decide (i ≤ b))) S := by
    by_cases c : a ≤ i
    · simp only [F_is_between, B_is_between, sCall, whole_i, sChain, decide_eq_true c, fnB, sSeq, sSet, sRet, sRetN, sDrop, sLst, sTup, sConsA, sNilA, sVar, sC, sBin, sUn, sApp, tOf, asB, sTAnd, sTOr, sTNot, sAnd, sOr, sNot, sIf, sIfS, sSkip, sAsg, gNm, gsNil, gsCons, gUn, Res.out, Out.seq, Res.of, bind_ok, bind_exc, D.tupL, List.map_cons, List.map_nil, List.length_cons, List.length_nil, List.length_append, List.replicate_succ, List.replicate_zero, List.set_cons_succ, List.set_cons_zero, List.cons_append, List.nil_append, List.append_assoc, lk, lk0, List.getElem?_cons_zero, List.getElem?_cons_succ, Nat.add_assoc, Nat.reduceAdd, Nat.reduceSub, Nat.reduceLeDiff, Nat.reduceEqDiff, sizeLine_eq, if_true, if_false, Option.bind_some, Option.bind_none, Bool.not_true, Bool.not_false, Bool.false_eq_true, reduceIte, reduceCtorEq, and_self, and_true, true_and, Bool.and_true, Bool.or_true, Bool.true_and, Nat.le_refl, Nat.reduceLT]
    · simp only [F_is_between, B_is_between, sCall, whole_i, sChain, decide_eq_false c, Bool.false_and, fnB, sSeq, sSet, sRet, sRetN, sDrop, sLst, sTup, sConsA, sNilA, sVar, sC, sBin, sUn, sApp, tOf, asB, sTAnd, sTOr, sTNot, sAnd, sOr, sNot, sIf, sIfS, sSkip, sAsg, gNm, gsNil, gsCons, gUn, Res.out, Out.seq, Res.of, bind_ok, bind_exc, D.tupL, List.map_cons, List.map_nil, List.length_cons, List.length_nil, List.length_append, List.replicate_succ, List.replicate_zero, List.set_cons_succ, List.set_cons_zero, List.cons_append, List.nil_append, List.append_assoc, lk, lk0, List.getElem?_cons_zero, List.getElem?_cons_succ, Nat.add_assoc, Nat.reduceAdd, Nat.reduceSub, Nat.reduceLeDiff, Nat.reduceEqDiff, sizeLine_eq, if_true, if_false, Option.bind_some, Option.bind_none, Bool.not_true, Bool.not_false, Bool.false_eq_true, reduceIte, reduceCtorEq, and_self, and_true, true_and, Bool.and_true, Bool.or_true, Bool.true_and, Nat.le_refl, Nat.reduceLT]
  rw [h, gc_eq rfl]
theorem init_no (k : Nat) (x : Str) (d : D) (S : Store) : F_Floor_init [.ref k, .str x, .int 1, d] S = .exc "NoFloor" S := by
  simp only [F_Floor_init, B_Floor_init, sCall, between_s, sRaise, fnB, sSeq, sSet, sRet, sRetN, sDrop, sLst, sTup, sConsA, sNilA, sVar, sC, sBin, sUn, sApp, tOf, asB, sTAnd, sTOr, sTNot, sAnd, sOr, sNot, sIf, sIfS, sSkip, sAsg, gNm, gsNil, gsCons, gUn, Res.out, Out.seq, Res.of, bind_ok, bind_exc, D.tupL, List.map_cons, List.map_nil, List.length_cons, List.length_nil, List.length_append, List.replicate_succ, List.replicate_zero, List.set_cons_succ, List.set_cons_zero, List.cons_append, List.nil_append, List.append_assoc, lk, lk0, List.getElem?_cons_zero, List.getElem?_cons_succ, Nat.add_assoc, Nat.reduceAdd, Nat.reduceSub, Nat.reduceLeDiff, Nat.reduceEqDiff, sizeLine_eq, if_true, if_false, Option.bind_some, Option.bind_none, Bool.not_true, Bool.not_false, Bool.false_eq_true, reduceIte, reduceCtorEq, and_self, and_true, true_and, Bool.and_true, Bool.or_true, Bool.true_and, Nat.le_refl, Nat.reduceLT]
theorem init_ok (S : Store) : F_Floor_init [.ref (S.length + 1), .int 1, .int 1, .ref S.length] (S ++ [.dK [], .ins "Floor" []]) = .ok .non (S ++ [.dK [], .ins "Floor" [("many_wide", .int 1), ("many_high", .int 1), ("stone_at", .ref (S.length + 2))], .dK []]) := by
  have d1 : (decide ((1 : Int) ≤ 1) && decide ((1 : Int) ≤ 60)) = true := by decide
  have t : isiT "dict" "dict" = true := by decide
  have n1 : ((Str.ofString "many_wide") = (Str.ofString "many_high")) = False := eq_false (by decide +kernel)
  have n2 : ((Str.ofString "many_wide") = (Str.ofString "stone_at")) = False := eq_false (by decide +kernel)
  have n3 : ((Str.ofString "many_high") = (Str.ofString "stone_at")) = False := eq_false (by decide +kernel)
  simp only [F_Floor_init, B_Floor_init, sCall, between_i, d1, sIsi, tyD, t, sLock, sFor, itItems, itDict, getP, dPairs, Cell.lock, st_, st0, forL, sFldS, getI, n1, n2, n3, putD, fDictK, getC, fnB, sSeq, sSet, sRet, sRetN, sDrop, sLst, sTup, sConsA, sNilA, sVar, sC, sBin, sUn, sApp, tOf, asB, sTAnd, sTOr, sTNot, sAnd, sOr, sNot, sIf, sIfS, sSkip, sAsg, gNm, gsNil, gsCons, gUn, Res.out, Out.seq, Res.of, bind_ok, bind_exc, D.tupL, List.map_cons, List.map_nil, List.length_cons, List.length_nil, List.length_append, List.replicate_succ, List.replicate_zero, List.set_cons_succ, List.set_cons_zero, List.cons_append, List.nil_append, List.append_assoc, lk, lk0, List.getElem?_cons_zero, List.getElem?_cons_succ, Nat.add_assoc, Nat.reduceAdd, Nat.reduceSub, Nat.reduceLeDiff, Nat.reduceEqDiff, sizeLine_eq, if_true, if_false, Option.bind_some, Option.bind_none, Bool.not_true, Bool.not_false, Bool.false_eq_true, reduceIte, reduceCtorEq, and_self, and_true, true_and, Bool.and_true, Bool.or_true, Bool.true_and, Nat.le_refl, Nat.reduceLT]
end K17
set_option linter.all false
set_option maxRecDepth 100000
namespace K17
open PySem PySem.Spec PyProof.Rows L2 Z
theorem ends_no {x : Str} (h : (10 : Nat) ∉ x.cps.toList) : Txt.endswith x (Str.ofString "\n") = false := by
  have e : Str.ofString "\n" = ⟨#[10]⟩ := by decide
  rw [e]
  unfold Txt.endswith
  by_cases c : 0 + (⟨#[10]⟩ : Str).length ≤ x.length
  · rw [show decide (0 + (⟨#[10]⟩ : Str).length ≤ x.length) = true from decide_eq_true c, Bool.true_and]
    cases q : Builtin.Str.subAt x ⟨#[10]⟩ (x.length - (⟨#[10]⟩ : Str).length) with
    | false => rfl
    | true =>
      have := (PySem.StrLaws.subAt_one x 10 (x.length - (⟨#[10]⟩ : Str).length)).mp ⟨by
        have h1 : (⟨#[10]⟩ : Str).length = 1 := rfl
        omega, q⟩
      exact absurd (List.mem_of_getElem? this) h
  · rw [show decide (0 + (⟨#[10]⟩ : Str).length ≤ x.length) = false from decide_eq_false c, Bool.false_and]
theorem rows_no {x : Str} (h : (10 : Nat) ∉ x.cps.toList) (S : Store) : F_rows_of [.str x] S = .exc "NoText" S := by
  have t : isiT "str" "str" = true := by decide
  simp only [F_rows_of, B_rows_of, sIsi, tyD, t, sMt, tyB, beq_self_eq_true, fEndswith, mStr1, ends_no h, sRaise, fnB, sSeq, sSet, sRet, sRetN, sDrop, sLst, sTup, sConsA, sNilA, sVar, sC, sBin, sUn, sApp, tOf, asB, sTAnd, sTOr, sTNot, sAnd, sOr, sNot, sIf, sIfS, sSkip, sAsg, gNm, gsNil, gsCons, gUn, Res.out, Out.seq, Res.of, bind_ok, bind_exc, D.tupL, List.map_cons, List.map_nil, List.length_cons, List.length_nil, List.length_append, List.replicate_succ, List.replicate_zero, List.set_cons_succ, List.set_cons_zero, List.cons_append, List.nil_append, List.append_assoc, lk, lk0, List.getElem?_cons_zero, List.getElem?_cons_succ, Nat.add_assoc, Nat.reduceAdd, Nat.reduceSub, Nat.reduceLeDiff, Nat.reduceEqDiff, sizeLine_eq, if_true, if_false, Option.bind_some, Option.bind_none, Bool.not_true, Bool.not_false, Bool.false_eq_true, reduceIte, reduceCtorEq, and_self, and_true, true_and, Bool.and_true, Bool.or_true, Bool.true_and, Nat.le_refl, Nat.reduceLT]
theorem read_no {x : Str} (h : (10 : Nat) ∉ x.cps.toList) (S : Store) : F_read_floor [.str x] S = .exc "NoText" S := by
  simp only [F_read_floor, B_read_floor, sCall, rows_no h, gc_exc, fnB, sSeq, sSet, sRet, sRetN, sDrop, sLst, sTup, sConsA, sNilA, sVar, sC, sBin, sUn, sApp, tOf, asB, sTAnd, sTOr, sTNot, sAnd, sOr, sNot, sIf, sIfS, sSkip, sAsg, gNm, gsNil, gsCons, gUn, Res.out, Out.seq, Res.of, bind_ok, bind_exc, D.tupL, List.map_cons, List.map_nil, List.length_cons, List.length_nil, List.length_append, List.replicate_succ, List.replicate_zero, List.set_cons_succ, List.set_cons_zero, List.cons_append, List.nil_append, List.append_assoc, lk, lk0, List.getElem?_cons_zero, List.getElem?_cons_succ, Nat.add_assoc, Nat.reduceAdd, Nat.reduceSub, Nat.reduceLeDiff, Nat.reduceEqDiff, sizeLine_eq, if_true, if_false, Option.bind_some, Option.bind_none, Bool.not_true, Bool.not_false, Bool.false_eq_true, reduceIte, reduceCtorEq, and_self, and_true, true_and, Bool.and_true, Bool.or_true, Bool.true_and, Nat.le_refl, Nat.reduceLT]
theorem place_no (k : Nat) (x : Str) (S : Store) : gcR S (F_is_place [.ref k, .str x] S) = .ok (.bl false) S := by
  have t : isiT "str" "tuple" = false := by decide
  have h : F_is_place [.ref k, .str x] S = .ok (.bl false) S := by
    simp only [F_is_place, B_is_place, sIsi, tyD, t, fnB, sSeq, sSet, sRet, sRetN, sDrop, sLst, sTup, sConsA, sNilA, sVar, sC, sBin, sUn, sApp, tOf, asB, sTAnd, sTOr, sTNot, sAnd, sOr, sNot, sIf, sIfS, sSkip, sAsg, gNm, gsNil, gsCons, gUn, Res.out, Out.seq, Res.of, bind_ok, bind_exc, D.tupL, List.map_cons, List.map_nil, List.length_cons, List.length_nil, List.length_append, List.replicate_succ, List.replicate_zero, List.set_cons_succ, List.set_cons_zero, List.cons_append, List.nil_append, List.append_assoc, lk, lk0, List.getElem?_cons_zero, List.getElem?_cons_succ, Nat.add_assoc, Nat.reduceAdd, Nat.reduceSub, Nat.reduceLeDiff, Nat.reduceEqDiff, sizeLine_eq, if_true, if_false, Option.bind_some, Option.bind_none, Bool.not_true, Bool.not_false, Bool.false_eq_true, reduceIte, reduceCtorEq, and_self, and_true, true_and, Bool.and_true, Bool.or_true, Bool.true_and, Nat.le_refl, Nat.reduceLT]
  rw [h, gc_eq rfl]
theorem want_no (k : Nat) (x : Str) (S : Store) : F_Floor_want_place [.ref k, .str x] S = .exc "NoPlace" S := by
  simp only [F_Floor_want_place, B_Floor_want_place, sCall, place_no, sRaise, fnB, sSeq, sSet, sRet, sRetN, sDrop, sLst, sTup, sConsA, sNilA, sVar, sC, sBin, sUn, sApp, tOf, asB, sTAnd, sTOr, sTNot, sAnd, sOr, sNot, sIf, sIfS, sSkip, sAsg, gNm, gsNil, gsCons, gUn, Res.out, Out.seq, Res.of, bind_ok, bind_exc, D.tupL, List.map_cons, List.map_nil, List.length_cons, List.length_nil, List.length_append, List.replicate_succ, List.replicate_zero, List.set_cons_succ, List.set_cons_zero, List.cons_append, List.nil_append, List.append_assoc, lk, lk0, List.getElem?_cons_zero, List.getElem?_cons_succ, Nat.add_assoc, Nat.reduceAdd, Nat.reduceSub, Nat.reduceLeDiff, Nat.reduceEqDiff, sizeLine_eq, if_true, if_false, Option.bind_some, Option.bind_none, Bool.not_true, Bool.not_false, Bool.false_eq_true, reduceIte, reduceCtorEq, and_self, and_true, true_and, Bool.and_true, Bool.or_true, Bool.true_and, Nat.le_refl, Nat.reduceLT]
def fl1 (n : Nat) : List (Str × D) := [("many_wide", .int 1), ("many_high", .int 1), ("stone_at", .ref n)]
theorem fl1_want (n : Nat) : (fl1 n).lookup (Str.ofString "want_place") = none := by
  have h : ∀ a : Str, a ∈ (fl1 n).map (·.1) → (Str.ofString "want_place" == a) = false := by
    show ∀ a ∈ [(Str.ofString "many_wide"), Str.ofString "many_high", Str.ofString "stone_at"], (Str.ofString "want_place" == a) = false
    decide +kernel
  unfold fl1 at h ⊢
  simp only [List.lookup, h _ (List.mem_cons_self), h _ (List.mem_cons_of_mem _ List.mem_cons_self), h _ (List.mem_cons_of_mem _ (List.mem_cons_of_mem _ List.mem_cons_self))]
theorem fl1_beats (n : Nat) : (fl1 n).lookup (Str.ofString "beats") = none := by
  have h : ∀ a : Str, a ∈ (fl1 n).map (·.1) → (Str.ofString "beats" == a) = false := by
    show ∀ a ∈ [(Str.ofString "many_wide"), Str.ofString "many_high", Str.ofString "stone_at"], (Str.ofString "beats" == a) = false
    decide +kernel
  unfold fl1 at h ⊢
  simp only [List.lookup, h _ (List.mem_cons_self), h _ (List.mem_cons_of_mem _ List.mem_cons_self), h _ (List.mem_cons_of_mem _ (List.mem_cons_of_mem _ List.mem_cons_self))]
theorem beats_no {k n : Nat} (x : Str) {S : Store} (h : S[k]? = some (.ins "Floor" (fl1 n))) : F_Floor_beats [.ref k, .str x] S = .exc "NoPlace" S := by
  simp only [F_Floor_beats, B_Floor_beats, sMeth, getI, h, fl1_want, want_no, gc_exc, fnB, sSeq, sSet, sRet, sRetN, sDrop, sLst, sTup, sConsA, sNilA, sVar, sC, sBin, sUn, sApp, tOf, asB, sTAnd, sTOr, sTNot, sAnd, sOr, sNot, sIf, sIfS, sSkip, sAsg, gNm, gsNil, gsCons, gUn, Res.out, Out.seq, Res.of, bind_ok, bind_exc, D.tupL, List.map_cons, List.map_nil, List.length_cons, List.length_nil, List.length_append, List.replicate_succ, List.replicate_zero, List.set_cons_succ, List.set_cons_zero, List.cons_append, List.nil_append, List.append_assoc, lk, lk0, List.getElem?_cons_zero, List.getElem?_cons_succ, Nat.add_assoc, Nat.reduceAdd, Nat.reduceSub, Nat.reduceLeDiff, Nat.reduceEqDiff, sizeLine_eq, if_true, if_false, Option.bind_some, Option.bind_none, Bool.not_true, Bool.not_false, Bool.false_eq_true, reduceIte, reduceCtorEq, and_self, and_true, true_and, Bool.and_true, Bool.or_true, Bool.true_and, Nat.le_refl, Nat.reduceLT]
theorem init_ok' (S : Store) : F_Floor_init [.ref (S.length + 1), .int 1, .int 1, .ref S.length] (S ++ [.dK [], .ins "Floor" []]) = .ok .non (S ++ [.dK [], .ins "Floor" (fl1 (S.length + 2)), .dK []]) := init_ok S
theorem said_ {x : Str} (h : (10 : Nat) ∉ x.cps.toList) (S : Store) : ∀ way : Nat, way < 3 → gcR S (F_law_said [.int way, .str x] S) = .ok (.ref S.length) (S ++ [.lst ((rowB way 19).map .bl)]) := by
  have r0 : clsB "NoFloor" = rowB 0 19 := by decide +kernel
  have r1 : clsB "NoText" = rowB 1 19 := by decide +kernel
  have r2 : clsB "NoPlace" = rowB 2 19 := by decide +kernel
  have m0 : ("NoFloor" ∈ XS) = True := eq_true (by decide)
  have m1 : ("NoText" ∈ XS) = True := eq_true (by decide)
  have m2 : ("NoPlace" ∈ XS) = True := eq_true (by decide)
  have fin_ : ∀ {way : Nat} {T : Store} {n : Nat}, F_law_said [.int way, .str x] S = .ok (.ref (S.length + n)) (S ++ T) → T[n]? = some (.lst ((rowB way 19).map .bl)) → gcR S (F_law_said [.int way, .str x] S) = .ok (.ref S.length) (S ++ [.lst ((rowB way 19).map .bl)]) := fun {way T n} e ht => by
    rw [e]; exact gc_ref ht (by unfold Cell.flat; exact flat_bls _)
  have z0 : ((0 : Nat) : Int) = 0 := rfl
  have z1 : ((1 : Nat) : Int) = 1 := rfl
  have z2 : ((2 : Nat) : Int) = 2 := rfl
  have y1 : ((1 : Int) = 0) = False := eq_false (by decide)
  have y2 : ((2 : Int) = 0) = False := eq_false (by decide)
  have y3 : ((2 : Int) = 1) = False := eq_false (by decide)
  intro way hw
  match way, hw with
  | 0, _ =>
    refine fin_ (T := [.lst [], .dK [], .ins "Floor" [], .lst ((rowB 0 19).map .bl)]) (n := 3) ?_ rfl
    simp only [F_law_said, B_law_said, sTryC, eq_int, z0, sMake, sDNewK, init_no, m0, hot_, r0, decide_true, fnB, sSeq, sSet, sRet, sRetN, sDrop, sLst, sTup, sConsA, sNilA, sVar, sC, sBin, sUn, sApp, tOf, asB, sTAnd, sTOr, sTNot, sAnd, sOr, sNot, sIf, sIfS, sSkip, sAsg, gNm, gsNil, gsCons, gUn, Res.out, Out.seq, Res.of, bind_ok, bind_exc, D.tupL, List.map_cons, List.map_nil, List.length_cons, List.length_nil, List.length_append, List.replicate_succ, List.replicate_zero, List.set_cons_succ, List.set_cons_zero, List.cons_append, List.nil_append, List.append_assoc, lk, lk0, List.getElem?_cons_zero, List.getElem?_cons_succ, Nat.add_assoc, Nat.reduceAdd, Nat.reduceSub, Nat.reduceLeDiff, Nat.reduceEqDiff, sizeLine_eq, if_true, if_false, Option.bind_some, Option.bind_none, Bool.not_true, Bool.not_false, Bool.false_eq_true, reduceIte, reduceCtorEq, and_self, and_true, true_and, Bool.and_true, Bool.or_true, Bool.true_and, Nat.le_refl, Nat.reduceLT]
  | 1, _ =>
    refine fin_ (T := [.lst [], .lst ((rowB 1 19).map .bl)]) (n := 1) ?_ rfl
    simp only [F_law_said, B_law_said, sTryC, eq_int, z1, y1, decide_false, sCall, read_no h, gc_exc, m1, hot_, r1, decide_true, fnB, sSeq, sSet, sRet, sRetN, sDrop, sLst, sTup, sConsA, sNilA, sVar, sC, sBin, sUn, sApp, tOf, asB, sTAnd, sTOr, sTNot, sAnd, sOr, sNot, sIf, sIfS, sSkip, sAsg, gNm, gsNil, gsCons, gUn, Res.out, Out.seq, Res.of, bind_ok, bind_exc, D.tupL, List.map_cons, List.map_nil, List.length_cons, List.length_nil, List.length_append, List.replicate_succ, List.replicate_zero, List.set_cons_succ, List.set_cons_zero, List.cons_append, List.nil_append, List.append_assoc, lk, lk0, List.getElem?_cons_zero, List.getElem?_cons_succ, Nat.add_assoc, Nat.reduceAdd, Nat.reduceSub, Nat.reduceLeDiff, Nat.reduceEqDiff, sizeLine_eq, if_true, if_false, Option.bind_some, Option.bind_none, Bool.not_true, Bool.not_false, Bool.false_eq_true, reduceIte, reduceCtorEq, and_self, and_true, true_and, Bool.and_true, Bool.or_true, Bool.true_and, Nat.le_refl, Nat.reduceLT]
  | 2, _ =>
    refine fin_ (T := [.lst [], .dK [], .ins "Floor" (fl1 (S.length + 3)), .dK [], .lst ((rowB 2 19).map .bl)]) (n := 4) ?_ rfl
    have i1 := init_ok' (S ++ [Cell.lst []])
    have b1 := beats_no (k := S.length + 2) (n := S.length + 3) x (S := S ++ [Cell.lst [], .dK [], .ins "Floor" (fl1 (S.length + 3)), .dK []]) (by rw [lk]; rfl)
    simp only [fnB, sSeq, sSet, sRet, sRetN, sDrop, sLst, sTup, sConsA, sNilA, sVar, sC, sBin, sUn, sApp, tOf, asB, sTAnd, sTOr, sTNot, sAnd, sOr, sNot, sIf, sIfS, sSkip, sAsg, gNm, gsNil, gsCons, gUn, Res.out, Out.seq, Res.of, bind_ok, bind_exc, D.tupL, List.map_cons, List.map_nil, List.length_cons, List.length_nil, List.length_append, List.replicate_succ, List.replicate_zero, List.set_cons_succ, List.set_cons_zero, List.cons_append, List.nil_append, List.append_assoc, lk, lk0, List.getElem?_cons_zero, List.getElem?_cons_succ, Nat.add_assoc, Nat.reduceAdd, Nat.reduceSub, Nat.reduceLeDiff, Nat.reduceEqDiff, sizeLine_eq, if_true, if_false, Option.bind_some, Option.bind_none, Bool.not_true, Bool.not_false, Bool.false_eq_true, reduceIte, reduceCtorEq, and_self, and_true, true_and, Bool.and_true, Bool.or_true, Bool.true_and, Nat.le_refl, Nat.reduceLT] at i1
    simp only [F_law_said, B_law_said, sTryC, eq_int, z2, y2, y3, decide_false, sMeth, sMake, sDNewK, i1, getI, fl1_beats, b1, gc_exc, m2, hot_, r2, decide_true, fnB, sSeq, sSet, sRet, sRetN, sDrop, sLst, sTup, sConsA, sNilA, sVar, sC, sBin, sUn, sApp, tOf, asB, sTAnd, sTOr, sTNot, sAnd, sOr, sNot, sIf, sIfS, sSkip, sAsg, gNm, gsNil, gsCons, gUn, Res.out, Out.seq, Res.of, bind_ok, bind_exc, D.tupL, List.map_cons, List.map_nil, List.length_cons, List.length_nil, List.length_append, List.replicate_succ, List.replicate_zero, List.set_cons_succ, List.set_cons_zero, List.cons_append, List.nil_append, List.append_assoc, lk, lk0, List.getElem?_cons_zero, List.getElem?_cons_succ, Nat.add_assoc, Nat.reduceAdd, Nat.reduceSub, Nat.reduceLeDiff, Nat.reduceEqDiff, sizeLine_eq, if_true, if_false, Option.bind_some, Option.bind_none, Bool.not_true, Bool.not_false, Bool.false_eq_true, reduceIte, reduceCtorEq, and_self, and_true, true_and, Bool.and_true, Bool.or_true, Bool.true_and, Nat.le_refl, Nat.reduceLT]
end K17
set_option linter.all false
set_option maxRecDepth 100000
namespace K17
open PySem PySem.Spec PyProof.Rows L2 Z
theorem script_get {ns : List Int} {d : D} {S : Store} (h : IsScript ns d S) (T : Store) : getL (S ++ T) d = some (ns.map .int) := by
  cases h with
  | own => show getL ([Cell.lst (ns.map .int)] ++ T) (.ref 0) = _; rfl
  | frz => show getL ([Cell.frz (.lst (ns.map .int))] ++ T) (.ref 0) = _; rfl
  | kl => rfl
theorem script_len {ns : List Int} {d : D} {S : Store} (h : IsScript ns d S) (T : Store) : fLen [d] (S ++ T) = some (.int ns.length, S ++ T) := by
  have hg := script_get h T
  have e : getS (S ++ T) d = some (ns.map .int) := by
    cases h <;> exact hg
  have e2 : fLen [d] (S ++ T) = (match getS (S ++ T) d with
    | some ys => some (.int (ys.length : Nat), S ++ T)
    | none => match getC (S ++ T) d with
      | some (_, .dK kvs) => some (.int (kvs.length : Nat), S ++ T)
      | some (_, .dT kvs) => some (.int (kvs.length : Nat), S ++ T)
      | _ => none) := by
    cases h <;> rfl
  rw [e2, e]
  simp
theorem pot_ {ns : List Int} {d : D} {S : Store} (h : IsScript ns d S) (T : Store) (k : Nat) : ∃ a b : Int, gcR (S ++ T) (F_law_pot [d, .int k] (S ++ T)) = .ok (.ref (S ++ T).length) (S ++ T ++ [.lst [.int a, .int b]]) := by
  have hc : ∃ c : Int, (sIf (tOf (sBin fLt (sVar 1) (sApp fLen (sConsA (sVar 0) sNilA)))) (sBin fIx (sVar 0) (sVar 1)) (sC (.int 0))) [some d, some (.int k), none] (S ++ T) = .ok (.int c) (S ++ T) := by
    by_cases c : (k : Int) < (ns.length : Int)
    · have hk : k < ns.length := by omega
      have hv : atI (ns.map D.int) (k : Int) = some (.int ns[k]) := atI_nat (by rw [List.getElem?_map, List.getElem?_eq_getElem hk]; rfl)
      refine ⟨ns[k], ?_⟩
      simp only [script_len h T, fLt, fCmp, fI, fT, decide_eq_true c, ix_l (script_get h T) hv, fnB, sSeq, sSet, sRet, sRetN, sDrop, sLst, sTup, sConsA, sNilA, sVar, sC, sBin, sUn, sApp, tOf, asB, sTAnd, sTOr, sTNot, sAnd, sOr, sNot, sIf, sIfS, sSkip, sAsg, gNm, gsNil, gsCons, gUn, Res.out, Out.seq, Res.of, bind_ok, bind_exc, D.tupL, List.map_cons, List.map_nil, List.length_cons, List.length_nil, List.length_append, List.replicate_succ, List.replicate_zero, List.set_cons_succ, List.set_cons_zero, List.cons_append, List.nil_append, List.append_assoc, lk, lk0, List.getElem?_cons_zero, List.getElem?_cons_succ, Nat.add_assoc, Nat.reduceAdd, Nat.reduceSub, Nat.reduceLeDiff, Nat.reduceEqDiff, sizeLine_eq, if_true, if_false, Option.bind_some, Option.bind_none, Bool.not_true, Bool.not_false, Bool.false_eq_true, reduceIte, reduceCtorEq, and_self, and_true, true_and, Bool.and_true, Bool.or_true, Bool.true_and, Nat.le_refl, Nat.reduceLT]
    · refine ⟨0, ?_⟩
      simp only [script_len h T, fLt, fCmp, fI, fT, decide_eq_false c, fnB, sSeq, sSet, sRet, sRetN, sDrop, sLst, sTup, sConsA, sNilA, sVar, sC, sBin, sUn, sApp, tOf, asB, sTAnd, sTOr, sTNot, sAnd, sOr, sNot, sIf, sIfS, sSkip, sAsg, gNm, gsNil, gsCons, gUn, Res.out, Out.seq, Res.of, bind_ok, bind_exc, D.tupL, List.map_cons, List.map_nil, List.length_cons, List.length_nil, List.length_append, List.replicate_succ, List.replicate_zero, List.set_cons_succ, List.set_cons_zero, List.cons_append, List.nil_append, List.append_assoc, lk, lk0, List.getElem?_cons_zero, List.getElem?_cons_succ, Nat.add_assoc, Nat.reduceAdd, Nat.reduceSub, Nat.reduceLeDiff, Nat.reduceEqDiff, sizeLine_eq, if_true, if_false, Option.bind_some, Option.bind_none, Bool.not_true, Bool.not_false, Bool.false_eq_true, reduceIte, reduceCtorEq, and_self, and_true, true_and, Bool.and_true, Bool.or_true, Bool.true_and, Nat.le_refl, Nat.reduceLT]
  obtain ⟨c, hc⟩ := hc
  have p1 : decide (0 ≤ (18 : Int) ∧ (18 : Int) ≤ 1000000 ∧ (10 : Int).natAbs < 2 ^ 64) = true := by decide
  have p2 : decide (0 < (2147483587 : Int)) = true := by decide
  have p3 : (Z.small64 1013 || Z.small64 (k : Int)) = true := by rw [show Z.small64 1013 = true from by decide]; rfl
  generalize hm : (sIf (tOf (sBin fLt (sVar 1) (sApp fLen (sConsA (sVar 0) sNilA)))) (sBin fIx (sVar 0) (sVar 1)) (sC (.int 0))) = m at hc
  have hb : B_law_pot = sSeq (sSet 2 m) (sRet (sLst (sConsA (sApp fMax2 (sConsA (sC (.int 0)) (sConsA (sBin fSub (sApp fAbs (sConsA (sVar 2) sNilA)) (sBin fPow (sC (.int 10)) (sC (.int 18)))) sNilA))) (sConsA (sBin fAdd (sBin fAdd (sBin fMod (sApp fAbs (sConsA (sVar 2) sNilA)) (sC (.int 2147483587))) (sBin fMul (sC (.int 1013)) (sVar 1))) (sC (.int 7))) sNilA)))) := by rw [← hm]; rfl
  refine ⟨if (if c < 0 then -c else c) - 10 ^ (18 : Int).toNat > 0 then (if c < 0 then -c else c) - 10 ^ (18 : Int).toNat else 0, (if c < 0 then -c else c) % 2147483587 + 1013 * (k : Int) + 7, ?_⟩
  have e : F_law_pot [d, .int k] (S ++ T) = .ok (.ref (S ++ T).length) (S ++ T ++ [.lst [.int (if (if c < 0 then -c else c) - 10 ^ (18 : Int).toNat > 0 then (if c < 0 then -c else c) - 10 ^ (18 : Int).toNat else 0), .int ((if c < 0 then -c else c) % 2147483587 + 1013 * (k : Int) + 7)]]) := by
    simp only [F_law_pot, hb, hc, fMax2, f2I, fAbs, fSub, fI, fT, fPow, p1, fMod, p2, fMul, fMulI, p3, fAdd, fAddI, orE2, fnB, sSeq, sSet, sRet, sRetN, sDrop, sLst, sTup, sConsA, sNilA, sVar, sC, sBin, sUn, sApp, tOf, asB, sTAnd, sTOr, sTNot, sAnd, sOr, sNot, sIf, sIfS, sSkip, sAsg, gNm, gsNil, gsCons, gUn, Res.out, Out.seq, Res.of, bind_ok, bind_exc, D.tupL, List.map_cons, List.map_nil, List.length_cons, List.length_nil, List.length_append, List.replicate_succ, List.replicate_zero, List.set_cons_succ, List.set_cons_zero, List.cons_append, List.nil_append, List.append_assoc, lk, lk0, List.getElem?_cons_zero, List.getElem?_cons_succ, Nat.add_assoc, Nat.reduceAdd, Nat.reduceSub, Nat.reduceLeDiff, Nat.reduceEqDiff, sizeLine_eq, if_true, if_false, Option.bind_some, Option.bind_none, Bool.not_true, Bool.not_false, Bool.false_eq_true, reduceIte, reduceCtorEq, and_self, and_true, true_and, Bool.and_true, Bool.or_true, Bool.true_and, Nat.le_refl, Nat.reduceLT]
  rw [e]
  exact gc_ref0 rfl rfl
end K17
set_option linter.all false
set_option maxRecDepth 100000
namespace K17
open PySem PySem.Spec PyProof.Rows L2 Z
theorem pdR {S : Store} {k n : Nat} {bs : List Bool} (h : S[n]? = some (.lst (bs.map .bl))) : pd (k + 1) S (.ref n) = some (.list (bs.map .bool)) := by
  have hL : getL S (.ref n) = some (bs.map .bl) := by unfold getL; simp only [h]
  show (match getL S (.ref n) with | some xs => (mapO (pd k S) xs).map PyData.list | none => none) = _
  rw [hL]
  show (mapO (pd k S) (bs.map .bl)).map PyData.list = _
  rw [mapO_bls]; rfl
theorem pd3 {S : Store} {m a b c : Nat} {x y z : List Bool} (h : S[m]? = some (.lst [.ref a, .ref b, .ref c])) (ha : S[a]? = some (.lst (x.map .bl))) (hb : S[b]? = some (.lst (y.map .bl))) (hc : S[c]? = some (.lst (z.map .bl))) :
    pdS S (.ref m) = some (.list [.list (x.map .bool), .list (y.map .bool), .list (z.map .bool)]) := by
  have hL : getL S (.ref m) = some [.ref a, .ref b, .ref c] := by unfold getL; simp only [h]
  have e : pd 60 S (.ref m) = some (.list [.list (x.map .bool), .list (y.map .bool), .list (z.map .bool)]) := by
    show (match getL S (.ref m) with | some xs => (mapO (pd 59 S) xs).map PyData.list | none => none) = _
    rw [hL]
    show (mapO (pd 59 S) [.ref a, .ref b, .ref c]).map PyData.list = _
    rw [mapO, pdR ha, mapO, pdR hb, mapO, pdR hc, mapO]; rfl
  have hs : SeqAt.shaped (.list [.list (x.map PyData.bool), .list (y.map .bool), .list (z.map .bool)]) = true := by
    simp [SeqAt.shaped, PyData.canLay0, PyData.canLayAll0, PyData.depth, PyData.depthAll, lay_bls, dep_bls]
  unfold pdS
  rw [e]
  simp only [if_pos hs]
def rw3 (w : Nat) : Cell := .lst ((rowB w 19).map .bl)
theorem rows3 {m : SE} {env : ES} {S : Store} (hm : ∀ (w : Nat), w < 3 → ∀ T : Store, m ((wipeD env [3]).set 3 (some (.int w))) (S ++ T) = .ok (.ref (S ++ T).length) (S ++ T ++ [rw3 w])) :
    sLc [3] (itR1 (sC (.int 3))) (gNm 3) sYes m env S = .ok (.ref (S.length + 3)) (S ++ [rw3 0, rw3 1, rw3 2, .lst [.ref S.length, .ref (S.length + 1), .ref (S.length + 2)]]) := by
  have h1 : itR1 (sC (.int 3)) env S = .ok ⟨[.int (0 : Nat), .int (1 : Nat), .int (2 : Nat)], fun _ => True⟩ S := rfl
  have m0 := hm 0 (by decide) []
  have m1 := hm 1 (by decide) [rw3 0]
  have m2 := hm 2 (by decide) [rw3 0, rw3 1]
  simp only [List.append_nil, List.length_append, List.length_cons, List.length_nil, Nat.zero_add, List.append_assoc, List.cons_append, List.nil_append, Nat.reduceAdd] at m0 m1 m2
  unfold sLc
  rw [h1, bind_ok]
  have b0 : (0 < 16777216) = True := eq_true (by decide)
  have b1 : (1 < 16777216) = True := eq_true (by decide)
  have b2 : (2 < 16777216) = True := eq_true (by decide)
  simp only [lcL, gNm, sYes, noX, m0, m1, m2, b0, b1, b2, fnB, sSeq, sSet, sRet, sRetN, sDrop, sLst, sTup, sConsA, sNilA, sVar, sC, sBin, sUn, sApp, tOf, asB, sTAnd, sTOr, sTNot, sAnd, sOr, sNot, sIf, sIfS, sSkip, sAsg, gNm, gsNil, gsCons, gUn, Res.out, Out.seq, Res.of, bind_ok, bind_exc, D.tupL, List.map_cons, List.map_nil, List.length_cons, List.length_nil, List.length_append, List.replicate_succ, List.replicate_zero, List.set_cons_succ, List.set_cons_zero, List.cons_append, List.nil_append, List.append_assoc, lk, lk0, List.getElem?_cons_zero, List.getElem?_cons_succ, Nat.add_assoc, Nat.reduceAdd, Nat.reduceSub, Nat.reduceLeDiff, Nat.reduceEqDiff, sizeLine_eq, if_true, if_false, Option.bind_some, Option.bind_none, Bool.not_true, Bool.not_false, Bool.false_eq_true, reduceIte, reduceCtorEq, and_self, and_true, true_and, Bool.and_true, Bool.or_true, Bool.true_and, Nat.le_refl, Nat.reduceLT]
theorem ne_rows {S : Store} {m n a b c a' b' c' : Nat} {x y z : List Bool} (h : S[m]? = some (.lst [.ref a, .ref b, .ref c])) (ha : S[a]? = some (.lst (x.map .bl))) (hb : S[b]? = some (.lst (y.map .bl))) (hc : S[c]? = some (.lst (z.map .bl)))
    (h' : S[n]? = some (.lst [.ref a', .ref b', .ref c'])) (ha' : S[a']? = some (.lst (x.map .bl))) (hb' : S[b']? = some (.lst (y.map .bl))) (hc' : S[c']? = some (.lst (z.map .bl))) : fNe (.ref m) (.ref n) S = some (.bl false, S) := by
  unfold fNe
  rw [pd3 h ha hb hc, pd3 h' ha' hb' hc']
  show some (D.bl (!PyData.eqv _ _), S) = _
  rw [PyData.eqv]
  simp [PyData.eqvAll, PyData.eqv, eqv_bls]
theorem small_range (n : Nat) (h : n ≤ 63) : small62 (if (1 : Int) < (if (3 : Int) < n then 3 else (n : Int)) then (if (3 : Int) < n then 3 else (n : Int)) else 1) = true := by
  unfold small62
  apply decide_eq_true
  split <;> (try split) <;> omega
theorem law_ok {ns : List Int} (hl : ns.length ≤ 63) {d : D} {S : Store} (h : IsScript ns d S) : ∃ S', F_law [d] S = .ok (.bl true) S' := by
  have sm := small_range ns.length hl
  generalize hr : (if (1 : Int) < (if (3 : Int) < ns.length then 3 else (ns.length : Int)) then (if (3 : Int) < ns.length then 3 else (ns.length : Int)) else 1) = r at sm
  obtain ⟨e, S', e1, ⟨T, rfl⟩, v1, v2, rfl⟩ := forL_inv (g := gNm 1) (b := (sSeq (sSet 2 (sCall F_law_text (sConsA (sCall F_law_pot (sConsA (sVar 0) (sConsA (sVar 1) sNilA))) sNilA))) (sSeq (sIfS (sTNot (tOf (sCall F_law_are_right (sConsA (sCall F_law_made (sConsA (sVar 2) sNilA)) sNilA)))) (sRet (sC (.bl false))) sSkip) (sIfS (tOf (sBin fNe (sLc [3] (itR1 (sC (.int 3))) (gNm 3) sYes (sCall F_law_said (sConsA (sVar 3) (sConsA (sVar 2) sNilA)))) (sLc [3] (itR1 (sC (.int 3))) (gNm 3) sYes (sLc [4] (itR1 (sC (.int 19))) (gNm 4) sYes (sBin fEq (sVar 4) (sVar 3)))))) (sRet (sC (.bl false))) sSkip))))
    (ok := fun _ => True) (fun _ env S' => (∃ T, S' = S ++ T) ∧ ∃ v1 v2, env = [some d, v1, v2, none, none]) (rangeD 0 1 r.toNat) 0 [some d, none, none, none, none] S
    ⟨⟨[], by simp⟩, none, none, rfl⟩ (fun _ _ _ _ => trivial) (by
      rintro i x env S' ⟨⟨T, rfl⟩, v1, v2, rfl⟩ hx
      obtain ⟨hi, rfl⟩ := rangeD_get hx
      have hk : (0 : Int) + (i : Nat) * 1 = (i : Nat) := by omega
      rw [hk]
      obtain ⟨a, b, hp⟩ := pot_ h T i
      obtain ⟨x, a', b', T2, ht, hx31, hno⟩ := text_ (S := S ++ T ++ [Cell.lst [D.int a, D.int b]]) (n := (S ++ T).length) (a := a) (b := b) (by rw [lk0]; rfl)
      have ht2 : gcR (S ++ T ++ [Cell.lst [D.int a, D.int b]]) (F_law_text [.ref (S ++ T).length] (S ++ T ++ [Cell.lst [D.int a, D.int b]])) = .ok (.str x) (S ++ T ++ [Cell.lst [D.int a', D.int b']]) := by
        rw [ht, gc_set rfl rfl, st0]; rfl
      obtain ⟨Y, hY⟩ : ∃ Y : Store, Y = S ++ T ++ [Cell.lst [D.int a', D.int b']] := ⟨_, rfl⟩
      rw [← hY] at ht2
      have hm := made_ x Y
      have hr := right_ (S := Y ++ [Cell.lst (XL.map .exv)]) (n := Y.length) (by rw [lk0]; rfl)
      obtain ⟨Z2, hZ⟩ : ∃ Z2 : Store, Z2 = Y ++ [Cell.lst (XL.map D.exv)] := ⟨_, rfl⟩
      rw [← hZ] at hm hr
      have r1 := rows3 (m := sCall F_law_said (sConsA (sVar 3) (sConsA (sVar 2) sNilA))) (env := [some d, some (.int i), some (.str x), none, none]) (S := Z2) (fun w hw T => by
        have := said_ hno (Z2 ++ T) w hw
        show ((sConsA (sVar 3) (sConsA (sVar 2) sNilA)) [some d, some (.int i), some (.str x), some (.int w), none] (Z2 ++ T)).bind _ = _
        exact this)
      obtain ⟨Z3, hZ3⟩ : ∃ Z3 : Store, Z3 = Z2 ++ [rw3 0, rw3 1, rw3 2, .lst [.ref Z2.length, .ref (Z2.length + 1), .ref (Z2.length + 2)]] := ⟨_, rfl⟩
      have r2 := rows3 (m := sLc [4] (itR1 (sC (.int 19))) (gNm 4) sYes (sBin fEq (sVar 4) (sVar 3))) (env := [some d, some (.int i), some (.str x), none, none]) (S := Z3) (fun w hw T => by
        exact row_ (env := [some d, some (.int i), some (.str x), some (.int w), none]) (S := Z3 ++ T) (i := w) (n := 19) (j := 3) (k := 4) (fun _ => rfl) (fun _ => rfl) (Nat.le_refl _))
      have l3 : Z3.length = Z2.length + 4 := by rw [hZ3]; simp
      have n1 := ne_rows (S := Z3 ++ [rw3 0, rw3 1, rw3 2, .lst [.ref Z3.length, .ref (Z3.length + 1), .ref (Z3.length + 2)]]) (m := Z2.length + 3) (n := Z3.length + 3) (a := Z2.length) (b := Z2.length + 1) (c := Z2.length + 2) (a' := Z3.length) (b' := Z3.length + 1) (c' := Z3.length + 2)
        (x := rowB 0 19) (y := rowB 1 19) (z := rowB 2 19)
        (app_get (by rw [hZ3, lk]; rfl)) (app_get (by rw [hZ3, lk0]; rfl)) (app_get (by rw [hZ3, lk]; rfl)) (app_get (by rw [hZ3, lk]; rfl)) (by rw [lk]; rfl) (by rw [lk0]; rfl) (by rw [lk]; rfl) (by rw [lk]; rfl)
      rw [← hZ3] at r1
      refine ⟨[some d, some (.int i), v2, none, none], S ++ T, [some d, some (.int i), some (.str x), none, none], Z3 ++ [rw3 0, rw3 1, rw3 2, .lst [.ref Z3.length, .ref (Z3.length + 1), .ref (Z3.length + 2)]], rfl, ?_, ⟨_, by rw [hZ3, hZ, hY]; simp only [List.append_assoc]; rfl⟩, _, _, rfl⟩
      simp only [sSeq, sSet, sIfS, sTNot, tOf, sBin, sCall, sConsA, sNilA, sVar, List.getElem?_cons_succ, List.getElem?_cons_zero, List.set_cons_succ, List.set_cons_zero, bind_ok, hp, ht2, hm, hr, r1, r2, n1, Res.of, asB, Res.out, Bool.not_true, Bool.false_eq_true, if_false, sSkip, Out.seq])
  have hb := bare_ (S ++ T)
  have hr2 := right_ (S := S ++ T ++ [Cell.lst (XL.map .exv)]) (n := (S ++ T).length) (by rw [lk0]; rfl)
  have mF : ("FallError" ∈ XS) = True := eq_true (by decide)
  have sl := script_len h []
  rw [List.append_nil] at sl
  refine ⟨S ++ T ++ [Cell.lst (XL.map .exv)], ?_⟩
  have c3 : (3 : Int) = ((3 : Nat) : Int) := rfl
  simp only [F_law, B_law, sFor, itR1, sl, fMin2, fMax2, f2I, gt_iff_lt, hr, sm, e1, sCall, hb, hr2, sIsX, sExc, mF, fnB, sSeq, sRet, sApp, sConsA, sNilA, sVar, sC, sAnd, Res.of, Res.out, Out.seq, bind_ok, List.getElem?_cons_succ, List.getElem?_cons_zero, List.map_cons, List.map_nil, List.length_cons, List.length_nil, List.replicate_succ, List.replicate_zero, List.cons_append, List.nil_append, if_true, Nat.zero_add, Nat.reduceAdd, Nat.reduceSub]
end K17
set_option Elab.async false
set_option linter.all false
set_option maxRecDepth 100000
set_option maxHeartbeats 0
namespace K17
open PySem PySem.Spec PyProof.Rows L2 Z
def top (i : Nat) : Stmt := PySem.Challenge.pw_fallstones_k17_refusals_made.main.body.getD i (.Pass ⟨0, 0, 0, 0⟩)
abbrev s_is_whole : Stmt := top 30
abbrev s_is_between : Stmt := top 31
abbrev s_is_place : Stmt := top 37
abbrev s_Floor_init : Stmt := inClass (top 38) 0
abbrev s_Floor_want_place : Stmt := inClass (top 38) 6
abbrev s_Floor_beats : Stmt := inClass (top 38) 8
abbrev s_rows_of : Stmt := top 44
abbrev s_read_floor : Stmt := top 45
abbrev s_law_pot : Stmt := top 47
abbrev s_law_take : Stmt := top 48
abbrev s_law_text : Stmt := top 49
abbrev s_law_made : Stmt := top 50
abbrev s_law_bare : Stmt := top 51
abbrev s_law_classes : Stmt := top 52
abbrev s_law_are_right : Stmt := top 53
abbrev s_law_said : Stmt := top 54
abbrev s_law : Stmt := top 55
def d_is_whole : He.DefD := ⟨("is_whole", none), "is_whole", "is_whole", defArgs s_is_whole, defBody s_is_whole, defScope s_is_whole, [], []⟩
def d_is_between : He.DefD := ⟨("is_between", none), "is_between", "is_between", defArgs s_is_between, defBody s_is_between, defScope s_is_between, [], []⟩
def d_is_place : He.DefD := ⟨("is_place", none), "is_place", "is_place", defArgs s_is_place, defBody s_is_place, defScope s_is_place, [], []⟩
def d_Floor_init : He.DefD := ⟨("Floor", some "__init__"), "__init__", "Floor.__init__", defArgs s_Floor_init, defBody s_Floor_init, defScope s_Floor_init, [], []⟩
def d_Floor_want_place : He.DefD := ⟨("Floor", some "want_place"), "want_place", "Floor.want_place", defArgs s_Floor_want_place, defBody s_Floor_want_place, defScope s_Floor_want_place, [], []⟩
def d_Floor_beats : He.DefD := ⟨("Floor", some "beats"), "beats", "Floor.beats", defArgs s_Floor_beats, defBody s_Floor_beats, defScope s_Floor_beats, [], []⟩
def d_rows_of : He.DefD := ⟨("rows_of", none), "rows_of", "rows_of", defArgs s_rows_of, defBody s_rows_of, defScope s_rows_of, [], []⟩
def d_read_floor : He.DefD := ⟨("read_floor", none), "read_floor", "read_floor", defArgs s_read_floor, defBody s_read_floor, defScope s_read_floor, [], []⟩
def d_law_pot : He.DefD := ⟨("_law_pot", none), "_law_pot", "_law_pot", defArgs s_law_pot, defBody s_law_pot, defScope s_law_pot, [], []⟩
def d_law_take : He.DefD := ⟨("_law_take", none), "_law_take", "_law_take", defArgs s_law_take, defBody s_law_take, defScope s_law_take, [], []⟩
def d_law_text : He.DefD := ⟨("_law_text", none), "_law_text", "_law_text", defArgs s_law_text, defBody s_law_text, defScope s_law_text, [], []⟩
def d_law_made : He.DefD := ⟨("_law_made", none), "_law_made", "_law_made", defArgs s_law_made, defBody s_law_made, defScope s_law_made, [], []⟩
def d_law_bare : He.DefD := ⟨("_law_bare", none), "_law_bare", "_law_bare", defArgs s_law_bare, defBody s_law_bare, defScope s_law_bare, [], []⟩
def d_law_classes : He.DefD := ⟨("_law_classes", none), "_law_classes", "_law_classes", defArgs s_law_classes, defBody s_law_classes, defScope s_law_classes, [], []⟩
def d_law_are_right : He.DefD := ⟨("_law_are_right", none), "_law_are_right", "_law_are_right", defArgs s_law_are_right, defBody s_law_are_right, defScope s_law_are_right, [], []⟩
def d_law_said : He.DefD := ⟨("_law_said", none), "_law_said", "_law_said", defArgs s_law_said, defBody s_law_said, defScope s_law_said, [], []⟩
def d_law : He.DefD := ⟨("law", none), "law", "law", defArgs s_law, defBody s_law, defScope s_law, [], []⟩
def fn : List He.DefD := [d_is_whole, d_is_between, d_is_place, d_Floor_init, d_Floor_want_place, d_Floor_beats, d_rows_of, d_read_floor, d_law_pot, d_law_take, d_law_text, d_law_made, d_law_bare, d_law_classes, d_law_are_right, d_law_said, d_law]
def fa0 : List He.Fa := [.glo "is_whole", .glo "is_between", .glo "is_place", .glo "rows_of", .glo "read_floor", .glo "_law_pot", .glo "_law_take", .glo "_law_text", .glo "_law_made", .glo "_law_bare", .glo "_law_classes", .glo "_law_are_right", .glo "_law_said", .glo "law", .glo "FallError", .exc "FallError", .glo "NoFloor", .exc "NoFloor", .glo "NoText", .exc "NoText", .glo "NoPlace", .exc "NoPlace", .glo "NoPush", .exc "NoPush", .glo "NotLight", .exc "NotLight", .glo "NoNumber", .exc "NoNumber", .glo "NoRoom", .exc "NoRoom"]
def fa1 : List He.Fa := [.glo "NoWays", .exc "NoWays", .glo "NoChoice", .exc "NoChoice", .glo "NoNet", .exc "NoNet", .glo "NoArrivals", .exc "NoArrivals", .glo "NoLates", .exc "NoLates", .glo "NoTables", .exc "NoTables", .glo "NoRow", .exc "NoRow", .glo "CantBe", .exc "CantBe", .glo "NoTiming", .exc "NoTiming", .glo "TooMany", .exc "TooMany", .glo "NoSay", .exc "NoSay", .glo "NoName", .exc "NoName", .glo "Floor", .cls "Floor", .noat "Floor" "many_wide", .noat "Floor" "many_high", .noat "Floor" "stone_at", .mkr "Floor"]
def fa2 : List He.Fa := [.meth "Floor" "want_place", .meth "Floor" "beats", .free "len", .free "abs", .free "min", .free "max", .free "divmod", .free "isinstance", .free "range", .free "enumerate", .free "sorted", .free "all", .free "int", .free "str", .free "tuple", .free "dict", .free "ValueError", .free "bool", .str "BRIDGE" "x", .int "MOST_BEATS" 9999, .int "MOST_CELLS" 60, .str "EMPTY" ".", .str "FIGURES" "0123456789", .int "MOST_FIGURES" 4]
def fa : List He.Fa := fa0 ++ fa1 ++ fa2
def exB : PySem.W.Frag → Bool := fun K => kitB2 K XS YS && exmB K XS "FallError"
abbrev R : PySem.W.OpenRow := PySem.W.OpenLaw.row PySem.Challenge.rw_fallstones_k17_refusals_made
abbrev hk : PySem.W.Hook := He.hookX 4 fa fn [] [] exB
def ob (s : PySem.W.SharedT) : He.AlX := He.obsX 4 fa fn [] [] exB (HandSHeadRun.getT s)
theorem ob_eq (s : PySem.W.SharedT) : ob s = hk.obs s.abs := He.obsX_eq (HandSHeadRun.getT_eq s)
def lo0 : List PySem.Str := ["_wall", "FallError", "NoFloor", "NoText", "NoPlace", "NoPush", "NotLight", "NoNumber", "NoRoom", "NoWays", "NoChoice", "NoNet", "NoArrivals", "NoLates", "NoTables", "NoRow", "CantBe", "NoTiming", "TooMany", "NoSay", "NoName", "OPENS", "ONE_WAYS", "BLOCKS", "HEAVIES", "BRIDGE", "KINDS", "MOST_BEATS", "is_whole", "is_between"]
def lo1 : List PySem.Str := ["is_kind", "is_stone", "MOST_CELLS", "is_cell", "is_place", "Floor", "EMPTY", "FIGURES", "MOST_FIGURES", "read_stone", "rows_of", "read_floor", "_law_pot", "_law_take", "_law_text", "_law_made", "_law_bare", "_law_classes", "_law_are_right", "_law_said"]
def loose : List PySem.Str := lo0 ++ lo1
theorem run (w : World) : HandSHeadRun.RunEq R (PySem.W.view R.prog [55]) hk ob 8000 loose w := by
  intro os
  kernel_rfl
end K17
set_option Elab.async false
set_option linter.all false
set_option maxRecDepth 100000
set_option maxHeartbeats 0
namespace K17
open PySem PySem.Spec PyProof.Rows L2 Z
/-- what the top has written, by names -/
def Tx (w : World) (K : PySem.W.Frag) (mg : Str → Option Value) : Prop := ∃ h, K.In h ∧ h.Ns mainGlobals mg ∧ He.SaysX fa fn [] [] exB w h K
section
variable {P : Program} {w : World} {K : PySem.W.Frag} {mg : Str → Option Value} {base : Heap}
theorem Tx.fact (t : Tx w K mg) (i : Nat) {f : He.Fa} (h : fa[i]? = some f := by rfl) : f.ok K = true := by
  obtain ⟨_, _, _, c⟩ := t
  exact (He.SaysT.d c.t).fact i h
theorem Tx.def_ (t : Tx w K mg) (i : Nat) {d : He.DefD} (h : fn[i]? = some d := by rfl) : ∃ fd, FunD K d.name d.qual d.params d.body d.scope (d.dvs K) (d.kws K) (He.fAd K d.at_) fd := by
  obtain ⟨_, _, _, c⟩ := t
  exact (He.SaysT.d c.t).def_ i h
theorem Tx.ex (t : Tx w K mg) : exB K = true := by
  obtain ⟨_, _, _, c⟩ := t
  exact c.more
theorem Tx.g_is_whole (t : Tx w K mg) : mg "is_whole" = some (.ref (He.ga K "is_whole")) := by
  have f := t.fact 0 (f := .glo "is_whole")
  obtain ⟨_, X, G, c⟩ := t
  exact He.glo_ok X G f
theorem Tx.g_is_between (t : Tx w K mg) : mg "is_between" = some (.ref (He.ga K "is_between")) := by
  have f := t.fact 1 (f := .glo "is_between")
  obtain ⟨_, X, G, c⟩ := t
  exact He.glo_ok X G f
theorem Tx.g_is_place (t : Tx w K mg) : mg "is_place" = some (.ref (He.ga K "is_place")) := by
  have f := t.fact 2 (f := .glo "is_place")
  obtain ⟨_, X, G, c⟩ := t
  exact He.glo_ok X G f
theorem Tx.g_rows_of (t : Tx w K mg) : mg "rows_of" = some (.ref (He.ga K "rows_of")) := by
  have f := t.fact 3 (f := .glo "rows_of")
  obtain ⟨_, X, G, c⟩ := t
  exact He.glo_ok X G f
theorem Tx.g_read_floor (t : Tx w K mg) : mg "read_floor" = some (.ref (He.ga K "read_floor")) := by
  have f := t.fact 4 (f := .glo "read_floor")
  obtain ⟨_, X, G, c⟩ := t
  exact He.glo_ok X G f
theorem Tx.g__law_pot (t : Tx w K mg) : mg "_law_pot" = some (.ref (He.ga K "_law_pot")) := by
  have f := t.fact 5 (f := .glo "_law_pot")
  obtain ⟨_, X, G, c⟩ := t
  exact He.glo_ok X G f
theorem Tx.g__law_take (t : Tx w K mg) : mg "_law_take" = some (.ref (He.ga K "_law_take")) := by
  have f := t.fact 6 (f := .glo "_law_take")
  obtain ⟨_, X, G, c⟩ := t
  exact He.glo_ok X G f
theorem Tx.g__law_text (t : Tx w K mg) : mg "_law_text" = some (.ref (He.ga K "_law_text")) := by
  have f := t.fact 7 (f := .glo "_law_text")
  obtain ⟨_, X, G, c⟩ := t
  exact He.glo_ok X G f
theorem Tx.g__law_made (t : Tx w K mg) : mg "_law_made" = some (.ref (He.ga K "_law_made")) := by
  have f := t.fact 8 (f := .glo "_law_made")
  obtain ⟨_, X, G, c⟩ := t
  exact He.glo_ok X G f
theorem Tx.g__law_bare (t : Tx w K mg) : mg "_law_bare" = some (.ref (He.ga K "_law_bare")) := by
  have f := t.fact 9 (f := .glo "_law_bare")
  obtain ⟨_, X, G, c⟩ := t
  exact He.glo_ok X G f
theorem Tx.g__law_classes (t : Tx w K mg) : mg "_law_classes" = some (.ref (He.ga K "_law_classes")) := by
  have f := t.fact 10 (f := .glo "_law_classes")
  obtain ⟨_, X, G, c⟩ := t
  exact He.glo_ok X G f
theorem Tx.g__law_are_right (t : Tx w K mg) : mg "_law_are_right" = some (.ref (He.ga K "_law_are_right")) := by
  have f := t.fact 11 (f := .glo "_law_are_right")
  obtain ⟨_, X, G, c⟩ := t
  exact He.glo_ok X G f
theorem Tx.g__law_said (t : Tx w K mg) : mg "_law_said" = some (.ref (He.ga K "_law_said")) := by
  have f := t.fact 12 (f := .glo "_law_said")
  obtain ⟨_, X, G, c⟩ := t
  exact He.glo_ok X G f
theorem Tx.g_law (t : Tx w K mg) : mg "law" = some (.ref (He.ga K "law")) := by
  have f := t.fact 13 (f := .glo "law")
  obtain ⟨_, X, G, c⟩ := t
  exact He.glo_ok X G f
theorem Tx.g_FallError (t : Tx w K mg) : mg "FallError" = some (.ref (He.ga K "FallError")) := by
  have f := t.fact 14 (f := .glo "FallError")
  obtain ⟨_, X, G, c⟩ := t
  exact He.glo_ok X G f
theorem Tx.e_FallError (t : Tx w K mg) : PySem.W.excIn K (cG K "FallError") He.veBase "ValueError.__new__" = true ∧ PySem.W.keepIn K (.ref (cG K "FallError")) = true ∧ PySem.W.subIn K (.ref (cG K "FallError")) (.type "BaseException") = some true ∧ PySem.W.typeIn K (.ref (cG K "FallError")) = some (.type "type") := He.exc_ok (t.fact 15 (f := .exc "FallError"))
theorem Tx.g_NoFloor (t : Tx w K mg) : mg "NoFloor" = some (.ref (He.ga K "NoFloor")) := by
  have f := t.fact 16 (f := .glo "NoFloor")
  obtain ⟨_, X, G, c⟩ := t
  exact He.glo_ok X G f
theorem Tx.e_NoFloor (t : Tx w K mg) : PySem.W.excIn K (cG K "NoFloor") He.veBase "ValueError.__new__" = true ∧ PySem.W.keepIn K (.ref (cG K "NoFloor")) = true ∧ PySem.W.subIn K (.ref (cG K "NoFloor")) (.type "BaseException") = some true ∧ PySem.W.typeIn K (.ref (cG K "NoFloor")) = some (.type "type") := He.exc_ok (t.fact 17 (f := .exc "NoFloor"))
theorem Tx.g_NoText (t : Tx w K mg) : mg "NoText" = some (.ref (He.ga K "NoText")) := by
  have f := t.fact 18 (f := .glo "NoText")
  obtain ⟨_, X, G, c⟩ := t
  exact He.glo_ok X G f
theorem Tx.e_NoText (t : Tx w K mg) : PySem.W.excIn K (cG K "NoText") He.veBase "ValueError.__new__" = true ∧ PySem.W.keepIn K (.ref (cG K "NoText")) = true ∧ PySem.W.subIn K (.ref (cG K "NoText")) (.type "BaseException") = some true ∧ PySem.W.typeIn K (.ref (cG K "NoText")) = some (.type "type") := He.exc_ok (t.fact 19 (f := .exc "NoText"))
theorem Tx.g_NoPlace (t : Tx w K mg) : mg "NoPlace" = some (.ref (He.ga K "NoPlace")) := by
  have f := t.fact 20 (f := .glo "NoPlace")
  obtain ⟨_, X, G, c⟩ := t
  exact He.glo_ok X G f
theorem Tx.e_NoPlace (t : Tx w K mg) : PySem.W.excIn K (cG K "NoPlace") He.veBase "ValueError.__new__" = true ∧ PySem.W.keepIn K (.ref (cG K "NoPlace")) = true ∧ PySem.W.subIn K (.ref (cG K "NoPlace")) (.type "BaseException") = some true ∧ PySem.W.typeIn K (.ref (cG K "NoPlace")) = some (.type "type") := He.exc_ok (t.fact 21 (f := .exc "NoPlace"))
theorem Tx.g_NoPush (t : Tx w K mg) : mg "NoPush" = some (.ref (He.ga K "NoPush")) := by
  have f := t.fact 22 (f := .glo "NoPush")
  obtain ⟨_, X, G, c⟩ := t
  exact He.glo_ok X G f
theorem Tx.e_NoPush (t : Tx w K mg) : PySem.W.excIn K (cG K "NoPush") He.veBase "ValueError.__new__" = true ∧ PySem.W.keepIn K (.ref (cG K "NoPush")) = true ∧ PySem.W.subIn K (.ref (cG K "NoPush")) (.type "BaseException") = some true ∧ PySem.W.typeIn K (.ref (cG K "NoPush")) = some (.type "type") := He.exc_ok (t.fact 23 (f := .exc "NoPush"))
theorem Tx.g_NotLight (t : Tx w K mg) : mg "NotLight" = some (.ref (He.ga K "NotLight")) := by
  have f := t.fact 24 (f := .glo "NotLight")
  obtain ⟨_, X, G, c⟩ := t
  exact He.glo_ok X G f
theorem Tx.e_NotLight (t : Tx w K mg) : PySem.W.excIn K (cG K "NotLight") He.veBase "ValueError.__new__" = true ∧ PySem.W.keepIn K (.ref (cG K "NotLight")) = true ∧ PySem.W.subIn K (.ref (cG K "NotLight")) (.type "BaseException") = some true ∧ PySem.W.typeIn K (.ref (cG K "NotLight")) = some (.type "type") := He.exc_ok (t.fact 25 (f := .exc "NotLight"))
theorem Tx.g_NoNumber (t : Tx w K mg) : mg "NoNumber" = some (.ref (He.ga K "NoNumber")) := by
  have f := t.fact 26 (f := .glo "NoNumber")
  obtain ⟨_, X, G, c⟩ := t
  exact He.glo_ok X G f
theorem Tx.e_NoNumber (t : Tx w K mg) : PySem.W.excIn K (cG K "NoNumber") He.veBase "ValueError.__new__" = true ∧ PySem.W.keepIn K (.ref (cG K "NoNumber")) = true ∧ PySem.W.subIn K (.ref (cG K "NoNumber")) (.type "BaseException") = some true ∧ PySem.W.typeIn K (.ref (cG K "NoNumber")) = some (.type "type") := He.exc_ok (t.fact 27 (f := .exc "NoNumber"))
theorem Tx.g_NoRoom (t : Tx w K mg) : mg "NoRoom" = some (.ref (He.ga K "NoRoom")) := by
  have f := t.fact 28 (f := .glo "NoRoom")
  obtain ⟨_, X, G, c⟩ := t
  exact He.glo_ok X G f
theorem Tx.e_NoRoom (t : Tx w K mg) : PySem.W.excIn K (cG K "NoRoom") He.veBase "ValueError.__new__" = true ∧ PySem.W.keepIn K (.ref (cG K "NoRoom")) = true ∧ PySem.W.subIn K (.ref (cG K "NoRoom")) (.type "BaseException") = some true ∧ PySem.W.typeIn K (.ref (cG K "NoRoom")) = some (.type "type") := He.exc_ok (t.fact 29 (f := .exc "NoRoom"))
theorem Tx.g_NoWays (t : Tx w K mg) : mg "NoWays" = some (.ref (He.ga K "NoWays")) := by
  have f := t.fact 30 (f := .glo "NoWays")
  obtain ⟨_, X, G, c⟩ := t
  exact He.glo_ok X G f
theorem Tx.e_NoWays (t : Tx w K mg) : PySem.W.excIn K (cG K "NoWays") He.veBase "ValueError.__new__" = true ∧ PySem.W.keepIn K (.ref (cG K "NoWays")) = true ∧ PySem.W.subIn K (.ref (cG K "NoWays")) (.type "BaseException") = some true ∧ PySem.W.typeIn K (.ref (cG K "NoWays")) = some (.type "type") := He.exc_ok (t.fact 31 (f := .exc "NoWays"))
theorem Tx.g_NoChoice (t : Tx w K mg) : mg "NoChoice" = some (.ref (He.ga K "NoChoice")) := by
  have f := t.fact 32 (f := .glo "NoChoice")
  obtain ⟨_, X, G, c⟩ := t
  exact He.glo_ok X G f
theorem Tx.e_NoChoice (t : Tx w K mg) : PySem.W.excIn K (cG K "NoChoice") He.veBase "ValueError.__new__" = true ∧ PySem.W.keepIn K (.ref (cG K "NoChoice")) = true ∧ PySem.W.subIn K (.ref (cG K "NoChoice")) (.type "BaseException") = some true ∧ PySem.W.typeIn K (.ref (cG K "NoChoice")) = some (.type "type") := He.exc_ok (t.fact 33 (f := .exc "NoChoice"))
theorem Tx.g_NoNet (t : Tx w K mg) : mg "NoNet" = some (.ref (He.ga K "NoNet")) := by
  have f := t.fact 34 (f := .glo "NoNet")
  obtain ⟨_, X, G, c⟩ := t
  exact He.glo_ok X G f
theorem Tx.e_NoNet (t : Tx w K mg) : PySem.W.excIn K (cG K "NoNet") He.veBase "ValueError.__new__" = true ∧ PySem.W.keepIn K (.ref (cG K "NoNet")) = true ∧ PySem.W.subIn K (.ref (cG K "NoNet")) (.type "BaseException") = some true ∧ PySem.W.typeIn K (.ref (cG K "NoNet")) = some (.type "type") := He.exc_ok (t.fact 35 (f := .exc "NoNet"))
theorem Tx.g_NoArrivals (t : Tx w K mg) : mg "NoArrivals" = some (.ref (He.ga K "NoArrivals")) := by
  have f := t.fact 36 (f := .glo "NoArrivals")
  obtain ⟨_, X, G, c⟩ := t
  exact He.glo_ok X G f
theorem Tx.e_NoArrivals (t : Tx w K mg) : PySem.W.excIn K (cG K "NoArrivals") He.veBase "ValueError.__new__" = true ∧ PySem.W.keepIn K (.ref (cG K "NoArrivals")) = true ∧ PySem.W.subIn K (.ref (cG K "NoArrivals")) (.type "BaseException") = some true ∧ PySem.W.typeIn K (.ref (cG K "NoArrivals")) = some (.type "type") := He.exc_ok (t.fact 37 (f := .exc "NoArrivals"))
theorem Tx.g_NoLates (t : Tx w K mg) : mg "NoLates" = some (.ref (He.ga K "NoLates")) := by
  have f := t.fact 38 (f := .glo "NoLates")
  obtain ⟨_, X, G, c⟩ := t
  exact He.glo_ok X G f
theorem Tx.e_NoLates (t : Tx w K mg) : PySem.W.excIn K (cG K "NoLates") He.veBase "ValueError.__new__" = true ∧ PySem.W.keepIn K (.ref (cG K "NoLates")) = true ∧ PySem.W.subIn K (.ref (cG K "NoLates")) (.type "BaseException") = some true ∧ PySem.W.typeIn K (.ref (cG K "NoLates")) = some (.type "type") := He.exc_ok (t.fact 39 (f := .exc "NoLates"))
theorem Tx.g_NoTables (t : Tx w K mg) : mg "NoTables" = some (.ref (He.ga K "NoTables")) := by
  have f := t.fact 40 (f := .glo "NoTables")
  obtain ⟨_, X, G, c⟩ := t
  exact He.glo_ok X G f
theorem Tx.e_NoTables (t : Tx w K mg) : PySem.W.excIn K (cG K "NoTables") He.veBase "ValueError.__new__" = true ∧ PySem.W.keepIn K (.ref (cG K "NoTables")) = true ∧ PySem.W.subIn K (.ref (cG K "NoTables")) (.type "BaseException") = some true ∧ PySem.W.typeIn K (.ref (cG K "NoTables")) = some (.type "type") := He.exc_ok (t.fact 41 (f := .exc "NoTables"))
theorem Tx.g_NoRow (t : Tx w K mg) : mg "NoRow" = some (.ref (He.ga K "NoRow")) := by
  have f := t.fact 42 (f := .glo "NoRow")
  obtain ⟨_, X, G, c⟩ := t
  exact He.glo_ok X G f
theorem Tx.e_NoRow (t : Tx w K mg) : PySem.W.excIn K (cG K "NoRow") He.veBase "ValueError.__new__" = true ∧ PySem.W.keepIn K (.ref (cG K "NoRow")) = true ∧ PySem.W.subIn K (.ref (cG K "NoRow")) (.type "BaseException") = some true ∧ PySem.W.typeIn K (.ref (cG K "NoRow")) = some (.type "type") := He.exc_ok (t.fact 43 (f := .exc "NoRow"))
theorem Tx.g_CantBe (t : Tx w K mg) : mg "CantBe" = some (.ref (He.ga K "CantBe")) := by
  have f := t.fact 44 (f := .glo "CantBe")
  obtain ⟨_, X, G, c⟩ := t
  exact He.glo_ok X G f
theorem Tx.e_CantBe (t : Tx w K mg) : PySem.W.excIn K (cG K "CantBe") He.veBase "ValueError.__new__" = true ∧ PySem.W.keepIn K (.ref (cG K "CantBe")) = true ∧ PySem.W.subIn K (.ref (cG K "CantBe")) (.type "BaseException") = some true ∧ PySem.W.typeIn K (.ref (cG K "CantBe")) = some (.type "type") := He.exc_ok (t.fact 45 (f := .exc "CantBe"))
theorem Tx.g_NoTiming (t : Tx w K mg) : mg "NoTiming" = some (.ref (He.ga K "NoTiming")) := by
  have f := t.fact 46 (f := .glo "NoTiming")
  obtain ⟨_, X, G, c⟩ := t
  exact He.glo_ok X G f
theorem Tx.e_NoTiming (t : Tx w K mg) : PySem.W.excIn K (cG K "NoTiming") He.veBase "ValueError.__new__" = true ∧ PySem.W.keepIn K (.ref (cG K "NoTiming")) = true ∧ PySem.W.subIn K (.ref (cG K "NoTiming")) (.type "BaseException") = some true ∧ PySem.W.typeIn K (.ref (cG K "NoTiming")) = some (.type "type") := He.exc_ok (t.fact 47 (f := .exc "NoTiming"))
theorem Tx.g_TooMany (t : Tx w K mg) : mg "TooMany" = some (.ref (He.ga K "TooMany")) := by
  have f := t.fact 48 (f := .glo "TooMany")
  obtain ⟨_, X, G, c⟩ := t
  exact He.glo_ok X G f
theorem Tx.e_TooMany (t : Tx w K mg) : PySem.W.excIn K (cG K "TooMany") He.veBase "ValueError.__new__" = true ∧ PySem.W.keepIn K (.ref (cG K "TooMany")) = true ∧ PySem.W.subIn K (.ref (cG K "TooMany")) (.type "BaseException") = some true ∧ PySem.W.typeIn K (.ref (cG K "TooMany")) = some (.type "type") := He.exc_ok (t.fact 49 (f := .exc "TooMany"))
theorem Tx.g_NoSay (t : Tx w K mg) : mg "NoSay" = some (.ref (He.ga K "NoSay")) := by
  have f := t.fact 50 (f := .glo "NoSay")
  obtain ⟨_, X, G, c⟩ := t
  exact He.glo_ok X G f
theorem Tx.e_NoSay (t : Tx w K mg) : PySem.W.excIn K (cG K "NoSay") He.veBase "ValueError.__new__" = true ∧ PySem.W.keepIn K (.ref (cG K "NoSay")) = true ∧ PySem.W.subIn K (.ref (cG K "NoSay")) (.type "BaseException") = some true ∧ PySem.W.typeIn K (.ref (cG K "NoSay")) = some (.type "type") := He.exc_ok (t.fact 51 (f := .exc "NoSay"))
theorem Tx.g_NoName (t : Tx w K mg) : mg "NoName" = some (.ref (He.ga K "NoName")) := by
  have f := t.fact 52 (f := .glo "NoName")
  obtain ⟨_, X, G, c⟩ := t
  exact He.glo_ok X G f
theorem Tx.e_NoName (t : Tx w K mg) : PySem.W.excIn K (cG K "NoName") He.veBase "ValueError.__new__" = true ∧ PySem.W.keepIn K (.ref (cG K "NoName")) = true ∧ PySem.W.subIn K (.ref (cG K "NoName")) (.type "BaseException") = some true ∧ PySem.W.typeIn K (.ref (cG K "NoName")) = some (.type "type") := He.exc_ok (t.fact 53 (f := .exc "NoName"))
theorem Tx.g_Floor (t : Tx w K mg) : mg "Floor" = some (.ref (He.ga K "Floor")) := by
  have f := t.fact 54 (f := .glo "Floor")
  obtain ⟨_, X, G, c⟩ := t
  exact He.glo_ok X G f
theorem Tx.k_Floor (t : Tx w K mg) : Cls K (cG K "Floor") := He.cls_ok (t.fact 55 (f := .cls "Floor"))
theorem Tx.n_Floor_many_wide (t : Tx w K mg) : NoAttr K (cG K "Floor") "many_wide" := He.noat_ok (t.fact 56 (f := .noat "Floor" "many_wide"))
theorem Tx.n_Floor_many_high (t : Tx w K mg) : NoAttr K (cG K "Floor") "many_high" := He.noat_ok (t.fact 57 (f := .noat "Floor" "many_high"))
theorem Tx.n_Floor_stone_at (t : Tx w K mg) : NoAttr K (cG K "Floor") "stone_at" := He.noat_ok (t.fact 58 (f := .noat "Floor" "stone_at"))
theorem Tx.m_Floor (t : Tx w K mg) : Mk K (cG K "Floor") (He.fAd K ("Floor", some "__init__")) := He.mkr_ok (t.fact 59 (f := .mkr "Floor"))
theorem Tx.h_Floor_want_place (t : Tx w K mg) : Meth K (cG K "Floor") "want_place" (He.fAd K ("Floor", some "want_place")) := He.meth_ok (t.fact 60 (f := .meth "Floor" "want_place"))
theorem Tx.h_Floor_beats (t : Tx w K mg) : Meth K (cG K "Floor") "beats" (He.fAd K ("Floor", some "beats")) := He.meth_ok (t.fact 61 (f := .meth "Floor" "beats"))
theorem Tx.f_len (t : Tx w K mg) : mg "len" = none := by
  have f := t.fact 62 (f := .free "len")
  obtain ⟨_, X, G, c⟩ := t
  exact He.free_ok X G f
theorem Tx.f_abs (t : Tx w K mg) : mg "abs" = none := by
  have f := t.fact 63 (f := .free "abs")
  obtain ⟨_, X, G, c⟩ := t
  exact He.free_ok X G f
theorem Tx.f_min (t : Tx w K mg) : mg "min" = none := by
  have f := t.fact 64 (f := .free "min")
  obtain ⟨_, X, G, c⟩ := t
  exact He.free_ok X G f
theorem Tx.f_max (t : Tx w K mg) : mg "max" = none := by
  have f := t.fact 65 (f := .free "max")
  obtain ⟨_, X, G, c⟩ := t
  exact He.free_ok X G f
theorem Tx.f_divmod (t : Tx w K mg) : mg "divmod" = none := by
  have f := t.fact 66 (f := .free "divmod")
  obtain ⟨_, X, G, c⟩ := t
  exact He.free_ok X G f
theorem Tx.f_isinstance (t : Tx w K mg) : mg "isinstance" = none := by
  have f := t.fact 67 (f := .free "isinstance")
  obtain ⟨_, X, G, c⟩ := t
  exact He.free_ok X G f
theorem Tx.f_range (t : Tx w K mg) : mg "range" = none := by
  have f := t.fact 68 (f := .free "range")
  obtain ⟨_, X, G, c⟩ := t
  exact He.free_ok X G f
theorem Tx.f_enumerate (t : Tx w K mg) : mg "enumerate" = none := by
  have f := t.fact 69 (f := .free "enumerate")
  obtain ⟨_, X, G, c⟩ := t
  exact He.free_ok X G f
theorem Tx.f_sorted (t : Tx w K mg) : mg "sorted" = none := by
  have f := t.fact 70 (f := .free "sorted")
  obtain ⟨_, X, G, c⟩ := t
  exact He.free_ok X G f
theorem Tx.f_all (t : Tx w K mg) : mg "all" = none := by
  have f := t.fact 71 (f := .free "all")
  obtain ⟨_, X, G, c⟩ := t
  exact He.free_ok X G f
theorem Tx.f_int (t : Tx w K mg) : mg "int" = none := by
  have f := t.fact 72 (f := .free "int")
  obtain ⟨_, X, G, c⟩ := t
  exact He.free_ok X G f
theorem Tx.f_str (t : Tx w K mg) : mg "str" = none := by
  have f := t.fact 73 (f := .free "str")
  obtain ⟨_, X, G, c⟩ := t
  exact He.free_ok X G f
theorem Tx.f_tuple (t : Tx w K mg) : mg "tuple" = none := by
  have f := t.fact 74 (f := .free "tuple")
  obtain ⟨_, X, G, c⟩ := t
  exact He.free_ok X G f
theorem Tx.f_dict (t : Tx w K mg) : mg "dict" = none := by
  have f := t.fact 75 (f := .free "dict")
  obtain ⟨_, X, G, c⟩ := t
  exact He.free_ok X G f
theorem Tx.f_ValueError (t : Tx w K mg) : mg "ValueError" = none := by
  have f := t.fact 76 (f := .free "ValueError")
  obtain ⟨_, X, G, c⟩ := t
  exact He.free_ok X G f
theorem Tx.f_bool (t : Tx w K mg) : mg "bool" = none := by
  have f := t.fact 77 (f := .free "bool")
  obtain ⟨_, X, G, c⟩ := t
  exact He.free_ok X G f
theorem Tx.c_BRIDGE (t : Tx w K mg) : ∃ t, mg "BRIDGE" = some (.str "x" t) := by
  have f := t.fact 78 (f := .str "BRIDGE" "x")
  obtain ⟨_, X, G, c⟩ := t
  exact He.str_ok X G f
theorem Tx.c_MOST_BEATS (t : Tx w K mg) : ∃ t, mg "MOST_BEATS" = some (.int 9999 t) := by
  have f := t.fact 79 (f := .int "MOST_BEATS" 9999)
  obtain ⟨_, X, G, c⟩ := t
  exact He.int_ok X G f
theorem Tx.c_MOST_CELLS (t : Tx w K mg) : ∃ t, mg "MOST_CELLS" = some (.int 60 t) := by
  have f := t.fact 80 (f := .int "MOST_CELLS" 60)
  obtain ⟨_, X, G, c⟩ := t
  exact He.int_ok X G f
theorem Tx.c_EMPTY (t : Tx w K mg) : ∃ t, mg "EMPTY" = some (.str "." t) := by
  have f := t.fact 81 (f := .str "EMPTY" ".")
  obtain ⟨_, X, G, c⟩ := t
  exact He.str_ok X G f
theorem Tx.c_FIGURES (t : Tx w K mg) : ∃ t, mg "FIGURES" = some (.str "0123456789" t) := by
  have f := t.fact 82 (f := .str "FIGURES" "0123456789")
  obtain ⟨_, X, G, c⟩ := t
  exact He.str_ok X G f
theorem Tx.c_MOST_FIGURES (t : Tx w K mg) : ∃ t, mg "MOST_FIGURES" = some (.int 4 t) := by
  have f := t.fact 83 (f := .int "MOST_FIGURES" 4)
  obtain ⟨_, X, G, c⟩ := t
  exact He.int_ok X G f
theorem Tx.kx_FallError (t : Tx w K mg) : KitX2 K (cG K) XS (.ref (cG K "FallError")) (isX "FallError") := kitX2_own (He.ba t.ex).1 (by decide)
theorem Tx.kx_NoFloor (t : Tx w K mg) : KitX2 K (cG K) XS (.ref (cG K "NoFloor")) (isX "NoFloor") := kitX2_own (He.ba t.ex).1 (by decide)
theorem Tx.kx_NoText (t : Tx w K mg) : KitX2 K (cG K) XS (.ref (cG K "NoText")) (isX "NoText") := kitX2_own (He.ba t.ex).1 (by decide)
theorem Tx.kx_NoPlace (t : Tx w K mg) : KitX2 K (cG K) XS (.ref (cG K "NoPlace")) (isX "NoPlace") := kitX2_own (He.ba t.ex).1 (by decide)
theorem Tx.kx_NoPush (t : Tx w K mg) : KitX2 K (cG K) XS (.ref (cG K "NoPush")) (isX "NoPush") := kitX2_own (He.ba t.ex).1 (by decide)
theorem Tx.kx_NotLight (t : Tx w K mg) : KitX2 K (cG K) XS (.ref (cG K "NotLight")) (isX "NotLight") := kitX2_own (He.ba t.ex).1 (by decide)
theorem Tx.kx_NoNumber (t : Tx w K mg) : KitX2 K (cG K) XS (.ref (cG K "NoNumber")) (isX "NoNumber") := kitX2_own (He.ba t.ex).1 (by decide)
theorem Tx.kx_NoRoom (t : Tx w K mg) : KitX2 K (cG K) XS (.ref (cG K "NoRoom")) (isX "NoRoom") := kitX2_own (He.ba t.ex).1 (by decide)
theorem Tx.kx_NoWays (t : Tx w K mg) : KitX2 K (cG K) XS (.ref (cG K "NoWays")) (isX "NoWays") := kitX2_own (He.ba t.ex).1 (by decide)
theorem Tx.kx_NoChoice (t : Tx w K mg) : KitX2 K (cG K) XS (.ref (cG K "NoChoice")) (isX "NoChoice") := kitX2_own (He.ba t.ex).1 (by decide)
theorem Tx.kx_NoNet (t : Tx w K mg) : KitX2 K (cG K) XS (.ref (cG K "NoNet")) (isX "NoNet") := kitX2_own (He.ba t.ex).1 (by decide)
theorem Tx.kx_NoArrivals (t : Tx w K mg) : KitX2 K (cG K) XS (.ref (cG K "NoArrivals")) (isX "NoArrivals") := kitX2_own (He.ba t.ex).1 (by decide)
theorem Tx.kx_NoLates (t : Tx w K mg) : KitX2 K (cG K) XS (.ref (cG K "NoLates")) (isX "NoLates") := kitX2_own (He.ba t.ex).1 (by decide)
theorem Tx.kx_NoTables (t : Tx w K mg) : KitX2 K (cG K) XS (.ref (cG K "NoTables")) (isX "NoTables") := kitX2_own (He.ba t.ex).1 (by decide)
theorem Tx.kx_NoRow (t : Tx w K mg) : KitX2 K (cG K) XS (.ref (cG K "NoRow")) (isX "NoRow") := kitX2_own (He.ba t.ex).1 (by decide)
theorem Tx.kx_CantBe (t : Tx w K mg) : KitX2 K (cG K) XS (.ref (cG K "CantBe")) (isX "CantBe") := kitX2_own (He.ba t.ex).1 (by decide)
theorem Tx.kx_NoTiming (t : Tx w K mg) : KitX2 K (cG K) XS (.ref (cG K "NoTiming")) (isX "NoTiming") := kitX2_own (He.ba t.ex).1 (by decide)
theorem Tx.kx_TooMany (t : Tx w K mg) : KitX2 K (cG K) XS (.ref (cG K "TooMany")) (isX "TooMany") := kitX2_own (He.ba t.ex).1 (by decide)
theorem Tx.kx_NoSay (t : Tx w K mg) : KitX2 K (cG K) XS (.ref (cG K "NoSay")) (isX "NoSay") := kitX2_own (He.ba t.ex).1 (by decide)
theorem Tx.kx_NoName (t : Tx w K mg) : KitX2 K (cG K) XS (.ref (cG K "NoName")) (isX "NoName") := kitX2_own (He.ba t.ex).1 (by decide)
theorem Tx.kx_ValueError (t : Tx w K mg) : KitX2 K (cG K) XS (.type "ValueError") (fun _ => true) := kitX2_val (He.ba t.ex).1
theorem Tx.exm (t : Tx w K mg) : ∀ C ∈ XS, PySem.W.exmOne K (.ref (cG K C)) (.ref (cG K "FallError")) = some true := exmB_ok (He.ba t.ex).2
theorem sc_law_take : FnScope ["_law_pot_here", "_law_many", "_law_digit"] ["_law_pot_here", "_law_many"] (defScope s_law_take) := ⟨rfl, rfl, rfl, by decide +kernel, rfl, by decide +kernel, by decide +kernel⟩
theorem ok_law_take (t : Tx w K mg) : OkF P w K mg base (cG K) 1 (He.fAd K ("_law_take", none)) ["_law_pot_here", "_law_many"] F_law_take := by
  obtain ⟨fd, F⟩ := t.def_ 9 (d := d_law_take) rfl
  refine ⟨fd, F.bindsN fun _ _ _ _ _ _ us hl => match us, hl with | [_, _], _ => rfl, F.kp, def_okD (k := 0) F sc_law_take fun cdv A outer s H E hr h66 => ?_⟩
  have h64 := Nat.lt_of_le_of_lt (Nat.add_le_add_left (show 64 ≤ 66 by decide) _) h66
  have h65 := Nat.lt_of_le_of_lt (Nat.add_le_add_left (show 65 ≤ 66 by decide) _) h66
  have h1 := Nat.lt_of_le_of_lt (Nat.add_le_add_left (show 1 ≤ 66 by decide) _) h66
  exact (dss_cons (ds_if (dt_cmp (de_ix (de_var (pv 0)) de_int (ix_all h1) o_ix) de_int op_gt o_gt) (dss_cons (ds_asg (de_app (x := "divmod") (p := default) (pe_callB call_divmodW (by rfl) t.f_divmod (by rfl) (da_cons (de_ix (de_var (pv 0)) de_int (ix_all h1) o_ix) (da_cons (de_var (pv 1)) da_nil))) o_divmod) (dg_un (by rfl) (by rfl) (dgs_cons (dg_subL (W := W0) (de_var (pv 0)) de_int) (dgs_cons (dg_name (pg_name (i := 2) sc_law_take.nd (by rfl) (by first | exact Or.inl rfl | exact Or.inr rfl))) dgs_nil)))) (dss_one (ds_ret (de_var (pv 2))))) dss_nil) (dss_cons (ds_asg (de_bin (de_bin (de_bin (de_ix (de_var (pv 0)) de_int (ix_all h1) o_ix) de_int op_mulAll o_mul) de_int op_addAll o_add) de_int op_mod o_mod) (dg_subL (W := W0) (de_var (pv 0)) de_int)) (dss_one (ds_ret (de_bin (de_bin (de_bin (de_bin (de_ix (de_var (pv 0)) de_int (ix_all h1) o_ix) (de_ix (de_var (pv 0)) de_int (ix_all h1) o_ix) op_mulAll o_mul) de_int op_mod o_mod) de_int op_fdivW o_div) (de_var (pv 1)) op_mod o_mod)))))
theorem sc_law_text : FnScope ["_law_pot_here", "_law_some", "_law_k"] ["_law_pot_here"] (defScope s_law_text) := ⟨rfl, rfl, rfl, by decide +kernel, rfl, by decide +kernel, by decide +kernel⟩
theorem ok_law_text (t : Tx w K mg) : OkF P w K mg base (cG K) 2 (He.fAd K ("_law_text", none)) ["_law_pot_here"] F_law_text := by
  obtain ⟨fd, F⟩ := t.def_ 10 (d := d_law_text) rfl
  obtain ⟨fd_law_take, b_law_take, k_law_take, G_law_take⟩ := ok_law_take (P := P) (base := base) t
  refine ⟨fd, F.bindsN fun _ _ _ _ _ _ us hl => match us, hl with | [_], _ => rfl, F.kp, def_okD (k := 1) F sc_law_text fun cdv A outer s H E hr h66 => ?_⟩
  have h64 := Nat.lt_of_le_of_lt (Nat.add_le_add_left (show 64 ≤ 66 by decide) _) h66
  have h65 := Nat.lt_of_le_of_lt (Nat.add_le_add_left (show 65 ≤ 66 by decide) _) h66
  have h1 := Nat.lt_of_le_of_lt (Nat.add_le_add_left (show 1 ≤ 66 by decide) _) h66
  exact (dss_cons (ds_set (i := 1) sc_law_text.nd (by rfl) (by first | exact Or.inl rfl | exact Or.inr rfl) de_str) (dss_cons (ds_set (i := 1) sc_law_text.nd (by rfl) (by first | exact Or.inl rfl | exact Or.inr rfl) (de_bin (de_var (pv 1)) de_str op_addAll o_add)) (dss_one (ds_ret (de_mt (by rfl) PySem.F.plainAttrs_str PySem.F.slot_str_join PySem.F.type_str_join mt_join m_join de_str (da_cons (de_lc (by rfl) sc_law_text.nd (di_range1 (by rfl) t.f_range (de_call G_law_take (takes_of rfl rfl rfl rfl) (hr.mono (by decide)) (by rfl) t.g__law_take k_law_take b_law_take (da_cons (de_var (pv 0)) (da_cons de_int da_nil)))) (blkOk_by (own := [("_law_k", 2)]) (by kernel_rfl)) (fun _ _ _ _ _ => (dgc_name (pg_name (i := 2) sc_law_text.nd (by rfl) (by first | exact Or.inl rfl | exact Or.inr rfl)))) (fun _ _ _ _ _ => dts_nil) (fun _ _ _ _ _ => (de_ix (de_var (pv 1)) (de_call G_law_take tk0 (hr.mono (by decide)) (by rfl) t.g__law_take k_law_take b_law_take (da_cons (de_var (pv 0)) (da_cons (de_app (x := "len") (p := default) (pe_callB call_lenAll (by rfl) t.f_len (by rfl) (da_cons (de_var (pv 1)) da_nil)) o_len) da_nil))) (ix_all h1) o_ix))) da_nil))))))
theorem sc_law_classes : FnScope ["_law_e", "_law_found"] ["_law_e"] (defScope s_law_classes) := ⟨rfl, rfl, rfl, by decide +kernel, rfl, by decide +kernel, by decide +kernel⟩
theorem ok_law_classes (t : Tx w K mg) : OkF P w K mg base (cG K) 1 (He.fAd K ("_law_classes", none)) ["_law_e"] F_law_classes := by
  obtain ⟨fd, F⟩ := t.def_ 13 (d := d_law_classes) rfl
  refine ⟨fd, F.bindsN fun _ _ _ _ _ _ us hl => match us, hl with | [_], _ => rfl, F.kp, def_okD (k := 0) F sc_law_classes fun cdv A outer s H E hr h66 => ?_⟩
  have h64 := Nat.lt_of_le_of_lt (Nat.add_le_add_left (show 64 ≤ 66 by decide) _) h66
  have h65 := Nat.lt_of_le_of_lt (Nat.add_le_add_left (show 65 ≤ 66 by decide) _) h66
  have h1 := Nat.lt_of_le_of_lt (Nat.add_le_add_left (show 1 ≤ 66 by decide) _) h66
  exact (dss_cons (ds_set (i := 1) sc_law_classes.nd (by rfl) (by first | exact Or.inl rfl | exact Or.inr rfl) (de_lst (da_cons (de_isx (by rfl) (de_var (pv 0)) (pe_glob (v := .ref (cG K "NoFloor")) (by rfl) t.g_NoFloor rfl) (fun _ r => r) t.kx_NoFloor (by rfl) t.f_isinstance) (da_cons (de_isx (by rfl) (de_var (pv 0)) (pe_glob (v := .ref (cG K "NoText")) (by rfl) t.g_NoText rfl) (fun _ r => r) t.kx_NoText (by rfl) t.f_isinstance) (da_cons (de_isx (by rfl) (de_var (pv 0)) (pe_glob (v := .ref (cG K "NoPlace")) (by rfl) t.g_NoPlace rfl) (fun _ r => r) t.kx_NoPlace (by rfl) t.f_isinstance) (da_cons (de_isx (by rfl) (de_var (pv 0)) (pe_glob (v := .ref (cG K "NoPush")) (by rfl) t.g_NoPush rfl) (fun _ r => r) t.kx_NoPush (by rfl) t.f_isinstance) da_nil)))))) (dss_cons (ds_set (i := 1) sc_law_classes.nd (by rfl) (by first | exact Or.inl rfl | exact Or.inr rfl) (de_bin (de_var (pv 1)) (de_lst (da_cons (de_isx (by rfl) (de_var (pv 0)) (pe_glob (v := .ref (cG K "NotLight")) (by rfl) t.g_NotLight rfl) (fun _ r => r) t.kx_NotLight (by rfl) t.f_isinstance) (da_cons (de_isx (by rfl) (de_var (pv 0)) (pe_glob (v := .ref (cG K "NoNumber")) (by rfl) t.g_NoNumber rfl) (fun _ r => r) t.kx_NoNumber (by rfl) t.f_isinstance) (da_cons (de_isx (by rfl) (de_var (pv 0)) (pe_glob (v := .ref (cG K "NoRoom")) (by rfl) t.g_NoRoom rfl) (fun _ r => r) t.kx_NoRoom (by rfl) t.f_isinstance) (da_cons (de_isx (by rfl) (de_var (pv 0)) (pe_glob (v := .ref (cG K "NoWays")) (by rfl) t.g_NoWays rfl) (fun _ r => r) t.kx_NoWays (by rfl) t.f_isinstance) da_nil))))) op_addAll o_add)) (dss_cons (ds_set (i := 1) sc_law_classes.nd (by rfl) (by first | exact Or.inl rfl | exact Or.inr rfl) (de_bin (de_var (pv 1)) (de_lst (da_cons (de_isx (by rfl) (de_var (pv 0)) (pe_glob (v := .ref (cG K "NoChoice")) (by rfl) t.g_NoChoice rfl) (fun _ r => r) t.kx_NoChoice (by rfl) t.f_isinstance) (da_cons (de_isx (by rfl) (de_var (pv 0)) (pe_glob (v := .ref (cG K "NoNet")) (by rfl) t.g_NoNet rfl) (fun _ r => r) t.kx_NoNet (by rfl) t.f_isinstance) (da_cons (de_isx (by rfl) (de_var (pv 0)) (pe_glob (v := .ref (cG K "NoArrivals")) (by rfl) t.g_NoArrivals rfl) (fun _ r => r) t.kx_NoArrivals (by rfl) t.f_isinstance) (da_cons (de_isx (by rfl) (de_var (pv 0)) (pe_glob (v := .ref (cG K "NoLates")) (by rfl) t.g_NoLates rfl) (fun _ r => r) t.kx_NoLates (by rfl) t.f_isinstance) da_nil))))) op_addAll o_add)) (dss_cons (ds_set (i := 1) sc_law_classes.nd (by rfl) (by first | exact Or.inl rfl | exact Or.inr rfl) (de_bin (de_var (pv 1)) (de_lst (da_cons (de_isx (by rfl) (de_var (pv 0)) (pe_glob (v := .ref (cG K "NoTables")) (by rfl) t.g_NoTables rfl) (fun _ r => r) t.kx_NoTables (by rfl) t.f_isinstance) (da_cons (de_isx (by rfl) (de_var (pv 0)) (pe_glob (v := .ref (cG K "NoRow")) (by rfl) t.g_NoRow rfl) (fun _ r => r) t.kx_NoRow (by rfl) t.f_isinstance) (da_cons (de_isx (by rfl) (de_var (pv 0)) (pe_glob (v := .ref (cG K "CantBe")) (by rfl) t.g_CantBe rfl) (fun _ r => r) t.kx_CantBe (by rfl) t.f_isinstance) (da_cons (de_isx (by rfl) (de_var (pv 0)) (pe_glob (v := .ref (cG K "NoTiming")) (by rfl) t.g_NoTiming rfl) (fun _ r => r) t.kx_NoTiming (by rfl) t.f_isinstance) da_nil))))) op_addAll o_add)) (dss_one (ds_ret (de_bin (de_var (pv 1)) (de_lst (da_cons (de_isx (by rfl) (de_var (pv 0)) (pe_glob (v := .ref (cG K "TooMany")) (by rfl) t.g_TooMany rfl) (fun _ r => r) t.kx_TooMany (by rfl) t.f_isinstance) (da_cons (de_isx (by rfl) (de_var (pv 0)) (pe_glob (v := .ref (cG K "NoSay")) (by rfl) t.g_NoSay rfl) (fun _ r => r) t.kx_NoSay (by rfl) t.f_isinstance) (da_cons (de_isx (by rfl) (de_var (pv 0)) (pe_glob (v := .ref (cG K "NoName")) (by rfl) t.g_NoName rfl) (fun _ r => r) t.kx_NoName (by rfl) t.f_isinstance) da_nil)))) op_addAll o_add)))))))
theorem hot_law_classes (a : Addr) (C : String) (S : Store) : fnB 1 2 (BH_law_classes a C) [.kd a] S = H_law_classes C S := hot_ind a C S
theorem okh_law_classes (t : Tx w K mg) : ∃ fd, Binds K fd ["_law_e"] [] ∧ PySem.W.keepIn K (.ref (He.fAd K ("_law_classes", none))) = true ∧ FnE P w K mg base (cG K) 1 (He.fAd K ("_law_classes", none)) fd ["_law_e"] XS H_law_classes := by
  obtain ⟨fd, F⟩ := t.def_ 13 (d := d_law_classes) rfl
  refine ⟨fd, F.bindsN fun _ _ _ _ _ _ us hl => match us, hl with | [_], _ => rfl, F.kp, fnE_of (k := 0) (B := BH_law_classes) F sc_law_classes (fun a C S => hot_law_classes a C S) fun cdv A outer s H p C hC hz hf => ?_⟩
  exact (dss_cons (ds_set (i := 1) sc_law_classes.nd (by rfl) (by first | exact Or.inl rfl | exact Or.inr rfl) (de_lst (da_cons (de_isp (by rfl) List.mem_cons_self hz hf (t.kx_NoFloor C hC).1 (de_var (pv 0)) (pe_glob (v := .ref (cG K "NoFloor")) (by rfl) t.g_NoFloor rfl) (fun _ r => r) (t.kx_NoFloor C hC).2 (by rfl) t.f_isinstance) (da_cons (de_isp (by rfl) List.mem_cons_self hz hf (t.kx_NoText C hC).1 (de_var (pv 0)) (pe_glob (v := .ref (cG K "NoText")) (by rfl) t.g_NoText rfl) (fun _ r => r) (t.kx_NoText C hC).2 (by rfl) t.f_isinstance) (da_cons (de_isp (by rfl) List.mem_cons_self hz hf (t.kx_NoPlace C hC).1 (de_var (pv 0)) (pe_glob (v := .ref (cG K "NoPlace")) (by rfl) t.g_NoPlace rfl) (fun _ r => r) (t.kx_NoPlace C hC).2 (by rfl) t.f_isinstance) (da_cons (de_isp (by rfl) List.mem_cons_self hz hf (t.kx_NoPush C hC).1 (de_var (pv 0)) (pe_glob (v := .ref (cG K "NoPush")) (by rfl) t.g_NoPush rfl) (fun _ r => r) (t.kx_NoPush C hC).2 (by rfl) t.f_isinstance) da_nil)))))) (dss_cons (ds_set (i := 1) sc_law_classes.nd (by rfl) (by first | exact Or.inl rfl | exact Or.inr rfl) (de_bin (de_var (pv 1)) (de_lst (da_cons (de_isp (by rfl) List.mem_cons_self hz hf (t.kx_NotLight C hC).1 (de_var (pv 0)) (pe_glob (v := .ref (cG K "NotLight")) (by rfl) t.g_NotLight rfl) (fun _ r => r) (t.kx_NotLight C hC).2 (by rfl) t.f_isinstance) (da_cons (de_isp (by rfl) List.mem_cons_self hz hf (t.kx_NoNumber C hC).1 (de_var (pv 0)) (pe_glob (v := .ref (cG K "NoNumber")) (by rfl) t.g_NoNumber rfl) (fun _ r => r) (t.kx_NoNumber C hC).2 (by rfl) t.f_isinstance) (da_cons (de_isp (by rfl) List.mem_cons_self hz hf (t.kx_NoRoom C hC).1 (de_var (pv 0)) (pe_glob (v := .ref (cG K "NoRoom")) (by rfl) t.g_NoRoom rfl) (fun _ r => r) (t.kx_NoRoom C hC).2 (by rfl) t.f_isinstance) (da_cons (de_isp (by rfl) List.mem_cons_self hz hf (t.kx_NoWays C hC).1 (de_var (pv 0)) (pe_glob (v := .ref (cG K "NoWays")) (by rfl) t.g_NoWays rfl) (fun _ r => r) (t.kx_NoWays C hC).2 (by rfl) t.f_isinstance) da_nil))))) op_addAll o_add)) (dss_cons (ds_set (i := 1) sc_law_classes.nd (by rfl) (by first | exact Or.inl rfl | exact Or.inr rfl) (de_bin (de_var (pv 1)) (de_lst (da_cons (de_isp (by rfl) List.mem_cons_self hz hf (t.kx_NoChoice C hC).1 (de_var (pv 0)) (pe_glob (v := .ref (cG K "NoChoice")) (by rfl) t.g_NoChoice rfl) (fun _ r => r) (t.kx_NoChoice C hC).2 (by rfl) t.f_isinstance) (da_cons (de_isp (by rfl) List.mem_cons_self hz hf (t.kx_NoNet C hC).1 (de_var (pv 0)) (pe_glob (v := .ref (cG K "NoNet")) (by rfl) t.g_NoNet rfl) (fun _ r => r) (t.kx_NoNet C hC).2 (by rfl) t.f_isinstance) (da_cons (de_isp (by rfl) List.mem_cons_self hz hf (t.kx_NoArrivals C hC).1 (de_var (pv 0)) (pe_glob (v := .ref (cG K "NoArrivals")) (by rfl) t.g_NoArrivals rfl) (fun _ r => r) (t.kx_NoArrivals C hC).2 (by rfl) t.f_isinstance) (da_cons (de_isp (by rfl) List.mem_cons_self hz hf (t.kx_NoLates C hC).1 (de_var (pv 0)) (pe_glob (v := .ref (cG K "NoLates")) (by rfl) t.g_NoLates rfl) (fun _ r => r) (t.kx_NoLates C hC).2 (by rfl) t.f_isinstance) da_nil))))) op_addAll o_add)) (dss_cons (ds_set (i := 1) sc_law_classes.nd (by rfl) (by first | exact Or.inl rfl | exact Or.inr rfl) (de_bin (de_var (pv 1)) (de_lst (da_cons (de_isp (by rfl) List.mem_cons_self hz hf (t.kx_NoTables C hC).1 (de_var (pv 0)) (pe_glob (v := .ref (cG K "NoTables")) (by rfl) t.g_NoTables rfl) (fun _ r => r) (t.kx_NoTables C hC).2 (by rfl) t.f_isinstance) (da_cons (de_isp (by rfl) List.mem_cons_self hz hf (t.kx_NoRow C hC).1 (de_var (pv 0)) (pe_glob (v := .ref (cG K "NoRow")) (by rfl) t.g_NoRow rfl) (fun _ r => r) (t.kx_NoRow C hC).2 (by rfl) t.f_isinstance) (da_cons (de_isp (by rfl) List.mem_cons_self hz hf (t.kx_CantBe C hC).1 (de_var (pv 0)) (pe_glob (v := .ref (cG K "CantBe")) (by rfl) t.g_CantBe rfl) (fun _ r => r) (t.kx_CantBe C hC).2 (by rfl) t.f_isinstance) (da_cons (de_isp (by rfl) List.mem_cons_self hz hf (t.kx_NoTiming C hC).1 (de_var (pv 0)) (pe_glob (v := .ref (cG K "NoTiming")) (by rfl) t.g_NoTiming rfl) (fun _ r => r) (t.kx_NoTiming C hC).2 (by rfl) t.f_isinstance) da_nil))))) op_addAll o_add)) (dss_one (ds_ret (de_bin (de_var (pv 1)) (de_lst (da_cons (de_isp (by rfl) List.mem_cons_self hz hf (t.kx_TooMany C hC).1 (de_var (pv 0)) (pe_glob (v := .ref (cG K "TooMany")) (by rfl) t.g_TooMany rfl) (fun _ r => r) (t.kx_TooMany C hC).2 (by rfl) t.f_isinstance) (da_cons (de_isp (by rfl) List.mem_cons_self hz hf (t.kx_NoSay C hC).1 (de_var (pv 0)) (pe_glob (v := .ref (cG K "NoSay")) (by rfl) t.g_NoSay rfl) (fun _ r => r) (t.kx_NoSay C hC).2 (by rfl) t.f_isinstance) (da_cons (de_isp (by rfl) List.mem_cons_self hz hf (t.kx_NoName C hC).1 (de_var (pv 0)) (pe_glob (v := .ref (cG K "NoName")) (by rfl) t.g_NoName rfl) (fun _ r => r) (t.kx_NoName C hC).2 (by rfl) t.f_isinstance) da_nil)))) op_addAll o_add)))))))
theorem sc_law_are_right : FnScope ["_law_made_here", "_law_k", "_law_e", "_law_j"] ["_law_made_here"] (defScope s_law_are_right) := ⟨rfl, rfl, rfl, by decide +kernel, rfl, by decide +kernel, by decide +kernel⟩
theorem ok_law_are_right (t : Tx w K mg) : OkF P w K mg base (cG K) 2 (He.fAd K ("_law_are_right", none)) ["_law_made_here"] F_law_are_right := by
  obtain ⟨fd, F⟩ := t.def_ 14 (d := d_law_are_right) rfl
  obtain ⟨fd_law_classes, b_law_classes, k_law_classes, G_law_classes⟩ := ok_law_classes (P := P) (base := base) t
  refine ⟨fd, F.bindsN fun _ _ _ _ _ _ us hl => match us, hl with | [_], _ => rfl, F.kp, def_okD (k := 1) F sc_law_are_right fun cdv A outer s H E hr h66 => ?_⟩
  have h64 := Nat.lt_of_le_of_lt (Nat.add_le_add_left (show 64 ≤ 66 by decide) _) h66
  have h65 := Nat.lt_of_le_of_lt (Nat.add_le_add_left (show 65 ≤ 66 by decide) _) h66
  have h1 := Nat.lt_of_le_of_lt (Nat.add_le_add_left (show 1 ≤ 66 by decide) _) h66
  exact (dss_cons (ds_for (passes_of rfl) (by rfl) (di_enum (by rfl) (by rfl) t.f_enumerate (de_var (pv 0))) (dg_un (by rfl) (by rfl) (dgs_cons (dg_name (pg_name (i := 1) sc_law_are_right.nd (by rfl) (by first | exact Or.inl rfl | exact Or.inr rfl))) (dgs_cons (dg_name (pg_name (i := 2) sc_law_are_right.nd (by rfl) (by first | exact Or.inl rfl | exact Or.inr rfl))) dgs_nil))) (dss_cons (ds_if (dt_cmp (de_call G_law_classes (takes_of rfl rfl rfl rfl) (hr.mono (by decide)) (by rfl) t.g__law_classes k_law_classes b_law_classes (da_cons (de_var (pv 2)) da_nil)) (de_lc (by rfl) sc_law_are_right.nd (di_range1 (by rfl) t.f_range de_int) (blkOk_by (own := [("_law_j", 3)]) (by kernel_rfl)) (fun _ _ _ _ _ => (dgc_name (pg_name (i := 3) sc_law_are_right.nd (by rfl) (by first | exact Or.inl rfl | exact Or.inr rfl)))) (fun _ _ _ _ _ => dts_nil) (fun _ _ _ _ _ => (de_cmp (de_var (pv 3)) (de_var (pv 1)) (op_eqD h64) o_eq))) (op_neD h64) o_ne) (dss_one (ds_ret de_bl)) dss_nil) (dss_one (ds_if (dw_or (dt_not (dt_val (de_isx (by rfl) (de_var (pv 2)) (pe_glob (v := .ref (cG K "FallError")) (by rfl) t.g_FallError rfl) (fun _ r => r) t.kx_FallError (by rfl) t.f_isinstance))) (dw_or1 (dt_not (dt_val (de_isx (by rfl) (de_var (pv 2)) (pe_bltn (v := .ty "ValueError") (by rfl) t.f_ValueError (by rfl) rfl) (fun _ r => r) t.kx_ValueError (by rfl) t.f_isinstance))))).pt (dss_one (ds_ret de_bl)) dss_nil)))) (dss_one (ds_ret (de_cmp (de_app (x := "len") (p := default) (pe_callB call_lenAll (by rfl) t.f_len (by rfl) (da_cons (de_var (pv 0)) da_nil)) o_len) de_int (op_eqD h64) o_eq))))
theorem sc_law_pot : FnScope ["_law_script", "_law_k", "_law_cell"] ["_law_script", "_law_k"] (defScope s_law_pot) := ⟨rfl, rfl, rfl, by decide +kernel, rfl, by decide +kernel, by decide +kernel⟩
theorem ok_law_pot (t : Tx w K mg) : OkF P w K mg base (cG K) 1 (He.fAd K ("_law_pot", none)) ["_law_script", "_law_k"] F_law_pot := by
  obtain ⟨fd, F⟩ := t.def_ 8 (d := d_law_pot) rfl
  refine ⟨fd, F.bindsN fun _ _ _ _ _ _ us hl => match us, hl with | [_, _], _ => rfl, F.kp, def_okD (k := 0) F sc_law_pot fun cdv A outer s H E hr h66 => ?_⟩
  have h64 := Nat.lt_of_le_of_lt (Nat.add_le_add_left (show 64 ≤ 66 by decide) _) h66
  have h65 := Nat.lt_of_le_of_lt (Nat.add_le_add_left (show 65 ≤ 66 by decide) _) h66
  have h1 := Nat.lt_of_le_of_lt (Nat.add_le_add_left (show 1 ≤ 66 by decide) _) h66
  exact (dss_cons (ds_set (i := 2) sc_law_pot.nd (by rfl) (by first | exact Or.inl rfl | exact Or.inr rfl) (de_if (dt_cmp (de_var (pv 1)) (de_app (x := "len") (p := default) (pe_callB call_lenAll (by rfl) t.f_len (by rfl) (da_cons (de_var (pv 0)) da_nil)) o_len) op_lt o_lt) (de_ix (de_var (pv 0)) (de_var (pv 1)) (ix_all h1) o_ix) de_int)) (dss_one (ds_ret (de_lst (da_cons (de_app (x := "max") (p := default) (pe_callB (call_max2 (by rfl)) (by rfl) t.f_max (by rfl) (da_cons de_int (da_cons (de_bin (de_app (x := "abs") (p := default) (pe_callB call_abs (by rfl) t.f_abs (by rfl) (da_cons (de_var (pv 2)) da_nil)) o_abs) (de_bin de_int de_int op_pow o_pow) op_sub o_sub) da_nil))) o_2I) (da_cons (de_bin (de_bin (de_bin (de_app (x := "abs") (p := default) (pe_callB call_abs (by rfl) t.f_abs (by rfl) (da_cons (de_var (pv 2)) da_nil)) o_abs) de_int op_mod o_mod) (de_bin de_int (de_var (pv 1)) op_mulAll o_mul) op_addAll o_add) de_int op_addAll o_add) da_nil))))))
theorem sc_law_bare : FnScope ["_law_found"] [] (defScope s_law_bare) := ⟨rfl, rfl, rfl, by decide +kernel, rfl, by decide +kernel, by decide +kernel⟩
theorem ok_law_bare (t : Tx w K mg) : OkF P w K mg base (cG K) 1 (He.fAd K ("_law_bare", none)) [] F_law_bare := by
  obtain ⟨fd, F⟩ := t.def_ 12 (d := d_law_bare) rfl
  refine ⟨fd, F.bindsN fun _ _ _ _ _ _ us hl => match us, hl with | [], _ => rfl, F.kp, def_okD (k := 0) F sc_law_bare fun cdv A outer s H E hr h66 => ?_⟩
  have h64 := Nat.lt_of_le_of_lt (Nat.add_le_add_left (show 64 ≤ 66 by decide) _) h66
  have h65 := Nat.lt_of_le_of_lt (Nat.add_le_add_left (show 65 ≤ 66 by decide) _) h66
  have h1 := Nat.lt_of_le_of_lt (Nat.add_le_add_left (show 1 ≤ 66 by decide) _) h66
  exact (dss_cons (ds_set (i := 0) sc_law_bare.nd (by rfl) (by first | exact Or.inl rfl | exact Or.inr rfl) (de_lst (da_cons (de_exc0 (C := "NoFloor") PySem.F.excBase_ValueError t.e_NoFloor.1 t.g_NoFloor t.e_NoFloor.2.1 (by rfl)) (da_cons (de_exc0 (C := "NoText") PySem.F.excBase_ValueError t.e_NoText.1 t.g_NoText t.e_NoText.2.1 (by rfl)) (da_cons (de_exc0 (C := "NoPlace") PySem.F.excBase_ValueError t.e_NoPlace.1 t.g_NoPlace t.e_NoPlace.2.1 (by rfl)) (da_cons (de_exc0 (C := "NoPush") PySem.F.excBase_ValueError t.e_NoPush.1 t.g_NoPush t.e_NoPush.2.1 (by rfl)) (da_cons (de_exc0 (C := "NotLight") PySem.F.excBase_ValueError t.e_NotLight.1 t.g_NotLight t.e_NotLight.2.1 (by rfl)) (da_cons (de_exc0 (C := "NoNumber") PySem.F.excBase_ValueError t.e_NoNumber.1 t.g_NoNumber t.e_NoNumber.2.1 (by rfl)) (da_cons (de_exc0 (C := "NoRoom") PySem.F.excBase_ValueError t.e_NoRoom.1 t.g_NoRoom t.e_NoRoom.2.1 (by rfl)) (da_cons (de_exc0 (C := "NoWays") PySem.F.excBase_ValueError t.e_NoWays.1 t.g_NoWays t.e_NoWays.2.1 (by rfl)) (da_cons (de_exc0 (C := "NoChoice") PySem.F.excBase_ValueError t.e_NoChoice.1 t.g_NoChoice t.e_NoChoice.2.1 (by rfl)) (da_cons (de_exc0 (C := "NoNet") PySem.F.excBase_ValueError t.e_NoNet.1 t.g_NoNet t.e_NoNet.2.1 (by rfl)) da_nil)))))))))))) (dss_cons (ds_set (i := 0) sc_law_bare.nd (by rfl) (by first | exact Or.inl rfl | exact Or.inr rfl) (de_bin (de_var (pv 0)) (de_lst (da_cons (de_exc0 (C := "NoArrivals") PySem.F.excBase_ValueError t.e_NoArrivals.1 t.g_NoArrivals t.e_NoArrivals.2.1 (by rfl)) (da_cons (de_exc0 (C := "NoLates") PySem.F.excBase_ValueError t.e_NoLates.1 t.g_NoLates t.e_NoLates.2.1 (by rfl)) (da_cons (de_exc0 (C := "NoTables") PySem.F.excBase_ValueError t.e_NoTables.1 t.g_NoTables t.e_NoTables.2.1 (by rfl)) (da_cons (de_exc0 (C := "NoRow") PySem.F.excBase_ValueError t.e_NoRow.1 t.g_NoRow t.e_NoRow.2.1 (by rfl)) (da_cons (de_exc0 (C := "CantBe") PySem.F.excBase_ValueError t.e_CantBe.1 t.g_CantBe t.e_CantBe.2.1 (by rfl)) (da_cons (de_exc0 (C := "NoTiming") PySem.F.excBase_ValueError t.e_NoTiming.1 t.g_NoTiming t.e_NoTiming.2.1 (by rfl)) (da_cons (de_exc0 (C := "TooMany") PySem.F.excBase_ValueError t.e_TooMany.1 t.g_TooMany t.e_TooMany.2.1 (by rfl)) (da_cons (de_exc0 (C := "NoSay") PySem.F.excBase_ValueError t.e_NoSay.1 t.g_NoSay t.e_NoSay.2.1 (by rfl)) (da_cons (de_exc0 (C := "NoName") PySem.F.excBase_ValueError t.e_NoName.1 t.g_NoName t.e_NoName.2.1 (by rfl)) da_nil)))))))))) op_addAll o_add)) (dss_one (ds_ret (de_var (pv 0))))))
theorem sc_law_made : FnScope ["_law_text_here", "_law_found"] ["_law_text_here"] (defScope s_law_made) := ⟨rfl, rfl, rfl, by decide +kernel, rfl, by decide +kernel, by decide +kernel⟩
theorem ok_law_made (t : Tx w K mg) : OkF P w K mg base (cG K) 1 (He.fAd K ("_law_made", none)) ["_law_text_here"] F_law_made := by
  obtain ⟨fd, F⟩ := t.def_ 11 (d := d_law_made) rfl
  refine ⟨fd, F.bindsN fun _ _ _ _ _ _ us hl => match us, hl with | [_], _ => rfl, F.kp, def_okD (k := 0) F sc_law_made fun cdv A outer s H E hr h66 => ?_⟩
  have h64 := Nat.lt_of_le_of_lt (Nat.add_le_add_left (show 64 ≤ 66 by decide) _) h66
  have h65 := Nat.lt_of_le_of_lt (Nat.add_le_add_left (show 65 ≤ 66 by decide) _) h66
  have h1 := Nat.lt_of_le_of_lt (Nat.add_le_add_left (show 1 ≤ 66 by decide) _) h66
  exact (dss_cons (ds_set (i := 1) sc_law_made.nd (by rfl) (by first | exact Or.inl rfl | exact Or.inr rfl) (de_lst (da_cons (de_exc1 (C := "NoFloor") PySem.F.excBase_ValueError t.e_NoFloor.1 t.g_NoFloor t.e_NoFloor.2.1 (by rfl) (de_var (pv 0))) (da_cons (de_exc1 (C := "NoText") PySem.F.excBase_ValueError t.e_NoText.1 t.g_NoText t.e_NoText.2.1 (by rfl) (de_var (pv 0))) (da_cons (de_exc1 (C := "NoPlace") PySem.F.excBase_ValueError t.e_NoPlace.1 t.g_NoPlace t.e_NoPlace.2.1 (by rfl) (de_var (pv 0))) (da_cons (de_exc1 (C := "NoPush") PySem.F.excBase_ValueError t.e_NoPush.1 t.g_NoPush t.e_NoPush.2.1 (by rfl) (de_var (pv 0))) (da_cons (de_exc1 (C := "NotLight") PySem.F.excBase_ValueError t.e_NotLight.1 t.g_NotLight t.e_NotLight.2.1 (by rfl) (de_var (pv 0))) (da_cons (de_exc1 (C := "NoNumber") PySem.F.excBase_ValueError t.e_NoNumber.1 t.g_NoNumber t.e_NoNumber.2.1 (by rfl) (de_var (pv 0))) (da_cons (de_exc1 (C := "NoRoom") PySem.F.excBase_ValueError t.e_NoRoom.1 t.g_NoRoom t.e_NoRoom.2.1 (by rfl) (de_var (pv 0))) da_nil))))))))) (dss_cons (ds_set (i := 1) sc_law_made.nd (by rfl) (by first | exact Or.inl rfl | exact Or.inr rfl) (de_bin (de_var (pv 1)) (de_lst (da_cons (de_exc1 (C := "NoWays") PySem.F.excBase_ValueError t.e_NoWays.1 t.g_NoWays t.e_NoWays.2.1 (by rfl) (de_var (pv 0))) (da_cons (de_exc1 (C := "NoChoice") PySem.F.excBase_ValueError t.e_NoChoice.1 t.g_NoChoice t.e_NoChoice.2.1 (by rfl) (de_var (pv 0))) (da_cons (de_exc1 (C := "NoNet") PySem.F.excBase_ValueError t.e_NoNet.1 t.g_NoNet t.e_NoNet.2.1 (by rfl) (de_var (pv 0))) (da_cons (de_exc1 (C := "NoArrivals") PySem.F.excBase_ValueError t.e_NoArrivals.1 t.g_NoArrivals t.e_NoArrivals.2.1 (by rfl) (de_var (pv 0))) (da_cons (de_exc1 (C := "NoLates") PySem.F.excBase_ValueError t.e_NoLates.1 t.g_NoLates t.e_NoLates.2.1 (by rfl) (de_var (pv 0))) (da_cons (de_exc1 (C := "NoTables") PySem.F.excBase_ValueError t.e_NoTables.1 t.g_NoTables t.e_NoTables.2.1 (by rfl) (de_var (pv 0))) da_nil))))))) op_addAll o_add)) (dss_one (ds_ret (de_bin (de_var (pv 1)) (de_lst (da_cons (de_exc1 (C := "NoRow") PySem.F.excBase_ValueError t.e_NoRow.1 t.g_NoRow t.e_NoRow.2.1 (by rfl) (de_var (pv 0))) (da_cons (de_exc1 (C := "CantBe") PySem.F.excBase_ValueError t.e_CantBe.1 t.g_CantBe t.e_CantBe.2.1 (by rfl) (de_var (pv 0))) (da_cons (de_exc1 (C := "NoTiming") PySem.F.excBase_ValueError t.e_NoTiming.1 t.g_NoTiming t.e_NoTiming.2.1 (by rfl) (de_var (pv 0))) (da_cons (de_exc1 (C := "TooMany") PySem.F.excBase_ValueError t.e_TooMany.1 t.g_TooMany t.e_TooMany.2.1 (by rfl) (de_var (pv 0))) (da_cons (de_exc1 (C := "NoSay") PySem.F.excBase_ValueError t.e_NoSay.1 t.g_NoSay t.e_NoSay.2.1 (by rfl) (de_var (pv 0))) (da_cons (de_exc1 (C := "NoName") PySem.F.excBase_ValueError t.e_NoName.1 t.g_NoName t.e_NoName.2.1 (by rfl) (de_var (pv 0))) da_nil))))))) op_addAll o_add)))))
theorem sc_is_whole : FnScope ["thing"] ["thing"] (defScope s_is_whole) := ⟨rfl, rfl, rfl, by decide +kernel, rfl, by decide +kernel, by decide +kernel⟩
theorem ok_is_whole (t : Tx w K mg) : OkF P w K mg base (cG K) 1 (He.fAd K ("is_whole", none)) ["thing"] F_is_whole := by
  obtain ⟨fd, F⟩ := t.def_ 0 (d := d_is_whole) rfl
  refine ⟨fd, F.bindsN fun _ _ _ _ _ _ us hl => match us, hl with | [_], _ => rfl, F.kp, def_okD (k := 0) F sc_is_whole fun cdv A outer s H E hr h66 => ?_⟩
  have h64 := Nat.lt_of_le_of_lt (Nat.add_le_add_left (show 64 ≤ 66 by decide) _) h66
  have h65 := Nat.lt_of_le_of_lt (Nat.add_le_add_left (show 65 ≤ 66 by decide) _) h66
  have h1 := Nat.lt_of_le_of_lt (Nat.add_le_add_left (show 1 ≤ 66 by decide) _) h66
  exact (dss_one (ds_ret (de_and (de_isi (by rfl) (de_var (pv 0)) (pe_bltn (v := .ty "int") (by rfl) t.f_int (by rfl) rfl) kit_int (by rfl) t.f_isinstance) (de_one (de_not (de_isi (by rfl) (de_var (pv 0)) (pe_bltn (v := .ty "bool") (by rfl) t.f_bool (by rfl) rfl) kit_bool (by rfl) t.f_isinstance))))))
theorem sc_is_between : FnScope ["thing", "least", "most"] ["thing", "least", "most"] (defScope s_is_between) := ⟨rfl, rfl, rfl, by decide +kernel, rfl, by decide +kernel, by decide +kernel⟩
theorem ok_is_between (t : Tx w K mg) : OkF P w K mg base (cG K) 2 (He.fAd K ("is_between", none)) ["thing", "least", "most"] F_is_between := by
  obtain ⟨fd, F⟩ := t.def_ 1 (d := d_is_between) rfl
  obtain ⟨fd_is_whole, b_is_whole, k_is_whole, G_is_whole⟩ := ok_is_whole (P := P) (base := base) t
  refine ⟨fd, F.bindsN fun _ _ _ _ _ _ us hl => match us, hl with | [_, _, _], _ => rfl, F.kp, def_okD (k := 1) F sc_is_between fun cdv A outer s H E hr h66 => ?_⟩
  have h64 := Nat.lt_of_le_of_lt (Nat.add_le_add_left (show 64 ≤ 66 by decide) _) h66
  have h65 := Nat.lt_of_le_of_lt (Nat.add_le_add_left (show 65 ≤ 66 by decide) _) h66
  have h1 := Nat.lt_of_le_of_lt (Nat.add_le_add_left (show 1 ≤ 66 by decide) _) h66
  exact (dss_one (ds_ret (de_and (de_call G_is_whole (takes_of rfl rfl rfl rfl) (hr.mono (by decide)) (by rfl) t.g_is_whole k_is_whole b_is_whole (da_cons (de_var (pv 0)) da_nil)) (de_one (de_chain (de_var (pv 1)) (de_var (pv 0)) (de_var (pv 2)) op_le op_le)))))
theorem sc_Floor_init : FnScope ["self", "wide", "high", "stones", "cell", "stone"] ["self", "wide", "high", "stones"] (defScope s_Floor_init) := ⟨rfl, rfl, rfl, by decide +kernel, rfl, by decide +kernel, by decide +kernel⟩
theorem ok_Floor_init (t : Tx w K mg) : OkF P w K mg base (cG K) 3 (He.fAd K ("Floor", some "__init__")) ["self", "wide", "high", "stones"] F_Floor_init := by
  obtain ⟨fd, F⟩ := t.def_ 3 (d := d_Floor_init) rfl
  obtain ⟨fd_is_between, b_is_between, k_is_between, G_is_between⟩ := ok_is_between (P := P) (base := base) t
  refine ⟨fd, F.bindsN fun _ _ _ _ _ _ us hl => match us, hl with | [_, _, _, _], _ => rfl, F.kp, def_okD (k := 2) F sc_Floor_init fun cdv A outer s H E hr h66 => ?_⟩
  have h64 := Nat.lt_of_le_of_lt (Nat.add_le_add_left (show 64 ≤ 66 by decide) _) h66
  have h65 := Nat.lt_of_le_of_lt (Nat.add_le_add_left (show 65 ≤ 66 by decide) _) h66
  have h1 := Nat.lt_of_le_of_lt (Nat.add_le_add_left (show 1 ≤ 66 by decide) _) h66
  exact (dss_cons (ds_if (dw_or (dt_not (dt_val (de_call G_is_between (takes_of rfl rfl rfl rfl) (hr.mono (by decide)) (by rfl) t.g_is_between k_is_between b_is_between (da_cons (de_var (pv 1)) (da_cons de_int (da_cons (de_gint (by rfl) t.c_MOST_CELLS) da_nil)))))) (dw_or (dt_not (dt_val (de_call G_is_between (takes_of rfl rfl rfl rfl) (hr.mono (by decide)) (by rfl) t.g_is_between k_is_between b_is_between (da_cons (de_var (pv 2)) (da_cons de_int (da_cons (de_gint (by rfl) t.c_MOST_CELLS) da_nil)))))) (dw_or1 (dt_not (dt_val (de_isi (by rfl) (de_var (pv 3)) (pe_bltn (v := .ty "dict") (by rfl) t.f_dict (by rfl) rfl) kit_dict (by rfl) t.f_isinstance)))))).pt (dss_one (ds_raise (C := "NoFloor") (by rfl) (takes_of rfl rfl rfl rfl) PySem.F.excBase_ValueError t.e_NoFloor.1 t.g_NoFloor t.e_NoFloor.2.1 (raises_own t.e_NoFloor.2.2.1 t.e_NoFloor.2.2.2) (by rfl))) dss_nil) (dss_cons (ds_lock (ds_for (passes_of rfl) (by rfl) (di_items (de_var (pv 3))) (dg_un (by rfl) (by rfl) (dgs_cons (dg_name (pg_name (i := 4) sc_Floor_init.nd (by rfl) (by first | exact Or.inl rfl | exact Or.inr rfl))) (dgs_cons (dg_name (pg_name (i := 5) sc_Floor_init.nd (by rfl) (by first | exact Or.inl rfl | exact Or.inr rfl))) dgs_nil))) (dss_one (ds_if (dw_or (dt_not (dt_val de_stuck)) (dw_or1 (dt_not (dt_val de_stuck)))).pt (dss_one (ds_raise (C := "NoFloor") (by rfl) (takes_unl (takes_of rfl rfl rfl rfl)) PySem.F.excBase_ValueError t.e_NoFloor.1 t.g_NoFloor t.e_NoFloor.2.1 (raises_own t.e_NoFloor.2.2.1 t.e_NoFloor.2.2.2) (by rfl))) dss_nil)))) (dss_cons (ds_fld (C := "Floor") (by rfl) (de_var (pv 0)) (de_var (pv 1)) t.k_Floor t.n_Floor_many_wide) (dss_cons (ds_fld (C := "Floor") (by rfl) (de_var (pv 0)) (de_var (pv 2)) t.k_Floor t.n_Floor_many_high) (dss_one (ds_fld (C := "Floor") (by rfl) (de_var (pv 0)) (de_app (x := "dict") (p := default) (pe_callTy call_dictD (by rfl) t.f_dict (by rfl) (da_cons (de_var (pv 3)) da_nil)) o_dictK) t.k_Floor t.n_Floor_stone_at))))))
theorem sc_rows_of : FnScope ["text", "row"] ["text"] (defScope s_rows_of) := ⟨rfl, rfl, rfl, by decide +kernel, rfl, by decide +kernel, by decide +kernel⟩
theorem ok_rows_of (t : Tx w K mg) : OkF P w K mg base (cG K) 1 (He.fAd K ("rows_of", none)) ["text"] F_rows_of := by
  obtain ⟨fd, F⟩ := t.def_ 6 (d := d_rows_of) rfl
  refine ⟨fd, F.bindsN fun _ _ _ _ _ _ us hl => match us, hl with | [_], _ => rfl, F.kp, def_okD (k := 0) F sc_rows_of fun cdv A outer s H E hr h66 => ?_⟩
  have h64 := Nat.lt_of_le_of_lt (Nat.add_le_add_left (show 64 ≤ 66 by decide) _) h66
  have h65 := Nat.lt_of_le_of_lt (Nat.add_le_add_left (show 65 ≤ 66 by decide) _) h66
  have h1 := Nat.lt_of_le_of_lt (Nat.add_le_add_left (show 1 ≤ 66 by decide) _) h66
  exact (dss_cons (ds_if (dw_or (dt_not (dt_val (de_isi (by rfl) (de_var (pv 0)) (pe_bltn (v := .ty "str") (by rfl) t.f_str (by rfl) rfl) kit_str (by rfl) t.f_isinstance))) (dw_or1 (dt_not (dt_val (de_mt (by rfl) PySem.F.plainAttrs_str PySem.F.slot_str_endswith PySem.F.type_str_endswith mt_endswith (m_str1 fun _ _ _ _ => .bl _) (de_var (pv 0)) (da_cons de_str da_nil)))))).pt (dss_one (ds_raise (C := "NoText") (by rfl) (takes_of rfl rfl rfl rfl) PySem.F.excBase_ValueError t.e_NoText.1 t.g_NoText t.e_NoText.2.1 (raises_own t.e_NoText.2.2.1 t.e_NoText.2.2.2) (by rfl))) dss_nil) (dss_one (ds_ret (de_lc (by rfl) sc_rows_of.nd (di_seq (by rfl) (de_mt (by rfl) PySem.F.plainAttrs_str PySem.F.slot_str_split PySem.F.type_str_split mt_split m_split (de_slice (by rfl) (de_var (pv 0)) do_none (do_some (de_un de_int un_neg o_neg))) (da_cons de_str da_nil))) (blkOk_by (own := [("row", 1)]) (by kernel_rfl)) (fun _ _ _ _ _ => (dgc_name (pg_name (i := 1) sc_rows_of.nd (by rfl) (by first | exact Or.inl rfl | exact Or.inr rfl)))) (fun _ _ _ _ _ => dts_nil) (fun _ _ _ _ _ => (de_mt (by rfl) PySem.F.plainAttrs_str PySem.F.slot_str_split PySem.F.type_str_split mt_split m_split (de_var (pv 1)) (da_cons de_str da_nil)))))))
theorem sc_read_floor : FnScope ["text", "rows", "wide", "stones", "y", "row", "x", "word"] ["text"] (defScope s_read_floor) := ⟨rfl, rfl, rfl, by decide +kernel, rfl, by decide +kernel, by decide +kernel⟩
theorem ok_read_floor (t : Tx w K mg) : OkF P w K mg base (cG K) 5 (He.fAd K ("read_floor", none)) ["text"] F_read_floor := by
  obtain ⟨fd, F⟩ := t.def_ 7 (d := d_read_floor) rfl
  obtain ⟨fd_rows_of, b_rows_of, k_rows_of, G_rows_of⟩ := ok_rows_of (P := P) (base := base) t
  obtain ⟨fd_Floor_init, b_Floor_init, k_Floor_init, G_Floor_init⟩ := ok_Floor_init (P := P) (base := base) t
  refine ⟨fd, F.bindsN fun _ _ _ _ _ _ us hl => match us, hl with | [_], _ => rfl, F.kp, def_okD (k := 4) F sc_read_floor fun cdv A outer s H E hr h66 => ?_⟩
  have h64 := Nat.lt_of_le_of_lt (Nat.add_le_add_left (show 64 ≤ 66 by decide) _) h66
  have h65 := Nat.lt_of_le_of_lt (Nat.add_le_add_left (show 65 ≤ 66 by decide) _) h66
  have h1 := Nat.lt_of_le_of_lt (Nat.add_le_add_left (show 1 ≤ 66 by decide) _) h66
  exact (dss_cons (ds_set (i := 1) sc_read_floor.nd (by rfl) (by first | exact Or.inl rfl | exact Or.inr rfl) (de_call G_rows_of (takes_of rfl rfl rfl rfl) (hr.mono (by decide)) (by rfl) t.g_rows_of k_rows_of b_rows_of (da_cons (de_var (pv 0)) da_nil))) (dss_cons (ds_set (i := 2) sc_read_floor.nd (by rfl) (by first | exact Or.inl rfl | exact Or.inr rfl) (de_app (x := "len") (p := default) (pe_callB call_lenAll (by rfl) t.f_len (by rfl) (da_cons (de_ix (de_var (pv 1)) de_int (ix_all h1) o_ix) da_nil)) o_len)) (dss_cons (ds_if (dw_or (dt_cmp (de_app (x := "len") (p := default) (pe_callB call_lenAll (by rfl) t.f_len (by rfl) (da_cons (de_var (pv 1)) da_nil)) o_len) (de_gint (by rfl) t.c_MOST_CELLS) op_gt o_gt) (dw_or (dt_cmp (de_var (pv 2)) (de_gint (by rfl) t.c_MOST_CELLS) op_gt o_gt) (dw_or1 (dt_not (dt_val (de_app (x := "all") (p := default) (pe_callB (cr_all (by rfl)) (by rfl) t.f_all (by rfl) (da_cons (de_lc (by rfl) sc_read_floor.nd (di_seq (by rfl) (de_var (pv 1))) (blkOk_by (own := [("row", 5)]) (by kernel_rfl)) (fun _ _ _ _ _ => (dgc_name (pg_name (i := 5) sc_read_floor.nd (by rfl) (by first | exact Or.inl rfl | exact Or.inr rfl)))) (fun _ _ _ _ _ => dts_nil) (fun _ _ _ _ _ => (de_cmp (de_app (x := "len") (p := default) (pe_callB call_lenAll (by rfl) t.f_len (by rfl) (da_cons (de_var (pv 5)) da_nil)) o_len) (de_var (pv 2)) (op_eqD h64) o_eq))) da_nil)) o_all)))))).pt (dss_one (ds_raise (C := "NoText") (by rfl) (takes_of rfl rfl rfl rfl) PySem.F.excBase_ValueError t.e_NoText.1 t.g_NoText t.e_NoText.2.1 (raises_own t.e_NoText.2.2.1 t.e_NoText.2.2.2) (by rfl))) dss_nil) (dss_cons (ds_set (i := 3) sc_read_floor.nd (by rfl) (by first | exact Or.inl rfl | exact Or.inr rfl) de_dnewT) (dss_cons (ds_for (passes_of rfl) (by rfl) (di_enum (by rfl) (by rfl) t.f_enumerate (de_var (pv 1))) (dg_un (by rfl) (by rfl) (dgs_cons (dg_name (pg_name (i := 4) sc_read_floor.nd (by rfl) (by first | exact Or.inl rfl | exact Or.inr rfl))) (dgs_cons (dg_name (pg_name (i := 5) sc_read_floor.nd (by rfl) (by first | exact Or.inl rfl | exact Or.inr rfl))) dgs_nil))) (dss_one (ds_for (passes_of rfl) (by rfl) (di_enum (by rfl) (by rfl) t.f_enumerate (de_var (pv 5))) (dg_un (by rfl) (by rfl) (dgs_cons (dg_name (pg_name (i := 6) sc_read_floor.nd (by rfl) (by first | exact Or.inl rfl | exact Or.inr rfl))) (dgs_cons (dg_name (pg_name (i := 7) sc_read_floor.nd (by rfl) (by first | exact Or.inl rfl | exact Or.inr rfl))) dgs_nil))) (dss_one (ds_if (dt_cmp (de_var (pv 7)) (de_gstr (by rfl) t.c_EMPTY) (op_neD h64) o_ne) (dss_one (ds_asg de_stuck (dg_subL (W := W0) (de_var (pv 3)) (de_tup (da_cons (de_var (pv 6)) (da_cons (de_var (pv 4)) da_nil)))))) dss_nil))))) (dss_one (ds_ret (de_make (C := "Floor") (by rfl) t.m_Floor G_Floor_init (takes_of rfl rfl rfl rfl) (hr.mono (by decide)) (by rfl) t.g_Floor b_Floor_init (da_cons (de_var (pv 2)) (da_cons (de_app (x := "len") (p := default) (pe_callB call_lenAll (by rfl) t.f_len (by rfl) (da_cons (de_var (pv 1)) da_nil)) o_len) (da_cons (de_var (pv 3)) da_nil)))))))))))
theorem sc_is_place : FnScope ["floor", "thing"] ["floor", "thing"] (defScope s_is_place) := ⟨rfl, rfl, rfl, by decide +kernel, rfl, by decide +kernel, by decide +kernel⟩
theorem ok_is_place (t : Tx w K mg) : OkF P w K mg base (cG K) 3 (He.fAd K ("is_place", none)) ["floor", "thing"] F_is_place := by
  obtain ⟨fd, F⟩ := t.def_ 2 (d := d_is_place) rfl
  obtain ⟨fd_is_between, b_is_between, k_is_between, G_is_between⟩ := ok_is_between (P := P) (base := base) t
  refine ⟨fd, F.bindsN fun _ _ _ _ _ _ us hl => match us, hl with | [_, _], _ => rfl, F.kp, def_okD (k := 2) F sc_is_place fun cdv A outer s H E hr h66 => ?_⟩
  have h64 := Nat.lt_of_le_of_lt (Nat.add_le_add_left (show 64 ≤ 66 by decide) _) h66
  have h65 := Nat.lt_of_le_of_lt (Nat.add_le_add_left (show 65 ≤ 66 by decide) _) h66
  have h1 := Nat.lt_of_le_of_lt (Nat.add_le_add_left (show 1 ≤ 66 by decide) _) h66
  exact (dss_cons (ds_if (dw_or (dt_not (dt_val (de_isi (by rfl) (de_var (pv 1)) (pe_bltn (v := .ty "tuple") (by rfl) t.f_tuple (by rfl) rfl) kit_tuple (by rfl) t.f_isinstance))) (dw_or (dt_cmp (de_app (x := "len") (p := default) (pe_callB call_lenAll (by rfl) t.f_len (by rfl) (da_cons (de_var (pv 1)) da_nil)) o_len) de_int (op_neD h64) o_ne) (dw_or1 (dt_not (dt_val de_stuck))))).pt (dss_one (ds_ret de_bl)) dss_nil) (dss_one (ds_ret (de_and (de_call G_is_between (takes_of rfl rfl rfl rfl) (hr.mono (by decide)) (by rfl) t.g_is_between k_is_between b_is_between (da_cons (de_ix (de_var (pv 1)) de_int (ix_all h1) o_ix) (da_cons de_int (da_cons de_int da_nil)))) (de_one (de_cmp (de_var (pv 1)) de_stuck (op_inAll h65) o_in))))))
theorem sc_Floor_want_place : FnScope ["self", "thing"] ["self", "thing"] (defScope s_Floor_want_place) := ⟨rfl, rfl, rfl, by decide +kernel, rfl, by decide +kernel, by decide +kernel⟩
theorem ok_Floor_want_place (t : Tx w K mg) : OkF P w K mg base (cG K) 4 (He.fAd K ("Floor", some "want_place")) ["self", "thing"] F_Floor_want_place := by
  obtain ⟨fd, F⟩ := t.def_ 4 (d := d_Floor_want_place) rfl
  obtain ⟨fd_is_place, b_is_place, k_is_place, G_is_place⟩ := ok_is_place (P := P) (base := base) t
  refine ⟨fd, F.bindsN fun _ _ _ _ _ _ us hl => match us, hl with | [_, _], _ => rfl, F.kp, def_okD (k := 3) F sc_Floor_want_place fun cdv A outer s H E hr h66 => ?_⟩
  have h64 := Nat.lt_of_le_of_lt (Nat.add_le_add_left (show 64 ≤ 66 by decide) _) h66
  have h65 := Nat.lt_of_le_of_lt (Nat.add_le_add_left (show 65 ≤ 66 by decide) _) h66
  have h1 := Nat.lt_of_le_of_lt (Nat.add_le_add_left (show 1 ≤ 66 by decide) _) h66
  exact (dss_one (ds_if (dt_not (dt_val (de_call G_is_place (takes_of rfl rfl rfl rfl) (hr.mono (by decide)) (by rfl) t.g_is_place k_is_place b_is_place (da_cons (de_var (pv 0)) (da_cons (de_var (pv 1)) da_nil))))) (dss_one (ds_raise (C := "NoPlace") (by rfl) (takes_of rfl rfl rfl rfl) PySem.F.excBase_ValueError t.e_NoPlace.1 t.g_NoPlace t.e_NoPlace.2.1 (raises_own t.e_NoPlace.2.2.1 t.e_NoPlace.2.2.2) (by rfl))) dss_nil))
theorem sc_Floor_beats : FnScope ["self", "place"] ["self", "place"] (defScope s_Floor_beats) := ⟨rfl, rfl, rfl, by decide +kernel, rfl, by decide +kernel, by decide +kernel⟩
theorem ok_Floor_beats (t : Tx w K mg) : OkF P w K mg base (cG K) 5 (He.fAd K ("Floor", some "beats")) ["self", "place"] F_Floor_beats := by
  obtain ⟨fd, F⟩ := t.def_ 5 (d := d_Floor_beats) rfl
  obtain ⟨fd_Floor_want_place, b_Floor_want_place, k_Floor_want_place, G_Floor_want_place⟩ := ok_Floor_want_place (P := P) (base := base) t
  refine ⟨fd, F.bindsN fun _ _ _ _ _ _ us hl => match us, hl with | [_, _], _ => rfl, F.kp, def_okD (k := 4) F sc_Floor_beats fun cdv A outer s H E hr h66 => ?_⟩
  have h64 := Nat.lt_of_le_of_lt (Nat.add_le_add_left (show 64 ≤ 66 by decide) _) h66
  have h65 := Nat.lt_of_le_of_lt (Nat.add_le_add_left (show 65 ≤ 66 by decide) _) h66
  have h1 := Nat.lt_of_le_of_lt (Nat.add_le_add_left (show 1 ≤ 66 by decide) _) h66
  exact (dss_cons (ds_expr (de_meth (C := "Floor") (by rfl) (de_var (pv 0)) t.k_Floor t.h_Floor_want_place G_Floor_want_place (takes_of rfl rfl rfl rfl) (hr.mono (by decide)) b_Floor_want_place (da_cons (de_var (pv 1)) da_nil))) (dss_one (ds_ret (de_ix (de_ix (de_fld (by rfl) (de_var (pv 0)) t.k_Floor t.n_Floor_stone_at) (de_slice (by rfl) (de_var (pv 1)) do_none (do_some de_int)) (ix_all h1) o_ix) de_int (ix_all h1) o_ix))))
theorem sc_law_said : FnScope ["_law_way", "_law_thing", "_law_found", "_law_e"] ["_law_way", "_law_thing"] (defScope s_law_said) := ⟨rfl, rfl, rfl, by decide +kernel, rfl, by decide +kernel, by decide +kernel⟩
theorem ok_law_said (t : Tx w K mg) : OkF P w K mg base (cG K) 6 (He.fAd K ("_law_said", none)) ["_law_way", "_law_thing"] F_law_said := by
  obtain ⟨fd, F⟩ := t.def_ 15 (d := d_law_said) rfl
  obtain ⟨fde_law_classes, be_law_classes, ke_law_classes, E_law_classes⟩ := okh_law_classes (P := P) (base := base) t
  obtain ⟨fd_Floor_init, b_Floor_init, k_Floor_init, G_Floor_init⟩ := ok_Floor_init (P := P) (base := base) t
  obtain ⟨fd_read_floor, b_read_floor, k_read_floor, G_read_floor⟩ := ok_read_floor (P := P) (base := base) t
  obtain ⟨fd_Floor_beats, b_Floor_beats, k_Floor_beats, G_Floor_beats⟩ := ok_Floor_beats (P := P) (base := base) t
  refine ⟨fd, F.bindsN fun _ _ _ _ _ _ us hl => match us, hl with | [_, _], _ => rfl, F.kp, def_okD (k := 5) F sc_law_said fun cdv A outer s H E hr h66 => ?_⟩
  have h64 := Nat.lt_of_le_of_lt (Nat.add_le_add_left (show 64 ≤ 66 by decide) _) h66
  have h65 := Nat.lt_of_le_of_lt (Nat.add_le_add_left (show 65 ≤ 66 by decide) _) h66
  have h1 := Nat.lt_of_le_of_lt (Nat.add_le_add_left (show 1 ≤ 66 by decide) _) h66
  exact (dss_cons (ds_set (i := 2) sc_law_said.nd (by rfl) (by first | exact Or.inl rfl | exact Or.inr rfl) (de_lst da_nil)) (dss_cons (ds_tryC (XS := XS) (i := 3) (y := 2) (by rfl) (by rfl) (by rfl) sc_law_said.nd (by rfl) (by rfl) ⟨by rfl, by rfl, Or.inl t.g_FallError⟩ (takes_of rfl rfl rfl rfl) t.exm (by rfl) (by first | exact Or.inl rfl | exact Or.inr rfl) (by decide) (by first | exact Or.inl rfl | exact Or.inr (Or.inl rfl) | exact Or.inr (Or.inr rfl)) (by first | exact Or.inl rfl | exact Or.inr rfl) E_law_classes (hr.mono (by decide)) (by rfl) t.g__law_classes ke_law_classes be_law_classes (fun W' pn xe tkT hpT => (dss_one (ds_if (dt_cmp (de_var (pv 0)) de_int (op_eqD h64) o_eq) (dss_one (ds_expr (de_make (C := "Floor") (by rfl) t.m_Floor G_Floor_init tkT (hr.mono (by decide)) (by rfl) t.g_Floor b_Floor_init (da_cons (de_var (pv 1)) (da_cons de_int (da_cons de_dnewK da_nil)))))) (dss_one (ds_if (dt_cmp (de_var (pv 0)) de_int (op_eqD h64) o_eq) (dss_one (ds_expr (de_call G_read_floor tkT (hr.mono (by decide)) (by rfl) t.g_read_floor k_read_floor b_read_floor (da_cons (de_var (pv 1)) da_nil)))) (dss_one (ds_expr (de_meth (C := "Floor") (by rfl) (de_make (C := "Floor") (by rfl) t.m_Floor G_Floor_init tkT (hr.mono (by decide)) (by rfl) t.g_Floor b_Floor_init (da_cons de_int (da_cons de_int (da_cons de_dnewK da_nil)))) t.k_Floor t.h_Floor_beats G_Floor_beats tkT (hr.mono (by decide)) b_Floor_beats (da_cons (de_var (pv 1)) da_nil)))))))))) (dss_one (ds_ret (de_var (pv 2))))))
theorem sc_law : FnScope ["_law_script", "_law_k", "_law_text_here", "_law_way", "_law_j"] ["_law_script"] (defScope s_law) := ⟨rfl, rfl, rfl, by decide +kernel, rfl, by decide +kernel, by decide +kernel⟩
theorem fn_law (t : Tx w K mg) {fd : FuncData} (F : FunD K d_law.name d_law.qual d_law.params d_law.body d_law.scope (d_law.dvs K) (d_law.kws K) (He.fAd K d_law.at_) fd) : FnOk P w K mg base (L2.CX P w) 7 (He.fAd K d_law.at_) fd ["_law_script"] (spD K (cG K) F_law) := by
  obtain ⟨fd_law_text, b_law_text, k_law_text, G_law_text⟩ := ok_law_text (P := P) (base := base) t
  obtain ⟨fd_law_pot, b_law_pot, k_law_pot, G_law_pot⟩ := ok_law_pot (P := P) (base := base) t
  obtain ⟨fd_law_are_right, b_law_are_right, k_law_are_right, G_law_are_right⟩ := ok_law_are_right (P := P) (base := base) t
  obtain ⟨fd_law_made, b_law_made, k_law_made, G_law_made⟩ := ok_law_made (P := P) (base := base) t
  obtain ⟨fd_law_said, b_law_said, k_law_said, G_law_said⟩ := ok_law_said (P := P) (base := base) t
  obtain ⟨fd_law_bare, b_law_bare, k_law_bare, G_law_bare⟩ := ok_law_bare (P := P) (base := base) t
  refine def_okD (k := 6) F sc_law fun cdv A outer s H E hr h66 => ?_
  have h64 := Nat.lt_of_le_of_lt (Nat.add_le_add_left (show 64 ≤ 66 by decide) _) h66
  have h65 := Nat.lt_of_le_of_lt (Nat.add_le_add_left (show 65 ≤ 66 by decide) _) h66
  have h1 := Nat.lt_of_le_of_lt (Nat.add_le_add_left (show 1 ≤ 66 by decide) _) h66
  exact (dss_cons (ds_for (passes_of rfl) (by rfl) (di_range1 (by rfl) t.f_range (de_app (x := "max") (p := default) (pe_callB (call_max2 (by rfl)) (by rfl) t.f_max (by rfl) (da_cons de_int (da_cons (de_app (x := "min") (p := default) (pe_callB (call_min2 (by rfl)) (by rfl) t.f_min (by rfl) (da_cons (de_app (x := "len") (p := default) (pe_callB call_lenAll (by rfl) t.f_len (by rfl) (da_cons (de_var (pv 0)) da_nil)) o_len) (da_cons de_int da_nil))) o_2I) da_nil))) o_2I)) (dg_name (pg_name (i := 1) sc_law.nd (by rfl) (by first | exact Or.inl rfl | exact Or.inr rfl))) (dss_cons (ds_set (i := 2) sc_law.nd (by rfl) (by first | exact Or.inl rfl | exact Or.inr rfl) (de_call G_law_text (takes_of rfl rfl rfl rfl) (hr.mono (by decide)) (by rfl) t.g__law_text k_law_text b_law_text (da_cons (de_call G_law_pot (takes_of rfl rfl rfl rfl) (hr.mono (by decide)) (by rfl) t.g__law_pot k_law_pot b_law_pot (da_cons (de_var (pv 0)) (da_cons (de_var (pv 1)) da_nil))) da_nil))) (dss_cons (ds_if (dt_not (dt_val (de_call G_law_are_right (takes_of rfl rfl rfl rfl) (hr.mono (by decide)) (by rfl) t.g__law_are_right k_law_are_right b_law_are_right (da_cons (de_call G_law_made (takes_of rfl rfl rfl rfl) (hr.mono (by decide)) (by rfl) t.g__law_made k_law_made b_law_made (da_cons (de_var (pv 2)) da_nil)) da_nil)))) (dss_one (ds_ret de_bl)) dss_nil) (dss_one (ds_if (dt_cmp (de_lc (by rfl) sc_law.nd (di_range1 (by rfl) t.f_range de_int) (blkOk_by (own := [("_law_way", 3)]) (by kernel_rfl)) (fun _ _ _ _ _ => (dgc_name (pg_name (i := 3) sc_law.nd (by rfl) (by first | exact Or.inl rfl | exact Or.inr rfl)))) (fun _ _ _ _ _ => dts_nil) (fun _ _ _ _ _ => (de_call G_law_said tk0 (hr.mono (by decide)) (by rfl) t.g__law_said k_law_said b_law_said (da_cons (de_var (pv 3)) (da_cons (de_var (pv 2)) da_nil))))) (de_lc (by rfl) sc_law.nd (di_range1 (by rfl) t.f_range de_int) (blkOk_by (own := [("_law_way", 3)]) (by kernel_rfl)) (fun _ _ _ _ _ => (dgc_name (pg_name (i := 3) sc_law.nd (by rfl) (by first | exact Or.inl rfl | exact Or.inr rfl)))) (fun _ _ _ _ _ => dts_nil) (fun _ _ _ _ _ => (de_lc (by rfl) sc_law.nd (di_range1 (by rfl) t.f_range de_int) (blkOk_by (own := [("_law_j", 4)]) (by kernel_rfl)) (fun _ _ _ _ _ => (dgc_name (pg_name (i := 4) sc_law.nd (by rfl) (by first | exact Or.inl rfl | exact Or.inr rfl)))) (fun _ _ _ _ _ => dts_nil) (fun _ _ _ _ _ => (de_cmp (de_var (pv 4)) (de_var (pv 3)) (op_eqD h64) o_eq))))) (op_neD h64) o_ne) (dss_one (ds_ret de_bl)) dss_nil))))) (dss_one (ds_ret (de_and (de_call G_law_are_right (takes_of rfl rfl rfl rfl) (hr.mono (by decide)) (by rfl) t.g__law_are_right k_law_are_right b_law_are_right (da_cons (de_call0 G_law_bare (takes_of rfl rfl rfl rfl) (hr.mono (by decide)) (by rfl) t.g__law_bare k_law_bare b_law_bare) da_nil)) (de_one (de_isx (by rfl) (de_exc1 (C := "FallError") PySem.F.excBase_ValueError t.e_FallError.1 t.g_FallError t.e_FallError.2.1 (by rfl) de_str) (pe_bltn (v := .ty "ValueError") (by rfl) t.f_ValueError (by rfl) rfl) (fun _ r => r) t.kx_ValueError (by rfl) t.f_isinstance))))))
end
end K17
set_option Elab.async false
set_option linter.all false
set_option maxRecDepth 100000
open PySem PySem.W PySem.Calls PyProof.Rows in
set_option maxHeartbeats 0 in
theorem PySem.Challenge.cw_fallstones_k17_refusals_made_holds : PySem.Challenge.rw_fallstones_k17_refusals_made.Holds := by
  w_on; o_law
  refine HandSHeadRun.head_any (r := OpenLaw.row PySem.Challenge.rw_fallstones_k17_refusals_made) (q := view (OpenLaw.row PySem.Challenge.rw_fallstones_k17_refusals_made).prog [55]) (H := K17.hk) (ob := K17.ob) (M := 8000) (loose := K17.loose) (d := HandSHeadRun.topDef (OpenLaw.row PySem.Challenge.rw_fallstones_k17_refusals_made).prog 55) (kwd := []) K17.ob_eq
    (by kernel_rfl) (fun s => by kernel_rfl) K17.run (by kernel_rfl) (by kernel_rfl) (by kernel_rfl) (by rfl) (by first | assumption | decide +kernel) (by decide +kernel) ⟨rfl, rfl, rfl, rfl, rfl, by decide +kernel⟩ ?hw ?hc
  case hw => w_witness2
  case hc =>
    refine LamX.walk_ofTsE (l := PySem.Challenge.rw_fallstones_k17_refusals_made) (n := 63) (k := 7) (x := "_law_script") (CX := fun w => L2.CX (PySem.Challenge.rw_fallstones_k17_refusals_made).prog w) rfl (by decide) (by kernel_rfl) ⟨rfl, by decide, by decide⟩ ?F (fun _ _ _ _ _ z => by obtain ⟨_, _, _, _, _, _, _, _, _, _, _, _, z⟩ := z; exact z)
    intro w mg fa h Y G hmg0
    obtain ⟨K, KX, c⟩ := Y
    have hmg : mg ("law" : PySem.Str) = some (.ref fa) := by
      have e : (HandSHeadRun.topDef (OpenLaw.row PySem.Challenge.rw_fallstones_k17_refusals_made).prog 55).name = ("law" : PySem.Str) := by kernel_rfl
      rw [← e]
      exact hmg0
    have t : K17.Tx w K mg := ⟨h, KX, G, c⟩
    obtain ⟨fd, FD⟩ := t.def_ 16 (d := K17.d_law) rfl
    have e := hmg.symm.trans t.g_law
    cases e
    exact ⟨K, KX, Z.lawAtD FD (fun _ _ _ _ _ _ us hl => match us, hl with | [_], _ => rfl) (fun base => K17.fn_law t FD) (fun ns hl _ d S hs => K17.law_ok hl hs)⟩
