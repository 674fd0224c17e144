import PyProof.Rows.All
import HandS.ForMost
import HandS.ForSpec
import HandS.Walk
import HandS.Flow
import HandS.Deep
import HandS.TupAny
import HandS.TupMul
import PyProof.P3In
import HandS.Codes
import HandS.Style
import KE.GoesEnum
import HandS.ExcOwn
import HandS.ExcField
import HandS.CallSlots
import HandS.ExcInit
import HandS.ExcSuper
import KE.KExcSuper
import HandS.More
import HandS.IsInst
import HandS.Conv
import HandS.BoundList
import HandS.Ends
import PyProof.ReprRoads
import PySem.Challenge.RW_chartways_k10_whole_fractions
set_option Elab.async false
set_option linter.all false
set_option maxRecDepth 100000
/-! M0: values by value, the store of what changes, how they lie in the heap -/
namespace MM
open PySem PySem.Spec PyProof.Rows L2

/-- data: what changes no more -/
inductive D where
  | none
  | bool (b : Bool)
  | int (i : Int)
  | str (s : Str)
  | list (xs : List D)
  | tuple (xs : List D)
  | dict (kvs : List (D × D))
  | ins (c : Nat) (fs : List (Str × D))
  | fn (a : Addr)
  | exc (a d : Addr) (c : Nat) (fs : List (Str × D))
  | scr (ns : List Int)
/-- a value: data, or a changing object of the store -/
inductive U where
  | d (x : D)
  | loc (i : Nat)
/-- what changes -/
inductive O where
  | lst (ds : List D)
  | dic (kvs : List (D × D))
  | ins (c : Nat) (fs : List (Str × D))
  | dead
abbrev Stor := List O
abbrev Slots := List (Option U)
/-- an expression's outcome -/
inductive R (α : Type) where
  | ok (a : α) (st : Stor)
  | exc (c : Nat) (fs : List (Str × D)) (st : Stor)
  | bad
/-- a statement's outcome -/
inductive RS where
  | nx (ρ : Slots) (st : Stor)
  | rt (u : U) (st : Stor)
  | bk (ρ : Slots) (st : Stor)
  | ct (ρ : Slots) (st : Stor)
  | exc (c : Nat) (fs : List (Str × D)) (ρ : Slots) (st : Stor)
  | bad
abbrev EF (α : Type) := Slots → Stor → R α
abbrev SF := Slots → Stor → RS

/-! ### data in the heap; M: the addresses of what changes -/
def Fz (M : List (Option Addr)) (H : Hp) (a : Addr) (o : HO) : Prop := some a ∉ M ∧ Rd H a o
def KL (K : PySem.W.Frag) (a : Addr) (xs : List V) : Prop := ∃ (o : Obj) (its : Array Value) (n : Nat), K.lookup a = some o ∧ o.cls = .type "list" ∧ o.dict = none ∧ o.data = .seq its n ∧ its.size ≤ sizeLine ∧ Vals xs its.toList
def KT (K : PySem.W.Frag) (a : Addr) (xs : List V) : Prop := ∃ (o : Obj) (its : Array Value) (n : Nat), K.lookup a = some o ∧ o.cls = .type "tuple" ∧ o.data = .seq its n ∧ its.size ≤ sizeLine ∧ Vals xs its.toList
def kD : Key → D
  | .inl i => .int i
  | .inr x => .str x
def tD (ks : List Key) : D := .tuple (ks.map kD)
section
variable (K : PySem.W.Frag) (T : Nat → Addr) (M : List (Option Addr)) (H : Hp)
mutual
inductive RD : V → D → Prop
  | non : RD .non .none
  | bl (b : Bool) : RD (.bl b) (.bool b)
  | int (i : Int) : RD (.int i) (.int i)
  | str {x : Str} : PyData.strOk x = true → RD (.str x) (.str x)
  | lst {a : Addr} {xs : List V} {ds : List D} : some a ∉ M → H a = some (.lst xs) → RDs xs ds → RD (.ref a) (.list ds)
  | scr {a : Addr} {ns : List Int} : Fz M H a (.lst (ns.map V.int)) ∨ KL K a (ns.map V.int) → RD (.ref a) (.scr ns)
  | tup {a : Addr} {xs : List V} {ds : List D} : Fz M H a (.tup xs) ∨ KT K a xs → RDs xs ds → RD (.ref a) (.tuple ds)
  | dK {a : Addr} {kv : List (Key × V)} {ds : List (D × D)} : Fz M H a (.dK kv) → RKs kv ds → RD (.ref a) (.dict ds)
  | dT {a : Addr} {kv : List (List Key × V)} {ds : List (D × D)} : Fz M H a (.dT kv) → RTs kv ds → RD (.ref a) (.dict ds)
  | ins {a dx : Addr} {c : Nat} {fv : List (Str × V)} {fs : List (Str × D)} : some a ∉ M → H a = some (.ins (T c) dx fv) → RFs fv fs → RD (.ref a) (.ins c fs)
  | fn (a : Addr) : RD (.ref a) (.fn a)
  | exc {a d : Addr} {c : Nat} {fv : List (Str × V)} {fs : List (Str × D)} : some d ∉ M → H d = some (.xd fv) → RFs fv fs → RD (.ref a) (.exc a d c fs)
inductive RDs : List V → List D → Prop
  | nil : RDs [] []
  | cons {v : V} {vs : List V} {d : D} {ds : List D} : RD v d → RDs vs ds → RDs (v :: vs) (d :: ds)
inductive RKs : List (Key × V) → List (D × D) → Prop
  | nil : RKs [] []
  | cons {k : Key} {v : V} {vs : List (Key × V)} {d : D} {ds : List (D × D)} : RD v d → RKs vs ds → RKs ((k, v) :: vs) ((kD k, d) :: ds)
inductive RTs : List (List Key × V) → List (D × D) → Prop
  | nil : RTs [] []
  | cons {k : List Key} {v : V} {vs : List (List Key × V)} {d : D} {ds : List (D × D)} : RD v d → RTs vs ds → RTs ((k, v) :: vs) ((tD k, d) :: ds)
inductive RFs : List (Str × V) → List (Str × D) → Prop
  | nil : RFs [] []
  | cons {n : Str} {v : V} {d : D} {fv : List (Str × V)} {fs : List (Str × D)} : RD v d → RFs fv fs → RFs ((n, v) :: fv) ((n, d) :: fs)
end
end

theorem RDs.length {K T M H} : ∀ {vs : List V} {ds : List D}, RDs K T M H vs ds → vs.length = ds.length
  | _, _, .nil => rfl
  | _, _, .cons _ t => by rw [List.length_cons, List.length_cons, RDs.length t]
theorem RDs.get {K T M H} : ∀ {vs : List V} {ds : List D} {i : Nat} {d : D}, RDs K T M H vs ds → ds[i]? = some d → ∃ v, vs[i]? = some v ∧ RD K T M H v d
  | _, _, _, _, .nil, e => by simp at e
  | _, _, 0, _, .cons r _, e => by simp at e; subst e; exact ⟨_, rfl, r⟩
  | _, _, i + 1, _, .cons _ t, e => by
    obtain ⟨v, h1, h2⟩ := RDs.get (i := i) t (by simpa using e)
    exact ⟨v, by simpa using h1, h2⟩
theorem RDs.get' {K T M H} : ∀ {vs : List V} {ds : List D} {i : Nat} {v : V}, RDs K T M H vs ds → vs[i]? = some v → ∃ d, ds[i]? = some d ∧ RD K T M H v d
  | _, _, _, _, .nil, e => by simp at e
  | _, _, 0, _, .cons r _, e => by simp at e; subst e; exact ⟨_, rfl, r⟩
  | _, _, i + 1, _, .cons _ t, e => by
    obtain ⟨v, h1, h2⟩ := RDs.get' (i := i) t (by simpa using e)
    exact ⟨v, by simpa using h1, h2⟩
theorem RDs.app {K T M H} : ∀ {vs ws : List V} {ds es : List D}, RDs K T M H vs ds → RDs K T M H ws es → RDs K T M H (vs ++ ws) (ds ++ es)
  | _, _, _, _, .nil, s => s
  | _, _, _, _, .cons r t, s => .cons r (RDs.app t s)
theorem RDs.set {K T M H} {v : V} {d : D} (r : RD K T M H v d) : ∀ {vs : List V} {ds : List D} (i : Nat), RDs K T M H vs ds → RDs K T M H (vs.set i v) (ds.set i d)
  | _, _, _, .nil => .nil
  | _, _, 0, .cons _ t => .cons r t
  | _, _, i + 1, .cons q t => .cons q (RDs.set r i t)
theorem RDs.take {K T M H} : ∀ {vs : List V} {ds : List D} (n : Nat), RDs K T M H vs ds → RDs K T M H (vs.take n) (ds.take n)
  | _, _, 0, _ => .nil
  | _, _, _ + 1, .nil => .nil
  | _, _, n + 1, .cons r t => .cons r (RDs.take n t)
theorem RDs.drop {K T M H} : ∀ {vs : List V} {ds : List D} (n : Nat), RDs K T M H vs ds → RDs K T M H (vs.drop n) (ds.drop n)
  | _, _, 0, r => r
  | _, _, _ + 1, .nil => .nil
  | _, _, n + 1, .cons _ t => RDs.drop n t

/-! ### what a step keeps -/
def isD : HO → Bool
  | .dK _ => true
  | .dT _ => true
  | .frz _ (.dK _) => true
  | .frz _ (.dT _) => true
  | _ => false
structure Ext (M M' : List (Option Addr)) (H H' : Hp) : Prop where
  len : M.length ≤ M'.length
  old : ∀ (i : Nat) m, M[i]? = some m → M'[i]? = some m ∨ M'[i]? = some none
  new : ∀ (i : Nat) a, M.length ≤ i → M'[i]? = some (some a) → H a = none
  keep : ∀ a o, H a = some o → some a ∉ M → isD o = false → H' a = some o
  keepK : ∀ a kv, Rd H a (.dK kv) → some a ∉ M → Rd H' a (.dK kv)
  keepT : ∀ a kv, Rd H a (.dT kv) → some a ∉ M → Rd H' a (.dT kv)
  dom : ∀ a, H' a = none → H a = none
theorem Ext.refl {M H} : Ext M M H H := ⟨Nat.le_refl _, fun _ _ h => .inl h, fun i a h e => by
  have := (List.getElem?_eq_some_iff.mp e).1
  omega, fun _ _ h _ _ => h, fun _ _ h _ => h, fun _ _ h _ => h, fun _ h => h⟩
theorem Rd.ne_none {H : Hp} {a : Addr} {o : HO} (h : Rd H a o) : H a ≠ none := fun z => by
  rcases h with h | ⟨_, h⟩ <;> rw [z] at h <;> cases h
theorem Ext.out {M M' H H'} (e : Ext M M' H H') {a : Addr} (h : H a ≠ none) (hm : some a ∉ M) : some a ∉ M' := by
  intro z
  obtain ⟨i, hi⟩ := List.getElem?_of_mem z
  by_cases hl : M.length ≤ i
  · exact h (e.new i a hl hi)
  · have hlt : i < M.length := by omega
    rcases e.old i M[i] (List.getElem?_eq_getElem hlt) with q | q
    · rw [hi] at q
      exact hm (by rw [show some a = M[i] from Option.some.inj q]; exact List.getElem_mem hlt)
    · rw [hi] at q
      cases q
theorem Ext.trans {M M1 M2 H H1 H2} (a : Ext M M1 H H1) (b : Ext M1 M2 H1 H2) : Ext M M2 H H2 := by
  refine ⟨Nat.le_trans a.len b.len, fun i m h => ?_, fun i x hl h => ?_, fun x o h hm hd => b.keep x o (a.keep x o h hm hd) (a.out (by rw [h]; exact fun z => by cases z) hm) hd, fun x kv h hm => b.keepK x kv (a.keepK x kv h hm) (a.out (Rd.ne_none h) hm), fun x kv h hm => b.keepT x kv (a.keepT x kv h hm) (a.out (Rd.ne_none h) hm), fun x h => a.dom x (b.dom x h)⟩
  · rcases a.old i m h with q | q
    · exact b.old i m q
    · rcases b.old i none q with q | q <;> exact .inr q
  · by_cases h1 : M1.length ≤ i
    · exact a.dom x (b.new i x h1 h)
    · have hlt : i < M1.length := by omega
      rcases b.old i M1[i] (List.getElem?_eq_getElem hlt) with q | q
      · rw [h] at q
        exact a.new i x hl (by rw [List.getElem?_eq_getElem hlt]; exact q.symm)
      · rw [h] at q
        cases q
theorem Ext.notin {M M' H H'} (e : Ext M M' H H') {a : Addr} {o : HO} (h : H a = some o) (hm : some a ∉ M) : some a ∉ M' := e.out (by rw [h]; exact fun z => by cases z) hm
theorem Fz.ext {M M' H H' a o} (f : Fz M H a o) (e : Ext M M' H H') (h1 : isD o = false) (h2 : ∀ ob, isD (.frz ob o) = false) : Fz M' H' a o := by
  obtain ⟨hm, h⟩ := f
  refine ⟨e.out (Rd.ne_none h) hm, ?_⟩
  rcases h with h | ⟨ob, h⟩
  · exact .inl (e.keep a _ h hm h1)
  · exact .inr ⟨ob, e.keep a _ h hm (h2 ob)⟩
mutual
theorem RD.ext {K T M M' H H'} (e : Ext M M' H H') : ∀ {v : V} {x : D}, RD K T M H v x → RD K T M' H' v x
  | _, _, .non => .non
  | _, _, .bl b => .bl b
  | _, _, .int i => .int i
  | _, _, .str h => .str h
  | _, _, .lst hm h r => .lst (e.notin h hm) (e.keep _ _ h hm rfl) (RDs.ext e r)
  | _, _, .scr h => .scr (h.imp (fun f => f.ext e rfl fun _ => rfl) id)
  | _, _, .tup h r => .tup (h.imp (fun f => f.ext e rfl fun _ => rfl) id) (RDs.ext e r)
  | _, _, .dK h r => .dK ⟨e.out (Rd.ne_none h.2) h.1, e.keepK _ _ h.2 h.1⟩ (RKs.ext e r)
  | _, _, .dT h r => .dT ⟨e.out (Rd.ne_none h.2) h.1, e.keepT _ _ h.2 h.1⟩ (RTs.ext e r)
  | _, _, .ins hm h r => .ins (e.notin h hm) (e.keep _ _ h hm rfl) (RFs.ext e r)
  | _, _, .fn a => .fn a
  | _, _, .exc hm h r => .exc (e.notin h hm) (e.keep _ _ h hm rfl) (RFs.ext e r)
theorem RDs.ext {K T M M' H H'} (e : Ext M M' H H') : ∀ {vs : List V} {ds : List D}, RDs K T M H vs ds → RDs K T M' H' vs ds
  | _, _, .nil => .nil
  | _, _, .cons r t => .cons (RD.ext e r) (RDs.ext e t)
theorem RKs.ext {K T M M' H H'} (e : Ext M M' H H') : ∀ {vs : List (Key × V)} {ds : List (D × D)}, RKs K T M H vs ds → RKs K T M' H' vs ds
  | _, _, .nil => .nil
  | _, _, .cons r t => .cons (RD.ext e r) (RKs.ext e t)
theorem RTs.ext {K T M M' H H'} (e : Ext M M' H H') : ∀ {vs : List (List Key × V)} {ds : List (D × D)}, RTs K T M H vs ds → RTs K T M' H' vs ds
  | _, _, .nil => .nil
  | _, _, .cons r t => .cons (RD.ext e r) (RTs.ext e t)
theorem RFs.ext {K T M M' H H'} (e : Ext M M' H H') : ∀ {vs : List (Str × V)} {ds : List (Str × D)}, RFs K T M H vs ds → RFs K T M' H' vs ds
  | _, _, .nil => .nil
  | _, _, .cons r t => .cons (RD.ext e r) (RFs.ext e t)
end
theorem sql_of {K M H a xs} (h : Fz M H a (.lst xs) ∨ KL K a xs) : SqL K H a xs := h.imp (fun f => f.2) id
theorem sqt_of {K M H a xs} (h : Fz M H a (.tup xs) ∨ KT K a xs) : SqT K H a xs := h.imp (fun f => f.2) id

section
variable (K : PySem.W.Frag) (T : Nat → Addr) (M : List (Option Addr)) (H : Hp)
inductive RU : V → U → Prop
  | d {v : V} {x : D} : RD K T M H v x → RU v (.d x)
  | loc {a : Addr} {i : Nat} : M[i]? = some (some a) → RU (.ref a) (.loc i)
  | hole {v : V} {i : Nat} : M[i]? = some none → RU v (.loc i)
/-- what lies at a changing address -/
def RO (m : Option Addr) : O → Prop
  | .lst ds => ∃ a xs, m = some a ∧ H a = some (.lst xs) ∧ RDs K T M H xs ds
  | .dic ds => ∃ a, m = some a ∧ ((∃ kv, H a = some (.dK kv) ∧ RKs K T M H kv ds) ∨ ∃ kv, H a = some (.dT kv) ∧ RTs K T M H kv ds)
  | .ins c fs => ∃ a dx fv, m = some a ∧ H a = some (.ins (T c) dx fv) ∧ RFs K T M H fv fs
  | .dead => ∀ a, m = some a → ∃ o, H a = some o
def RS1 (v : Option V) (u : Option U) : Prop := ∀ u', u = some u' → ∃ v', v = some v' ∧ RU K T M H v' u'
structure Rst (st : Stor) : Prop where
  nd : ∀ (i j : Nat) a, M[i]? = some (some a) → M[j]? = some (some a) → i = j
  obj : Paired (fun a o => RO K T M H a o) M st
structure Rep (σ : L2.St) (ρ : Slots) (st : Stor) : Prop where
  slots : Paired (RS1 K T M H) σ ρ
  sto : Rst K T M H st
end
theorem RU.ext {K T M M' H H'} (e : Ext M M' H H') {v : V} {u : U} : RU K T M H v u → RU K T M' H' v u
  | .d r => .d (r.ext e)
  | .loc h => (e.old _ _ h).elim .loc .hole
  | .hole h => .hole ((e.old _ _ h).elim id id)
theorem RS1.ext {K T M M' H H'} (e : Ext M M' H H') {v : Option V} {u : Option U} (r : RS1 K T M H v u) : RS1 K T M' H' v u := fun u' h => by
  obtain ⟨v', h1, h2⟩ := r u' h
  exact ⟨v', h1, h2.ext e⟩
theorem slots_ext {K T M M' H H'} (e : Ext M M' H H') {σ : L2.St} {ρ : Slots} (r : Paired (RS1 K T M H) σ ρ) : Paired (RS1 K T M' H') σ ρ := L2.Paired.mapP r fun _ _ h => h.ext e
theorem Rep.ext {K T M M' H H'} {σ : L2.St} {ρ : Slots} {st st' : Stor} (r : Rep K T M H σ ρ st) (e : Ext M M' H H') (s : Rst K T M' H' st') : Rep K T M' H' σ ρ st' := ⟨slots_ext e r.slots, s⟩
theorem Paired.get2 {α β : Type} {F : α → β → Prop} : ∀ {xs : List α} {ys : List β} {i : Nat} {y : β}, Paired F xs ys → ys[i]? = some y → ∃ x, xs[i]? = some x ∧ F x y
  | _, _, _, _, .nil, e => by simp at e
  | _, _, 0, _, .cons r _, e => by simp at e; subst e; exact ⟨_, rfl, r⟩
  | _, _, i + 1, _, .cons _ t, e => by
    obtain ⟨v, h1, h2⟩ := Paired.get2 (i := i) t (by simpa using e)
    exact ⟨v, by simpa using h1, h2⟩
theorem Paired.get1 {α β : Type} {F : α → β → Prop} : ∀ {xs : List α} {ys : List β} {i : Nat} {x : α}, Paired F xs ys → xs[i]? = some x → ∃ y, ys[i]? = some y ∧ F x y
  | _, _, _, _, .nil, e => by simp at e
  | _, _, 0, _, .cons r _, e => by simp at e; subst e; exact ⟨_, rfl, r⟩
  | _, _, i + 1, _, .cons _ t, e => by
    obtain ⟨v, h1, h2⟩ := Paired.get1 (i := i) t (by simpa using e)
    exact ⟨v, by simpa using h1, h2⟩
theorem Paired.set2 {α β : Type} {F : α → β → Prop} {x : α} {y : β} (h : F x y) : ∀ {xs : List α} {ys : List β} (i : Nat), Paired F xs ys → Paired F (xs.set i x) (ys.set i y)
  | _, _, _, .nil => .nil
  | _, _, 0, .cons _ t => .cons h t
  | _, _, i + 1, .cons q t => .cons q (Paired.set2 h i t)
theorem Paired.app2 {α β : Type} {F : α → β → Prop} : ∀ {xs zs : List α} {ys ws : List β}, Paired F xs ys → Paired F zs ws → Paired F (xs ++ zs) (ys ++ ws)
  | _, _, _, _, .nil, s => s
  | _, _, _, _, .cons r t, s => .cons r (Paired.app2 t s)
theorem Paired.take2 {α β : Type} {F : α → β → Prop} : ∀ {xs : List α} {ys : List β} (n : Nat), Paired F xs ys → Paired F (xs.take n) (ys.take n)
  | _, _, 0, _ => .nil
  | _, _, _ + 1, .nil => .nil
  | _, _, n + 1, .cons r t => .cons r (Paired.take2 n t)
theorem Paired.len {α β : Type} {F : α → β → Prop} {xs : List α} {ys : List β} (r : Paired F xs ys) : xs.length = ys.length := Paired.length r
theorem Rep.get {K T M H} {σ : L2.St} {ρ : Slots} {st : Stor} (r : Rep K T M H σ ρ st) {i : Nat} {u : U} (h : ρ[i]? = some (some u)) : ∃ v, σ[i]? = some (some v) ∧ RU K T M H v u := by
  obtain ⟨x, h1, h2⟩ := Paired.get2 r.slots h
  obtain ⟨v, rfl, h3⟩ := h2 u rfl
  exact ⟨v, h1, h3⟩
theorem Rep.set {K T M H} {σ : L2.St} {ρ : Slots} {st : Stor} (r : Rep K T M H σ ρ st) (i : Nat) {v : V} {u : U} (h : RU K T M H v u) : Rep K T M H (σ.set i (some v)) (ρ.set i (some u)) st :=
  ⟨Paired.set2 (F := RS1 K T M H) (fun _ e => by cases e; exact ⟨v, rfl, h⟩) i r.slots, r.sto⟩
theorem Rep.forget {K T M H} {σ : L2.St} {ρ : Slots} {st : Stor} (r : Rep K T M H σ ρ st) (i : Nat) (w : Option V) : Rep K T M H (σ.set i w) (ρ.set i none) st :=
  ⟨Paired.set2 (F := RS1 K T M H) (fun _ e => by cases e) i r.slots, r.sto⟩
theorem Rep.fgt {K T M H} {σ : L2.St} {ρ : Slots} {st : Stor} (r : Rep K T M H σ ρ st) (i : Nat) : Rep K T M H σ (ρ.set i none) st := by
  refine ⟨?_, r.sto⟩
  have h : ∀ {σ : L2.St} {ρ : Slots} (i : Nat), Paired (RS1 K T M H) σ ρ → Paired (RS1 K T M H) σ (ρ.set i none) := by
    intro σ ρ i p
    induction p generalizing i with
    | nil => exact .nil
    | cons h t ih =>
      cases i with
      | zero => exact .cons (fun u' e => by cases e) t
      | succ i => exact .cons h (ih i)
  exact h i r.slots
theorem Rst.len {K T M H st} (r : Rst K T M H st) : M.length = st.length := Paired.len r.obj
theorem Rst.get {K T M H st} (r : Rst K T M H st) {i : Nat} {o : O} (h : st[i]? = some o) : ∃ m, M[i]? = some m ∧ RO K T M H m o := Paired.get2 r.obj h
theorem RO.there {K T M H a o} (r : RO K T M H (some a) o) : ∃ x, H a = some x := by
  cases o with
  | lst ds => obtain ⟨_, xs, q, h, _⟩ := r; cases q; exact ⟨_, h⟩
  | dic ds =>
    obtain ⟨_, q, ⟨kv, h, _⟩ | ⟨kv, h, _⟩⟩ := r
    · cases q; exact ⟨_, h⟩
    · cases q; exact ⟨_, h⟩
  | ins c fs => obtain ⟨_, dx, fv, q, h, _⟩ := r; cases q; exact ⟨_, h⟩
  | dead => exact r a rfl
theorem Rst.there {K T M H st} (r : Rst K T M H st) {a : Addr} (h : some a ∈ M) : ∃ x, H a = some x := by
  obtain ⟨i, hi⟩ := List.getElem?_of_mem h
  obtain ⟨o, _, ro⟩ := Paired.get1 r.obj hi
  exact ro.there
theorem Rst.new {K T M H st} (r : Rst K T M H st) {p : Addr} (h : H p = none) : some p ∉ M := fun z => by
  obtain ⟨x, e⟩ := r.there z
  rw [h] at e; cases e
/-- a step that keeps M -/
theorem Ext.same {M : List (Option Addr)} {H H' : Hp} (keep : ∀ a o, H a = some o → some a ∉ M → isD o = false → H' a = some o) (keepK : ∀ a kv, Rd H a (.dK kv) → some a ∉ M → Rd H' a (.dK kv)) (keepT : ∀ a kv, Rd H a (.dT kv) → some a ∉ M → Rd H' a (.dT kv))
    (dom : ∀ a, H' a = none → H a = none) : Ext M M H H' := ⟨Nat.le_refl _, fun _ _ h => .inl h, fun i a h e => by
  have := (List.getElem?_eq_some_iff.mp e).1
  omega, keep, keepK, keepT, dom⟩
theorem Ext.but {M : List (Option Addr)} {H H' : Hp} {p : Addr} (hp : H p = none ∨ some p ∈ M) (hs : H' p ≠ none) (hb : ∀ b, b ≠ p → H' b = H b) : Ext M M H H' := by
  have ne : ∀ {a}, H a ≠ none → some a ∉ M → a ≠ p := fun {a} k m z => by
    subst z
    exact hp.elim k m
  refine .same (fun a o e m _ => by rw [hb a (ne (by rw [e]; exact fun z => by cases z) m)]; exact e) (fun a kv r m => ?_) (fun a kv r m => ?_) (fun a e => ?_)
  · unfold Rd
    rw [hb a (ne (Rd.ne_none r) m)]
    exact r
  · unfold Rd
    rw [hb a (ne (Rd.ne_none r) m)]
    exact r
  · by_cases z : a = p
    · subst z; exact absurd e hs
    · rw [hb a z] at e; exact e
/-- a new object laid -/
theorem Ext.lay {M : List (Option Addr)} {H : Hp} {p : Addr} {o : HO} (h : H p = none) : Ext M M H (upd H p o) := .but (.inl h) (by rw [upd_same]; exact fun z => by cases z) fun b hb => upd_ne hb
/-- a changing object is written -/
theorem Ext.wr {M : List (Option Addr)} {H : Hp} {a : Addr} {o : HO} (h : some a ∈ M) : Ext M M H (L2.upd H a o) := .but (.inr h) (by rw [upd_same]; exact fun z => by cases z) fun b hb => upd_ne hb
/-! fewer addresses change -/
mutual
theorem RD.sub {K T M M' H} (s : ∀ a, some a ∈ M' → some a ∈ M) : ∀ {v : V} {x : D}, RD K T M H v x → RD K T M' H v x
  | _, _, .non => .non
  | _, _, .bl b => .bl b
  | _, _, .int i => .int i
  | _, _, .str h => .str h
  | _, _, .lst hm h r => .lst (fun z => hm (s _ z)) h (RDs.sub s r)
  | _, _, .scr h => .scr (h.imp (fun f => ⟨fun z => f.1 (s _ z), f.2⟩) id)
  | _, _, .tup h r => .tup (h.imp (fun f => ⟨fun z => f.1 (s _ z), f.2⟩) id) (RDs.sub s r)
  | _, _, .dK h r => .dK ⟨fun z => h.1 (s _ z), h.2⟩ (RKs.sub s r)
  | _, _, .dT h r => .dT ⟨fun z => h.1 (s _ z), h.2⟩ (RTs.sub s r)
  | _, _, .ins hm h r => .ins (fun z => hm (s _ z)) h (RFs.sub s r)
  | _, _, .fn a => .fn a
  | _, _, .exc hm h r => .exc (fun z => hm (s _ z)) h (RFs.sub s r)
theorem RDs.sub {K T M M' H} (s : ∀ a, some a ∈ M' → some a ∈ M) : ∀ {vs : List V} {ds : List D}, RDs K T M H vs ds → RDs K T M' H vs ds
  | _, _, .nil => .nil
  | _, _, .cons r t => .cons (RD.sub s r) (RDs.sub s t)
theorem RKs.sub {K T M M' H} (s : ∀ a, some a ∈ M' → some a ∈ M) : ∀ {vs : List (Key × V)} {ds : List (D × D)}, RKs K T M H vs ds → RKs K T M' H vs ds
  | _, _, .nil => .nil
  | _, _, .cons r t => .cons (RD.sub s r) (RKs.sub s t)
theorem RTs.sub {K T M M' H} (s : ∀ a, some a ∈ M' → some a ∈ M) : ∀ {vs : List (List Key × V)} {ds : List (D × D)}, RTs K T M H vs ds → RTs K T M' H vs ds
  | _, _, .nil => .nil
  | _, _, .cons r t => .cons (RD.sub s r) (RTs.sub s t)
theorem RFs.sub {K T M M' H} (s : ∀ a, some a ∈ M' → some a ∈ M) : ∀ {vs : List (Str × V)} {ds : List (Str × D)}, RFs K T M H vs ds → RFs K T M' H vs ds
  | _, _, .nil => .nil
  | _, _, .cons r t => .cons (RD.sub s r) (RFs.sub s t)
end
/-- an object that stands as it stood -/
theorem RO.move {K T M M' H H' m o} (r : RO K T M H m o) (h : ∀ a, m = some a → H' a = H a) (mv : ∀ v x, RD K T M H v x → RD K T M' H' v x) : RO K T M' H' m o := by
  have mvs : ∀ {vs : List V} {ds : List D}, RDs K T M H vs ds → RDs K T M' H' vs ds := by
    intro vs ds q
    induction vs generalizing ds with
    | nil => cases q; exact .nil
    | cons v vs ih => cases q with | cons r t => exact .cons (mv _ _ r) (ih t)
  have mvk : ∀ {vs : List (Key × V)} {ds : List (D × D)}, RKs K T M H vs ds → RKs K T M' H' vs ds := by
    intro vs ds q
    induction vs generalizing ds with
    | nil => cases q; exact .nil
    | cons v vs ih => cases q with | cons r t => exact .cons (mv _ _ r) (ih t)
  have mvt : ∀ {vs : List (List Key × V)} {ds : List (D × D)}, RTs K T M H vs ds → RTs K T M' H' vs ds := by
    intro vs ds q
    induction vs generalizing ds with
    | nil => cases q; exact .nil
    | cons v vs ih => cases q with | cons r t => exact .cons (mv _ _ r) (ih t)
  have mvf : ∀ {vs : List (Str × V)} {ds : List (Str × D)}, RFs K T M H vs ds → RFs K T M' H' vs ds := by
    intro vs ds q
    induction vs generalizing ds with
    | nil => cases q; exact .nil
    | cons v vs ih => cases q with | cons r t => exact .cons (mv _ _ r) (ih t)
  cases o with
  | lst ds => obtain ⟨a, xs, q, h', r⟩ := r; exact ⟨a, xs, q, (h a q).trans h', mvs r⟩
  | dic ds =>
    obtain ⟨a, q, ⟨kv, h', r⟩ | ⟨kv, h', r⟩⟩ := r
    · exact ⟨a, q, .inl ⟨kv, (h a q).trans h', mvk r⟩⟩
    · exact ⟨a, q, .inr ⟨kv, (h a q).trans h', mvt r⟩⟩
  | ins c fs => obtain ⟨a, dx, fv, q, h', r⟩ := r; exact ⟨a, dx, fv, q, (h a q).trans h', mvf r⟩
  | dead => exact fun a q => by obtain ⟨o, e⟩ := r a q; exact ⟨o, (h a q).trans e⟩
/-- the store behind a step that keeps all changing objects as they are -/
theorem Rst.ext {K T M H H' st} (r : Rst K T M H st) (e : Ext M M H H') (h : ∀ a, some a ∈ M → H' a = H a) : Rst K T M H' st := by
  refine ⟨r.nd, ?_⟩
  have key : ∀ {l : List (Option Addr)} {st : Stor}, (∀ m ∈ l, m ∈ M) → Paired (fun a o => RO K T M H a o) l st → Paired (fun a o' => RO K T M H' a o') l st := by
    intro l st hn q
    induction q with
    | nil => exact .nil
    | cons h' t ih => exact .cons (h'.move (fun a ea => h a (by rw [← ea]; exact hn _ List.mem_cons_self)) fun v x q => q.ext e) (ih fun a m => hn a (List.mem_cons_of_mem _ m))
  exact key (fun _ m => m) r.obj
theorem Rst.lay {K T M H st} (r : Rst K T M H st) {p : Addr} {o : HO} (h : H p = none) : Rst K T M (L2.upd H p o) st := r.ext (Ext.lay h) fun a m => upd_ne fun z => r.new h (z ▸ m)
/-- .. behind a new changing object -/
theorem Rst.push {K T M H st} (r : Rst K T M H st) {p : Addr} {o : HO} {ob : O} (h : H p = none) (new : Ext M (M ++ [some p]) H (L2.upd H p o) → RO K T (M ++ [some p]) (L2.upd H p o) (some p) ob) :
    Ext M (M ++ [some p]) H (L2.upd H p o) ∧ Rst K T (M ++ [some p]) (L2.upd H p o) (st ++ [ob]) := by
  have e0 : Ext M M H (L2.upd H p o) := Ext.lay h
  have e : Ext M (M ++ [some p]) H (L2.upd H p o) := ⟨by simp, fun i m hi => .inl (by rw [List.getElem?_append_left (List.getElem?_eq_some_iff.mp hi).1]; exact hi), fun i a hl hi => by
    rw [List.getElem?_append_right hl] at hi
    have : i - M.length = 0 := by
      have := (List.getElem?_eq_some_iff.mp hi).1
      simp at this
      omega
    rw [this] at hi
    have ea : p = a := by simpa using hi
    rw [← ea]
    exact h, e0.keep, e0.keepK, e0.keepT, e0.dom⟩
  have key : ∀ {l : List (Option Addr)} {st : Stor}, (∀ m ∈ l, m ∈ M) → Paired (fun a o => RO K T M H a o) l st → Paired (fun a o' => RO K T (M ++ [some p]) (L2.upd H p o) a o') l st := by
    intro l st hn q
    induction q with
    | nil => exact .nil
    | cons h' t ih => exact .cons (h'.move (fun a ea => upd_ne fun z => r.new h (by rw [← z, ← ea]; exact hn _ List.mem_cons_self)) fun v x q => q.ext e) (ih fun a m => hn a (List.mem_cons_of_mem _ m))
  refine ⟨e, ?_, Paired.app2 (key (fun _ m => m) r.obj) (.cons (new e) .nil)⟩
  have np := r.new h
  have one : ∀ (i : Nat) a, (M ++ [some p])[i]? = some (some a) → (M[i]? = some (some a)) ∨ (i = M.length ∧ a = p) := fun i a hi => by
    by_cases hl : i < M.length
    · rw [List.getElem?_append_left hl] at hi
      exact .inl hi
    · rw [List.getElem?_append_right (by omega)] at hi
      have := (List.getElem?_eq_some_iff.mp hi).1
      have z : i - M.length = 0 := by
        simp at this
        omega
      rw [z] at hi
      have ea : p = a := by simpa using hi
      exact .inr ⟨by omega, ea.symm⟩
  intro i j a hi hj
  rcases one i a hi with h1 | ⟨h1, h1'⟩
  · rcases one j a hj with h2 | ⟨h2, h2'⟩
    · exact r.nd i j a h1 h2
    · subst h2'
      exact absurd (List.mem_of_getElem? h1) np
  · rcases one j a hj with h2 | ⟨h2, h2'⟩
    · subst h1'
      exact absurd (List.mem_of_getElem? h2) np
    · omega
/-- .. behind a write -/
theorem Rst.wr {K T M H st} (r : Rst K T M H st) {i : Nat} {a : Addr} {o : HO} {ob : O} (h : M[i]? = some (some a)) (new : Ext M M H (L2.upd H a o) → RO K T M (L2.upd H a o) (some a) ob) :
    Ext M M H (L2.upd H a o) ∧ Rst K T M (L2.upd H a o) (st.set i ob) := by
  have hm : some a ∈ M := List.mem_of_getElem? h
  have e : Ext M M H (L2.upd H a o) := Ext.wr hm
  refine ⟨e, r.nd, ?_⟩
  have key : ∀ {l : List (Option Addr)} {st : Stor} {k i : Nat}, (∀ (j : Nat) m, l[j]? = some m → M[k + j]? = some m) → k + i = i + k → l[i]? = some (some a) → Paired (fun a o => RO K T M H a o) l st → M[k + i]? = some (some a) → Paired (fun c o' => RO K T M (L2.upd H a o) c o') l (st.set i ob) := by
    intro l st k i hsub _ hi q hk
    induction q generalizing i k with
    | nil => simp at hi
    | @cons b o' l' st' h' t ih =>
      have rest : ∀ {l : List (Option Addr)} {st : Stor}, (∀ m ∈ l, m ≠ some a) → Paired (fun a o => RO K T M H a o) l st → Paired (fun c o' => RO K T M (L2.upd H a o) c o') l st := by
        intro l st hn q
        induction q with
        | nil => exact .nil
        | cons h' t ih => exact .cons (h'.move (fun c ec => upd_ne fun z => hn _ List.mem_cons_self (by rw [ec, z])) fun v x q => q.ext e) (ih fun m hm => hn m (List.mem_cons_of_mem _ hm))
      cases i with
      | zero =>
        have eb : b = some a := by simpa using hi
        subst eb
        refine .cons (new e) (rest (fun m hm z => ?_) t)
        obtain ⟨j, hj⟩ := List.getElem?_of_mem hm
        subst z
        have q1 := hsub (j + 1) (some a) (by simpa using hj)
        have q2 := r.nd _ _ a hk q1
        omega
      | succ i =>
        have hi' : l'[i]? = some (some a) := by simpa using hi
        refine .cons (h'.move (fun c ec => upd_ne fun z => ?_) fun v x q => q.ext e) (ih (k := k + 1) (fun j m hj => by have := hsub (j + 1) m (by simpa using hj); rw [show k + 1 + j = k + (j + 1) by omega]; exact this) (by omega) hi' (by rw [show k + 1 + i = k + (i + 1) by omega]; exact hk))
        subst ec
        subst z
        have q1 := hsub 0 (some c) (by simp)
        have q2 := r.nd _ _ c q1 hk
        omega
  exact key (k := 0) (fun j m hj => by simpa using hj) (by omega) h r.obj (by simpa using h)
/-- the later ones change no more -/
theorem Rst.take {K T M H st} (r : Rst K T M H st) (n : Nat) : Rst K T (M.take n) H (st.take n) := by
  have sub : ∀ a, some a ∈ M.take n → some a ∈ M := fun a h => List.mem_of_mem_take h
  refine ⟨fun i j a hi hj => r.nd i j a ?_ ?_, ?_⟩
  · rw [List.getElem?_take] at hi
    split at hi
    · exact hi
    · cases hi
  · rw [List.getElem?_take] at hj
    split at hj
    · exact hj
    · cases hj
  · exact L2.Paired.mapP (Paired.take2 n r.obj) fun m o h => h.move (fun _ _ => rfl) fun v x q => q.sub sub
theorem Ext.take {M M' H H'} (e : Ext M M' H H') (n : Nat) (hn : n = M.length) : Ext M (M'.take n) H H' := by
  subst hn
  refine ⟨by rw [List.length_take]; have := e.len; omega, fun i m h => ?_, fun i a hl h => ?_, e.keep, e.keepK, e.keepT, e.dom⟩
  · have hl : i < M.length := (List.getElem?_eq_some_iff.mp h).1
    rw [List.getElem?_take_of_lt hl]
    exact e.old i m h
  · rw [List.getElem?_take] at h
    split at h
    · omega
    · cases h
/-- an object that changes no more: its address leaves -/
theorem Ext.hole {M : List (Option Addr)} {H : Hp} {i : Nat} : Ext M (M.set i none) H H := by
  refine ⟨by rw [List.length_set]; exact Nat.le_refl _, fun j m h => ?_, fun j a hl h => ?_, fun _ _ h _ _ => h, fun _ _ h _ => h, fun _ _ h _ => h, fun _ h => h⟩
  · by_cases e : i = j
    · subst e
      rw [List.getElem?_set_self (List.getElem?_eq_some_iff.mp h).1]
      exact .inr rfl
    · rw [List.getElem?_set_ne e]
      exact .inl h
  · have := (List.getElem?_eq_some_iff.mp h).1
    rw [List.length_set] at this
    omega
theorem mem_set_none {M : List (Option Addr)} {i : Nat} {a : Addr} (h : some a ∈ M.set i none) : some a ∈ M := by
  obtain ⟨j, hj⟩ := List.getElem?_of_mem h
  by_cases e : i = j
  · subst e
    have hl := (List.getElem?_eq_some_iff.mp hj).1
    rw [List.length_set] at hl
    rw [List.getElem?_set_self hl] at hj
    cases hj
  · rw [List.getElem?_set_ne e] at hj
    exact List.mem_of_getElem? hj
theorem Rst.hole {K T M H st} (r : Rst K T M H st) (i : Nat) : Rst K T (M.set i none) H (st.set i .dead) := by
  refine ⟨fun j k a hj hk => ?_, ?_⟩
  · have one : ∀ (j : Nat), (M.set i none)[j]? = some (some a) → M[j]? = some (some a) := fun j hj => by
      by_cases e : i = j
      · subst e
        have hl := (List.getElem?_eq_some_iff.mp hj).1
        rw [List.length_set] at hl
        rw [List.getElem?_set_self hl] at hj
        cases hj
      · rw [List.getElem?_set_ne e] at hj
        exact hj
    exact r.nd j k a (one j hj) (one k hk)
  · have mv : ∀ m o, RO K T M H m o → RO K T (M.set i none) H m o := fun m o h => h.move (fun _ _ => rfl) fun v x q => q.sub fun a h => mem_set_none h
    exact Paired.set2 (F := fun a o => RO K T (M.set i none) H a o) (x := none) (y := O.dead) (fun a z => by cases z) i (L2.Paired.mapP r.obj mv)
end MM
set_option maxRecDepth 100000
/-! M1: what an expression of the model's Python computes, by values: judgements, composition -/
namespace MM
open PySem PySem.Spec PyProof.Rows L2

def R.bind {α β : Type} (r : R α) (k : α → Stor → R β) : R β := match r with
  | .ok a st => k a st
  | .exc c fs st => .exc c fs st
  | .bad => .bad
@[simp] theorem R.bind_ok {α β : Type} (a : α) (st : Stor) (k : α → Stor → R β) : (R.ok a st).bind k = k a st := rfl
@[simp] theorem R.bind_exc {α β : Type} (c fs st) (k : α → Stor → R β) : (R.exc c fs st : R α).bind k = .exc c fs st := rfl
@[simp] theorem R.bind_bad {α β : Type} (k : α → Stor → R β) : (R.bad : R α).bind k = .bad := rfl

abbrev RelT (α β : Type) := List (Option Addr) → Hp → β → α → Prop
section
variable (K : PySem.W.Frag) (T : Nat → Addr)
def relU : RelT U V := fun M H v u => RU K T M H v u
def relB : RelT Bool Bool := fun _ _ b c => b = c
def relL : RelT (List U) (List V) := fun M H vs us => Paired (RU K T M H) vs us
def relO : RelT (Option Int) (Option Int) := fun _ _ a b => a = b
/-- an exception lies so -/
def GoX (W : WX) (M : List (Option Addr)) (σ : L2.St) (H : Hp) (c : Nat) (fs : List (Str × D)) (st' : Stor) : Prop :=
  ∀ M' H' d fv, Ext M M' H H' → Rst K T M' H' st' → H' d = some (.xd fv) → RFs K T M' H' fv fs → some d ∉ M' → W (.ref (T c)) (some d) σ H'
/-- what is to be shown where an outcome is r -/
def Go {α β : Type} (Rel : RelT α β) (W : WX) (M : List (Option Addr)) (σ : L2.St) (H : Hp) (r : R α) (Q : β → Hp → Prop) : Prop := match r with
  | .ok a st' => ∀ M' H' b, Ext M M' H H' → Rst K T M' H' st' → Rel M' H' b a → Q b H'
  | .exc c fs st' => GoX K T W M σ H c fs st'
  | .bad => False
/-- the reading of an expression that computes f -/
def Tg {α β : Type} (Rel : RelT α β) (W : WX) (f : EF α) : L2.St → Hp → (β → Hp → Prop) → Prop := fun σ H Q =>
  ∃ M ρ st, Rep K T M H σ ρ st ∧ Go K T Rel W M σ H (f ρ st) Q
end
abbrev ME (X : Cx) (T : Nat → Addr) (W : WX) (e : Expr) (f : EF U) : Prop := PE X e (Tg X.K T (relU X.K T) W f)
abbrev MT (X : Cx) (T : Nat → Addr) (W : WX) (e : Expr) (f : EF Bool) : Prop := PT X e (Tg X.K T relB W f)
abbrev MW (X : Cx) (T : Nat → Addr) (W : WX) (e : Expr) (f : EF Bool) : Prop := PW X e (Tg X.K T relB W f)
abbrev MA (X : Cx) (T : Nat → Addr) (W : WX) (es : List Expr) (f : EF (List U)) : Prop := PA X es (Tg X.K T (relL X.K T) W f)

section
variable {K : PySem.W.Frag} {T : Nat → Addr} {α β γ δ : Type} {Rel : RelT α β} {Rel' : RelT γ δ} {W : WX} {M M1 : List (Option Addr)} {σ : L2.St} {ρ : Slots} {H H1 : Hp} {st : Stor}
theorem Go.mono {r : R α} {Q Q' : β → Hp → Prop} (h : Go K T Rel W M σ H r Q) (k : ∀ b H', Q b H' → Q' b H') : Go K T Rel W M σ H r Q' := by
  cases r with
  | ok a st' => exact fun M' H' b e s r => k b H' (h M' H' b e s r)
  | exc c fs st' => exact h
  | bad => exact h
theorem Go.base {r : R α} {Q : β → Hp → Prop} (h : Go K T Rel W M σ H r Q) (e : Ext M M1 H H1) : Go K T Rel W M1 σ H1 r Q := by
  cases r with
  | ok a st' => exact fun M' H' b e' s r => h M' H' b (e.trans e') s r
  | exc c fs st' => exact fun M' H' d fv e' s => h M' H' d fv (e.trans e') s
  | bad => exact h
/-- one after another -/
theorem Go.bind {r : R α} {k : α → Stor → R γ} {Q : δ → Hp → Prop} (rep : Rep K T M H σ ρ st) (h : Go K T Rel' W M σ H (r.bind k) Q) :
    Go K T Rel W M σ H r (fun b H1 => ∃ M1 st1 a, Ext M M1 H H1 ∧ Rep K T M1 H1 σ ρ st1 ∧ Rel M1 H1 b a ∧ Go K T Rel' W M1 σ H1 (k a st1) Q) := by
  cases r with
  | ok a st' => exact fun M' H' b e s r => ⟨M', st', a, e, rep.ext e s, r, Go.base h e⟩
  | exc c fs st' => exact h
  | bad => exact h
/-- behind a value that is there -/
theorem Go.now {a : α} {Q : β → Hp → Prop} (s : Rst K T M H st) (h : Go K T Rel W M σ H (.ok a st) Q) {b : β} (r : Rel M H b a) : Q b H := h M H b Ext.refl s r
end
/-- a reading that is weaker is one too -/
theorem PE.imp {X : Cx} {e : Expr} {t t' : TE} (h : PE X e t) (w : ∀ σ H Q, t' σ H Q → t σ H Q) : PE X e t' := ⟨fun pins s σ H Q I q => h.run pins s σ H Q I (w σ H Q q)⟩
theorem PT.imp {X : Cx} {e : Expr} {t t' : TT} (h : PT X e t) (w : ∀ σ H Q, t' σ H Q → t σ H Q) : PT X e t' := ⟨fun pins s σ H Q I q => h.run pins s σ H Q I (w σ H Q q)⟩
theorem PW.imp {X : Cx} {e : Expr} {t t' : TT} (h : PW X e t) (w : ∀ σ H Q, t' σ H Q → t σ H Q) : PW X e t' := ⟨fun wh pins s σ H Q I q => h.run wh pins s σ H Q I (w σ H Q q)⟩
theorem PA.imp {X : Cx} {es : List Expr} {t t' : TA} (h : PA X es t) (w : ∀ σ H Q, t' σ H Q → t σ H Q) : PA X es t' := ⟨fun p pins s σ H Q I q => h.run p pins s σ H Q I (w σ H Q q)⟩

/-! ### reading a value -/
def rd (st : Stor) : U → Option D
  | .d x => some x
  | .loc i => match st[i]? with
    | some (.lst ds) => some (.list ds)
    | some (.dic kvs) => some (.dict kvs)
    | some (.ins c fs) => some (.ins c fs)
    | _ => none
@[simp] theorem rd_d (st : Stor) (x : D) : rd st (.d x) = some x := rfl
/-- x is to be read at v now -/
def RV (K : PySem.W.Frag) (T : Nat → Addr) (M : List (Option Addr)) (H : Hp) (v : V) : D → Prop
  | .list ds => ∃ a xs, v = .ref a ∧ H a = some (.lst xs) ∧ RDs K T M H xs ds
  | .scr ns => ∃ a, v = .ref a ∧ SqL K H a (ns.map V.int)
  | .tuple ds => ∃ a xs, v = .ref a ∧ (Fz M H a (.tup xs) ∨ KT K a xs) ∧ RDs K T M H xs ds
  | .dict ds => ∃ a, v = .ref a ∧ ((∃ kv, Rd H a (.dK kv) ∧ RKs K T M H kv ds) ∨ ∃ kv, Rd H a (.dT kv) ∧ RTs K T M H kv ds)
  | .ins c fs => ∃ a dx fv, v = .ref a ∧ H a = some (.ins (T c) dx fv) ∧ RFs K T M H fv fs
  | x => RD K T M H v x
theorem RD.rv {K T M H} : ∀ {v : V} {x : D}, RD K T M H v x → RV K T M H v x
  | _, _, .non => .non
  | _, _, .bl b => .bl b
  | _, _, .int i => .int i
  | _, _, .str h => .str h
  | _, _, .lst _ h r => ⟨_, _, rfl, h, r⟩
  | _, _, .scr h => ⟨_, rfl, sql_of h⟩
  | _, _, .tup h r => ⟨_, _, rfl, h, r⟩
  | _, _, .dK h r => ⟨_, rfl, .inl ⟨_, h.2, r⟩⟩
  | _, _, .dT h r => ⟨_, rfl, .inr ⟨_, h.2, r⟩⟩
  | _, _, .ins hm h r => ⟨_, _, _, rfl, h, r⟩
  | _, _, .fn a => .fn a
  | _, _, .exc hm h r => .exc hm h r
theorem RU.rv {K T M H} {st : Stor} {v : V} {u : U} {x : D} (r : RU K T M H v u) (s : Rst K T M H st) (h : rd st u = some x) : RV K T M H v x := by
  cases r with
  | d r => cases h; exact r.rv
  | @loc a i hi =>
    have h' : (match st[i]? with
      | some (O.lst ds) => some (D.list ds)
      | some (O.dic kvs) => some (D.dict kvs)
      | some (O.ins c fs) => some (D.ins c fs)
      | _ => none) = some x := h
    cases e : st[i]? with
    | none => rw [e] at h'; cases h'
    | some o =>
      rw [e] at h'
      obtain ⟨b, hb, ro⟩ := s.get e
      rw [hi] at hb
      cases hb
      cases o with
      | lst ds => cases h'; obtain ⟨_, xs, q, h1, h2⟩ := ro; cases q; exact ⟨_, xs, rfl, h1, h2⟩
      | dic ds =>
        cases h'
        obtain ⟨_, q, ⟨kv, h1, h2⟩ | ⟨kv, h1, h2⟩⟩ := ro
        · cases q; exact ⟨_, rfl, .inl ⟨kv, .inl h1, h2⟩⟩
        · cases q; exact ⟨_, rfl, .inr ⟨kv, .inl h1, h2⟩⟩
      | ins c fs => cases h'; obtain ⟨_, dx, fv, q, h1, h2⟩ := ro; cases q; exact ⟨_, dx, fv, rfl, h1, h2⟩
      | dead => cases h'
  | @hole v i hi =>
    have h' : (match st[i]? with
      | some (O.lst ds) => some (D.list ds)
      | some (O.dic kvs) => some (D.dict kvs)
      | some (O.ins c fs) => some (D.ins c fs)
      | _ => none) = some x := h
    cases e : st[i]? with
    | none => rw [e] at h'; cases h'
    | some o =>
      rw [e] at h'
      obtain ⟨b, hb, ro⟩ := s.get e
      rw [hi] at hb
      cases hb
      cases o with
      | lst ds => obtain ⟨_, xs, q, _⟩ := ro; cases q
      | dic ds => obtain ⟨_, q, _⟩ := ro; cases q
      | ins c fs => obtain ⟨_, dx, fv, q, _⟩ := ro; cases q
      | dead => cases h'

/-! ### names, constants -/
section
variable {X : Cx} {T : Nat → Addr} {W : WX} {pos : Pos}
def eV (i : Nat) : EF U := fun ρ st => match ρ[i]? with
  | some (some u) => .ok u st
  | _ => .bad
def eC (x : D) : EF U := fun _ st => .ok (.d x) st
theorem m_var {i : Nat} {x : Str} (h : PE X (.Name x pos) (tVar i)) : ME X T W (.Name x pos) (eV i) := by
  refine PE.imp h fun σ H Q ⟨M, ρ, st, rep, go⟩ => ?_
  have go' : Go X.K T (relU X.K T) W M σ H (match ρ[i]? with
    | some (some u) => .ok u st
    | _ => .bad) Q := go
  cases e : ρ[i]? with
  | none => rw [e] at go'; exact go'.elim
  | some o =>
    cases o with
    | none => rw [e] at go'; exact go'.elim
    | some u =>
      rw [e] at go'
      obtain ⟨v, h1, h2⟩ := rep.get e
      exact ⟨v, h1, Go.now rep.sto go' h2⟩
theorem m_const {e : Expr} {v : V} {x : D} (h : PE X e (tC v)) (r : ∀ M H, RD X.K T M H v x) : ME X T W e (eC x) := by
  refine PE.imp h fun σ H Q ⟨M, ρ, st, rep, go⟩ => ?_
  exact Go.now (b := v) rep.sto go (RU.d (r M H))
theorem m_int {i j} : ME X T W (.Constant (.int i) j pos) (eC (.int i)) := m_const pe_int fun _ _ => .int i
theorem m_bl {b j} : ME X T W (.Constant (.bool b) j pos) (eC (.bool b)) := m_const pe_bl fun _ _ => .bl b
theorem m_non {j} : ME X T W (.Constant .none j pos) (eC .none) := m_const pe_non fun _ _ => .non
theorem m_str {x j} (h : PyData.strOk x = true := by decide +kernel) : ME X T W (.Constant (.str x) j pos) (eC (.str x)) := m_const pe_str fun _ _ => .str h

/-! ### two parts by values -/
def eBin (g : U → U → Stor → R U) (fa fb : EF U) : EF U := fun ρ st => (fa ρ st).bind fun u st1 => (fb ρ st1).bind fun w st2 => g u w st2
def eUn (g : U → Stor → R U) (fa : EF U) : EF U := fun ρ st => (fa ρ st).bind g
/-- r asks no more than g says -/
def Op2 (X : Cx) (T : Nat → Addr) (W : WX) (r : R2) (g : U → U → Stor → R U) : Prop :=
  ∀ M σ H st x y u w Q, Rst X.K T M H st → RU X.K T M H x u → RU X.K T M H y w → Go X.K T (relU X.K T) W M σ H (g u w st) Q → r x y H Q
def Op1 (X : Cx) (T : Nat → Addr) (W : WX) (r : V → Hp → VK → Prop) (g : U → Stor → R U) : Prop :=
  ∀ M σ H st x u Q, Rst X.K T M H st → RU X.K T M H x u → Go X.K T (relU X.K T) W M σ H (g u st) Q → r x H Q
variable {a b : Expr} {fa fb : EF U}
theorem tOp_of {r : R2} {g : U → U → Stor → R U} (o : Op2 X T W r g) {σ : L2.St} {H : Hp} {Q : VK} (h : Tg X.K T (relU X.K T) W (eBin g fa fb) σ H Q) :
    tOp r (Tg X.K T (relU X.K T) W fa) (Tg X.K T (relU X.K T) W fb) σ H Q := by
  obtain ⟨M, ρ, st, rep, go⟩ := h
  refine ⟨M, ρ, st, rep, (Go.bind (Rel := relU X.K T) rep go).mono fun x H1 ⟨M1, st1, u, e1, rep1, ru, go1⟩ => ?_⟩
  refine ⟨M1, ρ, st1, rep1, (Go.bind (Rel := relU X.K T) rep1 go1).mono fun y H2 ⟨M2, st2, w, e2, rep2, rw, go2⟩ => ?_⟩
  exact o M2 σ H2 st2 x y u w Q rep2.sto (RU.ext e2 ru) rw go2
theorem m_bin {op : Operator} {r : R2} {g : U → U → Stor → R U} (ho : OpR X (binaryOp op) r) (o : Op2 X T W r g) (ha : ME X T W a fa) (hb : ME X T W b fb) : ME X T W (.BinOp a op b pos) (eBin g fa fb) :=
  PE.imp (pe_op ho ha hb) fun _ _ _ h => tOp_of o h
theorem m_cmp {op : CmpOp} {r : R2} {g : U → U → Stor → R U} (ho : OpR X (compareOp op) r) (o : Op2 X T W r g) (ha : ME X T W a fa) (hb : ME X T W b fb) (hm : behindInMarks op b = false) : ME X T W (.Compare a [op] [b] pos) (eBin g fa fb) :=
  PE.imp (pe_cmpR ho ha hb hm) fun _ _ _ h => tOp_of o h
theorem m_un {op : UnaryOp} {r : V → Hp → VK → Prop} {g : U → Stor → R U} (ho : UnR X (unaryOp op) r) (o : Op1 X T W r g) (ha : ME X T W a fa) : ME X T W (.UnaryOp op a pos) (eUn g fa) := by
  refine PE.imp (pe_un ho ha) fun σ H Q ⟨M, ρ, st, rep, go⟩ => ?_
  refine ⟨M, ρ, st, rep, (Go.bind (Rel := relU X.K T) rep go).mono fun x H1 ⟨M1, st1, u, e1, rep1, ru, go1⟩ => ?_⟩
  exact o M1 σ H1 st1 x u Q rep1.sto ru go1

/-! ### pure operations: data to data -/
def g2 (f : D → D → Option D) : U → U → Stor → R U := fun u w st => match rd st u, rd st w with
  | some x, some y => match f x y with
    | some z => .ok (.d z) st
    | none => .bad
  | _, _ => .bad
def g1 (f : D → Option D) : U → Stor → R U := fun u st => match rd st u with
  | some x => match f x with
    | some z => .ok (.d z) st
    | none => .bad
  | _ => .bad
@[simp] theorem g2_d (f : D → D → Option D) (x y : D) (st : Stor) : g2 f (.d x) (.d y) st = (match f x y with | some z => .ok (.d z) st | none => .bad) := rfl
@[simp] theorem g1_d (f : D → Option D) (x : D) (st : Stor) : g1 f (.d x) st = (match f x with | some z => .ok (.d z) st | none => .bad) := rfl
/-- what a pure operation must bring: a frozen result; the store as it was -/
def Out (K : PySem.W.Frag) (T : Nat → Addr) (M : List (Option Addr)) (H : Hp) (st : Stor) (z : D) (Q : VK) : Prop := ∀ H' v, Ext M M H H' → Rst K T M H' st → RD K T M H' v z → Q v H'
def P2 (X : Cx) (T : Nat → Addr) (r : R2) (f : D → D → Option D) : Prop :=
  ∀ M H st x y dx dy z Q, Rst X.K T M H st → RV X.K T M H x dx → RV X.K T M H y dy → f dx dy = some z → Out X.K T M H st z Q → r x y H Q
def P1 (X : Cx) (T : Nat → Addr) (r : V → Hp → VK → Prop) (f : D → Option D) : Prop :=
  ∀ M H st x dx z Q, Rst X.K T M H st → RV X.K T M H x dx → f dx = some z → Out X.K T M H st z Q → r x H Q
theorem P2.op {r : R2} {f : D → D → Option D} (p : P2 X T r f) : Op2 X T W r (g2 f) := by
  intro M σ H st x y u w Q s ru rw go
  unfold g2 at go
  cases e1 : rd st u with
  | none => rw [e1] at go; exact go.elim
  | some dx =>
    cases e2 : rd st w with
    | none => rw [e1, e2] at go; exact go.elim
    | some dy =>
      rw [e1, e2] at go
      simp only at go
      cases e3 : f dx dy with
      | none => rw [e3] at go; exact go.elim
      | some z =>
        rw [e3] at go
        exact p M H st x y dx dy z Q s (ru.rv s e1) (rw.rv s e2) e3 fun H' v e s' r => go M H' v e s' (.d r)
theorem P1.op {r : V → Hp → VK → Prop} {f : D → Option D} (p : P1 X T r f) : Op1 X T W r (g1 f) := by
  intro M σ H st x u Q s ru go
  unfold g1 at go
  cases e1 : rd st u with
  | none => rw [e1] at go; exact go.elim
  | some dx =>
    rw [e1] at go
    simp only at go
    cases e3 : f dx with
    | none => rw [e3] at go; exact go.elim
    | some z =>
      rw [e3] at go
      exact p M H st x dx z Q s (ru.rv s e1) e3 fun H' v e s' r => go M H' v e s' (.d r)
/-- a result without a new object -/
theorem Out.now {K T M H st z Q} (s : Rst K T M H st) (o : Out K T M H st z Q) {v : V} (r : RD K T M H v z) : Q v H := o H v Ext.refl s r
/-- a new list, a new tuple -/
theorem Out.lst {K T M H st ds Q} (s : Rst K T M H st) (o : Out K T M H st (.list ds) Q) {xs : List V} (r : RDs K T M H xs ds) : ∀ p, H p = none → Q (.ref p) (L2.upd H p (.lst xs)) := fun p hp =>
  o _ _ (Ext.lay hp) (s.lay hp) (.lst (s.new hp) upd_same (r.ext (Ext.lay hp)))
theorem Out.tup {K T M H st ds Q} (s : Rst K T M H st) (o : Out K T M H st (.tuple ds) Q) {xs : List V} (r : RDs K T M H xs ds) : ∀ p, H p = none → Q (.ref p) (L2.upd H p (.tup xs)) := fun p hp =>
  o _ _ (Ext.lay hp) (s.lay hp) (.tup (.inl ⟨s.new hp, .inl upd_same⟩) (r.ext (Ext.lay hp)))
end
end MM
set_option maxRecDepth 100000
/-! M2: operators by values -/
namespace MM
open PySem PySem.Spec PyProof.Rows L2

/-! ### plain data: equal or not -/
mutual
def sh : Nat → D → Bool
  | _, .none => true
  | _, .bool _ => true
  | _, .int _ => true
  | _, .str _ => true
  | 0, .list _ => false
  | 0, .tuple _ => false
  | n + 1, .list xs => shs n xs
  | n + 1, .tuple xs => shs n xs
  | _, .dict _ => false
  | _, .ins _ _ => false
  | _, .fn _ => false
  | _, .exc _ _ _ _ => false
  | _, .scr _ => false
def shs : Nat → List D → Bool
  | _, [] => true
  | n, x :: xs => sh n x && shs n xs
end
mutual
def D.py : D → PyData
  | .none => .none
  | .bool b => .bool b
  | .int i => .int i
  | .str s => .str s
  | .list xs => .list (pys xs)
  | .tuple xs => .tuple (pys xs)
  | .dict _ => .dict []
  | .ins _ _ => .dict []
  | .fn _ => .dict []
  | .exc _ _ _ _ => .dict []
  | .scr _ => .dict []
def pys : List D → List PyData
  | [] => []
  | x :: xs => x.py :: pys xs
end
theorem pys_map : ∀ xs : List D, pys xs = xs.map D.py
  | [] => by rw [pys, List.map_nil]
  | x :: xs => by rw [pys, List.map_cons, pys_map xs]
mutual
/-- x == y -/
def D.eqv : D → D → Bool
  | .none, .none => true
  | .bool a, .bool b => a == b
  | .bool a, .int j => (if a then 1 else 0) == j
  | .int i, .bool b => i == (if b then 1 else 0)
  | .int i, .int j => i == j
  | .str x, .str y => x == y
  | .list xs, .list ys => eqvs xs ys
  | .tuple xs, .tuple ys => eqvs xs ys
  | _, _ => false
def eqvs : List D → List D → Bool
  | [], [] => true
  | x :: xs, y :: ys => x.eqv y && eqvs xs ys
  | _, _ => false
end
mutual
theorem eqv_py : ∀ (n m : Nat) (x y : D), sh n x = true → sh m y = true → PyData.eqv x.py y.py = x.eqv y := by
  intro n m x y hx hy
  cases x <;> cases y <;> first
    | (simp [D.py, PyData.eqv, D.eqv]; done)
    | (exfalso; simp [sh] at hx; done)
    | (exfalso; simp [sh] at hy; done)
    | skip
  · cases n with
    | zero => simp [sh] at hx
    | succ n => cases m with
      | zero => simp [sh] at hy
      | succ m =>
        rw [sh] at hx hy
        rw [D.py, D.py, PyData.eqv, D.eqv]
        exact eqvs_py n m _ _ hx hy
  · cases n with
    | zero => simp [sh] at hx
    | succ n => cases m with
      | zero => simp [sh] at hy
      | succ m =>
        rw [sh] at hx hy
        rw [D.py, D.py, PyData.eqv, D.eqv]
        exact eqvs_py n m _ _ hx hy
theorem eqvs_py : ∀ (n m : Nat) (xs ys : List D), shs n xs = true → shs m ys = true → PyData.eqvAll (pys xs) (pys ys) = eqvs xs ys
  | _, _, [], [], _, _ => by simp [pys, PyData.eqvAll, eqvs]
  | _, _, [], y :: ys, _, _ => by simp [pys, PyData.eqvAll, eqvs]
  | _, _, x :: xs, [], _, _ => by simp [pys, PyData.eqvAll, eqvs]
  | n, m, x :: xs, y :: ys, hx, hy => by
    rw [shs, Bool.and_eq_true] at hx hy
    rw [pys, pys, PyData.eqvAll, eqvs, eqv_py n m x y hx.1 hy.1, eqvs_py n m xs ys hx.2 hy.2]
end

/-! ### data as the library reads it -/
section
variable {K : PySem.W.Frag} {T : Nat → Addr} {M : List (Option Addr)} {H : Hp}
mutual
theorem RD.dp : ∀ {n : Nat} {v : V} {x : D}, RD K T M H v x → sh n x = true → Dp K H v x.py ∧ x.py.canLay0 = true
  | _, _, _, .non, _ => ⟨by rw [D.py]; exact .non, by rw [D.py]; rfl⟩
  | _, _, _, .bl b, _ => ⟨by rw [D.py]; exact .bl b, by rw [D.py]; rfl⟩
  | _, _, _, .int i, _ => ⟨by rw [D.py]; exact .int i, by rw [D.py]; rfl⟩
  | _, _, _, .str (x := x) h, _ => ⟨by rw [D.py]; exact .str x, by rw [D.py]; simpa [PyData.canLay0] using h⟩
  | 0, _, _, .lst _ _ _, z => by simp [sh] at z
  | n + 1, _, _, .lst _ h r, z => by
    rw [sh] at z
    have q := RDs.dp r z
    exact ⟨by rw [D.py]; exact .lst (.inl (.inl h)) q.1, by rw [D.py]; simpa [PyData.canLay0] using q.2⟩
  | _, _, _, .scr _, z => by simp [sh] at z
  | 0, _, _, .tup _ _, z => by simp [sh] at z
  | n + 1, _, _, .tup h r, z => by
    rw [sh] at z
    have q := RDs.dp r z
    exact ⟨by rw [D.py]; exact .tup (sqt_of h) q.1, by rw [D.py]; simpa [PyData.canLay0] using q.2⟩
  | _, _, _, .dK _ _, z => by simp [sh] at z
  | _, _, _, .dT _ _, z => by simp [sh] at z
  | _, _, _, .ins _ _ _, z => by simp [sh] at z
  | _, _, _, .fn _, z => by simp [sh] at z
  | _, _, _, .exc _ _ _, z => by simp [sh] at z
theorem RDs.dp : ∀ {n : Nat} {vs : List V} {ds : List D}, RDs K T M H vs ds → shs n ds = true → DpAll K H vs (pys ds) ∧ PyData.canLayAll0 (pys ds) = true
  | _, _, _, .nil, _ => ⟨by rw [pys]; exact .nil, by rw [pys]; rfl⟩
  | _, _, _, .cons r t, z => by
    rw [shs, Bool.and_eq_true] at z
    have q := RD.dp r z.1
    have q' := RDs.dp t z.2
    exact ⟨by rw [pys]; exact .cons q.1 q'.1, by rw [pys, PyData.canLayAll0, q.2, q'.2]; rfl⟩
end
theorem RV.dp {n : Nat} {v : V} {x : D} (r : RV K T M H v x) (z : sh n x = true) : Dp K H v x.py ∧ x.py.canLay0 = true := by
  cases x with
  | list ds =>
    obtain ⟨a, xs, rfl, h, r⟩ := r
    cases n with
    | zero => simp [sh] at z
    | succ n =>
      rw [sh] at z
      have q := RDs.dp r z
      exact ⟨by rw [D.py]; exact .lst (.inl (.inl h)) q.1, by rw [D.py]; simpa [PyData.canLay0] using q.2⟩
  | tuple ds =>
    obtain ⟨a, xs, rfl, h, r⟩ := r
    cases n with
    | zero => simp [sh] at z
    | succ n =>
      rw [sh] at z
      have q := RDs.dp r z
      exact ⟨by rw [D.py]; exact .tup (sqt_of h) q.1, by rw [D.py]; simpa [PyData.canLay0] using q.2⟩
  | dict _ => simp [sh] at z
  | ins _ _ => simp [sh] at z
  | fn _ => simp [sh] at z
  | exc _ _ _ _ => simp [sh] at z
  | scr _ => simp [sh] at z
  | none => exact RD.dp (n := n) r z
  | bool b => exact RD.dp (n := n) r z
  | int i => exact RD.dp (n := n) r z
  | str s => exact RD.dp (n := n) r z
end
mutual
theorem sh_depth : ∀ (n : Nat) (x : D), sh n x = true → x.py.depth ≤ n
  | _, .none, _ => by simp [D.py, PyData.depth]
  | _, .bool _, _ => by simp [D.py, PyData.depth]
  | _, .int _, _ => by simp [D.py, PyData.depth]
  | _, .str _, _ => by simp [D.py, PyData.depth]
  | 0, .list _, z => by simp [sh] at z
  | n + 1, .list xs, z => by
    rw [sh] at z
    have := shs_depth n xs z
    rw [D.py, PyData.depth]
    omega
  | 0, .tuple _, z => by simp [sh] at z
  | n + 1, .tuple xs, z => by
    rw [sh] at z
    have := shs_depth n xs z
    rw [D.py, PyData.depth]
    omega
  | _, .dict _, z => by simp [sh] at z
  | _, .ins _ _, z => by simp [sh] at z
  | _, .fn _, z => by simp [sh] at z
  | _, .exc _ _ _ _, z => by simp [sh] at z
  | _, .scr _, z => by simp [sh] at z
theorem shs_depth : ∀ (n : Nat) (xs : List D), shs n xs = true → PyData.depthAll (pys xs) ≤ n
  | _, [], _ => by simp [pys, PyData.depthAll]
  | n, x :: xs, z => by
    rw [shs, Bool.and_eq_true] at z
    have h1 := sh_depth n x z.1
    have h2 := shs_depth n xs z.2
    rw [pys, PyData.depthAll]
    omega
end
theorem shaped_of {n : Nat} {x : D} (h : x.py.canLay0 = true) (z : sh n x = true) (hn : n ≤ 64) : SeqAt.shaped x.py = true := by
  have := sh_depth n x z
  show (x.py.canLay0 && decide (x.py.depth ≤ 64)) = true
  rw [h, decide_eq_true (by omega)]
  rfl

/-! ### the operations on data -/
def dEq : D → D → Option D := fun x y => if sh 60 x && sh 60 y then some (.bool (x.eqv y)) else none
def dNe : D → D → Option D := fun x y => if sh 60 x && sh 60 y then some (.bool (!x.eqv y)) else none
def fits (n : Nat) : Bool := decide (n ≤ 16777216)
theorem fits_le {n : Nat} (h : fits n = true) : n ≤ sizeLine := by
  have := of_decide_eq_true h
  rw [sizeLine_eq]
  omega
def cMul (i j : Int) : Bool := (decide (-(2 ^ 64) < i) && decide (i < 2 ^ 64)) || (decide (-(2 ^ 64) < j) && decide (j < 2 ^ 64))
def dAdd : D → D → Option D
  | .int i, .int j => some (.int (i + j))
  | .str x, .str y => if fits (x.length + y.length) then some (.str (x ++ y)) else none
  | .list xs, .list ys => if fits (xs.length + ys.length) then some (.list (xs ++ ys)) else none
  | .tuple xs, .tuple ys => if fits (xs.length + ys.length) then some (.tuple (xs ++ ys)) else none
  | _, _ => none
def dSub : D → D → Option D
  | .int i, .int j => some (.int (i - j))
  | _, _ => none
def dMul : D → D → Option D
  | .int i, .int j => if cMul i j then some (.int (i * j)) else none
  | .list xs, .int k => if decide (-(2 ^ 63) ≤ k) && decide (k < 2 ^ 63) && fits (xs.length * k.toNat) then some (.list (List.replicate k.toNat xs).flatten) else none
  | .tuple xs, .int k => if decide (2 ≤ k) && decide (k ≤ 1000) && decide (xs.length ≤ 1000) && !xs.isEmpty then some (.tuple (List.replicate k.toNat xs).flatten) else none
  | _, _ => none
def dDiv : D → D → Option D
  | .int i, .int j => if decide (0 < j) && decide (j < 1073741824) then some (.int (i / j)) else none
  | _, _ => none
def dMod : D → D → Option D
  | .int i, .int j => if decide (0 < j) then some (.int (i % j)) else none
  | _, _ => none
def dPow : D → D → Option D
  | .int i, .int j => if decide (0 ≤ j) && decide (j ≤ 1000000) && decide (i.natAbs < 2 ^ 64) then some (.int (i ^ j.toNat)) else none
  | _, _ => none
def dNeg : D → Option D
  | .int i => some (.int (-i))
  | _ => none
def dCmp (p : Int → Int → Bool) : D → D → Option D
  | .int i, .int j => some (.bool (p i j))
  | _, _ => none
def D.isN : D → Bool
  | .none => true
  | _ => false
def dIs : D → D → Option D
  | x, .none => some (.bool x.isN)
  | _, _ => none
def dNis : D → D → Option D
  | x, .none => some (.bool (!x.isN))
  | _, _ => none
/-- one text within another -/
def strIn (x y : Str) : Bool := !(Builtin.Str.occurrences y x 0 y.length 1).isEmpty
def dIn : D → D → Option D
  | x, .list ys => if sh 60 x && shs 60 ys then some (.bool (ys.any fun y => y.eqv x)) else none
  | x, .tuple ys => if sh 60 x && shs 60 ys then some (.bool (ys.any fun y => y.eqv x)) else none
  | .str x, .str y => some (.bool (strIn x y))
  | _, _ => none
def dNin : D → D → Option D
  | x, .list ys => if sh 60 x && shs 60 ys then some (.bool (!ys.any fun y => y.eqv x)) else none
  | x, .tuple ys => if sh 60 x && shs 60 ys then some (.bool (!ys.any fun y => y.eqv x)) else none
  | .str x, .str y => some (.bool (!strIn x y))
  | _, _ => none

/-! ### they are what the model does -/
section
variable {X : Cx} {T : Nat → Addr}
def rCatL (K : PySem.W.Frag) : R2 := fun x y H Q => ∃ l b xs zs, x = .ref l ∧ y = .ref b ∧ H l = some (.lst xs) ∧ H b = some (.lst zs) ∧ xs.length + zs.length ≤ sizeLine ∧ ∀ p, H p = none → Q (.ref p) (L2.upd H p (.lst (xs ++ zs)))
def rAddM (K : PySem.W.Frag) : R2 := fun x y H Q => rI0 (fun i j => .int (i + j)) x y H Q ∨ ((∃ i j, x = .str i ∧ y = .str j ∧ i.length + j.length ≤ sizeLine ∧ Q (.str (i ++ j)) H) ∨ (rCat x y H Q ∨ rCatA K x y H Q))
theorem op_addM : OpR X (binaryOp .Add) (rAddM X.K) := op_add.or (op_add_str.or (op_cat.or op_catA))
theorem RV.int {K : PySem.W.Frag} {T M H v i} (r : RV K T M H v (.int i)) : v = .int i := by
  have r' : RD K T M H v (.int i) := r
  cases r'
  rfl
theorem RV.bool {K : PySem.W.Frag} {T M H v i} (r : RV K T M H v (.bool i)) : v = .bl i := by
  have r' : RD K T M H v (.bool i) := r
  cases r'
  rfl
theorem RV.non {K : PySem.W.Frag} {T M H v} (r : RV K T M H v .none) : v = .non := by
  have r' : RD K T M H v .none := r
  cases r'
  rfl
theorem RV.str {K : PySem.W.Frag} {T M H v x} (r : RV K T M H v (.str x)) : v = .str x ∧ PyData.strOk x = true := by
  have r' : RD K T M H v (.str x) := r
  cases r' with
  | str h => exact ⟨rfl, h⟩
theorem strOk_app {x y : Str} (hx : PyData.strOk x = true) (hy : PyData.strOk y = true) : PyData.strOk (x ++ y) = true := by
  obtain ⟨x⟩ := x
  obtain ⟨y⟩ := y
  have hx' : x.all (· < 0x110000) = true := hx
  have hy' : y.all (· < 0x110000) = true := hy
  show (x ++ y).all (· < 0x110000) = true
  rw [Array.all_append, hx', hy']
  rfl
theorem if_some {α : Type} {b : Bool} {x z : α} (h : (if b = true then some x else none) = some z) : b = true ∧ x = z := by
  cases b with
  | true => exact ⟨rfl, by simpa using h⟩
  | false => simp at h
theorem p_add : P2 X T (rAddM X.K) dAdd := by
  intro M H st x y dx dy z Q s rx ry hf o
  unfold dAdd at hf
  split at hf
  · cases hf
    exact .inl ⟨_, _, rx.int, ry.int, o.now s (.int _)⟩
  · obtain ⟨hz, rfl⟩ := if_some hf
    obtain ⟨ex, hx⟩ := rx.str
    obtain ⟨ey, hy⟩ := ry.str
    exact .inr (.inl ⟨_, _, ex, ey, fits_le hz, o.now s (.str (strOk_app hx hy))⟩)
  · obtain ⟨hz, rfl⟩ := if_some hf
    obtain ⟨a, xs, rfl, h1, r1⟩ := rx
    obtain ⟨b, ys, rfl, h2, r2⟩ := ry
    exact .inr (.inr (.inl ⟨a, b, xs, ys, rfl, rfl, h1, h2, by rw [r1.length, r2.length]; exact fits_le hz, o.lst s (r1.app r2)⟩))
  · obtain ⟨hz, rfl⟩ := if_some hf
    obtain ⟨a, xs, rfl, h1, r1⟩ := rx
    obtain ⟨b, ys, rfl, h2, r2⟩ := ry
    refine .inr (.inr (.inr ⟨a, b, xs, ys, rfl, rfl, sqt_of h1, sqt_of h2, by rw [r1.length, r2.length]; exact fits_le hz, fun e => ?_, fun _ e => ?_, fun _ _ => o.tup s (r1.app r2)⟩))
    · subst e
      cases r1
      exact o.now s (.tup h2 r2)
    · subst e
      cases r2
      rw [List.append_nil] at o
      exact o.now s (.tup h1 r1)
  · cases hf
theorem p_int {r : R2} {f : D → D → Option D} (h : ∀ x y z H Q, f x y = some z → (∃ i j k, x = .int i ∧ y = .int j ∧ z = .int k ∧ (Q (.int k) H → r (.int i) (.int j) H Q)) ∨ ∃ i j b, x = .int i ∧ y = .int j ∧ z = .bool b ∧ (Q (.bl b) H → r (.int i) (.int j) H Q)) : P2 X T r f := by
  intro M H st x y dx dy z Q s rx ry hf o
  rcases h dx dy z H Q hf with ⟨i, j, k, rfl, rfl, rfl, g⟩ | ⟨i, j, k, rfl, rfl, rfl, g⟩
  · rw [rx.int, ry.int]
    exact g (o.now s (.int _))
  · rw [rx.int, ry.int]
    exact g (o.now s (.bl _))
theorem p_sub : P2 X T (rI0 fun i j => .int (i - j)) dSub := p_int fun x y z H Q h => by
  unfold dSub at h
  split at h <;> cases h
  exact .inl ⟨_, _, _, rfl, rfl, rfl, fun q => ⟨_, _, rfl, rfl, q⟩⟩
def rMulM (K : PySem.W.Frag) : R2 := fun x y H Q => rI CMul (fun i j => .int (i * j)) x y H Q ∨ (rRep x y H Q ∨ rRepT K x y H Q)
theorem op_mulM : OpR X (binaryOp .Mult) (rMulM X.K) := op_mul.or (op_rep.or op_repT)
theorem RDs.rep {K T M H} {xs : List V} {ds : List D} (r : RDs K T M H xs ds) : ∀ n : Nat, RDs K T M H (List.replicate n xs).flatten (List.replicate n ds).flatten
  | 0 => by simpa using RDs.nil
  | n + 1 => by
    rw [List.replicate_succ, List.replicate_succ, List.flatten_cons, List.flatten_cons]
    exact r.app (RDs.rep r n)
theorem p_mul : P2 X T (rMulM X.K) dMul := by
  intro M H st x y dx dy z Q s rx ry hf o
  unfold dMul at hf
  split at hf
  · obtain ⟨hz, rfl⟩ := if_some hf
    refine .inl ⟨_, _, rx.int, ry.int, ?_, o.now s (.int _)⟩
    unfold cMul at hz
    simp only [Bool.or_eq_true, Bool.and_eq_true, decide_eq_true_eq] at hz
    exact hz
  · obtain ⟨hz, rfl⟩ := if_some hf
    simp only [Bool.and_eq_true, decide_eq_true_eq] at hz
    obtain ⟨a, xs, rfl, h1, r1⟩ := rx
    exact .inr (.inl ⟨a, _, xs, rfl, ry.int, h1, hz.1.1, hz.1.2, by rw [r1.length]; exact fits_le hz.2, o.lst s (r1.rep _)⟩)
  · obtain ⟨hz, rfl⟩ := if_some hf
    simp only [Bool.and_eq_true, decide_eq_true_eq, Bool.not_eq_true'] at hz
    obtain ⟨a, xs, rfl, h1, r1⟩ := rx
    refine .inr (.inr ⟨a, _, xs, rfl, ry.int, sqt_of h1, fun e => ?_, hz.1.1.1, hz.1.1.2, by rw [r1.length]; exact hz.1.2, o.tup s (r1.rep _)⟩)
    subst e
    cases r1
    simp at hz
  · cases hf
theorem p_div : P2 X T (rI CDiv fun i j => .int (i / j)) dDiv := p_int fun x y z H Q h => by
  unfold dDiv at h
  split at h
  · obtain ⟨hz, rfl⟩ := if_some h
    simp only [Bool.and_eq_true, decide_eq_true_eq] at hz
    exact .inl ⟨_, _, _, rfl, rfl, rfl, fun q => ⟨_, _, rfl, rfl, hz, q⟩⟩
  · cases h
theorem p_mod : P2 X T (rI (fun _ j => 0 < j) fun i j => .int (i % j)) dMod := p_int fun x y z H Q h => by
  unfold dMod at h
  split at h
  · obtain ⟨hz, rfl⟩ := if_some h
    exact .inl ⟨_, _, _, rfl, rfl, rfl, fun q => ⟨_, _, rfl, rfl, of_decide_eq_true hz, q⟩⟩
  · cases h
theorem p_pow : P2 X T (rI CPow fun i j => .int (i ^ j.toNat)) dPow := p_int fun x y z H Q h => by
  unfold dPow at h
  split at h
  · obtain ⟨hz, rfl⟩ := if_some h
    simp only [Bool.and_eq_true, decide_eq_true_eq] at hz
    exact .inl ⟨_, _, _, rfl, rfl, rfl, fun q => ⟨_, _, rfl, rfl, ⟨hz.1.1, hz.1.2, hz.2⟩, q⟩⟩
  · cases h
theorem p_cmp (p : Int → Int → Bool) : P2 X T (rI0 fun i j => .bl (p i j)) (dCmp p) := p_int fun x y z H Q h => by
  unfold dCmp at h
  split at h <;> cases h
  exact .inr ⟨_, _, _, rfl, rfl, rfl, fun q => ⟨_, _, rfl, rfl, q⟩⟩
theorem p_neg : P1 X T (rU fun i => .int (-i)) dNeg := by
  intro M H st x dx z Q s rx hf o
  unfold dNeg at hf
  split at hf <;> cases hf
  exact ⟨_, rx.int, o.now s (.int _)⟩
theorem RV.isnon {K : PySem.W.Frag} {T M H v x} (r : RV K T M H v x) : decide (v = .non) = x.isN := by
  cases x with
  | none => rw [RV.non r]; rfl
  | bool b => rw [RV.bool r]; rfl
  | int i => rw [RV.int r]; rfl
  | str s => rw [(RV.str r).1]; rfl
  | list ds => obtain ⟨a, xs, rfl, _⟩ := r; rfl
  | tuple ds => obtain ⟨a, xs, rfl, _⟩ := r; rfl
  | dict ds => obtain ⟨a, rfl, _⟩ := r; rfl
  | ins c fs => obtain ⟨a, dx, fv, rfl, _⟩ := r; rfl
  | fn a =>
    have r' : RD K T M H v (.fn a) := r
    cases r'
    rfl
  | exc a d c fs =>
    have r' : RD K T M H v (.exc a d c fs) := r
    cases r'
    rfl
  | scr ns => obtain ⟨a, rfl, _⟩ := r; rfl
theorem p_is : P2 X T (fun x y H Q => y = .non ∧ Q (.bl (decide (x = .non))) H) dIs := by
  intro M H st x y dx dy z Q s rx ry hf o
  unfold dIs at hf
  split at hf
  · cases hf
    exact ⟨ry.non, by rw [rx.isnon]; exact o.now s (.bl _)⟩
  · cases hf
theorem p_nis : P2 X T (fun x y H Q => y = .non ∧ Q (.bl (!decide (x = .non))) H) dNis := by
  intro M H st x y dx dy z Q s rx ry hf o
  unfold dNis at hf
  split at hf
  · cases hf
    exact ⟨ry.non, by rw [rx.isnon]; exact o.now s (.bl _)⟩
  · cases hf
theorem p_eq : P2 X T (rEqD X.K) dEq := by
  intro M H st x y dx dy z Q s rx ry hf o
  obtain ⟨hz, rfl⟩ := if_some hf
  rw [Bool.and_eq_true] at hz
  have qx := rx.dp hz.1
  have qy := ry.dp hz.2
  exact ⟨_, _, qx.1, qy.1, shaped_of qx.2 hz.1 (by decide), shaped_of qy.2 hz.2 (by decide), by rw [eqv_py 60 60 _ _ hz.1 hz.2]; exact o.now s (.bl _)⟩
theorem p_ne : P2 X T (rNeD X.K) dNe := by
  intro M H st x y dx dy z Q s rx ry hf o
  obtain ⟨hz, rfl⟩ := if_some hf
  rw [Bool.and_eq_true] at hz
  have qx := rx.dp hz.1
  have qy := ry.dp hz.2
  exact ⟨_, _, qx.1, qy.1, shaped_of qx.2 hz.1 (by decide), shaped_of qy.2 hz.2 (by decide), by rw [eqv_py 60 60 _ _ hz.1 hz.2]; exact o.now s (.bl _)⟩
/-- in, for a list, a tuple, a text -/
def rInM (K : PySem.W.Frag) (neg : Bool) : R2 := fun x y H Q =>
  (∃ d ds, Dp K H x d ∧ (Dp K H y (.list ds) ∨ Dp K H y (.tuple ds)) ∧ d.canLay0 = true ∧ PyData.canLayAll0 ds = true ∧ d.depth ≤ 64 ∧ Q (.bl (if neg then !ds.any fun z => PyData.eqv z d else ds.any fun z => PyData.eqv z d)) H) ∨
  ∃ i j, x = .str i ∧ y = .str j ∧ Q (.bl (if neg then !strIn i j else strIn i j)) H
theorem op_inM (hu : X.A.units + 66 < cLine) : OpR X (compareOp .In) (rInM X.K false) := by
  intro pins s σ H x y v u Q I rx ry h
  rcases h with ⟨d, ds, hd, he, ld, le, dd, q⟩ | ⟨i, j, rfl, rfl, q⟩
  · obtain ⟨as, r1⟩ := Dp.reads I d x v hd rx
    have hroom : X.A.units + 1 + min (PyData.depthAll ds) d.depth < cLine := by
      have : min (PyData.depthAll ds) d.depth ≤ d.depth := Nat.min_le_right _ _
      omega
    rcases he with he | he
    · obtain ⟨bs, r2⟩ := Dp.reads I (.list ds) y u he ry
      exact SeqAt.in_list_reads r2 r1 le ld hroom ⟨.bl _, H, I, rfl, q⟩
    · obtain ⟨bs, r2⟩ := Dp.reads I (.tuple ds) y u he ry
      exact SeqAt.in_tuple_reads r2 r1 le ld hroom ⟨.bl _, H, I, rfl, q⟩
  · exact op_in_str pins s σ H _ _ v u Q I rx ry ⟨i, j, rfl, rfl, q⟩
theorem op_ninM (hu : X.A.units + 66 < cLine) : OpR X (compareOp .NotIn) (rInM X.K true) := by
  intro pins s σ H x y v u Q I rx ry h
  rcases h with ⟨d, ds, hd, he, ld, le, dd, q⟩ | ⟨i, j, rfl, rfl, q⟩
  · obtain ⟨as, r1⟩ := Dp.reads I d x v hd rx
    have hroom : X.A.units + 1 + min (PyData.depthAll ds) d.depth < cLine := by
      have : min (PyData.depthAll ds) d.depth ≤ d.depth := Nat.min_le_right _ _
      omega
    rcases he with he | he
    · obtain ⟨bs, r2⟩ := Dp.reads I (.list ds) y u he ry
      exact SeqAt.notIn_list_reads r2 r1 le ld hroom ⟨.bl _, H, I, rfl, q⟩
    · obtain ⟨bs, r2⟩ := Dp.reads I (.tuple ds) y u he ry
      exact SeqAt.notIn_tuple_reads r2 r1 le ld hroom ⟨.bl _, H, I, rfl, q⟩
  · exact op_notIn_str pins s σ H _ _ v u Q I rx ry ⟨i, j, rfl, rfl, q⟩
theorem any_py {x : D} (hx : sh 60 x = true) : ∀ ys : List D, shs 60 ys = true → (pys ys).any (fun z => PyData.eqv z x.py) = ys.any fun y => y.eqv x
  | [], _ => by rw [pys]; rfl
  | y :: ys, h => by
    rw [shs, Bool.and_eq_true] at h
    rw [pys, List.any_cons, List.any_cons, eqv_py 60 60 y x h.1 hx, any_py hx ys h.2]
theorem p_in_ {neg : Bool} {f : D → D → Option D} (hf : ∀ x y z, f x y = some z → (∃ ys, (y = .list ys ∨ y = .tuple ys) ∧ sh 60 x = true ∧ shs 60 ys = true ∧ z = .bool (if neg then !ys.any fun y => y.eqv x else ys.any fun y => y.eqv x)) ∨
    ∃ a b, x = .str a ∧ y = .str b ∧ z = .bool (if neg then !strIn a b else strIn a b)) : P2 X T (rInM X.K neg) f := by
  intro M H st x y dx dy z Q s rx ry h o
  rcases hf dx dy z h with ⟨ys, hy, h1, h2, rfl⟩ | ⟨a, b, rfl, rfl, rfl⟩
  · have qx := rx.dp h1
    refine .inl ⟨dx.py, pys ys, qx.1, ?_, qx.2, ?_, Nat.le_trans (sh_depth 60 dx h1) (by decide), ?_⟩
    · rcases hy with rfl | rfl
      · have qy := RV.dp (n := 61) ry (by rw [sh]; exact h2)
        rw [D.py] at qy
        exact .inl qy.1
      · have qy := RV.dp (n := 61) ry (by rw [sh]; exact h2)
        rw [D.py] at qy
        exact .inr qy.1
    · rcases hy with rfl | rfl
      · have qy := RV.dp (n := 61) ry (by rw [sh]; exact h2)
        rw [D.py] at qy
        simpa [PyData.canLay0] using qy.2
      · have qy := RV.dp (n := 61) ry (by rw [sh]; exact h2)
        rw [D.py] at qy
        simpa [PyData.canLay0] using qy.2
    · rw [any_py h1 ys h2]
      exact o.now s (.bl _)
  · exact .inr ⟨a, b, rx.str.1, ry.str.1, o.now s (.bl _)⟩
theorem p_in : P2 X T (rInM X.K false) dIn := p_in_ fun x y z h => by
  unfold dIn at h
  split at h
  · obtain ⟨hz, rfl⟩ := if_some h
    rw [Bool.and_eq_true] at hz
    exact .inl ⟨_, .inl rfl, hz.1, hz.2, rfl⟩
  · obtain ⟨hz, rfl⟩ := if_some h
    rw [Bool.and_eq_true] at hz
    exact .inl ⟨_, .inr rfl, hz.1, hz.2, rfl⟩
  · cases h
    exact .inr ⟨_, _, rfl, rfl, rfl⟩
  · cases h
theorem p_nin : P2 X T (rInM X.K true) dNin := p_in_ fun x y z h => by
  unfold dNin at h
  split at h
  · obtain ⟨hz, rfl⟩ := if_some h
    rw [Bool.and_eq_true] at hz
    exact .inl ⟨_, .inl rfl, hz.1, hz.2, rfl⟩
  · obtain ⟨hz, rfl⟩ := if_some h
    rw [Bool.and_eq_true] at hz
    exact .inl ⟨_, .inr rfl, hz.1, hz.2, rfl⟩
  · cases h
    exact .inr ⟨_, _, rfl, rfl, rfl⟩
  · cases h
end
end MM
set_option maxRecDepth 100000
/-! M3: tests, and, or, if, arguments, displays, subscripts, slices, attributes -/
namespace MM
open PySem PySem.Spec PyProof.Rows L2
section
variable {K : PySem.W.Frag} {T : Nat → Addr} {α β γ δ : Type} {Rel : RelT α β} {Rel' : RelT γ δ} {W : WX} {M : List (Option Addr)} {σ : L2.St} {ρ : Slots} {H : Hp} {st : Stor}
theorem Go.then {f : EF α} {k : α → Stor → R γ} {Q : δ → Hp → Prop} (rep : Rep K T M H σ ρ st) (h : Go K T Rel' W M σ H ((f ρ st).bind k) Q) :
    Tg K T Rel W f σ H (fun b H1 => ∃ M1 st1 a, Ext M M1 H H1 ∧ Rep K T M1 H1 σ ρ st1 ∧ Rel M1 H1 b a ∧ Go K T Rel' W M1 σ H1 (k a st1) Q) := ⟨M, ρ, st, rep, Go.bind rep h⟩
theorem Go.end {f : EF α} {Q : β → Hp → Prop} (rep : Rep K T M H σ ρ st) (h : Go K T Rel W M σ H (f ρ st) Q) : Tg K T Rel W f σ H Q := ⟨M, ρ, st, rep, h⟩
end
/-! ### truth -/
def D.tru : D → Option Bool
  | .none => some false
  | .bool b => some b
  | .int i => some (i != 0)
  | .str s => if fits s.length then some ((s.length : Int) != 0) else Option.none
  | .list xs => some (!xs.isEmpty)
  | .tuple xs => some (!xs.isEmpty)
  | _ => Option.none
theorem RDs.isEmpty {K T M H} {xs : List V} {ds : List D} (r : RDs K T M H xs ds) : xs.isEmpty = ds.isEmpty := by cases r <;> rfl
theorem RV.tru {K T M H} {v : V} {x : D} {b : Bool} (r : RV K T M H v x) (h : x.tru = some b) : TruV K v H b := by
  cases x with
  | none => rw [RV.non r]; cases h; rfl
  | bool b => rw [RV.bool r]; cases h; rfl
  | int i => rw [RV.int r]; cases h; rfl
  | str s =>
    rw [(RV.str r).1]
    obtain ⟨hz, rfl⟩ := if_some h
    exact ⟨fits_le hz, rfl⟩
  | list ds =>
    obtain ⟨a, xs, rfl, h1, r1⟩ := r
    cases h
    exact .inl ⟨xs, .inl (.inl h1), by rw [r1.isEmpty]⟩
  | tuple ds =>
    obtain ⟨a, xs, rfl, h1, r1⟩ := r
    cases h
    exact .inr (.inl ⟨xs, sqt_of h1, by rw [r1.isEmpty]⟩)
  | dict ds => cases h
  | ins c fs => cases h
  | fn a => cases h
  | exc _ _ _ _ => cases h
  | scr ns => cases h
def uTru (u : U) (st : Stor) : R Bool := match rd st u with
  | some x => match x.tru with
    | some b => .ok b st
    | none => .bad
  | none => .bad
@[simp] theorem uTru_bool (b : Bool) (st : Stor) : uTru (.d (.bool b)) st = .ok b st := rfl
def eTru (f : EF U) : EF Bool := fun ρ st => (f ρ st).bind uTru
def uB (u : U) (st : Stor) : R Bool := match u with
  | .d (.bool b) => .ok b st
  | _ => .bad
@[simp] theorem uB_bool (b : Bool) (st : Stor) : uB (.d (.bool b)) st = .ok b st := rfl
def asB (f : EF U) : EF Bool := fun ρ st => (f ρ st).bind uB
section
variable {X : Cx} {T : Nat → Addr} {W : WX} {pos : Pos} {a b c : Expr} {rest : List Expr} {fa fb fc : EF U} {ga gb gc : EF Bool}
theorem uTru_go {M σ H st u Q} {v : V} (s : Rst X.K T M H st) (r : RU X.K T M H v u) (go : Go X.K T relB W M σ H (uTru u st) Q) : ∃ k, TruV X.K v H k ∧ Q k H := by
  unfold uTru at go
  cases e : rd st u with
  | none => rw [e] at go; exact go.elim
  | some x =>
    rw [e] at go
    simp only at go
    cases e2 : x.tru with
    | none => rw [e2] at go; exact go.elim
    | some k =>
      rw [e2] at go
      exact ⟨k, (r.rv s e).tru e2, Go.now s go rfl⟩
theorem uB_go {M σ H st u Q} {v : V} (s : Rst X.K T M H st) (r : RU X.K T M H v u) (go : Go X.K T relB W M σ H (uB u st) Q) : ∃ k, v = .bl k ∧ Q k H := by
  cases r with
  | loc h => exact go.elim
  | hole h => exact go.elim
  | @d v x r =>
    cases x with
    | bool k =>
      cases r
      exact ⟨k, rfl, Go.now s go rfl⟩
    | _ => exact go.elim
theorem m_truth (ha : ME X T W a fa) (he : ∀ whole, isTrue a X.env whole = (do let v ← whole; standAt a.pos; holding [v] (truthy v)) := by intro _; rfl) : MT X T W a (eTru fa) := by
  refine PT.imp (pt_truth ha he) fun σ H Q ⟨M, ρ, st, rep, go⟩ => ?_
  exact ⟨M, ρ, st, rep, (Go.bind (Rel := relU X.K T) rep go).mono fun x H1 ⟨M1, st1, u, e1, rep1, ru, go1⟩ => uTru_go rep1.sto ru go1⟩
theorem asB_of {f : EF U} {σ : L2.St} {H : Hp} {Q : Bool → Hp → Prop} (h : Tg X.K T relB W (asB f) σ H Q) : Tg X.K T (relU X.K T) W f σ H (fun x H1 => ∃ k, x = .bl k ∧ Q k H1) := by
  obtain ⟨M, ρ, st, rep, go⟩ := h
  exact ⟨M, ρ, st, rep, (Go.bind (Rel := relU X.K T) rep go).mono fun x H1 ⟨M1, st1, u, e1, rep1, ru, go1⟩ => uB_go rep1.sto ru go1⟩
theorem m_cmpT {op : CmpOp} {r : R2} {g : U → U → Stor → R U} (ho : OpR X (compareOp op) r) (o : Op2 X T W r g) (ha : ME X T W a fa) (hb : ME X T W b fb) (hm : behindInMarks op b = false) : MT X T W (.Compare a [op] [b] pos) (asB (eBin g fa fb)) :=
  PT.imp (pt_cmpR ho ha hb hm) fun _ _ _ h => tOp_of o (asB_of h)
/-- a chain of two comparisons of data -/
def eChain (g g' : U → U → Stor → R U) (fa fb fc : EF U) : EF U := fun ρ st => (fa ρ st).bind fun u st1 => (fb ρ st1).bind fun w st2 => (g u w st2).bind fun z st3 => (uB z st3).bind fun k st4 =>
  if k = true then (fc ρ st4).bind fun y st5 => g' w y st5 else .ok (.d (.bool false)) st4
/-- r asks no more than g says, whatever follows -/
theorem chain_of {r r' : R2} {g g' : U → U → Stor → R U} (o : Op2 X T W r g) (o' : Op2 X T W r' g') {σ : L2.St} {H : Hp} {Q : VK} (h : Tg X.K T (relU X.K T) W (eChain g g' fa fb fc) σ H Q) :
    tChain r r' (Tg X.K T (relU X.K T) W fa) (Tg X.K T (relU X.K T) W fb) (Tg X.K T (relU X.K T) W fc) σ H Q := by
  obtain ⟨M, ρ, st, rep, go⟩ := h
  refine ⟨M, ρ, st, rep, (Go.bind (Rel := relU X.K T) rep go).mono fun x H1 ⟨M1, st1, u, e1, rep1, ru, go1⟩ => ?_⟩
  refine ⟨M1, ρ, st1, rep1, (Go.bind (Rel := relU X.K T) rep1 go1).mono fun y H2 ⟨M2, st2, w, e2, rep2, rw, go2⟩ => ?_⟩
  refine o M2 σ H2 st2 x y u w _ rep2.sto (RU.ext e2 ru) rw ((Go.bind (Rel := relU X.K T) rep2 go2).mono fun z H3 ⟨M3, st3, zu, e3, rep3, rz, go3⟩ => ?_)
  obtain ⟨k, rfl, hk⟩ := uB_go (W := W) (σ := σ) rep3.sto rz (Go.bind (Rel := relB) rep3 go3)
  refine ⟨k, rfl, ?_⟩
  obtain ⟨M4, st4, k', e4, rep4, rk, go4⟩ := hk
  have rk' : k = k' := rk
  subst rk'
  cases k with
  | false => exact Go.now (b := V.bl false) rep4.sto go4 (RU.d (.bl false))
  | true =>
    have go4' : Go X.K T (relU X.K T) W M4 σ H3 ((fc ρ st4).bind fun y st5 => g' w y st5) Q := go4
    refine ⟨M4, ρ, st4, rep4, (Go.bind (Rel := relU X.K T) rep4 go4').mono fun y' H5 ⟨M5, st5, uy, e5, rep5, ry, go5⟩ => ?_⟩
    exact o' M5 σ H5 st5 y y' w uy Q rep5.sto (RU.ext e5 (RU.ext e4 (RU.ext e3 rw))) ry go5
theorem m_chain {op op' : CmpOp} {r r' : R2} {g g' : U → U → Stor → R U} (ho : OpR X (compareOp op) r) (ho' : OpR X (compareOp op') r') (o : Op2 X T W r g) (o' : Op2 X T W r' g') (ha : ME X T W a fa) (hb : ME X T W b fb) (hc : ME X T W c fc)
    (hm : lastMarks [op, op'] [b, c] = false := by with_unfolding_all rfl) : ME X T W (.Compare a [op, op'] [b, c] pos) (eChain g g' fa fb fc) :=
  PE.imp (pe_chain ho ho' ha hb hc hm) fun _ _ _ h => chain_of o o' h
theorem m_chainT {op op' : CmpOp} {r r' : R2} {g g' : U → U → Stor → R U} (ho : OpR X (compareOp op) r) (ho' : OpR X (compareOp op') r') (o : Op2 X T W r g) (o' : Op2 X T W r' g') (ha : ME X T W a fa) (hb : ME X T W b fb) (hc : ME X T W c fc)
    (hm : lastMarks [op, op'] [b, c] = false := by with_unfolding_all rfl) : MT X T W (.Compare a [op, op'] [b, c] pos) (asB (eChain g g' fa fb fc)) :=
  PT.imp (pt_chain ho ho' ha hb hc hm) fun _ _ _ h => chain_of o o' (asB_of h)

/-! ### not, and, or, if: tests -/
def eNotT (f : EF Bool) : EF Bool := fun ρ st => (f ρ st).bind fun k st1 => .ok (!k) st1
def eAndT (f g : EF Bool) : EF Bool := fun ρ st => (f ρ st).bind fun k st1 => if k = true then g ρ st1 else .ok false st1
def eOrT (f g : EF Bool) : EF Bool := fun ρ st => (f ρ st).bind fun k st1 => if k = true then .ok true st1 else g ρ st1
theorem m_notT (ha : MT X T W a ga) : MT X T W (.UnaryOp .Not a pos) (eNotT ga) := by
  refine PT.imp (pt_not ha) fun σ H Q ⟨M, ρ, st, rep, go⟩ => ?_
  refine ⟨M, ρ, st, rep, (Go.bind (Rel := relB) rep go).mono fun k H1 ⟨M1, st1, k', e1, rep1, rk, go1⟩ => ?_⟩
  have rk' : k = k' := rk
  subst rk'
  exact Go.now rep1.sto go1 rfl
theorem m_wand1 (ha : MT X T W a ga) : MW X T W (.BoolOp .And [a] pos) ga := pw_and1 ha
theorem m_wor1 (ha : MT X T W a ga) : MW X T W (.BoolOp .Or [a] pos) ga := pw_or1 ha
theorem m_wand (ha : MT X T W a ga) (hb : MW X T W (.BoolOp .And (b :: rest) pos) gb) : MW X T W (.BoolOp .And (a :: b :: rest) pos) (eAndT ga gb) := by
  refine PW.imp (pw_and ha hb) fun σ H Q ⟨M, ρ, st, rep, go⟩ => ?_
  refine ⟨M, ρ, st, rep, (Go.bind (Rel := relB) rep go).mono fun k H1 ⟨M1, st1, k', e1, rep1, rk, go1⟩ => ?_⟩
  have rk' : k = k' := rk
  subst rk'
  cases k with
  | true => exact ⟨M1, ρ, st1, rep1, go1⟩
  | false => exact Go.now rep1.sto go1 rfl
theorem m_wor (ha : MT X T W a ga) (hb : MW X T W (.BoolOp .Or (b :: rest) pos) gb) : MW X T W (.BoolOp .Or (a :: b :: rest) pos) (eOrT ga gb) := by
  refine PW.imp (pw_or ha hb) fun σ H Q ⟨M, ρ, st, rep, go⟩ => ?_
  refine ⟨M, ρ, st, rep, (Go.bind (Rel := relB) rep go).mono fun k H1 ⟨M1, st1, k', e1, rep1, rk, go1⟩ => ?_⟩
  have rk' : k = k' := rk
  subst rk'
  cases k with
  | false => exact ⟨M1, ρ, st1, rep1, go1⟩
  | true => exact Go.now rep1.sto go1 rfl
theorem m_pw {ga : EF Bool} (h : MW X T W a ga) : MT X T W a ga := PW.pt h
/-! ### .. values -/
def eNotV (f : EF U) : EF U := fun ρ st => (f ρ st).bind fun u st1 => (uTru u st1).bind fun k st2 => .ok (.d (.bool (!k))) st2
def eAndV (f g : EF U) : EF U := fun ρ st => (f ρ st).bind fun u st1 => (uTru u st1).bind fun k st2 => if k = true then g ρ st2 else .ok u st2
def eOrV (f g : EF U) : EF U := fun ρ st => (f ρ st).bind fun u st1 => (uTru u st1).bind fun k st2 => if k = true then .ok u st2 else g ρ st2
theorem m_not (ha : ME X T W a fa) : ME X T W (.UnaryOp .Not a pos) (eNotV fa) := by
  refine PE.imp (pe_notT ha) fun σ H Q ⟨M, ρ, st, rep, go⟩ => ?_
  refine ⟨M, ρ, st, rep, (Go.bind (Rel := relU X.K T) rep go).mono fun x H1 ⟨M1, st1, u, e1, rep1, ru, go1⟩ => ?_⟩
  obtain ⟨k, hk, M2, st2, k', e2, rep2, rk, go2⟩ := uTru_go (W := W) rep1.sto ru (Go.bind (Rel := relB) rep1 go1)
  have rk' : k = k' := rk
  subst rk'
  exact ⟨k, hk, Go.now rep2.sto go2 (RU.d (.bl _))⟩
theorem m_one {op} (ha : ME X T W a fa) : ME X T W (.BoolOp op [a] pos) fa := pe_one ha
theorem m_and (ha : ME X T W a fa) (hb : ME X T W (.BoolOp .And (b :: rest) pos) fb) : ME X T W (.BoolOp .And (a :: b :: rest) pos) (eAndV fa fb) := by
  refine PE.imp (pe_andT ha hb) fun σ H Q ⟨M, ρ, st, rep, go⟩ => ?_
  refine ⟨M, ρ, st, rep, (Go.bind (Rel := relU X.K T) rep go).mono fun x H1 ⟨M1, st1, u, e1, rep1, ru, go1⟩ => ?_⟩
  obtain ⟨k, hk, M2, st2, k', e2, rep2, rk, go2⟩ := uTru_go (W := W) rep1.sto ru (Go.bind (Rel := relB) rep1 go1)
  have rk' : k = k' := rk
  subst rk'
  refine ⟨k, hk, ?_⟩
  cases k with
  | true => exact ⟨M2, ρ, st2, rep2, go2⟩
  | false => exact Go.now rep2.sto go2 (ru.ext e2)
theorem m_or (ha : ME X T W a fa) (hb : ME X T W (.BoolOp .Or (b :: rest) pos) fb) : ME X T W (.BoolOp .Or (a :: b :: rest) pos) (eOrV fa fb) := by
  refine PE.imp (pe_orT ha hb) fun σ H Q ⟨M, ρ, st, rep, go⟩ => ?_
  refine ⟨M, ρ, st, rep, (Go.bind (Rel := relU X.K T) rep go).mono fun x H1 ⟨M1, st1, u, e1, rep1, ru, go1⟩ => ?_⟩
  obtain ⟨k, hk, M2, st2, k', e2, rep2, rk, go2⟩ := uTru_go (W := W) rep1.sto ru (Go.bind (Rel := relB) rep1 go1)
  have rk' : k = k' := rk
  subst rk'
  refine ⟨k, hk, ?_⟩
  cases k with
  | false => exact ⟨M2, ρ, st2, rep2, go2⟩
  | true => exact Go.now rep2.sto go2 (ru.ext e2)
def eIf (g : EF Bool) (fa fb : EF U) : EF U := fun ρ st => (g ρ st).bind fun k st1 => if k = true then fa ρ st1 else fb ρ st1
theorem m_if (hc : MT X T W c gc) (ha : ME X T W a fa) (hb : ME X T W b fb) : ME X T W (.IfExp c a b pos) (eIf gc fa fb) := by
  refine PE.imp (pe_ifExp hc ha hb) fun σ H Q ⟨M, ρ, st, rep, go⟩ => ?_
  refine ⟨M, ρ, st, rep, (Go.bind (Rel := relB) rep go).mono fun k H1 ⟨M1, st1, k', e1, rep1, rk, go1⟩ => ?_⟩
  have rk' : k = k' := rk
  subst rk'
  cases k with
  | true => exact ⟨M1, ρ, st1, rep1, go1⟩
  | false => exact ⟨M1, ρ, st1, rep1, go1⟩
end

/-! ### arguments, displays -/
def eNil : EF (List U) := fun _ st => .ok [] st
def eCons (f : EF U) (g : EF (List U)) : EF (List U) := fun ρ st => (f ρ st).bind fun u st1 => (g ρ st1).bind fun us st2 => .ok (u :: us) st2
def ofU : U → Option D
  | .d x => some x
  | .loc _ => none
def ofUs : List U → Option (List D)
  | [] => some []
  | u :: us => match u, ofUs us with
    | .d x, some ds => some (x :: ds)
    | _, _ => none
@[simp] theorem ofUs_nil : ofUs [] = some [] := rfl
@[simp] theorem ofUs_d (x : D) (us : List U) : ofUs (.d x :: us) = (ofUs us).map (x :: ·) := by
  show (match U.d x, ofUs us with
    | .d x, some ds => some (x :: ds)
    | _, _ => none) = _
  cases ofUs us <;> rfl
theorem RU.all {K T M H} : ∀ {vs : List V} {us : List U} {ds : List D}, Paired (RU K T M H) vs us → ofUs us = some ds → RDs K T M H vs ds
  | _, _, _, .nil, h => by cases h; exact .nil
  | _, _, _, .cons (b := u) (l₂ := us) r t, h => by
    cases u with
    | loc i => simp [ofUs] at h
    | d x =>
      rw [ofUs_d] at h
      cases e : ofUs us with
      | none => rw [e] at h; cases h
      | some es =>
        rw [e] at h
        cases h
        cases r with
        | d r => exact .cons r (RU.all t e)

section
variable {X : Cx} {T : Nat → Addr} {W : WX} {pos : Pos} {a b c e : Expr} {es : List Expr} {fa fb fc : EF U} {fs : EF (List U)}
theorem m_nil : MA X T W [] eNil := PA.imp pa_nil fun σ H Q ⟨M, ρ, st, rep, go⟩ => Go.now (b := ([] : List V)) rep.sto go .nil
theorem m_arg (ha : MA X T W es fs) (he : ME X T W e fa) (hs : starEach (e :: es) X.env = (false, eval e X.env) :: starEach es X.env := by rfl) : MA X T W (e :: es) (eCons fa fs) := by
  refine PA.imp (pa_cons he ha hs) fun σ H Q ⟨M, ρ, st, rep, go⟩ => ?_
  refine ⟨M, ρ, st, rep, (Go.bind (Rel := relU X.K T) rep go).mono fun x H1 ⟨M1, st1, u, e1, rep1, ru, go1⟩ => ?_⟩
  refine ⟨M1, ρ, st1, rep1, (Go.bind (Rel := relL X.K T) rep1 go1).mono fun xs H2 ⟨M2, st2, us, e2, rep2, rus, go2⟩ => ?_⟩
  exact Go.now rep2.sto go2 (.cons (RU.ext e2 ru) rus)
/-- a value of arguments -/
def eArgs (fs : EF (List U)) (k : List U → Stor → R U) : EF U := fun ρ st => (fs ρ st).bind k
def kTup : List U → Stor → R U := fun us st => match ofUs us with
  | some ds => if fits ds.length then .ok (.d (.tuple ds)) st else .bad
  | none => .bad
def kLst : List U → Stor → R U := fun us st => match ofUs us with
  | some ds => if fits ds.length then .ok (.d (.list ds)) st else .bad
  | none => .bad
/-- a list that is to change -/
def kLstN : List U → Stor → R U := fun us st => match ofUs us with
  | some ds => if fits ds.length then .ok (.loc st.length) (st ++ [.lst ds]) else .bad
  | none => .bad
theorem m_tup {x1} (h : MA X T W es fs) : ME X T W (.Tuple es x1 pos) (eArgs fs kTup) := by
  refine PE.imp (pe_tup h) fun σ H Q ⟨M, ρ, st, rep, go⟩ => ?_
  refine ⟨M, ρ, st, rep, (Go.bind (Rel := relL X.K T) rep go).mono fun xs H1 ⟨M1, st1, us, e1, rep1, rus, go1⟩ => ?_⟩
  unfold kTup at go1
  cases q : ofUs us with
  | none => rw [q] at go1; exact go1.elim
  | some ds =>
    rw [q] at go1
    have r := RU.all rus q
    by_cases hz : fits ds.length = true
    · simp only [hz, if_true] at go1
      refine ⟨by rw [r.length]; exact fits_le hz, fun p hp => ?_⟩
      exact go1 M1 _ (.ref p) (Ext.lay hp) (rep1.sto.lay hp) (.d (.tup (.inl ⟨rep1.sto.new hp, .inl upd_same⟩) (r.ext (Ext.lay hp))))
    · simp only [hz, if_false] at go1
      exact go1.elim
theorem m_lst (h : MA X T W es fs) : ME X T W (.List es pos) (eArgs fs kLst) := by
  refine PE.imp (pe_lst h) fun σ H Q ⟨M, ρ, st, rep, go⟩ => ?_
  refine ⟨M, ρ, st, rep, (Go.bind (Rel := relL X.K T) rep go).mono fun xs H1 ⟨M1, st1, us, e1, rep1, rus, go1⟩ => ?_⟩
  unfold kLst at go1
  cases q : ofUs us with
  | none => rw [q] at go1; exact go1.elim
  | some ds =>
    rw [q] at go1
    have r := RU.all rus q
    by_cases hz : fits ds.length = true
    · simp only [hz, if_true] at go1
      refine ⟨by rw [r.length]; exact fits_le hz, fun p hp => ?_⟩
      exact go1 M1 _ (.ref p) (Ext.lay hp) (rep1.sto.lay hp) (.d (.lst (rep1.sto.new hp) upd_same (r.ext (Ext.lay hp))))
    · simp only [hz, if_false] at go1
      exact go1.elim
/-- a new changing list -/
theorem newL {K T M H st W σ Q} (s : Rst K T M H st) {ds : List D} {xs : List V} (r : RDs K T M H xs ds) (go : Go K T (relU K T) W M σ H (.ok (.loc st.length) (st ++ [.lst ds])) Q) {p : Addr} (hp : H p = none) : Q (.ref p) (L2.upd H p (.lst xs)) := by
  obtain ⟨e, s'⟩ := s.push (o := .lst xs) (ob := .lst ds) hp fun e => ⟨p, xs, rfl, upd_same, r.ext e⟩
  refine go (M ++ [some p]) _ (.ref p) e s' (.loc ?_)
  rw [← s.len]
  simp
theorem m_lstN (h : MA X T W es fs) : ME X T W (.List es pos) (eArgs fs kLstN) := by
  refine PE.imp (pe_lst h) fun σ H Q ⟨M, ρ, st, rep, go⟩ => ?_
  refine ⟨M, ρ, st, rep, (Go.bind (Rel := relL X.K T) rep go).mono fun xs H1 ⟨M1, st1, us, e1, rep1, rus, go1⟩ => ?_⟩
  unfold kLstN at go1
  cases q : ofUs us with
  | none => rw [q] at go1; exact go1.elim
  | some ds =>
    rw [q] at go1
    have r := RU.all rus q
    by_cases hz : fits ds.length = true
    · simp only [hz, if_true] at go1
      exact ⟨by rw [r.length]; exact fits_le hz, fun p hp => newL rep1.sto r go1 hp⟩
    · simp only [hz, if_false] at go1
      exact go1.elim
end

/-! ### a[i] -/
def dIx : D → D → Option D
  | .list xs, .int i => atI xs i
  | .tuple xs, .int i => atI xs i
  | .scr ns, .int i => (atI ns i).map .int
  | .str s, .int i => if fits s.length then (atI s.cps.toList i).map fun c => .str ⟨#[c]⟩ else none
  | _, _ => none
theorem atI_some {α : Type} {xs : List α} {i : Int} {v : α} (h : atI xs i = some v) : ∃ j, ixN xs.length i = some j ∧ xs[j]? = some v := by
  unfold atI at h
  cases e : ixN xs.length i with
  | none => rw [e] at h; cases h
  | some j => rw [e] at h; exact ⟨j, rfl, h⟩
theorem RDs.at {K T M H} {vs : List V} {ds : List D} {i : Int} {d : D} (r : RDs K T M H vs ds) (h : atI ds i = some d) : ∃ v, atI vs i = some v ∧ RD K T M H v d := by
  obtain ⟨j, h1, h2⟩ := atI_some h
  obtain ⟨v, h3, h4⟩ := r.get h2
  exact ⟨v, by unfold atI; rw [r.length, h1]; exact h3, h4⟩
section
variable {X : Cx} {T : Nat → Addr} {W : WX} {pos : Pos} {a b c e : Expr} {es : List Expr} {fa fb fc : EF U} {fs : EF (List U)}
theorem p_ix : P2 X T (rIx X.K) dIx := by
  intro M H st x y dx dy z Q s rx ry hf o
  unfold dIx at hf
  split at hf
  · obtain ⟨a, xs, rfl, h1, r1⟩ := rx
    obtain ⟨v, h2, h3⟩ := r1.at hf
    exact .inl ⟨a, xs, _, v, rfl, ry.int, .inl (.inl h1), h2, o.now s h3⟩
  · obtain ⟨a, xs, rfl, h1, r1⟩ := rx
    obtain ⟨v, h2, h3⟩ := r1.at hf
    exact .inr (.inl ⟨a, xs, _, v, rfl, ry.int, sqt_of h1, h2, o.now s h3⟩)
  · obtain ⟨a, rfl, h1⟩ := rx
    rename_i ns i
    cases e : atI ns i with
    | none => rw [e] at hf; cases hf
    | some n =>
      rw [e] at hf
      cases hf
      refine .inl ⟨a, _, _, V.int n, rfl, ry.int, h1, ?_, o.now s (.int n)⟩
      obtain ⟨j, h2, h3⟩ := atI_some e
      unfold atI
      rw [List.length_map, h2]
      show (ns.map V.int)[j]? = _
      rw [List.getElem?_map, h3]
      rfl
  · rename_i z i
    by_cases hz : fits z.length = true
    · simp only [hz, if_true] at hf
      cases e : atI z.cps.toList i with
      | none => rw [e] at hf; cases hf
      | some n =>
        rw [e] at hf
        cases hf
        refine .inr (.inr ⟨_, _, n, rx.str.1, ry.int, fits_le hz, e, o.now s (.str ?_)⟩)
        have hk := rx.str.2
        obtain ⟨j, h2, h3⟩ := atI_some e
        have hk' : z.cps.all (· < 0x110000) = true := hk
        rw [Array.all_eq_true'] at hk'
        have hm : n ∈ z.cps := by
          have := List.mem_of_getElem? h3
          simpa using this
        have := hk' n hm
        show (#[n] : Array Nat).all (· < 0x110000) = true
        simpa using this
    · simp only [hz] at hf
      cases hf
  · cases hf
theorem m_ix (ha : ME X T W a fa) (hb : ME X T W b fb) (hs : PlainIx b := by exact fun _ _ => rfl) : ME X T W (.Subscript a b pos) (eBin (g2 dIx) fa fb) :=
  PE.imp (pe_ix ix_seq ha hb hs) fun _ _ _ h => tOp_of p_ix.op h

/-! ### a[i:j] -/
abbrev MO (X : Cx) (T : Nat → Addr) (W : WX) (e : Option Expr) (f : EF (Option Int)) : Prop := PO X e (Tg X.K T relO W f)
def eNoPart : EF (Option Int) := fun _ st => .ok none st
def ePart (f : EF U) : EF (Option Int) := fun ρ st => (f ρ st).bind fun u st1 => match u with
  | .d (.int i) => .ok (some i) st1
  | _ => .bad
theorem PO.imp {e : Option Expr} {t t' : TO} (h : PO X e t) (w : ∀ σ H Q, t' σ H Q → t σ H Q) : PO X e t' := ⟨fun pins s σ H Q I q => h.run pins s σ H Q I (w σ H Q q)⟩
theorem m_nopart : MO X T W none eNoPart := PO.imp po_none fun σ H Q ⟨M, ρ, st, rep, go⟩ => Go.now rep.sto go rfl
theorem m_part (he : ME X T W e fa) : MO X T W (some e) (ePart fa) := by
  refine PO.imp (po_some he) fun σ H Q ⟨M, ρ, st, rep, go⟩ => ?_
  refine ⟨M, ρ, st, rep, (Go.bind (Rel := relU X.K T) rep go).mono fun x H1 ⟨M1, st1, u, e1, rep1, ru, go1⟩ => ?_⟩
  cases ru with
  | loc h => exact go1.elim
  | hole h => exact go1.elim
  | @d v x r =>
    cases x with
    | int i =>
      cases r
      exact ⟨i, rfl, Go.now rep1.sto go1 rfl⟩
    | _ => exact go1.elim
/-- the cut of a list -/
def cut {α : Type} (xs : List α) (lo hi : Option Int) : List α := (xs.drop (HT.sIx xs.length 0 lo)).take (HT.sIx xs.length xs.length hi - HT.sIx xs.length 0 lo)
theorem RDs.cut {K T M H} {vs : List V} {ds : List D} (lo hi : Option Int) (r : RDs K T M H vs ds) : RDs K T M H (cutV vs lo hi) (MM.cut ds lo hi) := by
  unfold cutV MM.cut
  rw [r.length]
  exact (r.drop _).take _
def strCut (s : Str) (lo hi : Option Int) : Str := ⟨(cut s.cps.toList lo hi).toArray⟩
def dSl : D → Option Int → Option Int → Option D
  | .list xs, lo, hi => some (.list (cut xs lo hi))
  | .tuple xs, lo, hi => some (.tuple (cut xs lo hi))
  | .str s, lo, hi => if fits s.length then some (.str (strCut s lo hi)) else none
  | _, _, _ => none
end
end MM
set_option maxRecDepth 100000
/-! M4: slices, fields, statements, loops, comprehensions -/
namespace MM
open PySem PySem.Spec PyProof.Rows L2
/-! ### slices -/
theorem cut_whole {α : Type} (xs : List α) {lo hi : Option Int} (h : HT.sIx xs.length 0 lo = 0 ∧ HT.sIx xs.length xs.length hi = xs.length) : cut xs lo hi = xs := by
  unfold cut
  rw [h.1, h.2]
  simp
theorem strOk_cut {z : Str} (lo hi : Option Int) (h : PyData.strOk z = true) : PyData.strOk (cutS z lo hi) = true := by
  have hk' : z.cps.all (· < 0x110000) = true := h
  rw [Array.all_eq_true'] at hk'
  show (((z.cps.toList.drop _).take _).toArray).all (· < 0x110000) = true
  rw [Array.all_eq_true']
  intro n hn
  have h1 := List.mem_of_mem_drop (List.mem_of_mem_take (by simpa using hn))
  exact hk' n (by simpa using h1)
def gSl : U → Option Int → Option Int → Stor → R U := fun u lo hi st => match rd st u with
  | some (.list xs) => .ok (.d (.list (cut xs lo hi))) st
  | some (.tuple xs) => .ok (.d (.tuple (cut xs lo hi))) st
  | some (.str s) => if fits s.length then .ok (.d (.str (cutS s lo hi))) st else .bad
  | _ => .bad
def eSl (fa : EF U) (fl fh : EF (Option Int)) : EF U := fun ρ st => (fa ρ st).bind fun u st1 => (fl ρ st1).bind fun lo st2 => (fh ρ st2).bind fun hi st3 => gSl u lo hi st3
def rSlM (K : PySem.W.Frag) : V → Option Int → Option Int → Hp → VK → Prop := fun x lo hi H Q => rSlL K x lo hi H Q ∨ (rSlA K x lo hi H Q ∨ rSlS x lo hi H Q)
section
variable {X : Cx} {T : Nat → Addr} {W : WX} {pos p2 : Pos} {a b c e : Expr} {lo hi : Option Expr} {es : List Expr} {fa fb fc : EF U} {fl fh : EF (Option Int)}
theorem sl_M : SlR X (rSlM X.K) := sl_list.or (sl_tupA.or sl_str)
theorem sl_go {M σ H st u lo hi Q} {v : V} (s : Rst X.K T M H st) (r : RU X.K T M H v u) (go : Go X.K T (relU X.K T) W M σ H (gSl u lo hi st) Q) : rSlM X.K v lo hi H Q := by
  unfold gSl at go
  cases e : rd st u with
  | none => rw [e] at go; exact go.elim
  | some x =>
    rw [e] at go
    have rv := r.rv s e
    cases x with
    | list ds =>
      obtain ⟨a, xs, rfl, h1, r1⟩ := rv
      exact .inl ⟨a, xs, rfl, .inl (.inl h1), fun p hp => go M _ (.ref p) (Ext.lay hp) (s.lay hp) (.d (.lst (s.new hp) upd_same ((r1.cut lo hi).ext (Ext.lay hp))))⟩
    | tuple ds =>
      obtain ⟨a, xs, rfl, h1, r1⟩ := rv
      refine .inr (.inl ⟨a, xs, rfl, sqt_of h1, fun hw => ?_, fun _ p hp => go M _ (.ref p) (Ext.lay hp) (s.lay hp) (.d (.tup (.inl ⟨s.new hp, .inl upd_same⟩) ((r1.cut lo hi).ext (Ext.lay hp))))⟩)
      rw [r1.length] at hw
      have ec := cut_whole ds hw
      simp only [ec] at go
      exact Go.now s go (.d (.tup h1 r1))
    | str z =>
      obtain ⟨rfl, hk⟩ := rv.str
      by_cases hz : fits z.length = true
      · simp only [hz, if_true] at go
        exact .inr (.inr ⟨z, rfl, fits_le hz, Go.now s go (.d (.str (strOk_cut lo hi hk)))⟩)
      · simp only [hz] at go
        exact go.elim
    | _ => exact go.elim
theorem m_sl (he : ME X T W e fa) (hl : MO X T W lo fl) (hu : MO X T W hi fh) : ME X T W (.Subscript e (.Slice lo hi none p2) pos) (eSl fa fl fh) := by
  refine PE.imp (pe_slice sl_M he hl hu) fun σ H Q ⟨M, ρ, st, rep, go⟩ => ?_
  refine ⟨M, ρ, st, rep, (Go.bind (Rel := relU X.K T) rep go).mono fun x H1 ⟨M1, st1, u, e1, rep1, ru, go1⟩ => ?_⟩
  refine ⟨M1, ρ, st1, rep1, (Go.bind (Rel := relO) rep1 go1).mono fun l H2 ⟨M2, st2, l', e2, rep2, rl, go2⟩ => ?_⟩
  have rl' : l = l' := rl
  subst rl'
  refine ⟨M2, ρ, st2, rep2, (Go.bind (Rel := relO) rep2 go2).mono fun h H3 ⟨M3, st3, h', e3, rep3, rh, go3⟩ => ?_⟩
  have rh' : h = h' := rh
  subst rh'
  exact sl_go rep3.sto (RU.ext e3 (RU.ext e2 ru)) go3
end

/-! ### fields -/
def gFld (c : Nat) (f : Str) : U → Stor → R U := fun u st => match rd st u with
  | some (.ins c' fs) => if c' == c then (match fs.lookup f with
    | some d => .ok (.d d) st
    | none => .bad) else .bad
  | _ => .bad
def putD (f : Str) (v : D) : List (Str × D) → List (Str × D)
  | [] => [(f, v)]
  | (g, w) :: r => if g = f then (g, v) :: r else (g, w) :: putD f v r
theorem RFs.lookup {K T M H f d} : ∀ {fv : List (Str × V)} {fs : List (Str × D)}, RFs K T M H fv fs → fs.lookup f = some d → ∃ v, fv.lookup f = some v ∧ RD K T M H v d
  | _, _, .nil, h => by cases h
  | _, _, .cons (n := n) r t, h => by
    rw [List.lookup_cons] at h ⊢
    cases e : f == n with
    | true => rw [e] at h; cases h; exact ⟨_, rfl, r⟩
    | false => rw [e] at h; exact RFs.lookup t h
theorem RFs.length {K T M H} : ∀ {fv : List (Str × V)} {fs : List (Str × D)}, RFs K T M H fv fs → fv.length = fs.length
  | _, _, .nil => rfl
  | _, _, .cons _ t => by rw [List.length_cons, List.length_cons, RFs.length t]
theorem RFs.lookup_none {K T M H f} : ∀ {fv : List (Str × V)} {fs : List (Str × D)}, RFs K T M H fv fs → fs.lookup f = none → fv.lookup f = none
  | _, _, .nil, _ => rfl
  | _, _, .cons (n := n) r t, h => by
    rw [List.lookup_cons] at h ⊢
    cases e : f == n with
    | true => rw [e] at h; cases h
    | false => rw [e] at h; exact RFs.lookup_none t h
theorem RFs.put {K T M H f v d} (h : RD K T M H v d) : ∀ {fv : List (Str × V)} {fs : List (Str × D)}, RFs K T M H fv fs → RFs K T M H (putF f v fv) (putD f d fs)
  | _, _, .nil => .cons h .nil
  | _, _, .cons (n := n) (v := w) (d := x) (fv := fv) (fs := fs) r t => by
    show RFs K T M H (if n = f then (n, v) :: fv else (n, w) :: putF f v fv) (if n = f then (n, d) :: fs else (n, x) :: putD f d fs)
    by_cases e : n = f
    · rw [if_pos e, if_pos e]
      exact .cons h t
    · rw [if_neg e, if_neg e]
      exact .cons r (RFs.put h t)
section
variable {X : Cx} {T : Nat → Addr} {W : WX} {pos p2 : Pos} {e : Expr} {f : Str} {c : Nat} {fa : EF U}
theorem m_fld (hc : Cls X.K (T c)) (hn : NoAttr X.K (T c) f) (he : ME X T W e fa) (hb : attributeBase e f X.env (eval e X.env) = eval e X.env := by rfl) : ME X T W (.Attribute e f pos) (eUn (gFld c f) fa) := by
  refine PE.imp (pe_fld he hb) fun σ H Q ⟨M, ρ, st, rep, go⟩ => ?_
  refine ⟨M, ρ, st, rep, (Go.bind (Rel := relU X.K T) rep go).mono fun x H1 ⟨M1, st1, u, e1, rep1, ru, go1⟩ => ?_⟩
  unfold gFld at go1
  cases e2 : rd st1 u with
  | none => rw [e2] at go1; exact go1.elim
  | some y =>
    rw [e2] at go1
    have rv := ru.rv rep1.sto e2
    cases y with
    | ins c' fs =>
      by_cases h : (c' == c) = true
      · simp only [h, if_true] at go1
        have ec : c' = c := by simpa using h
        subst ec
        obtain ⟨a, dx, fv, rfl, ha, rf⟩ := rv
        cases e3 : fs.lookup f with
        | none => rw [e3] at go1; exact go1.elim
        | some d =>
          rw [e3] at go1
          obtain ⟨v, hv, rd'⟩ := rf.lookup e3
          exact ⟨a, _, dx, fv, v, rfl, ha, hc, hn, hv, Go.now rep1.sto go1 (.d rd')⟩
      · simp only [h] at go1
        exact go1.elim
    | _ => exact go1.elim
end

/-! ### statements -/
section
variable (K : PySem.W.Frag) (T : Nat → Addr)
def GoS (W : WX) (M : List (Option Addr)) (H : Hp) (r : RS) (D : Ends) : Prop := match r with
  | .nx ρ' st' => ∀ M' H' σ', Ext M M' H H' → Rep K T M' H' σ' ρ' st' → D.nx σ' H'
  | .bk ρ' st' => ∀ M' H' σ', Ext M M' H H' → Rep K T M' H' σ' ρ' st' → D.bk σ' H'
  | .ct ρ' st' => ∀ M' H' σ', Ext M M' H H' → Rep K T M' H' σ' ρ' st' → D.ct σ' H'
  | .rt u st' => ∀ M' H' v, Ext M M' H H' → Rst K T M' H' st' → RU K T M' H' v u → D.rt v H'
  | .exc c fs ρ' st' => ∀ M' H' σ' d fv, Ext M M' H H' → Rep K T M' H' σ' ρ' st' → H' d = some (.xd fv) → RFs K T M' H' fv fs → some d ∉ M' → W (.ref (T c)) (some d) σ' H'
  | .bad => False
def TSg (W : WX) (g : SF) : TS := fun D σ H => ∃ M ρ st, Rep K T M H σ ρ st ∧ GoS K T W M H (g ρ st) D
end
/-- an expression within a statement -/
def R.stm {α : Type} (r : R α) (ρ : Slots) (k : α → Stor → RS) : RS := match r with
  | .ok a st => k a st
  | .exc c fs st => .exc c fs ρ st
  | .bad => .bad
@[simp] theorem R.stm_ok {α : Type} (a : α) (st : Stor) (ρ : Slots) (k : α → Stor → RS) : (R.ok a st).stm ρ k = k a st := rfl
@[simp] theorem R.stm_exc {α : Type} (c fs st) (ρ : Slots) (k : α → Stor → RS) : (R.exc c fs st : R α).stm ρ k = .exc c fs ρ st := rfl
@[simp] theorem R.stm_bad {α : Type} (ρ : Slots) (k : α → Stor → RS) : (R.bad : R α).stm ρ k = .bad := rfl
abbrev MS (X : Cx) (T : Nat → Addr) (W : WX) (s : Stmt) (g : SF) : Prop := PS X s (TSg X.K T W g)
abbrev MSs (X : Cx) (T : Nat → Addr) (W : WX) (ss : List Stmt) (g : SF) : Prop := PSs X ss (TSg X.K T W g)
theorem PS.imp {X : Cx} {e : Stmt} {t t' : TS} (h : PS X e t) (w : ∀ D σ H, t' D σ H → t D σ H) : PS X e t' := ⟨fun pins s σ H D I q => h.run pins s σ H D I (w D σ H q)⟩
theorem PSs.imp {X : Cx} {e : List Stmt} {t t' : TS} (h : PSs X e t) (w : ∀ D σ H, t' D σ H → t D σ H) : PSs X e t' := ⟨fun pins s σ H D I q => h.run pins s σ H D I (w D σ H q)⟩
section
variable {K : PySem.W.Frag} {T : Nat → Addr} {α β : Type} {Rel : RelT α β} {W : WX} {M M1 : List (Option Addr)} {σ : L2.St} {ρ : Slots} {H H1 : Hp} {st : Stor}
theorem GoS.base {r : RS} {D : Ends} (h : GoS K T W M H r D) (e : Ext M M1 H H1) : GoS K T W M1 H1 r D := by
  cases r with
  | nx ρ' st' => exact fun M' H' σ' e' => h M' H' σ' (e.trans e')
  | bk ρ' st' => exact fun M' H' σ' e' => h M' H' σ' (e.trans e')
  | ct ρ' st' => exact fun M' H' σ' e' => h M' H' σ' (e.trans e')
  | rt u st' => exact fun M' H' v e' => h M' H' v (e.trans e')
  | exc c fs ρ' st' => exact fun M' H' σ' d fv e' => h M' H' σ' d fv (e.trans e')
  | bad => exact h
theorem GoS.bind {r : R α} {k : α → Stor → RS} {D : Ends} (rep : Rep K T M H σ ρ st) (h : GoS K T W M H (r.stm ρ k) D) :
    Go K T Rel W M σ H r (fun b H1 => ∃ M1 st1 a, Ext M M1 H H1 ∧ Rep K T M1 H1 σ ρ st1 ∧ Rel M1 H1 b a ∧ GoS K T W M1 H1 (k a st1) D) := by
  cases r with
  | ok a st' => exact fun M' H' b e s r => ⟨M', st', a, e, rep.ext e s, r, GoS.base h e⟩
  | exc c fs st' => exact fun M' H' d fv e s => h M' H' σ d fv e (rep.ext e s)
  | bad => exact h
theorem GoS.then {f : EF α} {k : α → Stor → RS} {D : Ends} (rep : Rep K T M H σ ρ st) (h : GoS K T W M H ((f ρ st).stm ρ k) D) :
    Tg K T Rel W f σ H (fun b H1 => ∃ M1 st1 a, Ext M M1 H H1 ∧ Rep K T M1 H1 σ ρ st1 ∧ Rel M1 H1 b a ∧ GoS K T W M1 H1 (k a st1) D) := ⟨M, ρ, st, rep, GoS.bind rep h⟩
end
def sNil : SF := fun ρ st => .nx ρ st
def RS.andThen (r : RS) (k : Slots → Stor → RS) : RS := match r with
  | .nx ρ st => k ρ st
  | r => r
@[simp] theorem RS.andThen_nx (ρ st k) : (RS.nx ρ st).andThen k = k ρ st := rfl
@[simp] theorem RS.andThen_rt (u st k) : (RS.rt u st).andThen k = .rt u st := rfl
@[simp] theorem RS.andThen_bk (ρ st k) : (RS.bk ρ st).andThen k = .bk ρ st := rfl
@[simp] theorem RS.andThen_ct (ρ st k) : (RS.ct ρ st).andThen k = .ct ρ st := rfl
@[simp] theorem RS.andThen_exc (c fs ρ st k) : (RS.exc c fs ρ st).andThen k = .exc c fs ρ st := rfl
@[simp] theorem RS.andThen_bad (k) : RS.bad.andThen k = .bad := rfl
def sSeq (g1 g2 : SF) : SF := fun ρ st => (g1 ρ st).andThen g2
section
variable {X : Cx} {T : Nat → Addr} {W : WX} {pos pos' : Pos} {s : Stmt} {ss as bs : List Stmt} {a b c e o value : Expr} {g g1 g2 : SF} {fa fb fo fv : EF U} {gc : EF Bool}
theorem ms_nil : MSs X T W [] sNil := PSs.imp pss_nil fun D σ H ⟨M, ρ, st, rep, go⟩ => go M H σ Ext.refl rep
theorem ms_one (h : MS X T W s g) : MSs X T W [s] g := pss_one h
theorem seq_of {g1 g2 : SF} {D : Ends} {σ : L2.St} {H : Hp} {K : PySem.W.Frag} (h : TSg K T W (sSeq g1 g2) D σ H) : tSeq (TSg K T W g1) (TSg K T W g2) D σ H := by
  obtain ⟨M, ρ, st, rep, go⟩ := h
  refine ⟨M, ρ, st, rep, ?_⟩
  have go' : GoS K T W M H ((g1 ρ st).andThen g2) D := go
  cases e : g1 ρ st with
  | nx ρ' st' => rw [e] at go'; exact fun M' H' σ' e' rep' => ⟨M', ρ', st', rep', GoS.base go' e'⟩
  | rt u st' => rw [e] at go'; exact go'
  | bk ρ' st' => rw [e] at go'; exact go'
  | ct ρ' st' => rw [e] at go'; exact go'
  | exc c fs ρ' st' => rw [e] at go'; exact go'
  | bad => rw [e] at go'; exact go'
theorem ms_cons (h1 : MS X T W s g1) (h2 : MSs X T W ss g2) : MSs X T W (s :: ss) (sSeq g1 g2) := PSs.imp (pss_cons h1 h2) fun _ _ _ h => seq_of h
theorem ms_pass : MS X T W (.Pass pos) sNil := PS.imp ps_pass fun D σ H ⟨M, ρ, st, rep, go⟩ => go M H σ Ext.refl rep
def sBk : SF := fun ρ st => .bk ρ st
def sCt : SF := fun ρ st => .ct ρ st
theorem ms_break : MS X T W (.Break pos) sBk := PS.imp ps_break fun D σ H ⟨M, ρ, st, rep, go⟩ => go M H σ Ext.refl rep
theorem ms_cont : MS X T W (.Continue pos) sCt := PS.imp ps_continue fun D σ H ⟨M, ρ, st, rep, go⟩ => go M H σ Ext.refl rep
def sEx (f : EF U) : SF := fun ρ st => (f ρ st).stm ρ fun _ st1 => .nx ρ st1
theorem ms_ex (he : ME X T W e fa) (hs : swapsWith e none pos.line X.env = pure false := by rfl) : MS X T W (.Expr e pos) (sEx fa) := by
  refine PS.imp (ps_expr he hs) fun D σ H ⟨M, ρ, st, rep, go⟩ => ?_
  exact ⟨M, ρ, st, rep, (GoS.bind (Rel := relU X.K T) rep go).mono fun v H1 ⟨M1, st1, u, e1, rep1, ru, go1⟩ => go1 M1 H1 σ Ext.refl rep1⟩
def sRet (f : EF U) : SF := fun ρ st => (f ρ st).stm ρ fun u st1 => .rt u st1
theorem ms_ret (he : ME X T W e fa) : MS X T W (.Return (some e) pos) (sRet fa) := by
  refine PS.imp (ps_ret he) fun D σ H ⟨M, ρ, st, rep, go⟩ => ?_
  exact ⟨M, ρ, st, rep, (GoS.bind (Rel := relU X.K T) rep go).mono fun v H1 ⟨M1, st1, u, e1, rep1, ru, go1⟩ => go1 M1 H1 v Ext.refl rep1.sto ru⟩
def sRetN : SF := fun _ st => .rt (.d .none) st
theorem ms_retN : MS X T W (.Return none pos) sRetN := PS.imp ps_retN fun D σ H ⟨M, ρ, st, rep, go⟩ => go M H _ Ext.refl rep.sto (.d .non)
def sIf (c : EF Bool) (g1 g2 : SF) : SF := fun ρ st => (c ρ st).stm ρ fun b st1 => if b = true then g1 ρ st1 else g2 ρ st1
theorem ms_if (hc : MT X T W c gc) (ha : MSs X T W as g1) (hb : MSs X T W bs g2) : MS X T W (.If c as bs pos) (sIf gc g1 g2) := by
  refine PS.imp (ps_if hc ha hb) fun D σ H ⟨M, ρ, st, rep, go⟩ => ?_
  refine ⟨M, ρ, st, rep, (GoS.bind (Rel := relB) rep go).mono fun k H1 ⟨M1, st1, k', e1, rep1, rk, go1⟩ => ?_⟩
  have rk' : k = k' := rk
  subst rk'
  cases k with
  | true => exact ⟨M1, ρ, st1, rep1, go1⟩
  | false => exact ⟨M1, ρ, st1, rep1, go1⟩
/-- name = e -/
def sSet (i : Nat) (f : EF U) : SF := fun ρ st => (f ρ st).stm ρ fun u st1 => .nx (ρ.set i (some u)) st1
theorem ms_set {i : Nat} {x : Str} (hN : X.N.Nodup) (hi : X.N[i]? = some x) (hx : Loc X.env.scope x) (he : ME X T W e fa) (hs : swapsWith e (some (.Name x pos')) pos.line X.env = pure false := by rfl) (hf : X.fn x = true ∨ X.env.scope.names.lookup x = some .local := by first | exact .inl rfl | exact .inr rfl | assumption) :
    MS X T W (.Assign [.Name x pos'] e pos) (sSet i fa) := by
  refine PS.imp (ps_set hN hi hx he hs hf) fun D σ H ⟨M, ρ, st, rep, go⟩ => ?_
  exact ⟨M, ρ, st, rep, (GoS.bind (Rel := relU X.K T) rep go).mono fun v H1 ⟨M1, st1, u, e1, rep1, ru, go1⟩ => go1 M1 H1 _ Ext.refl (rep1.set i ru)⟩
/-- e.f = value, of a changing instance -/
def sFldM (c : Nat) (f : Str) (fo fv : EF U) : SF := fun ρ st => (fv ρ st).stm ρ fun w st1 => (fo ρ st1).stm ρ fun u st2 => match u, w with
  | .loc i, .d x => match st2[i]? with
    | some (.ins c' fs) => if c' == c && decide (fs.length < 1000) then .nx ρ (st2.set i (.ins c (putD f x fs))) else .bad
    | _ => .bad
  | _, _ => .bad
theorem ms_fld {c : Nat} {f : Str} (hc : Cls X.K (T c)) (hn : NoAttr X.K (T c) f) (ho : ME X T W o fo) (hv : ME X T W value fv) (hs : swapsWith value (some (.Attribute o f pos')) pos.line X.env = pure false := by rfl) : MS X T W (.Assign [.Attribute o f pos'] value pos) (sFldM c f fo fv) := by
  refine PS.imp (ps_fld ho hv hs) fun D σ H ⟨M, ρ, st, rep, go⟩ => ?_
  refine ⟨M, ρ, st, rep, (GoS.bind (Rel := relU X.K T) rep go).mono fun y H1 ⟨M1, st1, w, e1, rep1, rw, go1⟩ => ?_⟩
  refine ⟨M1, ρ, st1, rep1, (GoS.bind (Rel := relU X.K T) rep1 go1).mono fun x H2 ⟨M2, st2, u, e2, rep2, ru, go2⟩ => ?_⟩
  cases u with
  | d z => exact go2.elim
  | loc i =>
    cases w with
    | loc j => exact go2.elim
    | d z =>
      simp only at go2
      cases e3 : st2[i]? with
      | none => rw [e3] at go2; exact go2.elim
      | some ob =>
        rw [e3] at go2
        cases ob with
        | ins c' fs =>
          simp only at go2
          by_cases h : (c' == c && decide (fs.length < 1000)) = true
          · simp only [h, if_true] at go2
            rw [Bool.and_eq_true] at h
            have ec : c' = c := by simpa using h.1
            subst ec
            obtain ⟨m, hm, a, dx, fv, rfl, ha, rf⟩ := rep2.sto.get e3
            cases ru with
            | hole hh => rw [hh] at hm; cases hm
            | @loc a' _ hh =>
              rw [hh] at hm
              cases hm
              refine ⟨_, _, dx, fv, rfl, ha, hc, hn, by rw [rf.length]; exact of_decide_eq_true h.2, ?_⟩
              obtain ⟨e4, s4⟩ := rep2.sto.wr (o := .ins (T c') dx (putF f y fv)) (ob := .ins c' (putD f z fs)) hh fun e4 => ⟨_, dx, _, rfl, upd_same, RFs.ext e4 (rf.put (by cases RU.ext e2 rw with | d r => exact r))⟩
              exact go2 M2 _ σ e4 (rep2.ext e4 s4)
          · simp only [h] at go2
            exact go2.elim
        | _ => exact go2.elim
end
end MM
set_option maxRecDepth 100000
/-! M5: targets, loops, comprehensions -/
namespace MM
open PySem PySem.Spec PyProof.Rows L2
/-! ### targets -/
abbrev TgF := D → Slots → Option Slots
def tName (i : Nat) : TgF := fun d ρ => some (ρ.set i (some (.d d)))
def tgs : List TgF → List D → Slots → Option Slots
  | [], [], ρ => some ρ
  | h :: hs, d :: ds, ρ => (h d ρ).bind fun ρ1 => tgs hs ds ρ1
  | _, _, _ => none
def tTupT (hs : List TgF) : TgF := fun d ρ => match d with
  | .tuple ds => tgs hs ds ρ
  | _ => none
/-- only the slots at vs may differ -/
def But (vs : List Nat) (σ σ' : L2.St) : Prop := σ'.length = σ.length ∧ ∀ j : Nat, j ∉ vs → σ'[j]? = σ[j]?
theorem But.refl {vs σ} : But vs σ σ := ⟨rfl, fun _ _ => rfl⟩
theorem But.trans {vs σ σ1 σ2} (a : But vs σ σ1) (b : But vs σ1 σ2) : But vs σ σ2 := ⟨b.1.trans a.1, fun j h => (b.2 j h).trans (a.2 j h)⟩
theorem But.set {vs : List Nat} {σ : L2.St} {i : Nat} {v : Option V} (h : i ∈ vs) : But vs σ (σ.set i v) := ⟨by rw [List.length_set], fun j hj => by
  have ne : i ≠ j := fun e => hj (by rw [← e]; exact h)
  rw [List.getElem?_set_ne ne]⟩
theorem wipe_get {σ : L2.St} : ∀ (vs : List Nat) (j : Nat), (wipe σ vs)[j]? = if j ∈ vs ∧ j < σ.length then some none else σ[j]?
  | [], j => by simp [wipe]
  | v :: vs, j => by
    unfold wipe
    rw [List.getElem?_set]
    by_cases e : v = j
    · subst e
      rw [if_pos rfl, wipe_length]
      by_cases hl : v < σ.length
      · rw [if_pos hl, if_pos ⟨List.mem_cons_self, hl⟩]
      · rw [if_neg hl, if_neg (fun z => hl z.2)]
        exact (List.getElem?_eq_none (by omega)).symm
    · rw [if_neg e, wipe_get vs j]
      by_cases hm : j ∈ vs ∧ j < σ.length
      · rw [if_pos hm, if_pos ⟨List.mem_cons_of_mem _ hm.1, hm.2⟩]
      · rw [if_neg hm, if_neg (fun z => hm ⟨(List.mem_cons.mp z.1).resolve_left (fun q => e q.symm), z.2⟩)]
theorem But.wipe {vs : List Nat} {σ σ' : L2.St} (b : But vs σ σ') : wipe σ' vs = wipe σ vs := by
  apply List.ext_getElem?
  intro j
  rw [wipe_get, wipe_get, b.1]
  by_cases h : j ∈ vs ∧ j < σ.length
  · rw [if_pos h, if_pos h]
  · rw [if_neg h, if_neg h]
    by_cases hm : j ∈ vs
    · have hl : ¬ j < σ.length := fun z => h ⟨hm, z⟩
      rw [List.getElem?_eq_none (by rw [b.1]; omega), List.getElem?_eq_none (by omega)]
    · exact b.2 j hm
theorem wipe_wipe {σ : L2.St} {vs : List Nat} : wipe (wipe σ vs) vs = wipe σ vs := But.wipe ⟨wipe_length σ vs, fun j hj => by rw [wipe_get, if_neg fun z => hj z.1]⟩
def mgT (K : PySem.W.Frag) (T : Nat → Addr) (vs : List Nat) (h : TgF) : TG := fun x σ H Q => ∃ M ρ st d ρ', Rep K T M H σ ρ st ∧ RD K T M H x d ∧ h d ρ = some ρ' ∧ ∀ σ', But vs σ σ' → Rep K T M H σ' ρ' st → Q σ' H
abbrev MG (X : Cx) (T : Nat → Addr) (vs : List Nat) (tg : Expr) (h : TgF) : Prop := PG X tg (mgT X.K T vs h)
def MGs (X : Cx) (T : Nat → Addr) (vs : List Nat) (tg : List Expr) (hs : List TgF) : Prop := PGs X tg fun xs σ H Q => ∃ M ρ st ds ρ', Rep X.K T M H σ ρ st ∧ RDs X.K T M H xs ds ∧ tgs hs ds ρ = some ρ' ∧ ∀ σ', But vs σ σ' → Rep X.K T M H σ' ρ' st → Q σ' H
theorem PG.imp {X : Cx} {e : Expr} {t t' : TG} (h : PG X e t) (w : ∀ v σ H Q, t' v σ H Q → t v σ H Q) : PG X e t' := ⟨fun pins s σ H v u Q I r q => h.run pins s σ H v u Q I r (w v σ H Q q)⟩
theorem PGs.imp {X : Cx} {e : List Expr} {t t' : TGs} (h : PGs X e t) (w : ∀ v σ H Q, t' v σ H Q → t v σ H Q) : PGs X e t' := ⟨fun pins s σ H v u Q I r q => h.run pins s σ H v u Q I r (w v σ H Q q)⟩
section
variable {X : Cx} {T : Nat → Addr} {vs : List Nat} {pos : Pos} {e : Expr} {es : List Expr} {h : TgF} {hs : List TgF}
theorem mg_name {i : Nat} {x : Str} (hN : X.N.Nodup) (hi : X.N[i]? = some x) (hx : Loc X.env.scope x) (hv : i ∈ vs := by decide) (hf : X.fn x = true ∨ X.env.scope.names.lookup x = some .local := by first | exact .inl rfl | exact .inr rfl | assumption) : MG X T vs (.Name x pos) (tName i) :=
  PG.imp (pg_name hN hi hx hf) fun v σ H Q ⟨M, ρ, st, d, ρ', rep, r, e, k⟩ => by
    cases e
    exact k _ (But.set hv) (rep.set i (.d r))
theorem mgs_nil : MGs X T vs [] [] := PGs.imp pgs_nil fun v σ H Q ⟨M, ρ, st, ds, ρ', rep, r, e, k⟩ => by
  cases r with
  | nil => cases e; exact ⟨rfl, k _ But.refl rep⟩
  | cons _ _ => cases e
theorem mgs_cons (h1 : MG X T vs e h) (h2 : MGs X T vs es hs) (ha : (assignEach (e :: es) X.env).map (·.2) = assign e X.env :: (assignEach es X.env).map (·.2) := by rfl) : MGs X T vs (e :: es) (h :: hs) :=
  PGs.imp (pgs_cons h1 h2 ha) fun v σ H Q ⟨M, ρ, st, ds, ρ', rep, r, e, k⟩ => by
    cases r with
    | nil => cases e
    | @cons x xs d ds r rr =>
      have e' : (h d ρ).bind (fun ρ1 => tgs hs ds ρ1) = some ρ' := e
      cases e1 : h d ρ with
      | none => rw [e1] at e'; cases e'
      | some ρ1 =>
        rw [e1] at e'
        exact ⟨x, xs, rfl, M, ρ, st, d, ρ1, rep, r, e1, fun σ1 b1 rep1 => ⟨M, ρ1, st, ds, ρ', rep1, rr, e', fun σ2 b2 rep2 => k σ2 (b1.trans b2) rep2⟩⟩
theorem tgs_len : ∀ {hs : List TgF} {ds : List D} {ρ ρ' : Slots}, tgs hs ds ρ = some ρ' → hs.length = ds.length
  | [], [], _, _, _ => rfl
  | h :: hs, d :: ds, ρ, ρ', e => by
    have e' : (h d ρ).bind (fun ρ1 => tgs hs ds ρ1) = some ρ' := e
    cases e1 : h d ρ with
    | none => rw [e1] at e'; cases e'
    | some ρ1 =>
      rw [e1] at e'
      rw [List.length_cons, List.length_cons, tgs_len e']
  | [], _ :: _, _, _, e => by cases e
  | _ :: _, [], _, _, e => by cases e
theorem mg_tup {k n : Nat} (hc : X.calm = true) (h : MGs X T vs es hs) (hl : hs.length = n := by rfl) (hn : (assignEach es X.env).length = n := by rfl) (hst : (assignEach es X.env).findIdx? (·.1) = none := by rfl) : MG X T vs (.Tuple es k pos) (tTupT hs) :=
  PG.imp (pg_tup hc h hn hst) fun v σ H Q ⟨M, ρ, st, d, ρ', rep, r, e, k⟩ => by
    cases d with
    | tuple ds =>
      cases r with
      | @tup a xs _ h1 r1 =>
        have e' : tgs hs ds ρ = some ρ' := e
        exact ⟨a, xs, rfl, sqt_of h1, by rw [r1.length, ← tgs_len e', hl], M, ρ, st, ds, ρ', rep, r1, e', k⟩
    | _ => cases e
end
/-- tg = e -/
def sAsg (h : TgF) (f : EF U) : SF := fun ρ st => (f ρ st).stm ρ fun u st1 => match u with
  | .d d => match h d ρ with
    | some ρ' => .nx ρ' st1
    | none => .bad
  | .loc _ => .bad
def setU : List Nat → List U → Slots → Option Slots
  | [], [], ρ => some ρ
  | i :: is, u :: us, ρ => setU is us (ρ.set i (some u))
  | _, _, _ => none
/-- a, b, .. = x, y, .. -/
def sPar (is : List Nat) (fs : EF (List U)) : SF := fun ρ st => (fs ρ st).stm ρ fun us st1 => match setU is us ρ with
  | some ρ' => .nx ρ' st1
  | none => .bad
section
variable {X : Cx} {T : Nat → Addr} {W : WX} {pos pt : Pos} {vs is : List Nat} {tg a b c e : Expr} {es ts : List Expr} {h : TgF} {fa : EF U} {fs : EF (List U)}
theorem ms_asg (he : ME X T W e fa) (hg : MG X T vs tg h) (hs : swapsWithSole [tg] e pos.line X.env = pure false := by rfl) (hw : swappedStores [tg] e X.env = pure none := by rfl)
    (h1 : (assignEach [tg] X.env).map (·.2) = [assign tg X.env] := by rfl) : MS X T W (.Assign [tg] e pos) (sAsg h fa) := by
  refine PS.imp (ps_asg he hg hs hw h1) fun D σ H ⟨M, ρ, st, rep, go⟩ => ?_
  refine ⟨M, ρ, st, rep, (GoS.bind (Rel := relU X.K T) rep go).mono fun x H1 ⟨M1, st1, u, e1, rep1, ru, go1⟩ => ?_⟩
  cases u with
  | loc i => exact go1.elim
  | d d =>
    have go1' : GoS X.K T W M1 H1 (match h d ρ with
      | some ρ' => .nx ρ' st1
      | none => .bad) D := go1
    cases e2 : h d ρ with
    | none => rw [e2] at go1'; exact go1'.elim
    | some ρ' =>
      rw [e2] at go1'
      cases ru with
      | d r => exact ⟨M1, ρ, st1, d, ρ', rep1, r, e2, fun σ' _ rep2 => go1' M1 H1 σ' Ext.refl rep2⟩
/-- several names at once, out of a new tuple -/
def MGu (X : Cx) (T : Nat → Addr) (tg : List Expr) (is : List Nat) : Prop := PGs X tg fun xs σ H Q => ∃ M ρ st us ρ', Rep X.K T M H σ ρ st ∧ Paired (RU X.K T M H) xs us ∧ setU is us ρ = some ρ' ∧ ∀ σ', Rep X.K T M H σ' ρ' st → Q σ' H
theorem mgu_nil : MGu X T [] [] := PGs.imp pgs_nil fun v σ H Q ⟨M, ρ, st, ds, ρ', rep, r, e, k⟩ => by
  cases r with
  | nil => cases e; exact ⟨rfl, k _ rep⟩
  | cons _ _ => cases e
theorem mgu_cons {i : Nat} {x : Str} (hN : X.N.Nodup) (hi : X.N[i]? = some x) (hx : Loc X.env.scope x) (h2 : MGu X T es is) (ha : (assignEach (.Name x pos :: es) X.env).map (·.2) = assign (.Name x pos) X.env :: (assignEach es X.env).map (·.2) := by rfl)
    (hf : X.fn x = true ∨ X.env.scope.names.lookup x = some .local := by first | exact .inl rfl | exact .inr rfl | assumption) : MGu X T (.Name x pos :: es) (i :: is) :=
  PGs.imp (pgs_cons (pg_name hN hi hx hf) h2 ha) fun v σ H Q ⟨M, ρ, st, ds, ρ', rep, r, e, k⟩ => by
    cases r with
    | nil => cases e
    | cons r rr => exact ⟨_, _, rfl, M, ρ.set i (some _), st, _, ρ', rep.set i r, rr, e, k⟩
theorem setU_len : ∀ {is : List Nat} {us : List U} {ρ ρ' : Slots}, setU is us ρ = some ρ' → is.length = us.length
  | [], [], _, _, _ => rfl
  | _ :: is, _ :: us, _, _, e => by
    have := setU_len (is := is) (us := us) e
    simp [this]
  | [], _ :: _, _, _, e => by cases e
  | _ :: _, [], _, _, e => by cases e
theorem ms_parN {k x1 n : Nat} {pt' : Pos} (hc : X.calm = true) (ha : MA X T W es fs) (hg : MGu X T ts is) (hl : is.length = n := by rfl) (hz : n ≤ 1000 := by decide) (hn : (assignEach ts X.env).length = n := by rfl) (hst : (assignEach ts X.env).findIdx? (·.1) = none := by rfl)
    (hs : swapsWithSole [.Tuple ts k pt] (.Tuple es x1 pt') pos.line X.env = pure false := by rfl) (hw : swappedStores [.Tuple ts k pt] (.Tuple es x1 pt') X.env = pure none := by rfl)
    (h1 : (assignEach [.Tuple ts k pt] X.env).map (·.2) = [assign (.Tuple ts k pt) X.env] := by rfl) : MS X T W (.Assign [.Tuple ts k pt] (.Tuple es x1 pt') pos) (sPar is fs) := by
  refine PS.imp (ps_asg (pe_tup ha) (pg_tup hc hg hn hst) hs hw h1) fun D σ H ⟨M, ρ, st, rep, go⟩ => ?_
  refine ⟨M, ρ, st, rep, (GoS.bind (Rel := relL X.K T) rep go).mono fun xs H1 ⟨M1, st1, us, e1, rep1, rus, go1⟩ => ?_⟩
  cases e2 : setU is us ρ with
  | none => rw [e2] at go1; exact go1.elim
  | some ρ' =>
    rw [e2] at go1
    have hlen : xs.length = n := by rw [Paired.len rus, ← setU_len e2, hl]
    refine ⟨by rw [hlen]; exact Nat.le_trans hz (by decide), fun p hp => ?_⟩
    have ex : Ext M1 M1 H1 (L2.upd H1 p (.tup xs)) := Ext.lay hp
    exact ⟨p, xs, rfl, .inl (.inl upd_same), hlen, M1, ρ, st1, us, ρ', rep1.ext ex (rep1.sto.lay hp), L2.Paired.mapP rus (fun _ _ r => r.ext ex), e2, fun σ' rep2 => go1 M1 _ σ' ex rep2⟩
theorem ms_par2 {i j : Nat} {x y : Str} {px py : Pos} {kt k2 pt2} (hc : X.calm = true) (hN : X.N.Nodup) (hi : X.N[i]? = some x) (hj : X.N[j]? = some y) (hij : i ≠ j)
    (hx : X.env.scope.names.lookup x = some .local) (hy : X.env.scope.names.lookup y = some .local) (ha : MA X T W [a, b] fs)
    (hw : swappedStores [.Tuple [.Name x px, .Name y py] kt pt] (.Tuple [a, b] k2 pt2) X.env = pure (some [x, y]) := by rfl)
    (hs : swapsWithSole [.Tuple [.Name x px, .Name y py] kt pt] (.Tuple [a, b] k2 pt2) pos.line X.env = pure false := by rfl) :
    MS X T W (.Assign [.Tuple [.Name x px, .Name y py] kt pt] (.Tuple [a, b] k2 pt2) pos) (sPar [i, j] fs) := by
  refine PS.imp (ps_par hc hN hi hj hij hx hy ha hw hs) fun D σ H ⟨M, ρ, st, rep, go⟩ => ?_
  refine ⟨M, ρ, st, rep, (GoS.bind (Rel := relL X.K T) rep go).mono fun xs H1 ⟨M1, st1, us, e1, rep1, rus, go1⟩ => ?_⟩
  cases e2 : setU [i, j] us ρ with
  | none => rw [e2] at go1; exact go1.elim
  | some ρ' =>
    rw [e2] at go1
    cases rus with
    | nil => cases e2
    | cons r rr =>
      cases rr with
      | nil => cases e2
      | cons r' rr =>
        cases rr with
        | cons _ _ => cases e2
        | nil =>
          cases e2
          exact ⟨_, _, rfl, go1 M1 H1 _ Ext.refl ((rep1.set i r).set j r')⟩
theorem ms_par3 {i j l : Nat} {x y z : Str} {px py pz : Pos} {kt k2 pt2} (hc : X.calm = true) (hN : X.N.Nodup) (hi : X.N[i]? = some x) (hj : X.N[j]? = some y) (hl : X.N[l]? = some z) (hij : i ≠ j) (hil : i ≠ l) (hjl : j ≠ l)
    (hx : X.env.scope.names.lookup x = some .local) (hy : X.env.scope.names.lookup y = some .local) (hz : X.env.scope.names.lookup z = some .local) (ha : MA X T W [a, b, c] fs)
    (hw : swappedStores [.Tuple [.Name x px, .Name y py, .Name z pz] kt pt] (.Tuple [a, b, c] k2 pt2) X.env = pure (some [x, y, z]) := by rfl)
    (hs : swapsWithSole [.Tuple [.Name x px, .Name y py, .Name z pz] kt pt] (.Tuple [a, b, c] k2 pt2) pos.line X.env = pure false := by rfl) :
    MS X T W (.Assign [.Tuple [.Name x px, .Name y py, .Name z pz] kt pt] (.Tuple [a, b, c] k2 pt2) pos) (sPar [i, j, l] fs) := by
  refine PS.imp (ps_par3 hc hN hi hj hl hij hil hjl hx hy hz ha hw hs) fun D σ H ⟨M, ρ, st, rep, go⟩ => ?_
  refine ⟨M, ρ, st, rep, (GoS.bind (Rel := relL X.K T) rep go).mono fun xs H1 ⟨M1, st1, us, e1, rep1, rus, go1⟩ => ?_⟩
  cases e2 : setU [i, j, l] us ρ with
  | none => rw [e2] at go1; exact go1.elim
  | some ρ' =>
    rw [e2] at go1
    cases rus with
    | nil => cases e2
    | cons r rr =>
      cases rr with
      | nil => cases e2
      | cons r' rr =>
        cases rr with
        | nil => cases e2
        | cons r'' rr =>
          cases rr with
          | cons _ _ => cases e2
          | nil =>
            cases e2
            exact ⟨_, _, _, rfl, go1 M1 H1 _ Ext.refl (((rep1.set i r).set j r').set l r'')⟩
end

/-! ### what is walked -/
def IterOk (K : PySem.W.Frag) (T : Nat → Addr) (J : It) (ds : List D) (M : List (Option Addr)) (H : Hp) : Prop := ∀ M1 H1 st1, Ext M M1 H H1 → Rst K T M1 H1 st1 →
  (∀ i, i < ds.length → J.go i H1) ∧ J.stop ds.length H1 ∧ ∀ i x H2, i < ds.length → J.yld i H1 x H2 → ∃ d, ds[i]? = some d ∧ RD K T M1 H2 x d ∧ Ext M1 M1 H1 H2 ∧ ∀ st, Rst K T M1 H1 st → Rst K T M1 H2 st
theorem IterOk.ext {K T J ds M M' H H'} (h : IterOk K T J ds M H) (e : Ext M M' H H') : IterOk K T J ds M' H' := fun M1 H1 st1 e1 s1 => h M1 H1 st1 (e.trans e1) s1
def relI (K : PySem.W.Frag) (T : Nat → Addr) : RelT (List D) It := fun M H J ds => IterOk K T J ds M H
abbrev MI (X : Cx) (T : Nat → Addr) (W : WX) (tg it : Expr) (f : EF (List D)) : Prop := PI X tg it (Tg X.K T (relI X.K T) W f)
theorem PI.imp {X : Cx} {tg e : Expr} {t t' : TI} (h : PI X tg e t) (w : ∀ σ H R, t' σ H R → t σ H R) : PI X tg e t' := ⟨fun pins s σ H R I q => h.run pins s σ H R I (w σ H R q)⟩

/-- a changing list that is walked: its place in the store, its items, which must stay -/
abbrev LV := Option (Nat × List D)
def lvOk : LV → Stor → Prop
  | none, _ => True
  | some (j, ds), st => st[j]? = some (.lst ds)
open Classical in
noncomputable def chk {α : Type} (lv : LV) (st : Stor) (b r : α) : α := match lv with
  | none => r
  | some (j, ds) => if st[j]? = some (O.lst ds) then r else b
@[simp] theorem chk_none {α : Type} (st : Stor) (b r : α) : chk none st b r = r := rfl
theorem chk_some {α : Type} {j : Nat} {ds : List D} {st : Stor} {b r : α} (h : st[j]? = some (.lst ds)) : chk (some (j, ds)) st b r = r := by
  unfold chk
  simp only [h, if_true]
theorem chk_ok {α : Type} {lv : LV} {st : Stor} {b r : α} (h : chk lv st b r ≠ b) : lvOk lv st ∧ chk lv st b r = r := by
  match lv, h with
  | none, _ => exact ⟨True.intro, rfl⟩
  | some (j, ds), h =>
    unfold chk at h ⊢
    by_cases q : st[j]? = some (O.lst ds)
    · simp only [q, if_true]
      exact ⟨q, trivial⟩
    · simp only [q, if_false] at h
      exact absurd rfl h
def IterL (K : PySem.W.Frag) (T : Nat → Addr) (J : It) (ds : List D) (lv : LV) (M : List (Option Addr)) (H : Hp) : Prop := ∀ M1 H1 st1, Ext M M1 H H1 → Rst K T M1 H1 st1 → lvOk lv st1 →
  (∀ i, i < ds.length → J.go i H1) ∧ J.stop ds.length H1 ∧ ∀ i x H2, i < ds.length → J.yld i H1 x H2 → ∃ d, ds[i]? = some d ∧ RD K T M1 H2 x d ∧ Ext M1 M1 H1 H2 ∧ ∀ st, Rst K T M1 H1 st → Rst K T M1 H2 st
def relV (K : PySem.W.Frag) (T : Nat → Addr) : RelT (List D × LV) It := fun M H J p => IterL K T J p.1 p.2 M H
abbrev MV (X : Cx) (T : Nat → Addr) (W : WX) (tg it : Expr) (f : EF (List D × LV)) : Prop := PI X tg it (Tg X.K T (relV X.K T) W f)
/-- what is walked changes never -/
def nl (f : EF (List D)) : EF (List D × LV) := fun ρ st => (f ρ st).bind fun ds st1 => .ok (ds, none) st1
theorem mv {X : Cx} {T : Nat → Addr} {W : WX} {tg it : Expr} {f : EF (List D)} (h : MI X T W tg it f) : MV X T W tg it (nl f) := by
  refine PI.imp h fun σ H R ⟨M, ρ, st, rep, go⟩ => ⟨M, ρ, st, rep, ?_⟩
  have go' : Go X.K T (relV X.K T) W M σ H ((f ρ st).bind fun ds st1 => .ok (ds, none) st1) R := go
  cases q : f ρ st with
  | ok ds st1 => rw [q] at go'; exact fun M' H' J e s r => go' M' H' J e s fun M1 H1 st1 e1 s1 _ => r M1 H1 st1 e1 s1
  | exc c fs st1 => rw [q] at go'; exact go'
  | bad => rw [q] at go'; exact go'.elim

/-! ### for -/
noncomputable def forL (h : TgF) (g : SF) (lv : LV) : List D → SF
  | [], ρ, st => chk lv st .bad (.nx ρ st)
  | d :: ds, ρ, st => chk lv st .bad (match h d ρ with
    | none => .bad
    | some ρ1 => match g ρ1 st with
      | .nx ρ2 st2 => forL h g lv ds ρ2 st2
      | .ct ρ2 st2 => forL h g lv ds ρ2 st2
      | .bk ρ2 st2 => .nx ρ2 st2
      | r => r)
theorem GoS.chk {K T W M H} {lv : LV} {st : Stor} {r : RS} {D : Ends} (h : GoS K T W M H (chk lv st .bad r) D) : lvOk lv st ∧ GoS K T W M H r D := by
  have q : MM.chk lv st RS.bad r ≠ .bad := fun z => by
    rw [z] at h
    exact h.elim
  obtain ⟨h1, h2⟩ := chk_ok q
  rw [h2] at h
  exact ⟨h1, h⟩
noncomputable def sFor (f : EF (List D × LV)) (h : TgF) (g : SF) : SF := fun ρ st => (f ρ st).stm ρ fun p st1 => forL h g p.2 p.1 ρ st1
section
variable {X : Cx} {T : Nat → Addr} {W : WX} {pos : Pos} {vs : List Nat} {tg it c : Expr} {body : List Stmt} {h : TgF} {f : EF (List D × LV)} {g : SF} {gc : EF Bool}
theorem ms_for (hp : PassesOwn (model X.prog X.w) X.A X.env X.xe) (hc : X.calm = true) (hi : MV X T W tg it f) (hg : MG X T vs tg h) (hb : MSs X T W body g) (hs : ∀ x, foldedSetIterable it X.env x = pure x := by intro _; rfl) : MS X T W (.For tg it body [] pos) (sFor f h g) := by
  refine PS.imp (ps_for hp hc hi hg hb hs) fun D σ H ⟨M, ρ, st, rep, go⟩ => ?_
  refine ⟨M, ρ, st, rep, (GoS.bind (Rel := relV X.K T) rep go).mono fun J H1 ⟨M1, st1, ⟨ds, lv⟩, e1, rep1, ok, go1⟩ => ?_⟩
  have ok : IterL X.K T J ds lv M1 H1 := ok
  have go1 : GoS X.K T W M1 H1 (forL h g lv ds ρ st1) D := go1
  refine ⟨fun i m σ' H' => m = ds.length - i ∧ i ≤ ds.length ∧ ∃ M' ρ' st', Ext M1 M' H1 H' ∧ Rep X.K T M' H' σ' ρ' st' ∧ GoS X.K T W M' H' (forL h g lv (ds.drop i) ρ' st') D, ⟨ds.length, by simp, Nat.zero_le _, M1, ρ, st1, Ext.refl, rep1, by simpa using go1⟩, ?_⟩
  rintro i m σ' H' ⟨rfl, hi, M', ρ', st', e', rep', go'⟩
  have live : lvOk lv st' := by
    by_cases hlt : i < ds.length
    · rw [List.drop_eq_getElem_cons hlt] at go'
      exact (GoS.chk go').1
    · rw [List.drop_eq_nil_of_le (by omega)] at go'
      exact (GoS.chk go').1
  obtain ⟨okg, oks, oky⟩ := ok M' H' st' e' rep'.sto live
  by_cases hlt : i < ds.length
  · rw [List.drop_eq_getElem_cons hlt] at go'
    have go' := (GoS.chk go').2
    refine .inr ⟨okg i hlt, fun σ2 H2 => ∃ M2 ρ2 st2, Ext M1 M2 H1 H2 ∧ Rep X.K T M2 H2 σ2 ρ2 st2 ∧ GoS X.K T W M2 H2 (forL h g lv (ds.drop (i + 1)) ρ2 st2) D, fun σ2 H2 n2 => ⟨ds.length - (i + 1), by omega, rfl, hlt, n2⟩, fun x H2 y => ?_⟩
    obtain ⟨d, hd, r, e2, s2⟩ := oky i x H2 hlt y
    have ed : ds[i] = d := by
      rw [List.getElem?_eq_getElem hlt] at hd
      exact Option.some.inj hd
    rw [ed] at go'
    have go'' : GoS X.K T W M' H' (match h d ρ' with
      | none => .bad
      | some ρ1 => match g ρ1 st' with
        | .nx ρ2 st2 => forL h g lv (ds.drop (i + 1)) ρ2 st2
        | .ct ρ2 st2 => forL h g lv (ds.drop (i + 1)) ρ2 st2
        | .bk ρ2 st2 => .nx ρ2 st2
        | r => r) D := go'
    cases e3 : h d ρ' with
    | none => rw [e3] at go''; exact go''.elim
    | some ρ1 =>
      rw [e3] at go''
      refine ⟨M', ρ', st', d, ρ1, rep'.ext e2 (s2 st' rep'.sto), r, e3, fun σ1 _ rep1' => ?_⟩
      refine ⟨M', ρ1, st', rep1', ?_⟩
      simp only at go''
      cases e4 : g ρ1 st' with
      | nx ρ2 st2 => rw [e4] at go''; exact fun M3 H3 σ3 e5 rep3 => ⟨M3, ρ2, st2, e'.trans (e2.trans e5), rep3, GoS.base go'' (e2.trans e5)⟩
      | ct ρ2 st2 => rw [e4] at go''; exact fun M3 H3 σ3 e5 rep3 => ⟨M3, ρ2, st2, e'.trans (e2.trans e5), rep3, GoS.base go'' (e2.trans e5)⟩
      | bk ρ2 st2 => rw [e4] at go''; exact fun M3 H3 σ3 e5 rep3 => go'' M3 H3 σ3 (e2.trans e5) rep3
      | rt u st2 => rw [e4] at go''; exact fun M3 H3 v e5 => go'' M3 H3 v (e2.trans e5)
      | exc c fs ρ2 st2 => rw [e4] at go''; exact fun M3 H3 σ3 dd fv e5 => go'' M3 H3 σ3 dd fv (e2.trans e5)
      | bad => rw [e4] at go''; exact go''
  · have e : i = ds.length := by omega
    subst e
    rw [List.drop_length] at go'
    exact .inl ⟨oks, (GoS.chk go').2 M' H' σ' Ext.refl rep'⟩

/-! ### while -/
def whileL (c : EF Bool) (g : SF) : Nat → SF
  | 0, _, _ => .bad
  | n + 1, ρ, st => (c ρ st).stm ρ fun b st1 => if b = true then (match g ρ st1 with
      | .nx ρ2 st2 => whileL c g n ρ2 st2
      | .ct ρ2 st2 => whileL c g n ρ2 st2
      | .bk ρ2 st2 => .nx ρ2 st2
      | r => r) else .nx ρ st1
open Classical in
noncomputable def sWhile (c : EF Bool) (g : SF) : SF := fun ρ st => if h : ∃ n, whileL c g n ρ st ≠ .bad then whileL c g (choose h) ρ st else .bad
theorem whileL_mono (c : EF Bool) (g : SF) : ∀ (n m : Nat) (ρ : Slots) (st : Stor), n ≤ m → whileL c g n ρ st ≠ .bad → whileL c g m ρ st = whileL c g n ρ st
  | 0, _, ρ, st, _, h => absurd rfl h
  | n + 1, 0, _, _, h, _ => by omega
  | n + 1, m + 1, ρ, st, hl, h => by
    unfold whileL at h ⊢
    cases e : c ρ st with
    | exc _ _ _ => rfl
    | bad => rfl
    | ok b st1 =>
      rw [e] at h
      simp only [R.stm_ok] at h ⊢
      cases b with
      | false => rfl
      | true =>
        simp only [if_true] at h ⊢
        cases e2 : g ρ st1 with
        | nx ρ2 st2 => rw [e2] at h; exact whileL_mono c g n m ρ2 st2 (by omega) h
        | ct ρ2 st2 => rw [e2] at h; exact whileL_mono c g n m ρ2 st2 (by omega) h
        | bk ρ2 st2 => rfl
        | rt u st2 => rfl
        | exc _ _ _ _ => rfl
        | bad => rfl
theorem sWhile_of {c : EF Bool} {g : SF} {n : Nat} {ρ : Slots} {st : Stor} {r : RS} (h : whileL c g n ρ st = r) (hr : r ≠ .bad) : sWhile c g ρ st = r := by
  have ex : ∃ n, whileL c g n ρ st ≠ .bad := ⟨n, by rw [h]; exact hr⟩
  unfold sWhile
  rw [dif_pos ex]
  have h1 := Classical.choose_spec ex
  rcases Nat.le_total n (Classical.choose ex) with hl | hl
  · rw [whileL_mono c g n _ ρ st hl (by rw [h]; exact hr)]
    exact h
  · rw [← whileL_mono c g _ n ρ st hl h1]
    exact h
theorem sWhile_cases (c : EF Bool) (g : SF) (ρ : Slots) (st : Stor) : sWhile c g ρ st = .bad ∨ ∃ n, whileL c g n ρ st = sWhile c g ρ st := by
  by_cases h : ∃ n, whileL c g n ρ st ≠ .bad
  · right
    refine ⟨Classical.choose h, ?_⟩
    unfold sWhile
    rw [dif_pos h]
  · left
    unfold sWhile
    rw [dif_neg h]
theorem ms_while (hp : PassesOwn (model X.prog X.w) X.A X.env X.xe) (hc : MT X T W c gc) (hb : MSs X T W body g) : MS X T W (.While c body [] pos) (sWhile gc g) := by
  refine PS.imp (ps_while hp hc hb) fun D σ H ⟨M, ρ, st, rep, go⟩ => ?_
  rcases sWhile_cases gc g ρ st with z | ⟨n, hn⟩
  · rw [z] at go; exact go.elim
  · rw [← hn] at go
    refine ⟨fun m σ' H' => ∃ M' ρ' st', Ext M M' H H' ∧ Rep X.K T M' H' σ' ρ' st' ∧ GoS X.K T W M' H' (whileL gc g m ρ' st') D, ⟨n, M, ρ, st, Ext.refl, rep, go⟩, ?_⟩
    rintro m σ' H' ⟨M', ρ', st', e', rep', go'⟩
    cases m with
    | zero => exact go'.elim
    | succ m =>
      refine ⟨M', ρ', st', rep', (GoS.bind (Rel := relB) rep' go').mono fun k H1 ⟨M1, st1, k', e1, rep1, rk, go1⟩ => ?_⟩
      have rk' : k = k' := rk
      subst rk'
      cases k with
      | false => exact go1 M1 H1 σ' Ext.refl rep1
      | true =>
        refine ⟨fun σ2 H2 => ∃ M2 ρ2 st2, Ext M M2 H H2 ∧ Rep X.K T M2 H2 σ2 ρ2 st2 ∧ GoS X.K T W M2 H2 (whileL gc g m ρ2 st2) D, fun σ2 H2 n2 => ⟨m, by omega, n2⟩, M1, ρ', st1, rep1, ?_⟩
        simp only [if_true] at go1
        cases e4 : g ρ' st1 with
        | nx ρ2 st2 => rw [e4] at go1; exact fun M3 H3 σ3 e5 rep3 => ⟨M3, ρ2, st2, e'.trans (e1.trans e5), rep3, GoS.base go1 e5⟩
        | ct ρ2 st2 => rw [e4] at go1; exact fun M3 H3 σ3 e5 rep3 => ⟨M3, ρ2, st2, e'.trans (e1.trans e5), rep3, GoS.base go1 e5⟩
        | bk ρ2 st2 => rw [e4] at go1; exact go1
        | rt u st2 => rw [e4] at go1; exact go1
        | exc c fs ρ2 st2 => rw [e4] at go1; exact go1
        | bad => rw [e4] at go1; exact go1
end
end MM
set_option maxRecDepth 100000
/-! M6: comprehensions, what is walked -/
namespace MM
open PySem PySem.Spec PyProof.Rows L2
/-- nothing is raised here -/
abbrev W0 : WX := fun _ _ _ _ => False
def R.nox {α : Type} (r : R α) : R α := match r with
  | .ok a st => .ok a st
  | _ => .bad
@[simp] theorem R.nox_ok {α : Type} (a : α) (st : Stor) : (R.ok a st).nox = .ok a st := rfl
theorem Go.nox {K T} {α β : Type} {Rel : RelT α β} {W W' : WX} {M σ H} {r : R α} {Q : β → Hp → Prop} (h : Go K T Rel W M σ H r.nox Q) : Go K T Rel W' M σ H r Q := by
  cases r with
  | ok a st => exact h
  | exc c fs st => exact h.elim
  | bad => exact h.elim
/-- the list at n, no longer than k -/
def lstAt (st : Stor) (n k : Nat) : Option (List D) := match st[n]? with
  | some (.lst acc) => if acc.length ≤ k then some acc else none
  | _ => none
theorem lstAt_some {st : Stor} {n k : Nat} {acc : List D} (h : lstAt st n k = some acc) : st[n]? = some (.lst acc) ∧ acc.length ≤ k := by
  unfold lstAt at h
  split at h
  · rename_i a e
    by_cases hk : a.length ≤ k
    · rw [if_pos hk] at h
      cases h
      exact ⟨e, hk⟩
    · rw [if_neg hk] at h
      cases h
  · cases h
/-- the turns of a comprehension from the k-th on, its list at n in the store; ρ: the slots, its own forgotten -/
noncomputable def compL (h : TgF) (c : EF Bool) (e : EF U) (ρ : Slots) (n : Nat) (lv : LV) : Nat → List D → Stor → R Unit
  | _, [], st => chk lv st .bad (.ok () st)
  | k, d :: ds, st => chk lv st .bad (match h d ρ with
    | none => .bad
    | some ρ1 => (c ρ1 st).nox.bind fun b st1 => if b = true then (e ρ1 st1).nox.bind fun u st2 => match u, lstAt st2 n k with
        | .d x, some acc => compL h c e ρ n lv (k + 1) ds (st2.set n (.lst (acc ++ [x])))
        | _, _ => .bad
      else match lstAt st1 n k with
        | some _ => compL h c e ρ n lv (k + 1) ds st1
        | none => .bad)
theorem chk_okR {lv : LV} {st : Stor} {r : R Unit} {st' : Stor} (h : chk lv st .bad r = .ok () st') : lvOk lv st ∧ r = .ok () st' := by
  have q : chk lv st .bad r ≠ R.bad := fun z => by
    rw [z] at h
    cases h
  obtain ⟨h1, h2⟩ := chk_ok q
  rw [h2] at h
  exact ⟨h1, h⟩
def wipeS (ρ : Slots) : List Nat → Slots
  | [] => ρ
  | v :: vs => (wipeS ρ vs).set v none
def finL (mk : Bool) (n : Nat) (st2 : Stor) : R U := if mk = true then .ok (.loc n) (st2.take (n + 1)) else match st2[n]? with
  | some (.lst acc) => .ok (.d (.list acc)) (st2.take n)
  | _ => .bad
/-- a comprehension; mk: its list is to change -/
noncomputable def eLc (mk : Bool) (vs : List Nat) (f : EF (List D × LV)) (h : TgF) (c : EF Bool) (e : EF U) : EF U := fun ρ st => (f ρ st).bind fun p st1 =>
  if fits p.1.length then (compL h c e (wipeS ρ vs) st1.length p.2 0 p.1 (st1 ++ [.lst []])).nox.bind fun _ st2 => finL mk st1.length st2 else .bad
theorem wipe_rep {K T M H st} {σ : L2.St} {ρ : Slots} (r : Rep K T M H σ ρ st) : ∀ vs, Rep K T M H (wipe σ vs) (wipeS ρ vs) st
  | [] => r
  | v :: vs => (wipe_rep r vs).forget v none
def blkX (X : Cx) (scope : Scope) (s : Shared) (H : Hp) (C : Addr) (cl : List (Str × Addr)) (fp : List Addr) : Cx := X.blk s H scope (compEnvC scope cl C X.env) fp
section
variable {X : Cx} {T : Nat → Addr} {W : WX} {pos : Pos} {vs : List Nat} {tg it elt : Expr} {ifs : List Expr} {scope : Scope} {own : List (Str × Nat)} {h : TgF} {f : EF (List D × LV)} {fc : EF Bool} {fe : EF U}
abbrev MTs (X : Cx) (T : Nat → Addr) (W : WX) (ifs : List Expr) (f : EF Bool) : Prop := PTs X ifs (Tg X.K T relB W f)
theorem PTs.imp {X : Cx} {e : List Expr} {t t' : TT} (h : PTs X e t) (w : ∀ σ H Q, t' σ H Q → t σ H Q) : PTs X e t' := ⟨fun pins s σ H Q I q => h.run pins s σ H Q I (w σ H Q q)⟩
def eYes : EF Bool := fun _ st => .ok true st
theorem mts_nil : MTs X T W [] eYes := PTs.imp pts_nil fun σ H Q ⟨M, ρ, st, rep, go⟩ => Go.now rep.sto go rfl
theorem mts_one {c : Expr} (hc : MT X T W c fc) : MTs X T W [c] fc := pts_one hc
theorem lc_of {mk : Bool} {K : PySem.W.Frag} {σ : L2.St} {H : Hp} {Q : VK} {gg : TG}
    (hgg : ∀ x σ H Q, (∃ M ρ st d ρ', Rep K T M H σ ρ st ∧ RD K T M H x d ∧ h d ρ = some ρ' ∧ ∀ σ', But vs σ σ' → Rep K T M H σ' ρ' st → Q σ' H) → gg x σ H Q)
    (hh : Tg K T (relU K T) W (eLc mk vs f h fc fe) σ H Q) : tLc (Tg K T (relV K T) W f) gg (Tg K T relB W0 fc) (Tg K T (relU K T) W0 fe) vs σ H Q := by
  obtain ⟨M, ρ, st, rep, go⟩ := hh
  refine ⟨M, ρ, st, rep, (Go.bind (Rel := relV K T) rep go).mono fun J H1 ⟨M1, st1, ⟨ds, lv⟩, e1, rep1, ok, go1⟩ => ?_⟩
  have ok : IterL K T J ds lv M1 H1 := ok
  intro L hL
  by_cases hz : fits ds.length = true
  case neg => simp only [hz] at go1; exact go1.elim
  simp only [hz, if_true] at go1
  have lenM : M1.length = st1.length := rep1.sto.len
  cases hR : compL h fc fe (wipeS ρ vs) st1.length lv 0 ds (st1 ++ [.lst []]) with
  | exc _ _ _ => rw [hR] at go1; exact go1.elim
  | bad => rw [hR] at go1; exact go1.elim
  | ok _ stF =>
  rw [hR] at go1
  have go2 : Go K T (relU K T) W M1 σ H1 (finL mk st1.length stF) Q := go1
  obtain ⟨e0, s0⟩ := rep1.sto.push (o := .lst []) (ob := .lst []) hL fun _ => ⟨L, [], rfl, upd_same, .nil⟩
  have repW := wipe_rep (rep1.ext e0 s0) vs
  -- the state at turn i
  let Pv : Nat → Hp → Prop := fun i H' => ∃ M' st' acc, Ext (M1 ++ [some L]) M' (L2.upd H1 L (.lst [])) H' ∧ Rep K T M' H' (wipe σ vs) (wipeS ρ vs) st' ∧ st'[st1.length]? = some (.lst acc) ∧ acc.length ≤ i ∧ compL h fc fe (wipeS ρ vs) st1.length lv i (ds.drop i) st' = .ok () stF
  -- where the list lies
  have at_ : ∀ {M' H' st' acc}, Ext (M1 ++ [some L]) M' (L2.upd H1 L (.lst [])) H' → Rst K T M' H' st' → st'[st1.length]? = some (.lst acc) → M'[st1.length]? = some (some L) ∧ ∃ xs, H' L = some (.lst xs) ∧ RDs K T M' H' xs acc := by
    intro M' H' st' acc ex s hs
    obtain ⟨m, hm, a, xs, rfl, ha, ra⟩ := s.get hs
    have hl : (M1 ++ [some L])[st1.length]? = some (some L) := by rw [← lenM]; simp
    rcases ex.old _ _ hl with q | q
    · rw [hm] at q
      cases q
      exact ⟨hm, xs, ha, ra⟩
    · rw [hm] at q
      cases q
  refine ⟨fun i m H' => m = ds.length - i ∧ i ≤ ds.length ∧ Pv i H', ⟨ds.length, by simp, Nat.zero_le _, M1 ++ [some L], st1 ++ [.lst []], [], Ext.refl, repW, by simp, Nat.le_refl _, by simpa using hR⟩, ?_⟩
  rintro i m H' ⟨rfl, hi, M', st', acc, e', rep', hacc, hlen, hcomp⟩
  have eM : Ext M1 M' H1 H' := e0.trans e'
  have live : lvOk lv st' := by
    by_cases hlt : i < ds.length
    · rw [List.drop_eq_getElem_cons hlt] at hcomp
      exact (chk_okR hcomp).1
    · rw [List.drop_eq_nil_of_le (by omega)] at hcomp
      exact (chk_okR hcomp).1
  obtain ⟨okg, oks, oky⟩ := ok M' H' st' eM rep'.sto live
  by_cases hlt : i < ds.length
  · rw [List.drop_eq_getElem_cons hlt] at hcomp
    have hcomp := (chk_okR hcomp).2
    refine .inr ⟨okg i hlt, fun H2 => Pv (i + 1) H2, fun H2 n2 => ⟨ds.length - (i + 1), by omega, rfl, hlt, n2⟩, fun x H2 y => ?_⟩
    obtain ⟨d, hd, r, e2, s2⟩ := oky i x H2 hlt y
    have ed : ds[i] = d := by
      rw [List.getElem?_eq_getElem hlt] at hd
      exact Option.some.inj hd
    rw [ed] at hcomp
    cases e3 : h d (wipeS ρ vs) with
    | none => rw [e3] at hcomp; cases hcomp
    | some ρ1 =>
    rw [e3] at hcomp
    simp only at hcomp
    have rep2 := rep'.ext e2 (s2 st' rep'.sto)
    refine hgg x _ H2 _ ⟨M', wipeS ρ vs, st', d, ρ1, rep2, r, e3, fun σ2 b2 rep3 => ⟨b2.wipe.trans wipe_wipe, ?_⟩⟩
    cases e4 : fc ρ1 st' with
    | exc _ _ _ => rw [e4] at hcomp; cases hcomp
    | bad => rw [e4] at hcomp; cases hcomp
    | ok b stb =>
    rw [e4] at hcomp
    simp only [R.nox_ok, R.bind_ok] at hcomp
    refine ⟨M', ρ1, st', rep3, ?_⟩
    rw [e4]
    intro M4 H4 b' e5 s4 hb
    have hb' : b' = b := hb
    subst hb'
    have e6 := e'.trans (e2.trans e5)
    cases b' with
    | false =>
      -- the list as it stood
      have hcomp' : (match lstAt stb st1.length i with
        | some _ => compL h fc fe (wipeS ρ vs) st1.length lv (i + 1) (ds.drop (i + 1)) stb
        | none => .bad) = .ok () stF := hcomp
      cases e7 : lstAt stb st1.length i with
      | none => rw [e7] at hcomp'; cases hcomp'
      | some acc' =>
        rw [e7] at hcomp'
        obtain ⟨h1, h2⟩ := lstAt_some e7
        exact ⟨M4, stb, acc', e6, rep'.ext (e2.trans e5) s4, h1, by omega, hcomp'⟩
    | true =>
      simp only [if_true] at hcomp
      cases e7 : fe ρ1 stb with
      | exc _ _ _ => rw [e7] at hcomp; cases hcomp
      | bad => rw [e7] at hcomp; cases hcomp
      | ok u ste =>
      rw [e7] at hcomp
      simp only [R.nox_ok, R.bind_ok] at hcomp
      cases u with
      | loc _ => cases hcomp
      | d z =>
      cases e8 : lstAt ste st1.length i with
      | none => rw [e8] at hcomp; cases hcomp
      | some acc' =>
      rw [e8] at hcomp
      simp only at hcomp
      obtain ⟨e8', hk⟩ := lstAt_some e8
      show (Tg K T (relU K T) W0 fe) σ2 H4 _
      refine ⟨M4, ρ1, stb, rep3.ext e5 s4, ?_⟩
      rw [e7]
      intro M5 H5 v e9 s5 rv
      have e10 := e6.trans e9
      obtain ⟨hM5, xs, hx, rx⟩ := at_ e10 s5 e8'
      cases rv with
      | d rv =>
      refine ⟨xs, hx, ?_, ?_⟩
      · rw [rx.length]
        have := fits_le hz
        omega
      · obtain ⟨e11, s11⟩ := s5.wr (o := .lst (xs ++ [v])) (ob := .lst (acc' ++ [z])) hM5 fun ex => ⟨L, xs ++ [v], rfl, upd_same, (rx.ext ex).app (.cons (rv.ext ex) .nil)⟩
        refine ⟨M5, _, acc' ++ [z], e10.trans e11, (rep'.ext ((e2.trans e5).trans e9) s5).ext e11 s11, ?_, ?_, hcomp⟩
        · rw [List.getElem?_set_self (List.getElem?_eq_some_iff.mp e8').1]
        · rw [List.length_append, List.length_singleton]
          omega
  · have e : i = ds.length := by omega
    subst e
    rw [List.drop_length] at hcomp
    have hc' : (R.ok () st' : R Unit) = .ok () stF := (chk_okR hcomp).2
    cases hc'
    refine .inl ⟨oks, ?_⟩
    obtain ⟨hM, xs, hx, rx⟩ := at_ e' rep'.sto hacc
    unfold finL at go2
    cases mk with
    | true =>
      simp only [if_true] at go2
      have hlt1 : M1.length + 1 ≤ M'.length := by
        have := (List.getElem?_eq_some_iff.mp hM).1
        omega
      have ex : Ext M1 (M'.take (M1.length + 1)) H1 H' := by
        have h1 : Ext (M1 ++ [some L]) (M'.take (M1.length + 1)) (L2.upd H1 L (.lst [])) H' := e'.take _ (by simp)
        exact e0.trans h1
      refine go2 _ H' (.ref L) ex (by rw [lenM]; exact rep'.sto.take _) (.loc ?_)
      rw [List.getElem?_take_of_lt (by omega)]
      exact hM
    | false =>
      simp only [hacc] at go2
      have ex : Ext M1 (M'.take M1.length) H1 H' := eM.take _ rfl
      refine go2 _ H' (.ref L) ex (by rw [lenM]; exact rep'.sto.take _) (.d (.lst (fun z => ?_) hx (rx.sub fun a h => List.mem_of_mem_take h)))
      obtain ⟨j, hj⟩ := List.getElem?_of_mem z
      have hjl : j < M1.length := by
        have := (List.getElem?_eq_some_iff.mp hj).1
        rw [List.length_take] at this
        omega
      rw [List.getElem?_take_of_lt hjl] at hj
      have := rep'.sto.nd j st1.length L hj hM
      omega

theorem m_lc (mk : Bool) (hc : X.calm = true) (hN : X.N.Nodup) (hi : MV X T W tg it f) (ok : BlkOk X.N X.env.scope scope own)
    (hg : ∀ (s : Shared) (H : Hp) (C : Addr) (cl : List (Str × Addr)) (fp : List Addr), MG (X.blk s H scope (compEnvC scope cl C X.env) fp) T vs tg h)
    (ht : ∀ (s : Shared) (H : Hp) (C : Addr) (cl : List (Str × Addr)) (fp : List Addr), MTs (X.blk s H scope (compEnvC scope cl C X.env) fp) T W0 ifs fc)
    (he : ∀ (s : Shared) (H : Hp) (C : Addr) (cl : List (Str × Addr)) (fp : List Addr), ME (X.blk s H scope (compEnvC scope cl C X.env) fp) T W0 elt fe)
    (hvs : own.map (·.2) = vs := by rfl) (hs : ∀ x, foldedSetIterable it X.env x = pure x := by intro _; rfl) :
    ME X T W (.ListComp elt [⟨tg, it, ifs, 0⟩] scope pos) (eLc mk vs f h fc fe) := by
  subst hvs
  exact PE.imp (pe_lc (g := mgT X.K T _ h) hc hN hi ok hg ht he hs) fun σ H Q hh => lc_of (fun _ _ _ _ q => q) hh
/-- name = [..] on one line, the name a local -/
theorem ms_setLc (mk : Bool) {i : Nat} {y : Str} {py spos : Pos} (hc : X.calm = true) (hN : X.N.Nodup) (hy : X.N[i]? = some y) (hyl : X.env.scope.names.lookup y = some .local)
    (hsw : swapsWith (.ListComp elt [⟨tg, it, ifs, 0⟩] scope pos) (some (.Name y py)) spos.line X.env = pure true) (hi : MV X T W tg it f) (ok : BlkOk X.N X.env.scope scope own)
    (hg : ∀ (s : Shared) (H : Hp) (C : Addr) (cl : List (Str × Addr)) (fp : List Addr), MG (X.blk s H scope (compEnvC scope cl C X.env) fp) T vs tg h)
    (ht : ∀ (s : Shared) (H : Hp) (C : Addr) (cl : List (Str × Addr)) (fp : List Addr), MTs (X.blk s H scope (compEnvC scope cl C X.env) fp) T W0 ifs fc)
    (he : ∀ (s : Shared) (H : Hp) (C : Addr) (cl : List (Str × Addr)) (fp : List Addr), ME (X.blk s H scope (compEnvC scope cl C X.env) fp) T W0 elt fe)
    (hvs : own.map (·.2) = vs := by rfl) (hs : ∀ x, foldedSetIterable it X.env x = pure x := by intro _; rfl) :
    MS X T W (.Assign [.Name y py] (.ListComp elt [⟨tg, it, ifs, 0⟩] scope pos) spos) (sSet i (eLc mk vs f h fc fe)) := by
  subst hvs
  refine PS.imp (ps_setLc (g := mgT X.K T _ h) (tt := Tg X.K T relB W0 fc) (te := Tg X.K T (relU X.K T) W0 fe) hc hN hy hyl hsw hi ok hg ht he hs) fun D σ H ⟨M, ρ, st, rep, go⟩ => ?_
  refine lc_of (mk := mk) (W := W) (fun _ _ _ _ q => q) ?_
  exact ⟨M, ρ, st, rep, (GoS.bind (Rel := relU X.K T) rep go).mono fun v H1 ⟨M1, st1, u, e1, rep1, ru, go1⟩ => go1 M1 H1 _ Ext.refl (rep1.set i ru)⟩
end
end MM
set_option maxRecDepth 100000
/-! M7: what is walked: lists, tuples, texts, ranges, enumerate -/
namespace MM
open PySem PySem.Spec PyProof.Rows L2
/-! ### enumerate of any value, at the library's level -/
set_option maxHeartbeats 1000000 in
theorem meets_enum1 {v : Value} {o : Obj} {H : Heap → Prop} (B : Begins v o H) :
    Meets (Builtin.«enumerate.__new__» ⟨[.type "enumerate", v], []⟩) (fun _ R s => H s.heap ∧
      R (.ok (.ret (.ref (s.heap.push o).objs.size))) { s with heap := (s.heap.push o).push { cls := .type "enumerate", data := .fields #[.none, .bool false, .ref s.heap.objs.size, rawInt 0, .none, .none] } }) :=
  .of_wp fun prog w A R s h => by
    obtain ⟨hp, g, d, tk, os⟩ := s; obtain ⟨h1, h⟩ := h
    have hsub := sub_enumerate
    have q1 : ∀ {A' : Around} {E : Value → Shared → Prop} {Q : Value → Shared → Prop}, Q (.ref hp.objs.size) ⟨hp.push o, g, d, tk, os⟩ → wpAny (model prog w) A' (pyIter v) Q E ⟨hp, g, d, tk, os⟩ :=
      fun q => B.iter prog w _ _ ⟨hp, g, d, tk, os⟩ _ h1 q
    wp_walk using q1
    refine wpAny_stack_any fun st => wpAny_pure ?_
    split
    · rename_i c _ _ _ _ _
      cases (c == Value.type "enumerate")
      · wp_walk using q1
        exact ⟨_, rfl, h⟩
      · wp_walk using q1
        exact ⟨_, rfl, h⟩
    · wp_walk using q1
      exact ⟨_, rfl, h⟩
theorem enum1_begins {prog : Program} {w : World} {A : Around} {E : Value → Shared → Prop} {s : Shared} {v : Value} {o : Obj} {H : Heap → Prop} {Q : Value → Shared → Prop} (B : Begins v o H) (h1 : H s.heap)
    (h : ∀ h', IsEnum h' (s.heap.objs.size + 1) s.heap.objs.size 0 .none → h'.get? s.heap.objs.size = some o → h'.objs.size = s.heap.objs.size + 2 →
      (∀ b o, s.heap.get? b = some o → h'.get? b = some o) → Q (.ref (s.heap.objs.size + 1)) { s with heap := h' }) :
    wpAny (model prog w) A (call (.type "enumerate") [v]) Q E s := by
  refine callType_new F.called_enumerate (by decide) (F.typeCall_enumerate_1 _) (F.newCall_enumerate_1 _) (fun obj => F.args_object_init_2 obj _) F.entry_enumerate_new
    (meets_enum1 B) ⟨h1, ?_⟩
  have hz : (s.heap.push o).objs.size = s.heap.objs.size + 1 := Heap.size_push ..
  show _ ∧ _
  rw [hz]
  have he : IsEnum ((s.heap.push o).push { cls := .type "enumerate", data := .fields #[.none, .bool false, .ref s.heap.objs.size, rawInt 0, .none, .none] }) (s.heap.objs.size + 1) s.heap.objs.size 0 .none := by
    have := Heap.get?_push_size (s.heap.push o) (o := { cls := .type "enumerate", data := .fields #[.none, .bool false, .ref s.heap.objs.size, rawInt 0, .none, .none] }) rfl
    rw [hz] at this; exact this
  refine ⟨⟨_, he, rfl⟩, h _ he (Heap.get?_push_of_some _ (Heap.get?_push_size _ B.free)) (by rw [Heap.size_push, hz]) fun b o x => Heap.get?_push_of_some _ (Heap.get?_push_of_some _ x)⟩

/-- the pairs (i, the i-th of xs), while G stands -/
def IteS (G : Hp → Prop) (xs : List V) : It :=
  ⟨fun i H => G H ∧ i < xs.length, fun i H v H' => ∃ T x, v = .ref T ∧ H T = none ∧ H' = L2.upd H T (.tup [.int (i : Nat), x]) ∧ xs[i]? = some x, fun i H => G H ∧ i = xs.length⟩
theorem turn_enumG {P : Program} {w : World} {K : PySem.W.Frag} {elts : List Expr} {kk : Nat} {tpos : Pos} (e it : Addr) (xs : List V) (G : Hp → Prop) (Sti : Nat → Heap → Prop)
    (hobj : ∀ i h, Sti i h → ∃ o, h.get? it = some o ∧ ∀ v, o.data ≠ .cell v)
    (hkeep : ∀ i h h', Sti i h → (∀ o, h.get? it = some o → h'.get? it = some o) → Sti i h')
    (hdr : ∀ (X : Cx), X.prog = P → X.w = w → X.K = K → X.calm = true → ∀ (pins : List (Addr × Obj)) (s : Shared) (σ : L2.St) (H : Hp), Inv X pins σ H s → G H → ∃ (fp : List Addr) (Pr : Nat → Value → Prop) (St' : Nat → Heap → Prop),
      Draws P w X.A.in1 it fp xs.length Pr St' ∧ (∀ i h, St' i h → Sti i h) ∧ (∀ i, Sti i s.heap → St' i s.heap) ∧ (∀ i v, Pr i v → ∃ x, xs[i]? = some x ∧ RelV x v) ∧ ∀ b ∈ fp, b = it ∨ ∃ o, s.heap.get? b = some o ∧ o.cls = .type "tuple") :
    Turn P w K (.Tuple elts kk tpos) (IteS G xs) [e, it] e (fun i h => (∃ old, IsEnum h e it ((i : Nat) : Int) old) ∧ Sti i h ∧ e ≠ it) where
  mem := by simp
  obj := fun i h st b hb => by
    obtain ⟨⟨old, he⟩, hi, _⟩ := st
    have e' : b = e ∨ b = it := by simpa using hb
    rcases e' with z | z
    · rw [z]; exact ⟨_, he, fun v q => nomatch q⟩
    · rw [z]; exact hobj i h hi
  keep := fun i h h' st k => let ⟨⟨old, he⟩, hi, hne⟩ := st; ⟨⟨old, k e (by simp) _ he⟩, hkeep i h h' hi fun o q => k it (by simp) o q, hne⟩
  item := by
    intro X hP hw hK hc i pins s σ H E I hf st hg
    obtain ⟨⟨old, he⟩, hit, hne⟩ := st
    obtain ⟨hG, hi⟩ := hg
    obtain ⟨fp, Pr, St', D, d1, d2, d3, d4⟩ := hdr X hP hw hK hc pins s σ H I hG
    subst hP hw hK
    have hel : e < s.heap.objs.size := Heap.lt_size he
    have hil : it < s.heap.objs.size := by obtain ⟨_, q, _⟩ := hobj i _ hit; exact Heap.lt_size q
    have hef : e ∉ fp := fun z => by
      rcases d4 e z with q | ⟨o, q1, q2⟩
      · exact hne q
      · have he' : s.heap.get? e = some _ := he
        rw [he'] at q1
        cases q1
        simp at q2
    refine wpAny_pyNext_enum_itemC D he (d2 i hit) hi hne hef fun u h' tk hP ho hit' hT hsz hk => ?_
    obtain ⟨x, hx, ru⟩ := d3 i u hP
    refine ⟨_, rfl, wpAny_letOwnedTupleGo_enum (s := { s with heap := h', toks := tk + 1 }) ho fun h'' he' sb => ?_⟩
    have hT2 : h''.get? s.heap.objs.size = some { cls := .type "tuple", data := .seq #[.int i tk, u] } := (sb.2 _ (Nat.ne_of_gt hel)).trans hT
    have new : ObjOk X.prog X.w (L2.upd H s.heap.objs.size (.tup [.int (i : Nat), x])) h'' s.heap.objs.size (.tup [.int (i : Nat), x]) :=
      ⟨by show 2 ≤ sizeLine; decide, [.int i tk, u], .cons ⟨_, rfl⟩ (.cons ru .nil), ⟨_, hT2, rfl, _, rfl⟩⟩
    have I1 : Inv X pins σ (L2.upd H s.heap.objs.size (.tup [.int (i : Nat), x])) { s with heap := h'', toks := tk + 1 } :=
      I.turnedNew (ch := [e, it]) (fun b ob hb q => (sb.2 b (fun z => hb (by simp [z]))).trans (hk b ob (fun z => hb (by simp [z])) (fun z => hb (by simp [z])) q)) hf (Nat.le_refl _) new
    refine ⟨.ref s.heap.objs.size, _, I1, rfl, ⟨_, x, rfl, I.hok.fresh (Nat.le_refl _), rfl, hx⟩, ⟨⟨u, ?_⟩, hkeep _ _ _ (d1 _ _ hit') fun o q => (sb.2 it (Ne.symm hne)).trans q, hne⟩, fun b hb => ?_⟩
    · have e1 : ((i + 1 : Nat) : Int) = (i : Int) + 1 := by omega
      rw [e1]; exact he'
    · have hb' : b < s.heap.objs.size := by
        have e' : b = e ∨ b = it := by simpa using hb
        rcases e' with z | z
        · rw [z]; exact hel
        · rw [z]; exact hil
      rw [upd_ne (Nat.ne_of_lt hb')]
      exact (hf b hb).1
  done := by
    intro X hP hw hK hc i pins s σ H E I hf st hg
    obtain ⟨⟨old, he⟩, hit, hne⟩ := st
    obtain ⟨hG, hi⟩ := hg
    obtain ⟨fp, Pr, St', D, d1, d2, d3, d4⟩ := hdr X hP hw hK hc pins s σ H I hG
    subst hP hw hK
    obtain ⟨f0, f1, f2, f3, f4, f5⟩ := hf it (by simp)
    subst hi
    exact wpAny_pyNext_enum_endD D he (d2 _ hit) fun h' eb => ⟨rfl, I.turned (t' := s.toks) (fun b o hb q => eb b o hb q) f0 f1 f3 f4 f5⟩
  self := fun A i s Q E st h => let ⟨⟨_, he⟩, _⟩ := st; wpAny_pyIter_enum he h

/-! ### a list, a tuple, a text: the items as data -/
def D.items : D → Option (List D)
  | .list xs => some xs
  | .tuple xs => some xs
  | .str s => some (s.cps.toList.map fun c => .str ⟨#[c]⟩)
  | .scr ns => some (ns.map .int)
  | _ => Option.none
/-- what is walked must be frozen -/
def kItems : U → Stor → R (List D) := fun u st => match u with
  | .d x => match x.items with
    | some ds => .ok ds st
    | none => .bad
  | .loc _ => .bad
def eItems (f : EF U) : EF (List D) := fun ρ st => (f ρ st).bind kItems
theorem strOk_get {z : Str} {i c : Nat} (h : PyData.strOk z = true) (e : z.cps[i]? = some c) : PyData.strOk ⟨#[c]⟩ = true := by
  have hk' : z.cps.all (· < 0x110000) = true := h
  rw [Array.all_eq_true'] at hk'
  have hm : c ∈ z.cps := Array.mem_of_getElem? e
  have := hk' c hm
  show (#[c] : Array Nat).all (· < 0x110000) = true
  simpa using this
theorem RDs.ints {K T M H} : ∀ (ns : List Int), RDs K T M H (ns.map V.int) (ns.map D.int)
  | [] => .nil
  | n :: ns => .cons (.int n) (RDs.ints ns)
section
variable {X : Cx} {T : Nat → Addr} {W : WX} {pos p tpos : Pos} {tg e a b c : Expr} {elts : List Expr} {kk : Nat} {fa fb fc : EF U} {fs : EF (List U)}
theorem iter_list {pins : List (Addr × Obj)} {s1 : Shared} {σ : L2.St} {H1 : Hp} {R : It → Hp → Prop} {E : Value → Shared → Prop} {a : Addr} {xs : List V} (I1 : Inv X pins σ H1 s1) (hq : SqL X.K H1 a xs) (q : R (Itl X.K a) H1) :
    wpAny (model X.prog X.w) X.A (pyIter (.ref a)) (PIE X pins σ tg R) E s1 := by
  obtain ⟨its, rv, p, hz⟩ := I1.list hq
  refine wpAny_pyIter_list p.isList ?_
  exact pi_one (tk := s1.toks) I1 _ (turn_list a _) ⟨_, Heap.get?_push_size _ rfl, rfl, rfl⟩ q
theorem iter_tup {pins : List (Addr × Obj)} {s1 : Shared} {σ : L2.St} {H1 : Hp} {R : It → Hp → Prop} {E : Value → Shared → Prop} {a : Addr} {xs : List V} (I1 : Inv X pins σ H1 s1) (hq : SqT X.K H1 a xs) (q : R (Itt X.K a) H1) :
    wpAny (model X.prog X.w) X.A (pyIter (.ref a)) (PIE X pins σ tg R) E s1 := by
  obtain ⟨its, rv, p, hz⟩ := I1.tuple hq
  refine wpAny_pyIter_tuple (show s1.heap.IsTuple a its.toArray from p) ?_
  exact pi_one (tk := s1.toks) I1 _ (turn_tuple a _) ⟨_, Heap.get?_push_size _ rfl, rfl, rfl⟩ q
theorem iter_str {pins : List (Addr × Obj)} {s1 : Shared} {σ : L2.St} {H1 : Hp} {R : It → Hp → Prop} {E : Value → Shared → Prop} {x : Str} {t : Tok} (I1 : Inv X pins σ H1 s1) (q : R (Its x) H1) :
    wpAny (model X.prog X.w) X.A (pyIter (.str x t)) (PIE X pins σ tg R) E s1 := by
  cases ha : x.cps.all (· < 128)
  · exact wpAny_pyIter_wide ha (pi_one (tk := s1.toks) I1 _ (turn_str _ x t "str_iterator" (.inr rfl)) ⟨_, Heap.get?_push_size _ rfl, rfl, rfl⟩ q)
  · exact wpAny_pyIter_ascii ha (pi_one (tk := s1.toks) I1 _ (turn_str _ x t "str_ascii_iterator" (.inl rfl)) ⟨_, Heap.get?_push_size _ rfl, rfl, rfl⟩ q)
/-- list, tuple or text, walked -/
def iAny (K : PySem.W.Frag) (te : TE) : TI := fun σ H R => te σ H fun x H1 => (∃ a, x = .ref a ∧ (∃ xs, SqL K H1 a xs) ∧ R (Itl K a) H1) ∨ ((∃ a, x = .ref a ∧ (∃ xs, SqT K H1 a xs) ∧ R (Itt K a) H1) ∨ ∃ z, x = .str z ∧ R (Its z) H1)
theorem pi_any {te : TE} (he : PE X e te) : PI X tg e (iAny X.K te) := by
  refine ⟨fun pins s σ H R I h => ?_⟩
  refine thn (he.run pins s σ H _ I h) fun v s1 ⟨x, H1, I1, r1, q1⟩ => ?_
  rcases q1 with ⟨a, rfl, ⟨xs, hq⟩, q⟩ | ⟨a, rfl, ⟨xs, hq⟩, q⟩ | ⟨z, rfl, q⟩
  · cases r1
    exact iter_list I1 hq q
  · cases r1
    exact iter_tup I1 hq q
  · obtain ⟨t, rfl⟩ := r1
    exact iter_str I1 q
theorem ok_list {K T M H a xs ds} (h : ∀ M1 H1, Ext M M1 H H1 → SqL K H1 a xs ∧ RDs K T M1 H1 xs ds) : IterOk K T (Itl K a) ds M H := fun M1 H1 st1 e s1 => by
  obtain ⟨q, r⟩ := h M1 H1 e
  refine ⟨fun i hi => ?_, ⟨xs, q, by rw [r.length]; exact Nat.le_refl _⟩, fun i x H2 hi y => ?_⟩
  · have hi' : i < xs.length := by rw [r.length]; exact hi
    exact ⟨xs, xs[i], q, by simp [hi']⟩
  · obtain ⟨rfl, y⟩ := y
    obtain ⟨d, hd, rd'⟩ := r.get' (y xs q)
    exact ⟨d, hd, rd', Ext.refl, fun _ s => s⟩
theorem ok_tup {K T M H a xs ds} (h : ∀ M1 H1, Ext M M1 H H1 → SqT K H1 a xs ∧ RDs K T M1 H1 xs ds) : IterOk K T (Itt K a) ds M H := fun M1 H1 st1 e s1 => by
  obtain ⟨q, r⟩ := h M1 H1 e
  refine ⟨fun i hi => ?_, ⟨xs, q, by rw [r.length]; exact Nat.le_refl _⟩, fun i x H2 hi y => ?_⟩
  · have hi' : i < xs.length := by rw [r.length]; exact hi
    exact ⟨xs, xs[i], q, by simp [hi']⟩
  · obtain ⟨rfl, y⟩ := y
    obtain ⟨d, hd, rd'⟩ := r.get' (y xs q)
    exact ⟨d, hd, rd', Ext.refl, fun _ s => s⟩
theorem ok_str {K T M H} {z : Str} (hk : PyData.strOk z = true) : IterOk K T (Its z) (z.cps.toList.map fun c => .str ⟨#[c]⟩) M H := fun M1 H1 st1 e s1 => by
  have hl : (z.cps.toList.map fun c => D.str ⟨#[c]⟩).length = z.cps.size := by simp
  refine ⟨fun i hi => by rw [hl] at hi; exact hi, by rw [hl]; exact Nat.le_refl _, fun i x H2 hi y => ?_⟩
  obtain ⟨rfl, c, hc, rfl⟩ := y
  refine ⟨.str ⟨#[c]⟩, ?_, .str (strOk_get hk hc), Ext.refl, fun _ s => s⟩
  rw [List.getElem?_map, Array.getElem?_toList, hc]
  rfl
theorem ok_range {K T M H} {lo : Int} {n : Nat} : IterOk K T (Itr lo n) ((List.range n).map fun (i : Nat) => .int (lo + i)) M H := fun M1 H1 st1 e s1 => by
  have hl : ((List.range n).map fun (i : Nat) => D.int (lo + i)).length = n := by simp
  refine ⟨fun i hi => by rw [hl] at hi; exact hi, by rw [hl]; exact Nat.le_refl _, fun i x H2 hi y => ?_⟩
  obtain ⟨rfl, rfl⟩ := y
  rw [hl] at hi
  exact ⟨.int (lo + i), by rw [List.getElem?_map, List.getElem?_range hi]; rfl, .int _, Ext.refl, fun _ s => s⟩
theorem ok_rangeC {K T M H} {lo c : Int} {n : Nat} : IterOk K T (Itc lo c n) ((List.range n).map fun (i : Nat) => .int (lo + i * c)) M H := fun M1 H1 st1 e s1 => by
  have hl : ((List.range n).map fun (i : Nat) => D.int (lo + i * c)).length = n := by simp
  refine ⟨fun i hi => by rw [hl] at hi; exact hi, by rw [hl]; exact Nat.le_refl _, fun i x H2 hi y => ?_⟩
  obtain ⟨rfl, rfl⟩ := y
  rw [hl] at hi
  exact ⟨.int (lo + i * c), by rw [List.getElem?_map, List.getElem?_range hi]; rfl, .int _, Ext.refl, fun _ s => s⟩
/-- the items of a frozen value stay -/
theorem items_seq {K T M H} {v : V} {x : D} (r : RD K T M H v x) {ds : List D} (h : x.items = some ds) :
    (∃ a xs, v = .ref a ∧ ∀ M1 H1, Ext M M1 H H1 → SqL K H1 a xs ∧ RDs K T M1 H1 xs ds) ∨ ((∃ a xs, v = .ref a ∧ ∀ M1 H1, Ext M M1 H H1 → SqT K H1 a xs ∧ RDs K T M1 H1 xs ds) ∨ ∃ z, v = .str z ∧ PyData.strOk z = true ∧ ds = z.cps.toList.map fun c => .str ⟨#[c]⟩) := by
  cases r with
  | lst hm ha rs =>
    cases h
    exact .inl ⟨_, _, rfl, fun M1 H1 e => ⟨.inl (.inl (e.keep _ _ ha hm rfl)), rs.ext e⟩⟩
  | scr hs =>
    cases h
    exact .inl ⟨_, _, rfl, fun M1 H1 e => ⟨sql_of (hs.imp (fun f => f.ext e rfl fun _ => rfl) id), RDs.ints _⟩⟩
  | tup ha rs =>
    cases h
    exact .inr (.inl ⟨_, _, rfl, fun M1 H1 e => ⟨sqt_of (ha.imp (fun f => f.ext e rfl fun _ => rfl) id), rs.ext e⟩⟩)
  | str hk =>
    cases h
    exact .inr (.inr ⟨_, rfl, hk, rfl⟩)
  | non => cases h
  | bl _ => cases h
  | int _ => cases h
  | dK _ _ => cases h
  | dT _ _ => cases h
  | ins _ _ _ => cases h
  | fn _ => cases h
  | exc _ _ _ => cases h
theorem kItems_go {β : Type} {Rel : RelT (List D) β} {M σ H st u} {Q : β → Hp → Prop} {v : V} (r : RU X.K T M H v u) (go : Go X.K T Rel W M σ H (kItems u st) Q) : ∃ x ds, RD X.K T M H v x ∧ x.items = some ds ∧ Go X.K T Rel W M σ H (.ok ds st) Q := by
  cases u with
  | loc i => exact go.elim
  | d x =>
    cases r with
    | d r =>
      have go' : Go X.K T Rel W M σ H (match x.items with
        | some ds => .ok ds st
        | none => .bad) Q := go
      cases e : x.items with
      | none => rw [e] at go'; exact go'.elim
      | some ds => rw [e] at go'; exact ⟨x, ds, r, e, go'⟩
theorem mi_any (he : ME X T W e fa) : MI X T W tg e (eItems fa) := by
  refine PI.imp (pi_any he) fun σ H R ⟨M, ρ, st, rep, go⟩ => ?_
  refine ⟨M, ρ, st, rep, (Go.bind (Rel := relU X.K T) rep go).mono fun v H1 ⟨M1, st1, u, e1, rep1, ru, go1⟩ => ?_⟩
  obtain ⟨x, ds, r, hi, go2⟩ := kItems_go ru go1
  rcases items_seq r hi with ⟨a, xs, rfl, h⟩ | ⟨a, xs, rfl, h⟩ | ⟨z, rfl, hk, rfl⟩
  · exact .inl ⟨a, rfl, ⟨xs, (h M1 H1 Ext.refl).1⟩, Go.now rep1.sto go2 (ok_list h)⟩
  · exact .inr (.inl ⟨a, rfl, ⟨xs, (h M1 H1 Ext.refl).1⟩, Go.now rep1.sto go2 (ok_tup h)⟩)
  · exact .inr (.inr ⟨z, rfl, Go.now rep1.sto go2 (ok_str hk)⟩)
/-! ### range -/
def inR (i : Int) : Bool := decide (-(2 ^ 62) ≤ i) && decide (i < 2 ^ 62)
def kRange1 : List U → Stor → R (List D) := fun us st => match us with
  | [.d (.int j)] => if inR j then .ok ((List.range j.toNat).map fun (i : Nat) => .int (0 + i)) st else .bad
  | _ => .bad
def kRange2 : List U → Stor → R (List D) := fun us st => match us with
  | [.d (.int i), .d (.int j)] => if inR i && inR j then .ok ((List.range (j - i).toNat).map fun (k : Nat) => .int (i + k)) st else .bad
  | _ => .bad
/-- how many of i, i + c, .. lie ahead of j -/
def rgN (i j c : Int) : Nat := if 0 < c then ((j - i + c - 1) / c).toNat else ((i - j + (-c) - 1) / (-c)).toNat
def kRange3 : List U → Stor → R (List D) := fun us st => match us with
  | [.d (.int i), .d (.int j), .d (.int c)] => if inR i && inR j && (decide (c = 1) || decide (c = -1)) then .ok ((List.range (rgN i j c)).map fun (k : Nat) => .int (i + k * c)) st else .bad
  | _ => .bad
def eRange1 (fs : EF (List U)) : EF (List D) := fun ρ st => (fs ρ st).bind kRange1
def eRange2 (fs : EF (List U)) : EF (List D) := fun ρ st => (fs ρ st).bind kRange2
def eRange3 (fs : EF (List U)) : EF (List D) := fun ρ st => (fs ρ st).bind kRange3
theorem inR_ok {i : Int} (h : inR i = true) : -(2 ^ 62) ≤ i ∧ i < 2 ^ 62 := by
  unfold inR at h
  rw [Bool.and_eq_true] at h
  exact ⟨of_decide_eq_true h.1, of_decide_eq_true h.2⟩
theorem RU.int {K T M H v i} (r : RU K T M H v (.d (.int i))) : v = .int i := by
  cases r with
  | d r => cases r; rfl
theorem mi_range1 (hg : Gl X "range") (hm : X.mg "range" = none) (ha : MA X T W [a] fs) (hs : starEach [a] X.env = [(false, eval a X.env)] := by rfl) : MI X T W tg (.Call (.Name "range" p) [a] [] pos) (eRange1 fs) := by
  refine PI.imp (pi_range1 hg hm ha hs) fun σ H R ⟨M, ρ, st, rep, go⟩ => ?_
  refine ⟨M, ρ, st, rep, (Go.bind (Rel := relL X.K T) rep go).mono fun vs H1 ⟨M1, st1, us, e1, rep1, rus, go1⟩ => ?_⟩
  unfold kRange1 at go1
  split at go1
  · rename_i j
    by_cases hz : inR j = true
    · simp only [hz, if_true] at go1
      cases rus with
      | cons r rr =>
        cases rr
        have := r.int
        subst this
        have hb := inR_ok hz
        exact ⟨j, rfl, hb.1, hb.2, Go.now rep1.sto go1 ok_range⟩
    · simp only [hz] at go1
      exact go1.elim
  · exact go1.elim
theorem mi_range2 (hg : Gl X "range") (hm : X.mg "range" = none) (ha : MA X T W [a, b] fs) (hs : starEach [a, b] X.env = [(false, eval a X.env), (false, eval b X.env)] := by rfl) (hs2 : starEach [b] X.env = [(false, eval b X.env)] := by rfl) :
    MI X T W tg (.Call (.Name "range" p) [a, b] [] pos) (eRange2 fs) := by
  refine PI.imp (pi_range2 hg hm ha hs hs2) fun σ H R ⟨M, ρ, st, rep, go⟩ => ?_
  refine ⟨M, ρ, st, rep, (Go.bind (Rel := relL X.K T) rep go).mono fun vs H1 ⟨M1, st1, us, e1, rep1, rus, go1⟩ => ?_⟩
  unfold kRange2 at go1
  split at go1
  · rename_i i j
    by_cases hz : (inR i && inR j) = true
    · simp only [hz, if_true] at go1
      rw [Bool.and_eq_true] at hz
      cases rus with
      | cons r rr =>
        cases rr with
        | cons r' rr =>
          cases rr
          have := r.int
          subst this
          have := r'.int
          subst this
          have hb := inR_ok hz.1
          have hb' := inR_ok hz.2
          exact ⟨i, j, rfl, ⟨hb.1, hb.2, hb'.1, hb'.2⟩, Go.now rep1.sto go1 ok_range⟩
    · simp only [hz] at go1
      exact go1.elim
  · exact go1.elim
/-! ### enumerate -/
def eEnum (f : EF (List D)) : EF (List D) := fun ρ st => (f ρ st).bind fun ds st1 => .ok (ds.zipIdx.map fun p => .tuple [.int p.2, p.1]) st1
def iEnumA (K : PySem.W.Frag) (ta : TA) : TI := fun σ H R => ta σ H fun vs H1 => (∃ a xs, vs = [.ref a] ∧ SqL K H1 a xs ∧ R (Ite K a) H1) ∨ ((∃ a xs, vs = [.ref a] ∧ SqT K H1 a xs ∧ R (IteS (fun H => SqT K H a xs) xs) H1) ∨
  ∃ z, vs = [.str z] ∧ R (IteS (fun _ => True) (z.cps.toList.map fun c => .str ⟨#[c]⟩)) H1)
theorem draws_tup {a it : Addr} {xs : List V} (hne : a ≠ it) : ∀ (Y : Cx), Y.prog = X.prog → Y.w = X.w → Y.K = X.K → Y.calm = true → ∀ (pins : List (Addr × Obj)) (s : Shared) (σ : L2.St) (H : Hp), Inv Y pins σ H s → SqT X.K H a xs → ∃ (fp : List Addr) (Pr : Nat → Value → Prop) (St' : Nat → Heap → Prop),
      Draws X.prog X.w Y.A.in1 it fp xs.length Pr St' ∧ (∀ i h, St' i h → Heap.IsTupleIter h it a i) ∧ (∀ i, s.heap.IsTupleIter it a i → St' i s.heap) ∧ (∀ i v, Pr i v → ∃ x, xs[i]? = some x ∧ RelV x v) ∧ ∀ b ∈ fp, b = it ∨ ∃ o, s.heap.get? b = some o ∧ o.cls = .type "tuple" := by
  intro Y h1 h2 h3 hc pins s σ H I hG
  rw [← h3] at hG
  obtain ⟨its, rv, p, hz⟩ := I.tuple hG
  have hh : Y.A.in1.handled = none := I.ok.hd hc
  have D := Draws.tuple (prog := X.prog) (w := X.w) (A := Y.A.in1) hh it a hne its.toArray
  have hsz : its.toArray.size = xs.length := by rw [List.size_toArray]; exact rv.length.symm
  rw [hsz] at D
  refine ⟨_, _, _, D, fun i h q => q.1, fun i q => ⟨q, p⟩, fun i v hv => ?_, fun b hb => ?_⟩
  · have hv' : its[i]? = some v := by simpa using hv
    have hi : i < xs.length := by
      have := (List.getElem?_eq_some_iff.mp hv').1
      rw [rv.length]
      exact this
    obtain ⟨u, hu, ru⟩ := rv.get (List.getElem?_eq_getElem hi)
    rw [hv'] at hu
    cases hu
    exact ⟨xs[i], List.getElem?_eq_getElem hi, ru⟩
  · have e' : b = it ∨ b = a := by simpa using hb
    rcases e' with z | z
    · exact .inl z
    · obtain ⟨o, ho, hcl, _⟩ := p
      exact .inr ⟨o, by rw [z]; exact ho, hcl⟩
theorem draws_str {it : Addr} {z : Str} {t : Tok} : ∀ (Y : Cx), Y.prog = X.prog → Y.w = X.w → Y.K = X.K → Y.calm = true → ∀ (pins : List (Addr × Obj)) (s : Shared) (σ : L2.St) (H : Hp), Inv Y pins σ H s → True → ∃ (fp : List Addr) (Pr : Nat → Value → Prop) (St' : Nat → Heap → Prop),
      Draws X.prog X.w Y.A.in1 it fp (z.cps.toList.map fun c => V.str ⟨#[c]⟩).length Pr St' ∧ (∀ i h, St' i h → Heap.IsStrIter h it (strIterType z) z t i) ∧ (∀ i, s.heap.IsStrIter it (strIterType z) z t i → St' i s.heap) ∧ (∀ i v, Pr i v → ∃ x, (z.cps.toList.map fun c => V.str ⟨#[c]⟩)[i]? = some x ∧ RelV x v) ∧ ∀ b ∈ fp, b = it ∨ ∃ o, s.heap.get? b = some o ∧ o.cls = .type "tuple" := by
  intro Y h1 h2 h3 hc pins s σ H I _
  have hh : Y.A.in1.handled = none := I.ok.hd hc
  have D := Draws.text (prog := X.prog) (w := X.w) (A := Y.A.in1) hh it z t
  have hsz : (z.cps.toList.map fun c => V.str ⟨#[c]⟩).length = z.cps.size := by simp
  rw [hsz]
  refine ⟨_, _, _, D, fun i h q => q, fun i q => q, fun i v hv => ?_, fun b hb => .inl (by simpa using hb)⟩
  obtain ⟨c, u, hc', rfl⟩ := hv
  exact ⟨.str ⟨#[c]⟩, by rw [List.getElem?_map, Array.getElem?_toList, hc']; rfl, ⟨u, rfl⟩⟩
theorem pi_enumA {ta : TA} (hg : Gl X "enumerate") (hm : X.mg "enumerate" = none) (ha : PA X [e] ta) (hs : starEach [e] X.env = [(false, eval e X.env)] := by rfl) :
    PI X (.Tuple elts kk tpos) (.Call (.Name "enumerate" p) [e] [] pos) (iEnumA X.K ta) := by
  refine ⟨fun pins s σ H R I h => ?_⟩
  refine Call_ (ld_blt I hg hm boot_enumerate (PyProof.Rows.callWith_type1 (thn (ha.run pos pins s σ H _ I h) fun us s1 ⟨vs, H1, I1, r1, q1⟩ => ?_) hs rfl))
  have two : ∀ {b : Addr}, b = s1.heap.objs.size + 1 ∨ b = s1.heap.objs.size → FpOk X pins H1 b := fun {b} e' => by
    have hle : s1.heap.objs.size ≤ b := by
      rcases e' with z | z
      · rw [z]; exact Nat.le_add_right _ _
      · rw [z]; exact Nat.le_refl _
    exact I1.fpOk hle (I1.hok.fresh hle)
  rcases q1 with ⟨a, xs, ex, hq, q⟩ | ⟨a, xs, ex, hq, q⟩ | ⟨z, ex, q⟩
  · subst ex
    cases r1 with
    | cons r rr =>
      cases rr
      cases r
      obtain ⟨its, rv, p', hz⟩ := I1.list hq
      refine call_enumerate_list p'.isList fun h' he hit hsz hk => wpAny_pyIter_enum he ?_
      have I2 : Inv X pins σ H1 { s1 with heap := h' } := I1.kept (t' := s1.toks) hk
      exact ⟨s1.heap.objs.size + 1, [s1.heap.objs.size + 1, s1.heap.objs.size], _, _, H1, rfl, I2, turn_enum a (s1.heap.objs.size + 1) s1.heap.objs.size, ⟨⟨.none, he⟩, hit, Nat.succ_ne_self _⟩, fun b hb => two (by simpa using hb), q⟩
  · subst ex
    cases r1 with
    | cons r rr =>
      cases rr
      cases r
      obtain ⟨its, rv, p', hz⟩ := I1.tuple hq
      have hlt : a < s1.heap.objs.size := p'.lt
      refine enum1_begins (begins_tuple a its.toArray) (show s1.heap.IsTuple a its.toArray from p') fun h' he hit hsz hk => wpAny_pyIter_enum he ?_
      have I2 : Inv X pins σ H1 { s1 with heap := h' } := I1.kept (t' := s1.toks) hk
      refine ⟨s1.heap.objs.size + 1, [s1.heap.objs.size + 1, s1.heap.objs.size], _, _, H1, rfl, I2, turn_enumG (s1.heap.objs.size + 1) s1.heap.objs.size xs (fun H => SqT X.K H a xs) (fun i h => h.IsTupleIter s1.heap.objs.size a i) (fun i h st => ?_) (fun i h h' st k => st.at fun o e => k o e) (draws_tup (Nat.ne_of_lt hlt)), ⟨⟨.none, he⟩, ⟨_, hit, rfl, rfl⟩, Nat.succ_ne_self _⟩, fun b hb => two (by simpa using hb), q⟩
      obtain ⟨o, ho, _, hd⟩ := st
      exact ⟨o, ho, fun v z => by rw [hd] at z; cases z⟩
  · subst ex
    cases r1 with
    | cons r rr =>
      cases rr
      obtain ⟨t, rfl⟩ := r
      refine call_enumerate_str fun h' he hit hsz hk => wpAny_pyIter_enum he ?_
      have I2 : Inv X pins σ H1 { s1 with heap := h' } := I1.kept (t' := s1.toks) hk
      refine ⟨s1.heap.objs.size + 1, [s1.heap.objs.size + 1, s1.heap.objs.size], _, _, H1, rfl, I2, turn_enumG (s1.heap.objs.size + 1) s1.heap.objs.size _ (fun _ => True) (fun i h => h.IsStrIter s1.heap.objs.size (strIterType z) z t i) (fun i h st => ?_) (fun i h h' st k => ?_) (draws_str), ⟨⟨.none, he⟩, hit, Nat.succ_ne_self _⟩, fun b hb => two (by simpa using hb), q⟩
      · obtain ⟨o, ho, _, hd⟩ := st
        exact ⟨o, ho, fun v z => by rw [hd] at z; cases z⟩
      · obtain ⟨o, ho, r⟩ := st
        exact ⟨o, k o ho, r⟩
/-- the pairs of an enumeration -/
def prs (ds : List D) : List D := ds.zipIdx.map fun p => .tuple [.int p.2, p.1]
theorem prs_get {ds : List D} {i : Nat} {d : D} (h : ds[i]? = some d) : (prs ds)[i]? = some (.tuple [.int i, d]) := by
  unfold prs
  rw [List.getElem?_map, List.getElem?_zipIdx, h]
  simp
theorem prs_len (ds : List D) : (prs ds).length = ds.length := by simp [prs]
/-- a new pair -/
theorem pair_new {K T M H} {p : Addr} {x : V} {d : D} {i : Nat} (hp : H p = none) (hm : some p ∉ M) (r : RD K T M H x d) :
    RD K T M (L2.upd H p (.tup [.int (i : Nat), x])) (.ref p) (.tuple [.int i, d]) :=
  .tup (.inl ⟨hm, .inl upd_same⟩) (.cons (.int _) (.cons (r.ext (Ext.lay hp)) .nil))
theorem ok_enumL {K T M H a xs ds} (h : ∀ M1 H1, Ext M M1 H H1 → SqL K H1 a xs ∧ RDs K T M1 H1 xs ds) : IterOk K T (Ite K a) (prs ds) M H := fun M1 H1 st1 e s1 => by
  obtain ⟨q, r⟩ := h M1 H1 e
  rw [prs_len]
  refine ⟨fun i hi => ?_, ⟨xs, q, by rw [r.length]; exact Nat.le_refl _⟩, fun i v H2 hi y => ?_⟩
  · have hi' : i < xs.length := by rw [r.length]; exact hi
    exact ⟨xs, xs[i], q, by simp [hi']⟩
  · obtain ⟨p, x, rfl, hp, rfl, hx⟩ := y
    obtain ⟨d, hd, rd'⟩ := r.get' (hx xs q)
    exact ⟨.tuple [.int i, d], prs_get hd, pair_new hp (s1.new hp) rd', Ext.lay hp, fun st s => s.lay hp⟩
theorem ok_enumS {K T M H ds} {G : Hp → Prop} {xs : List V} (h : ∀ M1 H1, Ext M M1 H H1 → G H1 ∧ RDs K T M1 H1 xs ds) : IterOk K T (IteS G xs) (prs ds) M H := fun M1 H1 st1 e s1 => by
  obtain ⟨q, r⟩ := h M1 H1 e
  rw [prs_len]
  refine ⟨fun i hi => ⟨q, by rw [r.length]; exact hi⟩, ⟨q, r.length.symm⟩, fun i v H2 hi y => ?_⟩
  obtain ⟨p, x, rfl, hp, rfl, hx⟩ := y
  obtain ⟨d, hd, rd'⟩ := r.get' hx
  exact ⟨.tuple [.int i, d], prs_get hd, pair_new hp (s1.new hp) rd', Ext.lay hp, fun st s => s.lay hp⟩
def eEnumI (f : EF U) : EF (List D) := fun ρ st => (f ρ st).bind fun u st1 => (kItems u st1).bind fun ds st2 => .ok (prs ds) st2
theorem mi_enum (hg : Gl X "enumerate") (hm : X.mg "enumerate" = none) (he : ME X T W e fa) (hs : starEach [e] X.env = [(false, eval e X.env)] := by rfl) : MI X T W (.Tuple elts kk tpos) (.Call (.Name "enumerate" p) [e] [] pos) (eEnumI fa) := by
  refine PI.imp (pi_enumA hg hm (pa_cons he pa_nil hs) hs) fun σ H R ⟨M, ρ, st, rep, go⟩ => ?_
  refine ⟨M, ρ, st, rep, (Go.bind (Rel := relU X.K T) rep go).mono fun v H1 ⟨M1, st1, u, e1, rep1, ru, go1⟩ => ?_⟩
  have go1' : Go X.K T (relI X.K T) W M1 σ H1 ((kItems u st1).bind fun ds st2 => .ok (prs ds) st2) R := go1
  obtain ⟨x, ds, r, hi, go2⟩ := kItems_go (Rel := fun _ _ (b : List D) a => b = a) ru (Go.bind rep1 go1')
  obtain ⟨M2, st2, ds', e2, rep2, e3, go3⟩ := Go.now rep1.sto go2 (b := ds) rfl
  have e3' : ds = ds' := e3
  subst e3'
  rcases items_seq r hi with ⟨a, xs, rfl, h⟩ | ⟨a, xs, rfl, h⟩ | ⟨z, rfl, hk, rfl⟩
  · exact .inl ⟨a, xs, rfl, (h M1 H1 Ext.refl).1, Go.now rep2.sto go3 (ok_enumL fun M' H' e' => h M' H' (e2.trans e'))⟩
  · exact .inr (.inl ⟨a, xs, rfl, (h M1 H1 Ext.refl).1, Go.now rep2.sto go3 (ok_enumS fun M' H' e' => h M' H' (e2.trans e'))⟩)
  · refine .inr (.inr ⟨z, rfl, Go.now rep2.sto go3 (ok_enumS fun M' H' e' => ⟨trivial, ?_⟩)⟩)
    have key : ∀ l : List Nat, (∀ c ∈ l, PyData.strOk ⟨#[c]⟩ = true) → RDs X.K T M' H' (l.map fun c => V.str ⟨#[c]⟩) (l.map fun c => D.str ⟨#[c]⟩) := by
      intro l
      induction l with
      | nil => intro _; exact .nil
      | cons c l ih => intro hl; exact .cons (.str (hl c List.mem_cons_self)) (ih fun c' hc' => hl c' (List.mem_cons_of_mem _ hc'))
    refine key _ fun c hc => ?_
    have hc' : c ∈ z.cps := by simpa using hc
    obtain ⟨i, hi', rfl⟩ := Array.mem_iff_getElem.mp hc'
    exact strOk_get hk (Array.getElem?_eq_getElem hi')
end
end MM
set_option maxRecDepth 100000
/-! M8: defs, calls, methods, new instances -/
namespace MM
open PySem PySem.Spec PyProof.Rows L2
abbrev FM := List U → Stor → R U
/-- what a def promises that computes F -/
def spM (K : PySem.W.Frag) (T : Nat → Addr) (n : Nat) (F : FM) : Sp := fun vs H Q E => vs.length = n ∧ ∃ M us st, Rst K T M H st ∧ Paired (RU K T M H) vs us ∧ Go K T (relU K T) (fun c d _ H' => E c d H') M [] H (F us st) Q
/-- a def's end: what it made itself changes no more -/
def finU (n : Nat) (u : U) (st' : Stor) : R U := match u with
  | .d x => .ok (.d x) (st'.take n)
  | .loc i => if i < n then .ok (.loc i) (st'.take n) else match rd st' (.loc i) with
    | some x => .ok (.d x) (st'.take n)
    | none => .bad
@[simp] theorem finU_d (n : Nat) (x : D) (st' : Stor) : finU n (.d x) st' = .ok (.d x) (st'.take n) := rfl
def finS (n : Nat) (r : RS) : R U := match r with
  | .nx _ st' => .ok (.d .none) (st'.take n)
  | .rt u st' => finU n u st'
  | .exc c fs _ st' => .exc c fs (st'.take n)
  | _ => .bad
@[simp] theorem finS_nx (n ρ st) : finS n (.nx ρ st) = .ok (.d .none) (st.take n) := rfl
@[simp] theorem finS_rt (n u st) : finS n (.rt u st) = finU n u st := rfl
@[simp] theorem finS_exc (n c fs ρ st) : finS n (.exc c fs ρ st) = .exc c fs (st.take n) := rfl
def runF (N : Nat) (g : SF) : FM := fun us st => finS st.length (g (us.map some ++ List.replicate (N - us.length) none) st)
section
variable {K : PySem.W.Frag} {T : Nat → Addr} {W : WX} {M : List (Option Addr)} {σ : L2.St} {H : Hp} {st : Stor}
theorem mem_take_nd {M' : List (Option Addr)} {H' : Hp} {st' : Stor} (s : Rst K T M' H' st') {i n : Nat} {a : Addr} (hi : M'[i]? = some (some a)) (hn : n ≤ i) : some a ∉ M'.take n := fun z => by
  obtain ⟨j, hj⟩ := List.getElem?_of_mem z
  rw [List.getElem?_take] at hj
  split at hj
  · have := s.nd j i a hj hi
    omega
  · cases hj
theorem take_sub {M' : List (Option Addr)} {n : Nat} : ∀ a, some a ∈ M'.take n → some a ∈ M' := fun a h => List.mem_of_mem_take h
/-- a changing object of a def's own, changed no more -/
theorem freeze_rd {M' : List (Option Addr)} {H' : Hp} {st' : Stor} (s : Rst K T M' H' st') {i n : Nat} {v : V} {x : D} (r : RU K T M' H' v (.loc i)) (hn : n ≤ i) (h : rd st' (.loc i) = some x) : RD K T (M'.take n) H' v x := by
  have h' : (match st'[i]? with
    | some (O.lst ds) => some (D.list ds)
    | some (O.dic kvs) => some (D.dict kvs)
    | some (O.ins c fs) => some (D.ins c fs)
    | _ => none) = some x := h
  cases e : st'[i]? with
  | none => rw [e] at h'; cases h'
  | some o =>
    rw [e] at h'
    obtain ⟨m, hm, ro⟩ := s.get e
    cases r with
    | hole hh =>
      rw [hh] at hm
      cases hm
      cases o with
      | lst ds => obtain ⟨_, xs, q, _⟩ := ro; cases q
      | dic ds => obtain ⟨_, q, _⟩ := ro; cases q
      | ins c fs => obtain ⟨_, dx, fv, q, _⟩ := ro; cases q
      | dead => cases h'
    | @loc a _ hh =>
      rw [hh] at hm
      cases hm
      have nm : some a ∉ M'.take n := mem_take_nd s hh hn
      cases o with
      | lst ds => cases h'; obtain ⟨_, xs, q, h1, h2⟩ := ro; cases q; exact .lst nm h1 (h2.sub take_sub)
      | dic ds =>
        cases h'
        obtain ⟨_, q, ⟨kv, h1, h2⟩ | ⟨kv, h1, h2⟩⟩ := ro
        · cases q; exact .dK ⟨nm, .inl h1⟩ (h2.sub take_sub)
        · cases q; exact .dT ⟨nm, .inl h1⟩ (h2.sub take_sub)
      | ins c fs => cases h'; obtain ⟨_, dx, fv, q, h1, h2⟩ := ro; cases q; exact .ins nm h1 (h2.sub take_sub)
      | dead => cases h'
theorem finU_go {M' : List (Option Addr)} {H' : Hp} {st' : Stor} {n : Nat} {u : U} {v : V} {Q : VK} (hn : n = M.length) (e : Ext M M' H H') (s : Rst K T M' H' st') (r : RU K T M' H' v u) (go : Go K T (relU K T) W M σ H (finU n u st') Q) : Q v H' := by
  have e' := e.take n hn
  have s' := s.take n
  cases u with
  | d x =>
    cases r with
    | d r => exact go _ H' v e' s' (.d (r.sub take_sub))
  | loc i =>
    have go' : Go K T (relU K T) W M σ H (if i < n then .ok (.loc i) (st'.take n) else match rd st' (.loc i) with
      | some x => .ok (.d x) (st'.take n)
      | none => .bad) Q := go
    by_cases hi : i < n
    · rw [if_pos hi] at go'
      refine go' _ H' v e' s' ?_
      cases r with
      | loc h => exact .loc (by rw [List.getElem?_take_of_lt hi]; exact h)
      | hole h => exact .hole (by rw [List.getElem?_take_of_lt hi]; exact h)
    · rw [if_neg hi] at go'
      cases q : rd st' (.loc i) with
      | none => rw [q] at go'; exact go'.elim
      | some x =>
        rw [q] at go'
        exact go' _ H' v e' s' (.d (freeze_rd s r (by omega) q))
/-- from a def's promise to its body -/
theorem GoS_of {n : Nat} {r : RS} {D : Ends} {Q : VK} (hn : n = M.length) (hD : ∀ σ' H', Q .non H' → D.nx σ' H') (hQ : ∀ v H', Q v H' → D.rt v H') (go : Go K T (relU K T) W M σ H (finS n r) Q) (hW : ∀ c d σ' H', W c d σ H' → W c d σ' H') : GoS K T W M H r D := by
  cases r with
  | nx ρ' st' => exact fun M' H' σ' e rep => hD σ' H' (go _ H' .non (e.take n hn) (rep.sto.take n) (.d .non))
  | rt u st' => exact fun M' H' v e s r => hQ v H' (finU_go hn e s r go)
  | bk ρ st' => exact go.elim
  | ct ρ st' => exact go.elim
  | exc c fs ρ' st' => exact fun M' H' σ' d fv e rep hd rf nd => hW _ _ _ _ (go _ H' d fv (e.take n hn) (rep.sto.take n) hd (rf.sub take_sub) fun z => nd (take_sub _ z))
  | bad => exact go.elim
end
theorem start_rep {K : PySem.W.Frag} {T : Nat → Addr} {M : List (Option Addr)} {H : Hp} : ∀ {vs : List V} {us : List U} (n : Nat), Paired (RU K T M H) vs us → Paired (RS1 K T M H) (vs.map some ++ List.replicate n none) (us.map some ++ List.replicate n none)
  | _, _, n, .nil => by
    induction n with
    | zero => exact .nil
    | succ n ih => exact .cons (fun u' e => by cases e) ih
  | _, _, n, .cons r t => .cons (fun u' e => by cases e; exact ⟨_, rfl, r⟩) (start_rep n t)
section
variable {P : Program} {w : World} {K : PySem.W.Frag} {mg : Str → Option Value} {base : Heap} {T : Nat → Addr}
/-- THE RULE for a def -/
theorem fn_ok {x qual : Str} {st : Stmt} {f : Addr} {fd : FuncData} {N ps : List Str} {k : Nat} {g : SF} (F : Fun K x qual st f fd) (S : FnScope N ps (defScope st))
    (hb : ∀ (cdv : Value) (A : Around) (outer : List Env) (s : Shared) (H : Hp) (E : XK), Room k (A.deeper (envOfC qual (defScope st) s.heap.objs.size f cdv)) →
      MSs (cxOf (L2.CX P w) P w K mg base N qual (defScope st) f cdv A outer s H E) T (fun c d _ H' => E c d H') (defBody st) g) :
    FnOk P w K mg base (L2.CX P w) (k + 1) f fd ps (spM K T ps.length (runF N.length g)) := by
  refine F.okX S (fun vs H Q E h => h.1) fun cdv A outer s H vs Q E hr h => ?_
  obtain ⟨hl, M, us, st', hs, hv, go⟩ := h
  refine ⟨_, hb cdv A outer s H E hr, M, us.map some ++ List.replicate (N.length - us.length) none, st', ⟨?_, hs⟩, ?_⟩
  · unfold L2.start
    rw [← Paired.len hv]
    exact start_rep _ hv
  · exact GoS_of hs.len.symm (fun _ _ q => q) (fun _ _ q => q) go fun _ _ _ _ q => q
end

/-! ### calls -/
section
variable {X : Cx} {T : Nat → Addr} {W : WX} {k n : Nat} {f : Addr} {fd : FuncData} {ps : List Str} {F : FM} {x m : Str} {p pos apos : Pos} {e o : Expr} {es : List Expr} {fs : EF (List U)} {fo : EF U}
theorem sp_of {M σ H st} {us : List U} {vs : List V} {Q : VK} (hl : vs.length = n) (s : Rst X.K T M H st) (r : Paired (RU X.K T M H) vs us) (go : Go X.K T (relU X.K T) W M σ H (F us st) Q) : spM X.K T n F vs H Q (WE W σ) := by
  refine ⟨hl, M, us, st, s, r, ?_⟩
  cases q : F us st with
  | ok a st' => rw [q] at go; exact go
  | exc c fs st' => rw [q] at go; exact go
  | bad => rw [q] at go; exact go
def kLen (n : Nat) (F : FM) : List U → Stor → R U := fun us st => if us.length = n then F us st else .bad
theorem m_call (tk : Takes X W) (G : FnOk X.prog X.w X.K X.mg X.base (L2.CX X.prog X.w) k f fd ps (spM X.K T n F)) (hr : Room k X.A) (hg : Gl X x) (hm : X.mg x = some (.ref f)) (hk : PySem.W.keepIn X.K (.ref f) = true) (hb : Binds X.K fd ps [])
    (ha : MA X T W (e :: es) fs) (hdb : (x == ("__debug__" : Str)) = false := by decide) (he : starEach (e :: es) X.env = (false, eval e X.env) :: starEach es X.env := by rfl) (hpl : (backTo pos (starEach es X.env)).any (·.1) = false := by rfl) :
    ME X T W (.Call (.Name x p) (e :: es) [] pos) (eArgs fs (kLen n F)) := by
  refine PE.imp (pe_callS (E := WE W) G hr hg hm hk hb (fun σ => passAt tk σ) ha hdb he hpl) fun σ H Q ⟨M, ρ, st, rep, go⟩ => ?_
  refine ⟨M, ρ, st, rep, (Go.bind (Rel := relL X.K T) rep go).mono fun vs H1 ⟨M1, st1, us, e1, rep1, rus, go1⟩ => ?_⟩
  unfold kLen at go1
  by_cases h : us.length = n
  · rw [if_pos h] at go1
    exact sp_of (by rw [Paired.len rus]; exact h) rep1.sto rus go1
  · rw [if_neg h] at go1
    exact go1.elim
/-- f() -/
theorem pe_callS0 {E : L2.St → XK} {sp : Sp} {CX : CXT} (G : FnOk X.prog X.w X.K X.mg X.base CX k f fd ps sp) (hr : Room k X.A) (hg : Gl X x) (hm : X.mg x = some (.ref f)) (hk : PySem.W.keepIn X.K (.ref f) = true) (hb : Binds X.K fd ps []) (hx : ∀ σ, PassesAt CX X σ (E σ))
    (hdb : (x == ("__debug__" : Str)) = false := by decide) : PE X (.Call (.Name x p) [] [] pos) (tCallS sp E tNil) := by
  refine ⟨fun pins s σ H Q I h => ?_⟩
  refine wpAny_Call_Name_kw (ld_glob I hg hm ?_ hdb)
  exact PySem.W.callWith_K0 I.kIn hk (run_fnS (us := []) G hr hb (hx σ) I .nil h)
theorem m_call0 (tk : Takes X W) (G : FnOk X.prog X.w X.K X.mg X.base (L2.CX X.prog X.w) k f fd ps (spM X.K T 0 F)) (hr : Room k X.A) (hg : Gl X x) (hm : X.mg x = some (.ref f)) (hk : PySem.W.keepIn X.K (.ref f) = true) (hb : Binds X.K fd ps [])
    (hdb : (x == ("__debug__" : Str)) = false := by decide) : ME X T W (.Call (.Name x p) [] [] pos) (eArgs eNil F) := by
  refine PE.imp (pe_callS0 (E := WE W) G hr hg hm hk hb (fun σ => passAt tk σ) hdb) fun σ H Q ⟨M, ρ, st, rep, go⟩ => ?_
  exact sp_of (us := []) rfl rep.sto .nil go
/-- o.m(e, ..), what it raises wished for at the slots -/
def tMethS (C : Addr) (m : Str) (sp : Sp) (E : L2.St → XK) (ta : TE) (t : TA) : TE := fun σ H Q => ta σ H fun x H1 => ∃ a dx fs, x = .ref a ∧ H1 a = some (.ins C dx fs) ∧ fs.lookup m = none ∧ t σ H1 fun vs H2 => sp (x :: vs) H2 Q (E σ)
theorem pe_methS' {E : L2.St → XK} {sp : Sp} {CX : CXT} {C : Addr} {ta : TE} {t : TA} {pl : Sem Bool} (he : PE X o ta) (c : Cls X.K C) (hm : Meth X.K C m f) (G : FnOk X.prog X.w X.K X.mg X.base CX k f fd ps sp) (hr : Room k X.A) (hb : Binds X.K fd ps []) (hx : ∀ σ, PassesAt CX X σ (E σ)) (ha : PA X (e :: es) t)
    (hst : starEach (e :: es) X.env = (false, eval e X.env) :: starEach es X.env := by rfl) (hpl : (backTo pos (starEach es X.env)).any (·.1) = false := by rfl)
    (ht : eval (.Call (.Attribute o m apos) (e :: es) [] pos) X.env = (do
      let ov ← eval o X.env
      standAt apos.atName
      let (f, first) ← holding [ov] (getMethod ov m pl)
      callWith pos f first (backTo pos (starEach (e :: es) X.env)) (backToKw pos (keywordEach [] X.env))) := by rfl) :
    PE X (.Call (.Attribute o m apos) (e :: es) [] pos) (tMethS C m sp E ta t) := by
  refine ⟨fun pins s σ H Q I h => ?_⟩
  refine PySem.W.methodCall_KW (pl := pl) (thn (he.run pins s σ H _ I h) fun u s1 ⟨x, H1, I1, rx, a, dx, fs, ex, ea, l, q⟩ => ?_) ht
  subst ex
  obtain rfl : u = Value.ref a := rx
  refine getmeth_ok I1 ea c hm l ?_
  refine PySem.W.callWith_K (first := [.ref a]) (h₀ := X.base) I.ok.mod.kin hm.kp (thn (ha.run pos pins s1 σ H1 _ I1 q) fun us s2 ⟨vs, H2, I2, r, q2⟩ => ⟨I2.kIn, ?_⟩) hst hpl
  exact run_fnS (us := .ref a :: us) (vs := .ref a :: vs) G hr hb (hx σ) I2 (.cons rfl r) q2
theorem pe_methS0' {E : L2.St → XK} {sp : Sp} {CX : CXT} {C : Addr} {ta : TE} {pl : Sem Bool} (he : PE X o ta) (c : Cls X.K C) (hm : Meth X.K C m f) (G : FnOk X.prog X.w X.K X.mg X.base CX k f fd ps sp) (hr : Room k X.A) (hb : Binds X.K fd ps []) (hx : ∀ σ, PassesAt CX X σ (E σ))
    (ht : eval (.Call (.Attribute o m apos) [] [] pos) X.env = (do
      let ov ← eval o X.env
      standAt apos.atName
      let (f, first) ← holding [ov] (getMethod ov m pl)
      callWith pos f first (backTo pos (starEach [] X.env)) (backToKw pos (keywordEach [] X.env))) := by rfl) :
    PE X (.Call (.Attribute o m apos) [] [] pos) (tMethS C m sp E ta tNil) := by
  refine ⟨fun pins s σ H Q I h => ?_⟩
  refine PySem.W.methodCall_KW (pl := pl) (thn (he.run pins s σ H _ I h) fun u s1 ⟨x, H1, I1, rx, a, dx, fs, ex, ea, l, q⟩ => ?_) ht
  subst ex
  obtain rfl : u = Value.ref a := rx
  refine getmeth_ok I1 ea c hm l ?_
  exact PySem.W.callWith_K0 (first := [.ref a]) I1.kIn hm.kp (run_fnS (us := [.ref a]) (vs := [.ref a]) G hr hb (hx σ) I1 (.cons rfl .nil) q)
/-- is it an instance of class c without such an attribute? -/
def insOf (c : Nat) (m : Str) (st : Stor) (u : U) : Bool := match rd st u with
  | some (.ins c' fs) => c' == c && (fs.lookup m).isNone
  | _ => false
def eMeth (c : Nat) (m : Str) (n : Nat) (F : FM) (fo : EF U) (fs : EF (List U)) : EF U := fun ρ st => (fo ρ st).bind fun u st1 => if insOf c m st1 u then (fs ρ st1).bind fun us st2 => kLen n F (u :: us) st2 else .bad
theorem insOf_ok {c : Nat} {M H st u} {v : V} {K : PySem.W.Frag} (s : Rst K T M H st) (r : RU K T M H v u) (h : insOf c m st u = true) : ∃ a dx fs, v = .ref a ∧ H a = some (.ins (T c) dx fs) ∧ fs.lookup m = none := by
  unfold insOf at h
  cases e : rd st u with
  | none => rw [e] at h; cases h
  | some x =>
    rw [e] at h
    cases x with
    | ins c' fs =>
      simp only [Bool.and_eq_true] at h
      have ec : c' = c := by simpa using h.1
      subst ec
      obtain ⟨a, dx, fv, rfl, ha, rf⟩ := r.rv s e
      exact ⟨a, dx, fv, rfl, ha, rf.lookup_none (by simpa using h.2)⟩
    | _ => cases h
theorem m_meth {c : Nat} {pl : Sem Bool} (tk : Takes X W) (he : ME X T W o fo) (hc : Cls X.K (T c)) (hm : Meth X.K (T c) m f) (G : FnOk X.prog X.w X.K X.mg X.base (L2.CX X.prog X.w) k f fd ps (spM X.K T n F)) (hr : Room k X.A) (hb : Binds X.K fd ps []) (ha : MA X T W (e :: es) fs)
    (hst : starEach (e :: es) X.env = (false, eval e X.env) :: starEach es X.env := by rfl) (hpl : (backTo pos (starEach es X.env)).any (·.1) = false := by rfl)
    (ht : eval (.Call (.Attribute o m apos) (e :: es) [] pos) X.env = (do
      let ov ← eval o X.env
      standAt apos.atName
      let (f, first) ← holding [ov] (getMethod ov m pl)
      callWith pos f first (backTo pos (starEach (e :: es) X.env)) (backToKw pos (keywordEach [] X.env))) := by rfl) :
    ME X T W (.Call (.Attribute o m apos) (e :: es) [] pos) (eMeth c m n F fo fs) := by
  refine PE.imp (pe_methS' (pl := pl) (E := WE W) he hc hm G hr hb (fun σ => passAt tk σ) ha hst hpl ht) fun σ H Q ⟨M, ρ, st, rep, go⟩ => ?_
  refine ⟨M, ρ, st, rep, (Go.bind (Rel := relU X.K T) rep go).mono fun v H1 ⟨M1, st1, u, e1, rep1, ru, go1⟩ => ?_⟩
  by_cases h : insOf c m st1 u = true
  · simp only [h, if_true] at go1
    obtain ⟨a, dx, fv, rfl, h1, h2⟩ := insOf_ok rep1.sto ru h
    refine ⟨a, dx, fv, rfl, h1, h2, M1, ρ, st1, rep1, (Go.bind (Rel := relL X.K T) rep1 go1).mono fun vs H2 ⟨M2, st2, us, e2, rep2, rus, go2⟩ => ?_⟩
    unfold kLen at go2
    by_cases hl : (u :: us).length = n
    · rw [if_pos hl] at go2
      exact sp_of (by rw [← hl, List.length_cons, List.length_cons, Paired.len rus]) rep2.sto (.cons (RU.ext e2 ru) rus) go2
    · rw [if_neg hl] at go2
      exact go2.elim
  · simp only [h] at go1
    exact go1.elim
theorem m_meth0 {c : Nat} {pl : Sem Bool} (tk : Takes X W) (he : ME X T W o fo) (hc : Cls X.K (T c)) (hm : Meth X.K (T c) m f) (G : FnOk X.prog X.w X.K X.mg X.base (L2.CX X.prog X.w) k f fd ps (spM X.K T n F)) (hr : Room k X.A) (hb : Binds X.K fd ps [])
    (ht : eval (.Call (.Attribute o m apos) [] [] pos) X.env = (do
      let ov ← eval o X.env
      standAt apos.atName
      let (f, first) ← holding [ov] (getMethod ov m pl)
      callWith pos f first (backTo pos (starEach [] X.env)) (backToKw pos (keywordEach [] X.env))) := by rfl) :
    ME X T W (.Call (.Attribute o m apos) [] [] pos) (eMeth c m n F fo eNil) := by
  refine PE.imp (pe_methS0' (pl := pl) (E := WE W) he hc hm G hr hb (fun σ => passAt tk σ) ht) fun σ H Q ⟨M, ρ, st, rep, go⟩ => ?_
  refine ⟨M, ρ, st, rep, (Go.bind (Rel := relU X.K T) rep go).mono fun v H1 ⟨M1, st1, u, e1, rep1, ru, go1⟩ => ?_⟩
  by_cases h : insOf c m st1 u = true
  · simp only [h, if_true] at go1
    obtain ⟨a, dx, fv, rfl, h1, h2⟩ := insOf_ok rep1.sto ru h
    refine ⟨a, dx, fv, rfl, h1, h2, ?_⟩
    have go2 : Go X.K T (relU X.K T) W M1 σ H1 (kLen n F [u] st1) Q := go1
    unfold kLen at go2
    by_cases hl : [u].length = n
    · rw [if_pos hl] at go2
      exact sp_of (by rw [← hl]; rfl) rep1.sto (.cons ru .nil) go2
    · rw [if_neg hl] at go2
      exact go2.elim
  · simp only [h] at go1
    exact go1.elim
end
end MM
set_option maxRecDepth 100000
/-! M9: own exceptions whose __init__ says super().__init__(..) -/
namespace MM
open PySem PySem.Spec PyProof.Rows L2

section
open PySem.W PySem.Calls
variable {prog : Program} {w : World} {A : Around} {E : Value → Shared → Prop} {h : Heap} {g : Array GenState} {d : Drawn} {t : Nat} {os : OsState}
variable {nm q : Str} {C N : Addr} {bs bm : List Value} {hdct : Bool} {sn : List Str} {sub : List Value} {ab : Bool} {col : Option Bool} {dd : Option Addr} {k0 k1 k2 k3 k5 : Option Value}
/-- the bound ValueError.__init__, called -/
theorem call_mw {u e t0 : Addr} {rest : List Value} {Q : Value → Shared → Prop}
    (hC : h.get? C = some (excClassObj nm q C N bs bm hdct sn sub ab col dd k0 k1 k2 k3 k5 "ValueError.__new__")) (he : h.get? e = some (HandSPX.excO C t0)) (hu : h.get? u = some (kxs_mw "ValueError.__init__" e)) (hrest : rest.length ≤ sizeLine)
    (hq : ∀ h' t1, (∀ b o, b ≠ e → h.get? b = some o → h'.get? b = some o) → h'.get? e = some (HandSPX.excO C t1) → Q .none ⟨h', g, d, t, os⟩) :
    wpAny (model prog w) A (call (.ref u) rest) Q E ⟨h, g, d, t, os⟩ := by
  refine wpAny_call (codeAny_of_tree ?_)
  show wpAny _ A.in1 (callAny (.ref u) ⟨rest, []⟩) _ _ _
  simp only [callAny]
  refine wpAny_bind (wpAny_load hu ?_)
  simp only [kxs_mw, show (Value.type "method-wrapper" == Value.type "method" || Value.type "method-wrapper" == Value.type "builtin_function_or_method" || Value.type "method-wrapper" == Value.type "method-wrapper") = true by decide, if_true]
  refine W.KFB.if_so (by decide) ?_
  refine wpAny_bind (ESX.check_bound F.excBase_ValueError hC he rfl ?_)
  refine wpAny_bind (wpAny_pure (wpAny_pure ?_))
  refine ⟨Code.quiet_builtin _ (by decide +kernel), codeAny_builtin F.excBase_ValueError.initEntry ?_⟩
  rw [Around.under_plainId F.excBase_ValueError.init.plain _]
  wp_walk
  refine hq _ h.objs.size (fun b o hb ho => ?_) ?_
  · rw [Heap.get?_update_other _ _ (Ne.symm hb)]
    exact Heap.get?_push_of_some _ ho
  · rw [Heap.get?_update_self _ (Heap.get?_push_of_some _ he) rfl]
    rfl
end

/-- a def of a class's body with a super() in it: its __class__ cell is at cc -/
abbrev ssFn := @PySem.W.ksFn
/-- the context of such a def's body, which raises nothing -/
def cxS (P : Program) (w : World) (K : PySem.W.Frag) (mg : Str → Option Value) (base : Heap) (N : List Str) (qual : Str) (scope : Scope) (f : Addr) (cd : Value) (cc : Addr) (A : Around) (outer : List Env) (s : Shared) (H : Hp) : Cx where
  prog := P
  w := w
  K := K
  mg := mg
  base := base
  A := A.deeper (PySem.W.ksEnv qual scope s.heap.objs.size f cd cc)
  N := N
  s_0 := s
  H_0 := H
  env := PySem.W.ksEnv qual scope s.heap.objs.size f cd cc
  outer := outer
  stack := PySem.W.ksEnv qual scope s.heap.objs.size f cd cc :: outer
  ex := []
  calm := true
  fn := fun _ => false
  pn := []
  xe := fun _ _ => False
theorem lookup_nodup {α : Type} {x : Str} {u : α} : ∀ {l : List (Str × α)}, (l.map (·.1)).Nodup → (x, u) ∈ l → l.lookup x = some u
  | [], _, h => by cases h
  | (y, v) :: l, nd, h => by
    rw [List.map_cons, List.nodup_cons] at nd
    rw [List.lookup_cons]
    rcases List.mem_cons.mp h with e | h2
    · cases e
      simp
    · have ne : (x == y) = false := by
        apply beq_eq_false_iff_ne.mpr
        intro e
        subst e
        exact nd.1 (List.mem_map.mpr ⟨(x, u), h2, rfl⟩)
      rw [ne]
      exact lookup_nodup nd.2 h2
theorem zip_rev {ps : List Str} {us : List Value} {i : Nat} {y : Str} {u : Value} (nd : ps.Nodup) (hl : us.length = ps.length) (hp : ps[i]? = some y) (hu : us[i]? = some u) : (ps.zip us).reverse.lookup y = some u := by
  refine lookup_nodup ?_ (List.mem_reverse.mpr ?_)
  · rw [List.map_reverse, List.map_fst_zip (by omega)]
    exact List.pairwise_reverse.mpr (List.Pairwise.imp (fun h => Ne.symm h) nd)
  · refine List.mem_of_getElem? (i := i) ?_
    rw [List.getElem?_zip_eq_some]
    exact ⟨hp, hu⟩
structure SupScope (N ps : List Str) (sc : Scope) : Prop where
  kind : sc.kind = .function
  co : sc.isCoroutine = false
  gen : sc.isGenerator = false
  nd : N.Nodup
  pre : N.take ps.length = ps
  par : ∀ x ∈ ps, sc.names.lookup x = some .local
  cell : ∀ y ∈ sc.names, y.2 ≠ .cell
  free : ∀ y ∈ sc.names, y.2 = .free → y.1 = ("__class__" : Str)
  cls : sc.names.lookup ("__class__" : Str) = some NameKind.free
  sup : sc.names.lookup ("super" : Str) = some NameKind.globalImplicit
theorem inv_sup {P : Program} {w : World} {K : PySem.W.Frag} {mg : Str → Option Value} {base : Heap} {N ps : List Str} {qual : Str} {scope : Scope} {f cc : Addr} {cd : Value} {A : Around} {outer : List Env} {s : Shared} {h₀ : Heap} {H : Hp} {us : List Value} {vs : List V} {D : Addr}
    (S : SupScope N ps scope) (hd : A.handled = none) (e0 : Env0 P w K mg base A outer s H) (hl : vs.length = ps.length) (r : Vals vs us) {cl : Value} {cld : Option Addr} {csl : Array (Option Value)} (hcell : K.lookup cc = some ⟨cl, cld, .cell (some (.ref D)), csl⟩)
    (hns : h₀.Ns s.heap.objs.size (fun x => (ps.zip us).reverse.lookup x)) (hk : ∀ b o, s.heap.get? b = some o → h₀.get? b = some o) (n : Nat) :
    Inv (cxS P w K mg base N qual scope f cd cc A outer s H) [] (L2.start N vs) H { s with heap := h₀, toks := s.toks + n } := by
  have hpl : ps.length ≤ N.length := by have := congrArg List.length S.pre; rw [List.length_take] at this; omega
  have noA : ∀ b : Addr, b ∉ (cxS P w K mg base N qual scope f cd cc A outer s H).ex := fun b z => absurd (show b ∈ ([] : List Addr) from z) (by simp)
  have cl1 : ∀ {x : Str} {c : Addr}, List.lookup x [(("__class__" : Str), cc)] = some c → x = "__class__" ∧ c = cc := fun {x c} h => by
    rw [List.lookup_cons] at h
    cases e : x == ("__class__" : Str) with
    | true => rw [e] at h; cases h; exact ⟨by simpa using e, rfl⟩
    | false => rw [e] at h; cases h
  have KX : K.In s.heap := e0.mod.kin.keeps fun b o e => (e0.bs b o e).1
  have hcc := e0.mod.kin _ _ hcell
  have Hcc : H cc = none := (e0.bs _ _ hcc).2
  refine ⟨⟨e0.mod, S.kind, rfl, rfl, Nat.le_refl _, fun y z c h1 h2 => ?_, fun y hy => ?_, fun y c hf h => ?_, fun _ => hd, Around.frames_deeper e0.frames, .inr ⟨rfl, rfl⟩, fun b z => absurd z (noA b), e0.bs, e0.bsz, fun b _ _ => noA b, fun b z => absurd z (noA b), e0.funs, e0.frf⟩,
    rfl, e0.bare, Un.kept hk, ⟨_, hns, fun i y v h1 h2 h3 => ?_⟩, fun y c h => ?_, e0.hok.fresh (Nat.le_refl _), fun y c h => ?_, fun p hp => absurd (show p ∈ ([] : List (Addr × Obj)) from hp) (by simp), e0.hok.kept hk, ?_⟩
  · rw [(cl1 h1).1, (cl1 h2).1]
  · have hy : scope.names.lookup y = some .cell ∨ scope.names.lookup y = some .free := hy
    rcases hy with hy | hy
    · exact absurd rfl (S.cell _ (PySem.mem_of_lookup hy))
    · have := S.free _ (PySem.mem_of_lookup hy) rfl
      simp only at this
      subst this
      exact ⟨cc, rfl⟩
  · cases (show false = true from hf)
  · have hi : i < vs.length := by
      unfold L2.start at h2
      by_cases hi : i < vs.length
      · exact hi
      · rw [List.getElem?_append_right (by simpa using hi)] at h2
        rw [List.getElem?_replicate] at h2
        split at h2 <;> cases h2
    have ha : vs[i]? = some v := by
      unfold L2.start at h2
      rw [List.getElem?_append_left (by simpa using hi), List.getElem?_map] at h2
      cases e : vs[i]? with
      | none => rw [e] at h2; cases h2
      | some a => rw [e] at h2; cases h2; rfl
    obtain ⟨u, hu, rv⟩ := r.get ha
    have hp : ps[i]? = some y := by
      rw [← S.pre, List.getElem?_take_of_lt (by omega)]; exact h1
    have ndP : ps.Nodup := by rw [← S.pre]; exact S.nd.sublist (List.take_sublist _ _)
    refine ⟨u, rv, .inl ⟨S.par y (List.mem_of_getElem? hp), ?_⟩⟩
    have hlu : us.length = ps.length := by rw [← r.length]; exact hl
    exact zip_rev ndP hlu hp hu
  · obtain ⟨rfl, rfl⟩ := cl1 h
    exact ⟨_, _, hk _ _ (KX _ _ hcell), rfl⟩
  · obtain ⟨rfl, rfl⟩ := cl1 h
    exact Hcc
  · unfold L2.start
    show _ = N.length
    rw [List.length_append, List.length_map, List.length_replicate]
    omega

/-- what the written part says of an own error class and its __init__ -/
structure SupC (P : Program) (K : PySem.W.Frag) (mg : Str → Option Value) (C fI cc cda : Addr) (qual : Str) (st : Stmt) (fd : FuncData) : Prop where
  ox : OexC K C
  lk : ∃ (oc : Value) (od : Option Addr) (kV doc pm : Value) (an : Option Addr) (ct : Value) (osl : Array (Option Value)), fd = PySem.W.ksFn "__init__" qual (defArgs st) (defBody st) (defScope st) .none kV doc pm an (.ref cda) ct cc ∧ K.lookup fI = some ⟨oc, od, .func fd, osl⟩
  cd : PySem.W.codeIn K (.ref cda) qual = true
  co : ∃ (ccl : Value) (cdd : Option Addr) (vs : Array Value) (ccs : Array (Option Value)) (file : Str) (tf : Tok), K.lookup cda = some ⟨ccl, cdd, .fields vs, ccs⟩ ∧ vs[2]? = some (.str file tf) ∧ ((P.main.file : Str) == file) = true
  cell : ∃ (cl : Value) (cld : Option Addr) (csl : Array (Option Value)), K.lookup cc = some ⟨cl, cld, .cell (some (.ref C)), csl⟩
  cls : ∃ cdD, PySem.W.clsIn K C = some cdD
  sub : PySem.W.mroIn K C (.ref C) = some true
  sup : mg "super" = none
  opq : PySem.W.nsIn K PySem.cStatics "thirdparty.any" = some none
  ini : PySem.W.ks_superIn K C C "__init__" = some (some (.builtin "ValueError.__init__"))
  sVE : PySem.W.subIn K (.ref C) (.type "ValueError") = some true
  top : (P.main.scope.names.lookup ("super" : Str)).isSome = false
/-- THE RULE for such an __init__ -/
theorem fn_super {P : Program} {w : World} {K : PySem.W.Frag} {mg : Str → Option Value} {base : Heap} {CX : CXT} {k : Nat} {C fI cc cda : Addr} {qual : Str} {st : Stmt} {fd : FuncData} {N ps : List Str} {sp : Sp} {ar : Arg}
    {e0 : Expr} {es : List Expr} {rest : List Stmt} {p0 p1 apos pos pos' : Pos} {pl : Sem Bool} (c : SupC P K mg C fI cc cda qual st fd) (S : SupScope N ps (defScope st)) (len : ∀ vs H Q E, sp vs H Q E → vs.length = ps.length)
    (hb : defBody st = .Expr (.Call (.Attribute (.Call (.Name "super" p0) [] [] p1) "__init__" apos) (e0 :: es) [] pos) pos' :: rest)
    (hself : ((defArgs st).posonlyargs ++ (defArgs st).args).head? = some ar) (h0 : N[0]? = some ar.arg) (har : (defScope st).names.lookup ar.arg = some .local)
    (hev : ∀ env : Env, eval (.Call (.Attribute (.Call (.Name "super" p0) [] [] p1) "__init__" apos) (e0 :: es) [] pos) env = (do
      let ov ← attributeBase (.Call (.Name "super" p0) [] [] p1) "__init__" env (eval (.Call (.Name "super" p0) [] [] p1) env)
      standAt apos.atName
      let (f, first) ← holding [ov] (getMethod ov "__init__" pl)
      callWith pos f first (backTo pos (starEach (e0 :: es) env)) []))
    (hse : ∀ env : Env, starEach (e0 :: es) env = (false, eval e0 env) :: starEach es env) (hpl : ∀ env : Env, (backTo pos (starEach es env)).any (·.1) = false)
    (hsw : ∀ env : Env, env.scope.kind = .function → swapsWith (.Call (.Attribute (.Call (.Name "super" p0) [] [] p1) "__init__" apos) (e0 :: es) [] pos) none pos'.line env = pure false)
    (hbody : ∀ (A : Around) (outer : List Env) (s : Shared) (H : Hp) (vs : List V) (Q : VK) (E : XK), sp vs H Q E →
      ∃ a ta t, vs[0]? = some (.ref a) ∧ PA (cxS P w K mg base N qual (defScope st) fI (.ref cda) cc A outer s H) (e0 :: es) ta ∧ PSs (cxS P w K mg base N qual (defScope st) fI (.ref cda) cc A outer s H) rest t ∧
        H a = some (exo a C none) ∧ ta (L2.start N vs) H fun ws H1 => ws.length ≤ 1000 ∧ H1 = H ∧ t { nx := fun _ H' => Q .non H', rt := Q } (L2.start N vs) H1) :
    FnOk P w K mg base CX (k + 1) fI fd ps sp := by
  refine ⟨len, fun A outer s H args us vs Q E hr en hbind r hsp => ?_⟩
  have hl := len _ _ _ _ hsp
  have KX : K.In s.heap := en.mod.kin.keeps fun b o e => (en.bs b o e).1
  have lim : s.heap.NoLimit := en.mod.nolimit.keeps fun b o e => (en.bs b o e).1
  obtain ⟨oc, od, kV, doc, pm, an, ct, osl, rfl, lk⟩ := c.lk
  obtain ⟨ccl, cdd, cvs, ccs, file, tf, hco, hcv, hfile⟩ := c.co
  obtain ⟨cl, cld, csl, hcell⟩ := c.cell
  obtain ⟨cdD, hcls⟩ := c.cls
  have hpl' : ps.length ≤ N.length := by have := congrArg List.length S.pre; rw [List.length_take] at this; omega
  obtain ⟨a, ta, t, hv0, ha, ht, hea, hq⟩ := hbody A outer s H vs Q E hsp
  have hg0 : (ps.zip us).reverse.lookup ar.arg = some (.ref a) := by
    have hl' : us.length = ps.length := by rw [← r.length]; exact hl
    obtain ⟨u, hu, rv⟩ := r.get hv0
    obtain rfl : u = Value.ref a := rv
    have h0l : 0 < vs.length := by
      rcases vs with _ | _
      · cases hv0
      · exact Nat.succ_pos _
    have hp0 : ps[0]? = some ar.arg := by
      rw [← S.pre, List.getElem?_take_of_lt (by omega)]; exact h0
    have ndP : ps.Nodup := by rw [← S.pre]; exact S.nd.sublist (List.take_sublist _ _)
    exact zip_rev ndP hl' hp0 hu
  refine PySem.ks_codeAny_call_defAt (fd := PySem.W.ksFn "__init__" qual (defArgs st) (defBody st) (defScope st) .none kV doc pm an (.ref cda) ct cc) (body := defBody st) (binds := ps.zip us) hr.depth (KX _ _ lk) rfl lim (PySem.W.codeRec_of KX c.cd) rfl hbind S.cell
    (fun y hy => S.par _ (List.of_mem_zip (show (y.1, y.2) ∈ ps.zip us from hy)).1) (fun h₀ hns hk => ?_) S.co S.gen S.kind
  have I0 := inv_sup (qual := qual) (f := fI) (cd := .ref cda) (n := (ps.zip us).length) S hr.hd en hl r hcell hns hk
  have I := I0
  show _root_.PySem.wpAt (model P w) (A.deeper (PySem.W.ksEnv qual (defScope st) s.heap.objs.size fI (.ref cda) cc)) (.func (defBody st) (PySem.W.ksEnv qual (defScope st) s.heap.objs.size fI (.ref cda) cc)) (execs (defBody st) (PySem.W.ksEnv qual (defScope st) s.heap.objs.size fI (.ref cda) cc)) _ _ _
  refine ks_wpAt_mono (Q := SP (cxS P w K mg base N qual (defScope st) fI (.ref cda) cc A outer s H) [] { nx := fun _ H' => Q .non H', rt := Q }) (E := fun _ _ => False) ?_ (fun fl s' hs => ?_) (fun _ _ z => z.elim)
  · have hint := I0.quiet
    obtain ⟨t0, hoa⟩ := exo_at I0.hok hea
    obtain ⟨oD, hD1, hD2⟩ : ∃ oD, h₀.get? C = some oD ∧ oD.data = .cls cdD := by
      unfold PySem.W.clsIn at hcls
      split at hcls
      · rename_i c1 d1 cd' sl ho
        cases hcls
        exact ⟨_, I0.kIn _ _ ho, rfl⟩
      · cases hcls
    have KF := PySem.W.kxs_ValueError
    have X := I0.kIn
    obtain ⟨mb, b1, b2⟩ := en.mod.blt
    have up : ∀ b o, base.get? b = some o → h₀.get? b = some o := fun b o e => hk b o (en.bs b o e).1
    rw [hb]
    refine ks_wpAt_execs_cons (ks_wpAt_Expr_any (ks_wpAt_MethodCall ?_ (hev _)) hint (hsw _ S.kind))
    refine ks_wpAt_super_base (env := PySem.W.ksEnv qual (defScope st) s.heap.objs.size fI (.ref cda) cc) S.sup S.cls (by decide) rfl (hk _ _ (KX _ _ lk)) rfl hself rfl (hk _ _ (KX _ _ hco)) rfl hcv hfile c.top ?_
    refine PySem.W.ks_loadName_global S.kind S.sup (Calls.loadGlobal_builtin (env := PySem.W.ksEnv qual (defScope st) s.heap.objs.size fI (.ref cda) cc) (en.mod.glob.keeps up) c.sup (b1.keeps up) ((b2 _ (by decide +kernel)).trans (by kernel_rfl)) ⟨rfl, ?_⟩)
    refine wpAny_loadName_free S.kind S.cls rfl ⟨_, hk _ _ (KX _ _ hcell), rfl⟩ ?_
    refine wpAny_loadName_local S.kind har hns hg0 ?_
    refine PySem.ks_wpAny_isType_cls hD1 hD2 ⟨rfl, ?_⟩
    refine PySem.ks_wpAny_call_super hD1 hD2 hoa rfl (fun c e => by cases e) (PySem.W.looks_mroIn X c.sub) (fun h1 hso k1 => ?_)
    have I1 := I0.kept (t' := s.toks + (ps.zip us).length) k1
    have hoa1 := k1 _ _ hoa
    have hisI : PySem.W.Looks (model P w) h1 (isInstance (.ref a) (.type "ValueError")) true := PySem.W.Looks.andThen (PySem.W.InstAt.type (od := none) ⟨hoa1, rfl, rfl, trivial⟩) (PySem.W.looks_subIn I1.kIn c.sVE)
    have hsup := c.ini
    unfold PySem.W.ks_superIn at hsup
    rw [hcls] at hsup
    have hne : a ≠ C := PySem.W.ks_ne (odx := none) I1.kIn ⟨hoa1, rfl, rfl, trivial⟩ hcls
    refine PySem.W.kxs_getMethod KF hso (PySem.W.looks_opaque I1.kIn c.opq) (l₀ := cdD.mro) (fun A Q E s k q => wpAny_bind ((PySem.W.looks_clsIn I1.kIn hcls) A _ E s k (wpAny_pure q))) rfl I1.kIn hsup hisI hne (by decide) ?_
    have hou : (h1.push (PySem.W.kxs_mw "ValueError.__init__" a)).get? h1.objs.size = some (PySem.W.kxs_mw "ValueError.__init__" a) := Heap.get?_push_at rfl rfl
    have k2 : ∀ b o, h1.get? b = some o → (h1.push (PySem.W.kxs_mw "ValueError.__init__" a)).get? b = some o := fun b o e => Heap.get?_push_of_some _ e
    have I2 := I1.kept (t' := s.toks + (ps.zip us).length + 1) k2
    have I3 : Inv (cxS P w K mg base N qual (defScope st) fI (.ref cda) cc A outer s H) [(h1.objs.size, PySem.W.kxs_mw "ValueError.__init__" a)] (L2.start N vs) H _ := I2.pins_of fun p hp => by
      rw [List.mem_singleton] at hp
      subst hp
      exact ⟨hou, I1.hok.fresh (Nat.le_refl _), Nat.ne_of_gt I1.lt, I1.nofs (Nat.le_refl _), fun v z => by cases z⟩
    rw [hse]
    refine PySem.W.kxs_callWith (i := "ValueError.__init__") (x := a) (by show (false || (backTo pos (starEach es _)).any (·.1)) = false; rw [hpl]; rfl) ?_
    refine PySem.Calls.evalArgs_plain ?_
    have ha' := ha.run pos _ _ _ _ _ I3 hq
    rw [hse] at ha'
    refine thn ha' fun ws s2 ⟨vs2, H2, I4, r2, hlen, hH, hfin⟩ => ?_
    subst hH
    have pin := I4.pin _ (List.mem_append_right _ (List.mem_singleton.mpr rfl))
    refine ⟨pin.1, ?_⟩
    obtain ⟨nm, q, N', bs, bm, sn, sub, ab, col, dd, k0, k1', k2', k3, k5, hC, hbm⟩ := c.ox.cls
    obtain ⟨t2, hoa4⟩ := exo_at I4.hok hea
    have hlen' : ws.length ≤ sizeLine := by rw [← Paired.length r2, sizeLine_eq]; omega
    obtain ⟨hp4, g4, d4, t4, os4⟩ := s2
    refine call_mw (C := C) (e := a) (I4.kIn _ _ hC) hoa4 pin.1 hlen' fun h' t1 k5' hx => ?_
    have J := I4.write (t' := t4) (x := a) (e := a) (o := exo a C none) (by rw [hea]; exact True.intro) (.inl rfl) k5' ⟨_, hx⟩ (exo_ok hx)
    have eu : upd H2 a (exo a C none) = H2 := by
      funext b
      by_cases hb : b = a
      · rw [hb, upd_same, hea]
      · rw [upd_ne hb]
    rw [eu] at J
    exact wpAt_of_wpAny (ht.run [] _ _ _ _ (J.pins_of fun p hp => absurd hp (by simp)) hfin)
  · have fin : ∀ {σ' : L2.St} {H' : Hp} {v : V} {u : Value}, Inv (cxS P w K mg base N qual (defScope st) fI (.ref cda) cc A outer s H) [] σ' H' s' → RelV v u → Q v H' → CE outer P w H s Q u s' :=
      fun {σ' H' v u} J rv q => ⟨v, H', J.os, J.bare, J.base, J.hok, rv, q⟩
    cases fl with
    | ret u =>
      obtain ⟨v, σ', H', J, rv, q⟩ := hs
      exact fin J rv q
    | next =>
      obtain ⟨σ', H', J, q⟩ := hs
      exact fin (v := V.non) (u := Value.none) J rfl q
    | brk =>
      obtain ⟨_, _, _, q⟩ := hs
      exact False.elim q
    | cont =>
      obtain ⟨_, _, _, q⟩ := hs
      exact False.elim q
end MM
set_option maxRecDepth 100000
/-! M10: built-in functions and methods by values -/
namespace MM
open PySem PySem.Spec PyProof.Rows L2

def rds (st : Stor) : List U → Option (List D)
  | [] => some []
  | u :: us => match rd st u with
    | some x => match rds st us with
      | some xs => some (x :: xs)
      | none => none
    | none => none
@[simp] theorem rds_nil (st : Stor) : rds st [] = some [] := rfl
@[simp] theorem rds_d (st : Stor) (x : D) (us : List U) : rds st (.d x :: us) = (match rds st us with | some xs => some (x :: xs) | none => none) := rfl
def kB (f : List D → Option D) : List U → Stor → R U := fun us st => match rds st us with
  | some xs => match f xs with
    | some z => .ok (.d z) st
    | none => .bad
  | none => .bad
theorem rds_rv {K T M H} {st : Stor} (s : Rst K T M H st) : ∀ {vs : List V} {us : List U} {xs : List D}, Paired (RU K T M H) vs us → rds st us = some xs → Paired (RV K T M H) vs xs
  | _, _, _, .nil, e => by cases e; exact .nil
  | _, _, _, .cons (b := u) r t, e => by
    rw [rds] at e
    cases e1 : rd st u with
    | none => rw [e1] at e; cases e
    | some x =>
      rw [e1] at e
      simp only at e
      rename_i us
      cases e2 : rds st us with
      | none => rw [e2] at e; cases e
      | some xs =>
        rw [e2] at e
        cases e
        exact .cons (r.rv s e1) (rds_rv s t e2)
/-- r asks no more than f says -/
def PL (X : Cx) (T : Nat → Addr) (r : List V → Hp → VK → Prop) (f : List D → Option D) : Prop :=
  ∀ M H st vs xs z Q, Rst X.K T M H st → Paired (RV X.K T M H) vs xs → f xs = some z → Out X.K T M H st z Q → r vs H Q
section
variable {X : Cx} {T : Nat → Addr} {W : WX} {x : Str} {p pos apos : Pos} {e o : Expr} {es : List Expr} {fs : EF (List U)} {fa fo : EF U} {f : List D → Option D} {id Ty : String} {r : List V → Hp → VK → Prop}
theorem kB_ok (o : PL X T r f) {M : List (Option Addr)} {σ : L2.St} {H : Hp} {st : Stor} {us : List U} {vs : List V} {Q : VK} (s : Rst X.K T M H st) (ru : Paired (RU X.K T M H) vs us) (go : Go X.K T (relU X.K T) W M σ H (kB f us st) Q) : r vs H Q := by
  unfold kB at go
  cases e1 : rds st us with
  | none => rw [e1] at go; exact go.elim
  | some xs =>
    rw [e1] at go
    simp only at go
    cases e2 : f xs with
    | none => rw [e2] at go; exact go.elim
    | some z =>
      rw [e2] at go
      exact o M H st vs xs z Q s (rds_rv s ru e1) e2 fun H' v e' s' r' => go M H' v e' s' (.d r')
theorem tCB_of (o : PL X T r f) {σ : L2.St} {H : Hp} {Q : VK} (h : Tg X.K T (relU X.K T) W (eArgs fs (kB f)) σ H Q) : tCB r (Tg X.K T (relL X.K T) W fs) σ H Q := by
  obtain ⟨M, ρ, st, rep, go⟩ := h
  refine ⟨M, ρ, st, rep, (Go.bind (Rel := relL X.K T) rep go).mono fun vs H1 ⟨M1, st1, us, e1, rep1, rus, go1⟩ => ?_⟩
  exact kB_ok o rep1.sto rus go1
/-- f(e, ..), a built-in function -/
theorem m_b (hc : CallR X (.builtin id) r) (o : PL X T r f) (hg : Gl X x) (hm : X.mg x = none) (hv : bootBuiltins x = some (.builtin id)) (ha : MA X T W (e :: es) fs) (hn : x ≠ "__name__" := by decide) (hdb : (x == ("__debug__" : Str)) = false := by decide)
    (he : starEach (e :: es) X.env = (false, eval e X.env) :: starEach es X.env := by rfl) (hpl : (backTo pos (starEach es X.env)).any (·.1) = false := by rfl) : ME X T W (.Call (.Name x p) (e :: es) [] pos) (eArgs fs (kB f)) :=
  PE.imp (pe_callB hc hg hm hv ha hn hdb he hpl) fun _ _ _ h => tCB_of o h
/-- T(e, ..), a built-in type -/
theorem m_bT (hc : CallR X (.type Ty) r) (o : PL X T r f) (hg : Gl X x) (hm : X.mg x = none) (hv : bootBuiltins x = some (.type Ty)) (ha : MA X T W (e :: es) fs) (hn : x ≠ "__name__" := by decide) (hdb : (x == ("__debug__" : Str)) = false := by decide)
    (he : starEach (e :: es) X.env = (false, eval e X.env) :: starEach es X.env := by rfl) (hpl : (backTo pos (starEach es X.env)).any (·.1) = false := by rfl) : ME X T W (.Call (.Name x p) (e :: es) [] pos) (eArgs fs (kB f)) :=
  PE.imp (pe_callTy hc hg hm hv ha hn hdb he hpl) fun _ _ _ h => tCB_of o h
end
section
variable {X : Cx} {T : Nat → Addr} {W : WX}
theorem one_of {α β : Type} {F : α → β → Prop} {vs : List α} {x : β} (h : Paired F vs [x]) : ∃ v, vs = [v] ∧ F v x := by
  cases h with
  | cons r t => cases t; exact ⟨_, rfl, r⟩
theorem two_of {α β : Type} {F : α → β → Prop} {vs : List α} {x y : β} (h : Paired F vs [x, y]) : ∃ v w, vs = [v, w] ∧ F v x ∧ F w y := by
  cases h with
  | cons r t =>
    obtain ⟨w, rfl, q⟩ := one_of t
    exact ⟨_, _, rfl, r, q⟩
theorem rv_int {K T M H} {v : V} {i : Int} (h : RV K T M H v (.int i)) : v = .int i := by cases h; rfl
theorem rv_bl {K T M H} {v : V} {i : Bool} (h : RV K T M H v (.bool i)) : v = .bl i := by cases h; rfl
theorem rv_str {K T M H} {v : V} {s : Str} (h : RV K T M H v (.str s)) : v = .str s ∧ PyData.strOk s = true := by cases h; exact ⟨rfl, by assumption⟩
/-! abs, int, len, max, min of two -/
def bAbs : List D → Option D
  | [.int i] => some (.int (if i < 0 then -i else i))
  | _ => none
theorem l_abs : PL X T (fun xs H Q => ∃ i, xs = [.int i] ∧ Q (.int (if i < 0 then -i else i)) H) bAbs := by
  intro M H st vs xs z Q s r e o
  match xs, e with
  | [.int i], e =>
    obtain ⟨v, rfl, rv⟩ := one_of r
    cases rv_int rv
    cases e
    exact ⟨i, rfl, o.now s (.int _)⟩
def bInt : List D → Option D
  | [.int i] => some (.int i)
  | [.bool b] => some (.int (if b then 1 else 0))
  | _ => none
theorem l_int : PL X T (fun xs H Q => (∃ i, xs = [.int i] ∧ Q (.int i) H) ∨ ∃ k, xs = [.bl k] ∧ Q (.int (if k then 1 else 0)) H) bInt := by
  intro M H st vs xs z Q s r e o
  match xs, e with
  | [.int i], e =>
    obtain ⟨v, rfl, rv⟩ := one_of r
    cases rv_int rv
    cases e
    exact .inl ⟨i, rfl, o.now s (.int _)⟩
  | [.bool b], e =>
    obtain ⟨v, rfl, rv⟩ := one_of r
    cases rv_bl rv
    cases e
    exact .inr ⟨b, rfl, o.now s (.int _)⟩
def bMax2 : List D → Option D
  | [.int i, .int j] => some (.int (if j > i then j else i))
  | _ => none
def bMin2 : List D → Option D
  | [.int i, .int j] => some (.int (if j < i then j else i))
  | _ => none
theorem l_max2 : PL X T (fun xs H Q => ∃ i j, xs = [.int i, .int j] ∧ Q (.int (if j > i then j else i)) H) bMax2 := by
  intro M H st vs xs z Q s r e o
  match xs, e with
  | [.int i, .int j], e =>
    obtain ⟨v, w, rfl, r1, r2⟩ := two_of r
    cases rv_int r1
    cases rv_int r2
    cases e
    exact ⟨i, j, rfl, o.now s (.int _)⟩
theorem l_min2 : PL X T (fun xs H Q => ∃ i j, xs = [.int i, .int j] ∧ Q (.int (if j < i then j else i)) H) bMin2 := by
  intro M H st vs xs z Q s r e o
  match xs, e with
  | [.int i, .int j], e =>
    obtain ⟨v, w, rfl, r1, r2⟩ := two_of r
    cases rv_int r1
    cases rv_int r2
    cases e
    exact ⟨i, j, rfl, o.now s (.int _)⟩
def bLen : List D → Option D
  | [.list xs] => some (.int xs.length)
  | [.tuple xs] => some (.int xs.length)
  | [.scr xs] => some (.int xs.length)
  | [.str s] => if fits s.length then some (.int s.length) else none
  | _ => none
theorem call_len' : CallR X (.builtin "len") (fun xs H Q => (∃ p ys, xs = [.ref p] ∧ (SqL X.K H p ys ∨ SqT X.K H p ys) ∧ Q (.int ys.length) H) ∨ (∃ z, xs = [.str z] ∧ z.length ≤ sizeLine ∧ Q (.int z.length) H)) :=
  fun pins s σ H vs us Q I r h => h.elim (fun q => call_len_seq pins s σ H vs us Q I r q) (fun q => call_len_str pins s σ H vs us Q I r q)
theorem l_len : PL X T (fun xs H Q => (∃ p ys, xs = [.ref p] ∧ (SqL X.K H p ys ∨ SqT X.K H p ys) ∧ Q (.int ys.length) H) ∨ (∃ z, xs = [.str z] ∧ z.length ≤ sizeLine ∧ Q (.int z.length) H)) bLen := by
  intro M H st vs xs z Q s r e o
  match xs, e with
  | [.list ds], e =>
    obtain ⟨v, rfl, a, ys, rfl, h1, h2⟩ := one_of r
    cases e
    exact .inl ⟨a, ys, rfl, .inl (.inl (.inl h1)), by rw [h2.length]; exact o.now s (.int _)⟩
  | [.tuple ds], e =>
    obtain ⟨v, rfl, a, ys, rfl, h1, h2⟩ := one_of r
    cases e
    exact .inl ⟨a, ys, rfl, .inr (sqt_of h1), by rw [h2.length]; exact o.now s (.int _)⟩
  | [.scr ns], e =>
    obtain ⟨v, rfl, a, rfl, h1⟩ := one_of r
    cases e
    exact .inl ⟨a, _, rfl, .inl h1, by rw [List.length_map]; exact o.now s (.int _)⟩
  | [.str t], e =>
    obtain ⟨v, rfl, rv⟩ := one_of r
    cases (rv_str rv).1
    unfold bLen at e
    by_cases hf : fits t.length = true
    · simp only [hf, if_true] at e
      cases e
      exact .inr ⟨t, rfl, fits_le hf, o.now s (.int _)⟩
    · simp only [hf] at e
      cases e
/-! tuple(x), list(x) -/
def bTup : List D → Option D
  | [.list xs] => some (.tuple xs)
  | [.tuple xs] => some (.tuple xs)
  | _ => none
theorem l_tup : PL X T (fun xs H Q => ∃ p ys, xs = [.ref p] ∧ ((SqL X.K H p ys ∧ ∀ l, H l = none → Q (.ref l) (L2.upd H l (.tup ys))) ∨ (SqT X.K H p ys ∧ Q (.ref p) H))) bTup := by
  intro M H st vs xs z Q s r e o
  match xs, e with
  | [.list ds], e =>
    obtain ⟨v, rfl, a, ys, rfl, h1, h2⟩ := one_of r
    cases e
    exact ⟨a, ys, rfl, .inl ⟨.inl (.inl h1), Out.tup s o h2⟩⟩
  | [.tuple ds], e =>
    obtain ⟨v, rfl, a, ys, rfl, h1, h2⟩ := one_of r
    cases e
    exact ⟨a, ys, rfl, .inr ⟨sqt_of h1, o.now s (.tup h1 h2)⟩⟩
theorem rds_ints {K T M H} : ∀ (ns : List Int), RDs K T M H (ns.map V.int) (ns.map D.int)
  | [] => .nil
  | i :: ns => .cons (.int i) (rds_ints ns)
def bLst : List D → Option D
  | [.list xs] => some (.list xs)
  | [.tuple xs] => some (.list xs)
  | [.scr ns] => some (.list (ns.map .int))
  | _ => none
def kLstOf : List U → Stor → R U := fun us st => match rds st us with
  | some xs => match bLst xs with
    | some (.list ds) => .ok (.loc st.length) (st ++ [.lst ds])
    | _ => .bad
  | none => .bad
theorem l_lst : PL X T (fun xs H Q => ∃ p ys, xs = [.ref p] ∧ (SqL X.K H p ys ∨ SqT X.K H p ys) ∧ ∀ l, H l = none → Q (.ref l) (L2.upd H l (.lst ys))) bLst := by
  intro M H st vs xs z Q s r e o
  match xs, e with
  | [.list ds], e =>
    obtain ⟨v, rfl, a, ys, rfl, h1, h2⟩ := one_of r
    cases e
    exact ⟨a, ys, rfl, .inl (.inl (.inl h1)), Out.lst s o h2⟩
  | [.tuple ds], e =>
    obtain ⟨v, rfl, a, ys, rfl, h1, h2⟩ := one_of r
    cases e
    exact ⟨a, ys, rfl, .inr (sqt_of h1), Out.lst s o h2⟩
  | [.scr ns], e =>
    obtain ⟨v, rfl, a, rfl, h1⟩ := one_of r
    cases e
    exact ⟨a, _, rfl, .inl h1, Out.lst s o (rds_ints ns)⟩
/-! sum, max, min, all, any of a list -/
def dInts : List D → Option (List Int)
  | [] => some []
  | .int i :: r => match dInts r with
    | some ns => some (i :: ns)
    | none => none
  | _ :: _ => none
def dBools : List D → Option (List Bool)
  | [] => some []
  | .bool i :: r => match dBools r with
    | some ns => some (i :: ns)
    | none => none
  | _ :: _ => none
theorem dInts_v {K T M H} : ∀ {vs : List V} {ds : List D} {ns : List Int}, RDs K T M H vs ds → dInts ds = some ns → vs = ns.map V.int
  | _, _, _, .nil, e => by cases e; rfl
  | _, _, _, .cons (d := .int i) r t, e => by
    rename_i ds
    rw [dInts] at e
    cases e2 : dInts ds with
    | none => rw [e2] at e; cases e
    | some ns =>
      rw [e2] at e
      cases e
      cases r
      rw [dInts_v t e2]
      rfl
  | _, _, _, .cons (d := .none) _ _, e => by cases e
  | _, _, _, .cons (d := .bool _) _ _, e => by cases e
  | _, _, _, .cons (d := .str _) _ _, e => by cases e
  | _, _, _, .cons (d := .list _) _ _, e => by cases e
  | _, _, _, .cons (d := .tuple _) _ _, e => by cases e
  | _, _, _, .cons (d := .dict _) _ _, e => by cases e
  | _, _, _, .cons (d := .ins _ _) _ _, e => by cases e
  | _, _, _, .cons (d := .fn _) _ _, e => by cases e
  | _, _, _, .cons (d := .exc _ _ _ _) _ _, e => by cases e
  | _, _, _, .cons (d := .scr _) _ _, e => by cases e
theorem dBools_v {K T M H} : ∀ {vs : List V} {ds : List D} {ns : List Bool}, RDs K T M H vs ds → dBools ds = some ns → vs = ns.map V.bl
  | _, _, _, .nil, e => by cases e; rfl
  | _, _, _, .cons (d := .bool i) r t, e => by
    rename_i ds
    rw [dBools] at e
    cases e2 : dBools ds with
    | none => rw [e2] at e; cases e
    | some ns =>
      rw [e2] at e
      cases e
      cases r
      rw [dBools_v t e2]
      rfl
  | _, _, _, .cons (d := .none) _ _, e => by cases e
  | _, _, _, .cons (d := .int _) _ _, e => by cases e
  | _, _, _, .cons (d := .str _) _ _, e => by cases e
  | _, _, _, .cons (d := .list _) _ _, e => by cases e
  | _, _, _, .cons (d := .tuple _) _ _, e => by cases e
  | _, _, _, .cons (d := .dict _) _ _, e => by cases e
  | _, _, _, .cons (d := .ins _ _) _ _, e => by cases e
  | _, _, _, .cons (d := .fn _) _ _, e => by cases e
  | _, _, _, .cons (d := .exc _ _ _ _) _ _, e => by cases e
  | _, _, _, .cons (d := .scr _) _ _, e => by cases e
def maxI : List Int → Int
  | [] => 0
  | [i] => i
  | i :: r => if maxI r < i then i else maxI r
def minI : List Int → Int
  | [] => 0
  | [i] => i
  | i :: r => if i < minI r then i else minI r
theorem maxI_ub : ∀ (l : List Int) (y : Int), y ∈ l → y ≤ maxI l
  | [], _, h => by cases h
  | [i], y, h => by
    cases List.mem_singleton.mp h
    exact Int.le_refl _
  | i :: j :: r, y, h => by
    have ih := maxI_ub (j :: r)
    rw [show maxI (i :: j :: r) = if maxI (j :: r) < i then i else maxI (j :: r) from rfl]
    rcases List.mem_cons.mp h with e | h
    · subst e
      split <;> omega
    · have := ih y h
      split <;> omega
theorem maxI_mem : ∀ (l : List Int), l ≠ [] → maxI l ∈ l
  | [], h => absurd rfl h
  | [i], _ => by simp [maxI]
  | i :: j :: r, _ => by
    have ih := maxI_mem (j :: r) (by simp)
    rw [show maxI (i :: j :: r) = if maxI (j :: r) < i then i else maxI (j :: r) from rfl]
    split
    · exact List.mem_cons_self
    · exact List.mem_cons_of_mem _ ih
theorem minI_lb : ∀ (l : List Int) (y : Int), y ∈ l → minI l ≤ y
  | [], _, h => by cases h
  | [i], y, h => by
    cases List.mem_singleton.mp h
    exact Int.le_refl _
  | i :: j :: r, y, h => by
    have ih := minI_lb (j :: r)
    rw [show minI (i :: j :: r) = if i < minI (j :: r) then i else minI (j :: r) from rfl]
    rcases List.mem_cons.mp h with e | h
    · subst e
      split <;> omega
    · have := ih y h
      split <;> omega
theorem minI_mem : ∀ (l : List Int), l ≠ [] → minI l ∈ l
  | [], h => absurd rfl h
  | [i], _ => by simp [minI]
  | i :: j :: r, _ => by
    have ih := minI_mem (j :: r) (by simp)
    rw [show minI (i :: j :: r) = if i < minI (j :: r) then i else minI (j :: r) from rfl]
    split
    · exact List.mem_cons_self
    · exact List.mem_cons_of_mem _ ih
def bMax1 : List D → Option D
  | [.list xs] => match dInts xs with
    | some (i :: ns) => some (.int (maxI (i :: ns)))
    | _ => none
  | _ => none
def bMin1 : List D → Option D
  | [.list xs] => match dInts xs with
    | some (i :: ns) => some (.int (minI (i :: ns)))
    | _ => none
  | _ => none
def bSum : List D → Option D
  | [.list xs] => match dInts xs with
    | some ns => some (.int ns.sum)
    | _ => none
  | _ => none
def bAll : List D → Option D
  | [.list xs] => match dBools xs with
    | some bs => some (.bool (bs.all id))
    | _ => none
  | _ => none
def bAny : List D → Option D
  | [.list xs] => match dBools xs with
    | some bs => some (.bool (bs.any id))
    | _ => none
  | _ => none
theorem l_max1 : PL X T (rMax X.K) bMax1 := by
  intro M H st vs xs z Q s r e o
  match xs, e with
  | [.list ds], e =>
    obtain ⟨v, rfl, a, ys, rfl, h1, h2⟩ := one_of r
    unfold bMax1 at e
    cases e2 : dInts ds with
    | none => simp [e2] at e
    | some ns =>
      cases ns with
      | nil => simp [e2] at e
      | cons i ns =>
        simp only [e2] at e
        cases e
        have ev := dInts_v h2 e2
        subst ev
        refine ⟨a, i :: ns, rfl, .inl (.inl h1), by simp, fun m hm hu => ?_⟩
        have : m = maxI (i :: ns) := Int.le_antisymm (maxI_ub _ _ hm) (hu _ (maxI_mem _ (by simp)))
        subst this
        exact o.now s (.int _)
theorem l_min1 : PL X T (rMin X.K) bMin1 := by
  intro M H st vs xs z Q s r e o
  match xs, e with
  | [.list ds], e =>
    obtain ⟨v, rfl, a, ys, rfl, h1, h2⟩ := one_of r
    unfold bMin1 at e
    cases e2 : dInts ds with
    | none => simp [e2] at e
    | some ns =>
      cases ns with
      | nil => simp [e2] at e
      | cons i ns =>
        simp only [e2] at e
        cases e
        have ev := dInts_v h2 e2
        subst ev
        refine ⟨a, i :: ns, rfl, .inl (.inl h1), by simp, fun m hm hu => ?_⟩
        have : m = minI (i :: ns) := Int.le_antisymm (hu _ (minI_mem _ (by simp))) (minI_lb _ _ hm)
        subst this
        exact o.now s (.int _)
theorem l_sum : PL X T (rSum X.K) bSum := by
  intro M H st vs xs z Q s r e o
  match xs, e with
  | [.list ds], e =>
    obtain ⟨v, rfl, a, ys, rfl, h1, h2⟩ := one_of r
    unfold bSum at e
    cases e2 : dInts ds with
    | none => simp [e2] at e
    | some ns =>
      simp only [e2] at e
      cases e
      have ev := dInts_v h2 e2
      subst ev
      exact ⟨a, ns, rfl, .inl (.inl h1), o.now s (.int _)⟩
theorem l_all : PL X T (rAll X.K) bAll := by
  intro M H st vs xs z Q s r e o
  match xs, e with
  | [.list ds], e =>
    obtain ⟨v, rfl, a, ys, rfl, h1, h2⟩ := one_of r
    unfold bAll at e
    cases e2 : dBools ds with
    | none => simp [e2] at e
    | some ns =>
      simp only [e2] at e
      cases e
      have ev := dBools_v h2 e2
      subst ev
      exact ⟨a, ns, rfl, .inl (.inl h1), o.now s (.bl _)⟩
theorem l_any : PL X T (rAny X.K) bAny := by
  intro M H st vs xs z Q s r e o
  match xs, e with
  | [.list ds], e =>
    obtain ⟨v, rfl, a, ys, rfl, h1, h2⟩ := one_of r
    unfold bAny at e
    cases e2 : dBools ds with
    | none => simp [e2] at e
    | some ns =>
      simp only [e2] at e
      cases e
      have ev := dBools_v h2 e2
      subst ev
      exact ⟨a, ns, rfl, .inl (.inl h1), o.now s (.bl _)⟩
end
end MM
set_option maxRecDepth 100000
/-! M11: isinstance of built-in types, list(range), methods of a changing list, xs[i] = v -/
namespace MM
open PySem PySem.Spec PyProof.Rows L2

/-! ### isinstance -/
def tyN : D → Option String
  | .none => some "NoneType"
  | .bool _ => some "bool"
  | .int _ => some "int"
  | .str _ => some "str"
  | .list _ => some "list"
  | .scr _ => some "list"
  | .tuple _ => some "tuple"
  | _ => none
def isB (a b : String) : Bool := a == b || (a == "bool" && b == "int")
def tyOk (b : String) : Bool := ["NoneType", "bool", "int", "str", "list", "tuple"].all fun a => kitB a b == some (isB a b)
def bIsi (Ts : List String) : D → Option D := fun x => (tyN x).map fun a => .bool (Ts.any (isB a))
@[simp] theorem bIsi_non (Ts) : bIsi Ts .none = some (.bool (Ts.any (isB "NoneType"))) := rfl
@[simp] theorem bIsi_bl (Ts b) : bIsi Ts (.bool b) = some (.bool (Ts.any (isB "bool"))) := rfl
@[simp] theorem bIsi_int (Ts b) : bIsi Ts (.int b) = some (.bool (Ts.any (isB "int"))) := rfl
@[simp] theorem bIsi_str (Ts b) : bIsi Ts (.str b) = some (.bool (Ts.any (isB "str"))) := rfl
@[simp] theorem bIsi_list (Ts b) : bIsi Ts (.list b) = some (.bool (Ts.any (isB "list"))) := rfl
@[simp] theorem bIsi_scr (Ts b) : bIsi Ts (.scr b) = some (.bool (Ts.any (isB "list"))) := rfl
@[simp] theorem bIsi_tuple (Ts b) : bIsi Ts (.tuple b) = some (.bool (Ts.any (isB "tuple"))) := rfl
theorem tyN_mem {x : D} {a : String} (h : tyN x = some a) : a ∈ ["NoneType", "bool", "int", "str", "list", "tuple"] := by
  cases x <;> first | (cases h; decide) | cases h
theorem kit_at {K : PySem.W.Frag} {a b : String} (ha : a ∈ ["NoneType", "bool", "int", "str", "list", "tuple"]) (hb : tyOk b = true) : PySem.W.kitOne K (.type a) (.type b) = some (isB a b) := by
  have h := List.all_eq_true.mp hb a ha
  exact kit_ty (eq_of_beq h)
theorem kit_all {K : PySem.W.Frag} {a : String} (ha : a ∈ ["NoneType", "bool", "int", "str", "list", "tuple"]) : ∀ {Ts : List String}, Ts.all tyOk = true → PySem.W.kitAny K (.type a) (Ts.map Value.type) = some (Ts.any (isB a))
  | [], _ => rfl
  | b :: Ts, h => by
    rw [List.all_cons, Bool.and_eq_true] at h
    refine kitAny_cons (kit_at ha h.1) (fun e => ?_) (fun e => ?_)
    · rw [kit_all ha h.2, List.any_cons, e, Bool.false_or]
    · rw [List.any_cons, e, Bool.true_or]
theorem tyx_of {K T M H} {v : V} {x : D} {a : String} (r : RV K T M H v x) (h : tyN x = some a) : TyX K H v (.type a) := by
  cases x with
  | none => cases r; cases h; exact .base .non
  | bool b => cases r; cases h; exact .base (.bl _)
  | int b => cases r; cases h; exact .base (.int _)
  | str b => cases r; cases h; exact .base (.str _)
  | list ds => obtain ⟨p, xs, rfl, h1, _⟩ := r; cases h; exact .base (.lst h1)
  | scr ns =>
    obtain ⟨p, rfl, h1⟩ := r
    cases h
    rcases h1 with h1 | ⟨o, its, n, h1, hc, _⟩
    · rcases h1 with h1 | ⟨o, h1⟩
      · exact .base (.lst h1)
      · exact .base (.frz h1)
    · exact .kList h1 hc
  | tuple ds =>
    obtain ⟨p, xs, rfl, h1, _⟩ := r
    cases h
    rcases h1 with h1 | ⟨o, its, n, h1, hc, _⟩
    · rcases h1.2 with h1 | ⟨o, h1⟩
      · exact .base (.tup h1)
      · exact .fTuple h1
    · exact .kTuple h1 hc
  | dict _ => cases h
  | ins _ _ => cases h
  | fn _ => cases h
  | exc _ _ _ _ => cases h
section
variable {X : Cx} {T : Nat → Addr} {W : WX} {x : Str} {p p1 p2 pos apos : Pos} {e o : Expr} {es : List Expr} {fs : EF (List U)} {fa fb fo : EF U} {f : List D → Option D} {id Ty : String} {r : List V → Hp → VK → Prop}
def rdT (st : Stor) (u : U) : Option D := rd st u
/-- isinstance(e, T) -/
theorem m_isi {Tn : Str} {T1 : String} (hT : tyOk T1 = true) (hg : Gl X "isinstance") (hm : X.mg "isinstance" = none) (hv : bootBuiltins "isinstance" = some (.builtin "isinstance")) (hgT : Gl X Tn) (hmT : X.mg Tn = none) (hvT : bootBuiltins Tn = some (.type T1)) (he : ME X T W e fa)
    (hnT : Tn ≠ "__name__" := by decide) (hdT : (Tn == ("__debug__" : Str)) = false := by decide)
    (h1 : starEach [e, .Name Tn p1] X.env = (false, eval e X.env) :: starEach [.Name Tn p1] X.env := by rfl) (h2 : starEach [.Name Tn p1] X.env = (false, eval (.Name Tn p1) X.env) :: starEach [] X.env := by rfl) (hpl : (backTo pos (starEach [.Name Tn p1] X.env)).any (·.1) = false := by rfl) :
    ME X T W (.Call (.Name "isinstance" p) [e, .Name Tn p1] [] pos) (eUn (g1 (bIsi [T1])) fa) := by
  refine PE.imp (pe_callB call_isi hg hm hv (pa_cons he (pa_cons (pe_bltn (v := .ty T1) hgT hmT hvT rfl hnT hdT) pa_nil h2) h1) (by decide) (by decide) h1 hpl) fun σ H Q ⟨M, ρ, st, rep, go⟩ => ?_
  refine ⟨M, ρ, st, rep, (Go.bind (Rel := relU X.K T) rep go).mono fun v H1 ⟨M1, st1, u, e1, rep1, ru, go1⟩ => ?_⟩
  unfold g1 at go1
  cases q : rd st1 u with
  | none => rw [q] at go1; exact go1.elim
  | some d =>
    rw [q] at go1
    simp only [bIsi] at go1
    cases qt : tyN d with
    | none => rw [qt] at go1; exact go1.elim
    | some a =>
      rw [qt] at go1
      refine ⟨v, .ty T1, .type a, .type T1, isB a T1, rfl, .ty T1, tyx_of (ru.rv rep1.sto q) qt, kit_at (tyN_mem qt) hT, ?_⟩
      have : ([T1].any (isB a)) = isB a T1 := by simp
      simp only [Option.map, this] at go1
      exact Go.now rep1.sto go1 (.d (.bl _))
/-- names of types -/
def PTys (X : Cx) (es : List Expr) (Ts : List String) : Prop := PA X es (fun _ H Q => Q (Ts.map V.ty) H)
theorem ptys_nil : PTys X [] [] := pa_nil
theorem ptys_cons {Tn : Str} {T1 : String} {Ts : List String} (hgT : Gl X Tn) (hmT : X.mg Tn = none) (hvT : bootBuiltins Tn = some (.type T1)) (hr : PTys X es Ts)
    (hnT : Tn ≠ "__name__" := by decide) (hdT : (Tn == ("__debug__" : Str)) = false := by decide) (hs : starEach (.Name Tn p1 :: es) X.env = (false, eval (.Name Tn p1) X.env) :: starEach es X.env := by rfl) : PTys X (.Name Tn p1 :: es) (T1 :: Ts) :=
  PA.imp (pa_cons (pe_bltn (v := .ty T1) hgT hmT hvT rfl hnT hdT) hr hs) fun _ _ _ h => h
/-- isinstance(e, (T1, T2, ..)) -/
theorem m_isiT {Ts : List String} {x1} (hT : Ts.all tyOk = true) (hl : fits Ts.length = true) (hg : Gl X "isinstance") (hm : X.mg "isinstance" = none) (hv : bootBuiltins "isinstance" = some (.builtin "isinstance")) (ht : PTys X es Ts) (he : ME X T W e fa)
    (h1 : starEach [e, .Tuple es x1 p1] X.env = (false, eval e X.env) :: starEach [.Tuple es x1 p1] X.env := by rfl) (h2 : starEach [.Tuple es x1 p1] X.env = (false, eval (.Tuple es x1 p1) X.env) :: starEach [] X.env := by rfl) (hpl : (backTo pos (starEach [.Tuple es x1 p1] X.env)).any (·.1) = false := by rfl) :
    ME X T W (.Call (.Name "isinstance" p) [e, .Tuple es x1 p1] [] pos) (eUn (g1 (bIsi Ts)) fa) := by
  refine PE.imp (pe_callB call_isiT hg hm hv (pa_cons he (pa_cons (pe_tup ht) pa_nil h2) h1) (by decide) (by decide) h1 hpl) fun σ H Q ⟨M, ρ, st, rep, go⟩ => ?_
  refine ⟨M, ρ, st, rep, (Go.bind (Rel := relU X.K T) rep go).mono fun v H1 ⟨M1, st1, u, e1, rep1, ru, go1⟩ => ?_⟩
  unfold g1 at go1
  cases q : rd st1 u with
  | none => rw [q] at go1; exact go1.elim
  | some d =>
    rw [q] at go1
    simp only [bIsi] at go1
    cases qt : tyN d with
    | none => rw [qt] at go1; exact go1.elim
    | some a =>
      rw [qt] at go1
      simp only [Option.map] at go1
      refine ⟨by rw [List.length_map]; exact fits_le hl, fun tp hp => ?_⟩
      have ex := Ext.lay (M := M1) (o := .tup (Ts.map V.ty)) hp
      have s2 := rep1.sto.lay (o := .tup (Ts.map V.ty)) hp
      have cls : ∀ Ts : List String, Paired ClsV (Ts.map V.ty) (Ts.map Value.type) := by
        intro Ts
        induction Ts with
        | nil => exact .nil
        | cons b Ts ih => exact .cons (.ty b) ih
      exact ⟨v, tp, Ts.map V.ty, .type a, Ts.map .type, Ts.any (isB a), rfl, upd_same, cls Ts, tyx_of ((ru.ext ex).rv s2 q) qt, kit_all (tyN_mem qt) hT, go1 M1 _ _ ex s2 (.d (.bl _))⟩

/-! ### list(range(..)) -/
def rgD (a b : Int) : List D := (List.range (b - a).toNat).map fun i => D.int (a + (i : Nat))
theorem rgD_v {K T M H} (a b : Int) : RDs K T M H (rgV a b) (rgD a b) := by
  unfold rgV rgD
  generalize List.range (b - a).toNat = l
  induction l with
  | nil => exact .nil
  | cons i l ih => exact .cons (.int _) ih
def rgOk (a b : Int) : Bool := decide (-(2 ^ 62) ≤ a ∧ a < 2 ^ 62 ∧ -(2 ^ 62) ≤ b ∧ b < 2 ^ 62 ∧ (b - a).toNat ≤ 2 ^ 24)
def bRgL : D → D → Option D
  | .int a, .int b => if rgOk a b then some (.list (rgD a b)) else none
  | _, _ => none
def eLstRg (fa fb : EF U) : EF U := eBin (g2 bRgL) fa fb
theorem m_listRg2 {a b : Expr} (hc : X.calm = true) (hg : Gl X "list") (hm : X.mg "list" = none) (hgR : Gl X "range") (hmR : X.mg "range" = none) (ha : ME X T W a fa) (hb : ME X T W b fb)
    (na : starEach [a, b] X.env = (false, eval a X.env) :: starEach [b] X.env := by rfl) (nb : starEach [b] X.env = (false, eval b X.env) :: starEach [] X.env := by rfl) (hp : (backTo p2 (starEach [b] X.env)).any (·.1) = false := by rfl)
    (ne : starEach [.Call (.Name "range" p1) [a, b] [] p2] X.env = (false, eval (.Call (.Name "range" p1) [a, b] [] p2) X.env) :: starEach [] X.env := by rfl) :
    ME X T W (.Call (.Name "list" p) [.Call (.Name "range" p1) [a, b] [] p2] [] pos) (eLstRg fa fb) := by
  refine PE.imp (pe_listRg hc hg hm (prg_2 hgR hmR ha hb na nb hp) ne) fun σ H Q ⟨M, ρ, st, rep, go⟩ => ?_
  refine ⟨M, ρ, st, rep, (Go.bind (Rel := relU X.K T) rep go).mono fun x H1 ⟨M1, st1, u, e1, rep1, ru, go1⟩ => ?_⟩
  refine ⟨M1, ρ, st1, rep1, (Go.bind (Rel := relU X.K T) rep1 go1).mono fun y H2 ⟨M2, st2, w, e2, rep2, rw, go2⟩ => ?_⟩
  have ru' := RU.ext e2 ru
  unfold g2 at go2
  cases q1 : rd st2 u with
  | none => rw [q1] at go2; exact go2.elim
  | some d1 =>
    cases q2 : rd st2 w with
    | none => rw [q1, q2] at go2; exact go2.elim
    | some d2 =>
      rw [q1, q2] at go2
      simp only at go2
      cases d1 with
      | int i =>
        cases d2 with
        | int j =>
          cases rv_int (ru'.rv rep2.sto q1)
          cases rv_int (rw.rv rep2.sto q2)
          refine ⟨i, j, rfl, rfl, ?_⟩
          unfold bRgL at go2
          by_cases hr : rgOk i j = true
          · simp only [hr, if_true] at go2
            unfold rgOk at hr
            have hr' := of_decide_eq_true hr
            refine ⟨hr', fun q hq => ?_⟩
            exact go2 M2 _ (.ref q) (Ext.lay hq) (rep2.sto.lay hq) (.d (.lst (rep2.sto.new hq) upd_same ((rgD_v i j).ext (Ext.lay hq))))
          · simp only [hr] at go2
            exact go2.elim
        | _ => exact go2.elim
      | _ => exact go2.elim

/-! ### methods of a changing list -/
/-- o.m(..) of the list at .loc i -/
def eLM (k : List D → List U → Option (D × List D)) (fo : EF U) (fs : EF (List U)) : EF U := fun ρ st => (fo ρ st).bind fun u st1 => match u with
  | .loc i => match st1[i]? with
    | some (.lst _) => (fs ρ st1).bind fun us st2 => match st2[i]? with
      | some (.lst ds) => match k ds us with
        | some (z, ds') => .ok (.d z) (st2.set i (.lst ds'))
        | none => .bad
      | _ => .bad
    | _ => .bad
  | _ => .bad
/-- r asks no more than k says -/
def PLM (X : Cx) (T : Nat → Addr) (r : V → List V → Hp → VK → Prop) (k : List D → List U → Option (D × List D)) : Prop :=
  ∀ (M : List (Option Addr)) (H : Hp) (st : Stor) (i : Nat) (a : Addr) (vs : List V) (us : List U) (ds : List D) (xs : List V) (z : D) (ds' : List D) (Q : VK), Rst X.K T M H st → M[i]? = some (some a) → H a = some (.lst xs) → RDs X.K T M H xs ds → Paired (RU X.K T M H) vs us → k ds us = some (z, ds') →
    (∀ v xs', RD X.K T M H v z → RDs X.K T M H xs' ds' → Q v (L2.upd H a (.lst xs'))) → r (.ref a) vs H Q
theorem loc_lst {K T M H} {st : Stor} (s : Rst K T M H st) {i : Nat} {ds : List D} (h : st[i]? = some (.lst ds)) : ∃ a xs, M[i]? = some (some a) ∧ H a = some (.lst xs) ∧ RDs K T M H xs ds := by
  obtain ⟨m, hm, a, xs, rfl, h1, h2⟩ := s.get h
  exact ⟨a, xs, hm, h1, h2⟩
theorem ru_loc {K T M H} {v : V} {i : Nat} {a : Addr} (r : RU K T M H v (.loc i)) (h : M[i]? = some (some a)) : v = .ref a := by
  cases r with
  | loc h' => rw [h] at h'; cases h'; rfl
  | hole h' => rw [h] at h'; cases h'
theorem m_lm {name : Str} {k : List D → List U → Option (D × List D)} {r : V → List V → Hp → VK → Prop} (pl : PLM X T r k) (pa : PlainAttrs "list") (slot : Slot "list" name id) (hty : typeOf (.builtin id) = pure (.type "method_descriptor")) (hm : MtR X id r) (ho : ME X T W o fo) (ha : MA X T W (e :: es) fs)
    (hbase : attributeBase o name X.env (eval o X.env) = eval o X.env := by rfl)
    (hfew : ((backTo pos (starEach (e :: es) X.env)).all (fun x => !x.1) && (backToKw pos (keywordEach [] X.env)).all (fun x => x.1.isSome)
      && decide ((e :: es).length + ([] : List Keyword).length + (if ([] : List Keyword).isEmpty then 0 else 1) < 30)) = true := by rfl)
    (hline : (apos.endLine == pos.line) = true := by rfl) (hs : starEach (e :: es) X.env = (false, eval e X.env) :: starEach es X.env := by rfl) (hplain : (backTo pos (starEach es X.env)).any (·.1) = false := by rfl) :
    ME X T W (.Call (.Attribute o name apos) (e :: es) [] pos) (eLM k fo fs) := by
  refine PE.imp (pe_bm pa slot hty hm ho ha hbase hfew hline hs hplain) fun σ H Q ⟨M, ρ, st, rep, go⟩ => ?_
  refine ⟨M, ρ, st, rep, (Go.bind (Rel := relU X.K T) rep go).mono fun v H1 ⟨M1, st1, u, e1, rep1, ru, go1⟩ => ?_⟩
  cases u with
  | d _ => exact go1.elim
  | loc i =>
    simp only at go1
    cases q : st1[i]? with
    | none => simp only [q] at go1; exact go1.elim
    | some ob =>
      cases ob with
      | lst ds1 =>
        simp only [q] at go1
        obtain ⟨a, xs1, hi, ha1, _⟩ := loc_lst rep1.sto q
        cases ru_loc ru hi
        refine ⟨.inl ⟨rfl, _, .inl (.inl ha1)⟩, M1, ρ, st1, rep1, (Go.bind (Rel := relL X.K T) rep1 go1).mono fun vs H2 ⟨M2, st2, us, e2, rep2, rus, go2⟩ => ?_⟩
        cases q2 : st2[i]? with
        | none => simp only [q2] at go2; exact go2.elim
        | some ob2 =>
          cases ob2 with
          | lst ds2 =>
            simp only [q2] at go2
            cases q3 : k ds2 us with
            | none => simp only [q3] at go2; exact go2.elim
            | some zd =>
              obtain ⟨z, ds'⟩ := zd
              simp only [q3] at go2
              obtain ⟨a2, xs2, hi2, ha2, hr2⟩ := loc_lst rep2.sto q2
              have ea : a2 = a := by
                rcases e2.old i (some a) hi with w | w
                · rw [hi2] at w; cases w; rfl
                · rw [hi2] at w; cases w
              subst ea
              refine pl M2 H2 st2 i a2 vs us ds2 xs2 z ds' Q rep2.sto hi2 ha2 hr2 rus q3 fun v xs' rv rxs => ?_
              obtain ⟨ex, s3⟩ := rep2.sto.wr (o := .lst xs') (ob := .lst ds') hi2 fun ex => ⟨a2, xs', rfl, upd_same, rxs.ext ex⟩
              exact go2 M2 _ v ex s3 (.d (rv.ext ex))
          | _ => simp only [q2] at go2; exact go2.elim
      | _ => simp only [q] at go1; exact go1.elim
def kIns : List D → List U → Option (D × List D) := fun ds us => match us with
  | [.d (.int i), .d y] => if decide (0 ≤ i ∧ i < 2 ^ 63 ∧ ds.length < 16777216) then some (.none, ds.take i.toNat ++ [y] ++ ds.drop i.toNat) else none
  | _ => none
theorem lm_insert : PLM X T (fun x vs H Q => ∃ (l : Addr) (xs : List V) (i : Int) (y : V), x = .ref l ∧ vs = [.int i, y] ∧ H l = some (.lst xs) ∧ xs.length < sizeLine ∧ 0 ≤ i ∧ i < 2 ^ 63 ∧
    Q .non (L2.upd H l (.lst (xs.take i.toNat ++ [y] ++ xs.drop i.toNat)))) kIns := by
  intro M H st i a vs us ds xs z ds' Q s hi ha hr ru hk q
  match us, hk with
  | [.d (.int i), .d y], hk =>
    obtain ⟨v, w, rfl, r1, r2⟩ := two_of ru
    cases r1 with
    | d r1 =>
      cases r1
      cases r2 with
      | d r2 =>
        unfold kIns at hk
        by_cases hc : (0 ≤ i ∧ i < 2 ^ 63 ∧ ds.length < 16777216)
        · simp only [hc, decide_true, if_true] at hk
          cases hk
          refine ⟨a, xs, i, w, rfl, rfl, ha, by rw [hr.length, sizeLine_eq]; exact hc.2.2, hc.1, hc.2.1, q _ _ .non (((hr.take _).app (.cons r2 .nil)).app (hr.drop _))⟩
        · simp only [hc, decide_false] at hk
          cases hk
def kApp : List D → List U → Option (D × List D) := fun ds us => match us with
  | [.d y] => if decide (ds.length < 16777216) then some (.none, ds ++ [y]) else none
  | _ => none
theorem lm_append : PLM X T rAppend kApp := by
  intro M H st i a vs us ds xs z ds' Q s hi ha hr ru hk q
  match us, hk with
  | [.d y], hk =>
    obtain ⟨v, rfl, r1⟩ := one_of ru
    cases r1 with
    | d r1 =>
      unfold kApp at hk
      by_cases hc : ds.length < 16777216
      · simp only [hc, decide_true, if_true] at hk
        cases hk
        exact ⟨a, xs, v, rfl, rfl, ha, by rw [hr.length, sizeLine_eq]; exact hc, q _ _ .non (hr.app (.cons r1 .nil))⟩
      · simp only [hc, decide_false] at hk
        cases hk
theorem m_append (ho : ME X T W o fo) (ha : MA X T W [e] fs)
    (hbase : attributeBase o "append" X.env (eval o X.env) = eval o X.env := by rfl)
    (hfew : ((backTo pos (starEach [e] X.env)).all (fun x => !x.1) && (backToKw pos (keywordEach [] X.env)).all (fun x => x.1.isSome)
      && decide ([e].length + ([] : List Keyword).length + (if ([] : List Keyword).isEmpty then 0 else 1) < 30)) = true := by rfl)
    (hline : (apos.endLine == pos.line) = true := by rfl) (hs : starEach [e] X.env = (false, eval e X.env) :: starEach [] X.env := by rfl) :
    ME X T W (.Call (.Attribute o "append" apos) [e] [] pos) (eLM kApp fo fs) :=
  m_lm lm_append PySem.F.plainAttrs_list PySem.F.slot_list_append PySem.F.type_list_append mt_append ho ha hbase hfew hline hs rfl
theorem m_insert {e2 : Expr} (ho : ME X T W o fo) (ha : MA X T W [e, e2] fs)
    (hbase : attributeBase o "insert" X.env (eval o X.env) = eval o X.env := by rfl)
    (hfew : ((backTo pos (starEach [e, e2] X.env)).all (fun x => !x.1) && (backToKw pos (keywordEach [] X.env)).all (fun x => x.1.isSome)
      && decide ([e, e2].length + ([] : List Keyword).length + (if ([] : List Keyword).isEmpty then 0 else 1) < 30)) = true := by rfl)
    (hline : (apos.endLine == pos.line) = true := by rfl) (hs : starEach [e, e2] X.env = (false, eval e X.env) :: starEach [e2] X.env := by rfl) (hpl : (backTo pos (starEach [e2] X.env)).any (·.1) = false := by rfl) :
    ME X T W (.Call (.Attribute o "insert" apos) [e, e2] [] pos) (eLM kIns fo fs) :=
  m_lm lm_insert PySem.F.plainAttrs_list PySem.F.slot_list_insert PySem.F.type_list_insert mt_insert ho ha hbase hfew hline hs hpl

/-! ### xs[i] = v of a changing list -/
def sSub (fo fi fv : EF U) : SF := fun ρ st => (fv ρ st).stm ρ fun w st1 => (fo ρ st1).stm ρ fun u st2 => (fi ρ st2).stm ρ fun j st3 => match u, j, w with
  | .loc i, .d (.int n), .d y => match st3[i]? with
    | some (.lst ds) => match ixN ds.length n with
      | some k => .nx ρ (st3.set i (.lst (ds.set k y)))
      | none => .bad
    | _ => .bad
  | _, _, _ => .bad
theorem ms_sub {i value : Expr} {pos' : Pos} {fi fv : EF U} (ho : ME X T W o fo) (hi : ME X T W i fi) (hv : ME X T W value fv) (hs : swapsWithSole [.Subscript o i pos'] value pos.line X.env = pure false := by rfl) (hw : swappedStores [.Subscript o i pos'] value X.env = pure none := by rfl)
    (h1 : (assignEach [.Subscript o i pos'] X.env).map (·.2) = [assign (.Subscript o i pos') X.env] := by rfl)
    (ha : ∀ v, assign (.Subscript o i pos') X.env v = (do
      let ov ← holding [v] (eval o X.env)
      let iv ← holding [v, ov] (eval i X.env)
      standAt pos'
      holding [v, ov, iv] (setItem ov iv v)
      release [v, ov, iv] []) := by intro _; rfl) :
    MS X T W (.Assign [.Subscript o i pos'] value pos) (sSub fo fi fv) := by
  refine PS.imp (ps_asg hv (pg_sub ho hi set_list ha) hs hw h1) fun D σ H ⟨M, ρ, st, rep, go⟩ => ?_
  refine ⟨M, ρ, st, rep, (GoS.bind (Rel := relU X.K T) rep go).mono fun y H1 ⟨M1, st1, w, e1, rep1, rw, go1⟩ => ?_⟩
  refine ⟨M1, ρ, st1, rep1, (GoS.bind (Rel := relU X.K T) rep1 go1).mono fun x H2 ⟨M2, st2, u, e2, rep2, ru, go2⟩ => ?_⟩
  refine ⟨M2, ρ, st2, rep2, (GoS.bind (Rel := relU X.K T) rep2 go2).mono fun j H3 ⟨M3, st3, k, e3, rep3, rk, go3⟩ => ?_⟩
  have rw' := RU.ext e3 (RU.ext e2 rw)
  have ru' := RU.ext e3 ru
  cases u with
  | d _ => exact go3.elim
  | loc i =>
    cases k with
    | loc _ => exact go3.elim
    | d kd =>
      cases kd with
      | int n =>
        cases w with
        | loc _ => exact go3.elim
        | d yd =>
          simp only at go3
          cases q : st3[i]? with
          | none => simp only [q] at go3; exact go3.elim
          | some ob =>
            cases ob with
            | lst ds =>
              simp only [q] at go3
              obtain ⟨a, xs, hi3, ha3, hr⟩ := loc_lst rep3.sto q
              cases ru_loc ru' hi3
              cases q2 : ixN ds.length n with
              | none => simp only [q2] at go3; exact go3.elim
              | some m =>
                simp only [q2] at go3
                cases rk with
                | d rk =>
                  cases rk
                  cases rw' with
                  | d ry =>
                    refine ⟨a, xs, n, m, rfl, rfl, ha3, by rw [hr.length]; exact q2, ?_⟩
                    obtain ⟨ex, s3⟩ := rep3.sto.wr (o := .lst (xs.set m y)) (ob := .lst (ds.set m yd)) hi3 fun ex => ⟨a, _, rfl, upd_same, (RDs.set ry m hr).ext ex⟩
                    exact go3 M3 _ σ ex (rep3.ext ex s3)
            | _ => simp only [q] at go3; exact go3.elim
      | _ => cases w <;> exact go3.elim
end
end MM
set_option maxRecDepth 100000
/-! M12: exceptions: made, raised, caught -/
namespace MM
open PySem PySem.Spec PyProof.Rows L2

/-! ### an own error's __init__ that keeps its arguments -/
def spX (C : Addr) (names : List Str) : Sp := fun vs H Q E => vs.length = names.length + 1 ∧ ∃ a ws, vs = .ref a :: ws ∧ H a = some (exo a C none) ∧ ∀ dx, H dx = none → dx ≠ a → Q .non (L2.upd (L2.upd H dx (exd dx (names.zip ws).reverse)) a (exo a C (some dx)))
section
variable {P : Program} {w : World} {K : PySem.W.Frag} {mg : Str → Option Value} {base : Heap} {CX : CXT} {k : Nat} {C fI cc cda : Addr} {qual : Str} {st : Stmt} {fd : FuncData} {sp : Sp} {ar : Arg}
theorem init1 {v f : Str} {p0 p1 apos pos pos' q0 q1 q2 q3 q4 : Pos} {pl : Sem Bool} (c : SupC P K mg C fI cc cda qual st fd) (S : SupScope ["self", v] ["self", v] (defScope st))
    (hb : defBody st = [.Expr (.Call (.Attribute (.Call (.Name "super" p0) [] [] p1) "__init__" apos) [.Name v q0] [] pos) pos', .Assign [.Attribute (.Name "self" q1) f q2] (.Name v q3) q4])
    (hself : ((defArgs st).posonlyargs ++ (defArgs st).args).head? = some ar) (har0 : ar.arg = ("self" : Str)) (hno : PySem.W.findIn K (.ref C) f = some none)
    (hv1 : (v == ("__debug__" : Str)) = false) (hv2 : (v == ("__classdict__" : Str)) = false)
    (hev : ∀ env : Env, eval (.Call (.Attribute (.Call (.Name "super" p0) [] [] p1) "__init__" apos) [.Name v q0] [] pos) env = (do
      let ov ← attributeBase (.Call (.Name "super" p0) [] [] p1) "__init__" env (eval (.Call (.Name "super" p0) [] [] p1) env)
      standAt apos.atName
      let (f, first) ← holding [ov] (getMethod ov "__init__" pl)
      callWith pos f first (backTo pos (starEach [.Name v q0] env)) []))
    (hse : ∀ env : Env, starEach [.Name v q0] env = (false, eval (.Name v q0) env) :: starEach [] env) (hpl : ∀ env : Env, (backTo pos (starEach [] env)).any (·.1) = false)
    (hsw : ∀ env : Env, env.scope.kind = .function → swapsWith (.Call (.Attribute (.Call (.Name "super" p0) [] [] p1) "__init__" apos) [.Name v q0] [] pos) none pos'.line env = pure false)
    (hsw2 : ∀ env : Env, swapsWith (.Name v q3) (some (.Attribute (.Name "self" q1) f q2)) q4.line env = pure false) :
    FnOk P w K mg base CX (k + 1) fI fd ["self", v] (spX C [f]) := by
  have hself0 : (["self", v] : List Str)[0]? = some ar.arg := by rw [har0]; rfl
  refine fn_super c S (fun vs H Q E h => h.1) hb hself hself0 (S.par _ (by rw [har0]; simp)) hev hse hpl hsw fun A outer s H vs Q E h => ?_
  obtain ⟨hl, a, ws, rfl, ha, hq⟩ := h
  match ws, hl with
  | [y], _ =>
    have vis : ∀ x ∈ (["self", v] : List Str), Vis (defScope st) x := fun x hx => .inl (S.par x hx)
    have P1 : ∀ q, PE (cxS P w K mg base ["self", v] qual (defScope st) fI (.ref cda) cc A outer s H) (.Name v q) (tVar 1) := fun q => pe_var rfl (vis v (by simp)) hv1 hv2
    have P0 : ∀ q, PE (cxS P w K mg base ["self", v] qual (defScope st) fI (.ref cda) cc A outer s H) (.Name "self" q) (tVar 0) := fun q => pe_var rfl (vis "self" (by simp)) (by decide) (by decide)
    refine ⟨a, _, _, rfl, pa_cons (P1 q0) pa_nil (hse _), pss_one (ps_ost (P0 q1) (P1 q3) (hsw2 _)), ha, ?_⟩
    refine ⟨y, rfl, by simp, rfl, ?_⟩
    refine ⟨y, rfl, .ref a, rfl, a, C, rfl, c.ox, hno, .inl ⟨ha, fun dx hd ne => hq dx hd ne⟩⟩
theorem init2 {v v2 f f2 : Str} {p0 p1 apos pos pos' q0 r0 q1 q2 q3 q4 r1 r2 r3 r4 : Pos} {pl : Sem Bool} (c : SupC P K mg C fI cc cda qual st fd) (S : SupScope ["self", v, v2] ["self", v, v2] (defScope st))
    (hb : defBody st = [.Expr (.Call (.Attribute (.Call (.Name "super" p0) [] [] p1) "__init__" apos) [.Name v q0, .Name v2 r0] [] pos) pos', .Assign [.Attribute (.Name "self" q1) f q2] (.Name v q3) q4, .Assign [.Attribute (.Name "self" r1) f2 r2] (.Name v2 r3) r4])
    (hself : ((defArgs st).posonlyargs ++ (defArgs st).args).head? = some ar) (har0 : ar.arg = ("self" : Str)) (hno : PySem.W.findIn K (.ref C) f = some none) (hno2 : PySem.W.findIn K (.ref C) f2 = some none)
    (hv1 : (v == ("__debug__" : Str)) = false) (hv2 : (v == ("__classdict__" : Str)) = false) (hw1 : (v2 == ("__debug__" : Str)) = false) (hw2 : (v2 == ("__classdict__" : Str)) = false)
    (hev : ∀ env : Env, eval (.Call (.Attribute (.Call (.Name "super" p0) [] [] p1) "__init__" apos) [.Name v q0, .Name v2 r0] [] pos) env = (do
      let ov ← attributeBase (.Call (.Name "super" p0) [] [] p1) "__init__" env (eval (.Call (.Name "super" p0) [] [] p1) env)
      standAt apos.atName
      let (f, first) ← holding [ov] (getMethod ov "__init__" pl)
      callWith pos f first (backTo pos (starEach [.Name v q0, .Name v2 r0] env)) []))
    (hse : ∀ env : Env, starEach [.Name v q0, .Name v2 r0] env = (false, eval (.Name v q0) env) :: starEach [.Name v2 r0] env) (hse2 : ∀ env : Env, starEach [.Name v2 r0] env = (false, eval (.Name v2 r0) env) :: starEach [] env)
    (hpl : ∀ env : Env, (backTo pos (starEach [.Name v2 r0] env)).any (·.1) = false)
    (hsw : ∀ env : Env, env.scope.kind = .function → swapsWith (.Call (.Attribute (.Call (.Name "super" p0) [] [] p1) "__init__" apos) [.Name v q0, .Name v2 r0] [] pos) none pos'.line env = pure false)
    (hsw2 : ∀ env : Env, swapsWith (.Name v q3) (some (.Attribute (.Name "self" q1) f q2)) q4.line env = pure false) (hsw3 : ∀ env : Env, swapsWith (.Name v2 r3) (some (.Attribute (.Name "self" r1) f2 r2)) r4.line env = pure false) :
    FnOk P w K mg base CX (k + 1) fI fd ["self", v, v2] (spX C [f, f2]) := by
  have hself0 : (["self", v, v2] : List Str)[0]? = some ar.arg := by rw [har0]; rfl
  refine fn_super c S (fun vs H Q E h => h.1) hb hself hself0 (S.par _ (by rw [har0]; simp)) hev hse hpl hsw fun A outer s H vs Q E h => ?_
  obtain ⟨hl, a, ws, rfl, ha, hq⟩ := h
  match ws, hl with
  | [y, z], _ =>
    have vis : ∀ x ∈ (["self", v, v2] : List Str), Vis (defScope st) x := fun x hx => .inl (S.par x hx)
    have P2 : ∀ q, PE (cxS P w K mg base ["self", v, v2] qual (defScope st) fI (.ref cda) cc A outer s H) (.Name v2 q) (tVar 2) := fun q => pe_var rfl (vis v2 (by simp)) hw1 hw2
    have P1 : ∀ q, PE (cxS P w K mg base ["self", v, v2] qual (defScope st) fI (.ref cda) cc A outer s H) (.Name v q) (tVar 1) := fun q => pe_var rfl (vis v (by simp)) hv1 hv2
    have P0 : ∀ q, PE (cxS P w K mg base ["self", v, v2] qual (defScope st) fI (.ref cda) cc A outer s H) (.Name "self" q) (tVar 0) := fun q => pe_var rfl (vis "self" (by simp)) (by decide) (by decide)
    refine ⟨a, _, _, rfl, pa_cons (P1 q0) (pa_cons (P2 r0) pa_nil (hse2 _)) (hse _), pss_cons (ps_ost (P0 q1) (P1 q3) (hsw2 _)) (pss_one (ps_ost (P0 r1) (P2 r3) (hsw3 _))), ha, ?_⟩
    refine ⟨y, rfl, z, rfl, by simp, rfl, ?_⟩
    refine ⟨y, rfl, .ref a, rfl, a, C, rfl, c.ox, hno, .inl ⟨ha, fun dx hd ne => ?_⟩⟩
    refine ⟨z, rfl, .ref a, rfl, a, C, rfl, c.ox, hno2, .inr ⟨dx, [(f, y)], upd_same, by rw [upd_ne ne, upd_same], by simp, ?_⟩⟩
    have e : L2.upd (L2.upd (L2.upd H dx (exd dx [(f, y)])) a (exo a C (some dx))) dx (exd dx ((f2, z) :: [(f, y)])) = L2.upd (L2.upd H dx (exd dx [(f2, z), (f, y)])) a (exo a C (some dx)) := by
      funext b
      by_cases h1 : b = dx
      · subst h1
        rw [upd_same, upd_ne ne, upd_same]
      · rw [upd_ne h1]
        by_cases h2 : b = a
        · subst h2
          rw [upd_same, upd_same]
        · rw [upd_ne h2, upd_ne h2, upd_ne h1, upd_ne h1]
    have q := hq dx hd ne
    show Q .non (L2.upd (L2.upd (L2.upd H dx (exd dx [(f, y)])) a (exo a C (some dx))) dx (exd dx ((f2, z) :: [(f, y)])))
    rw [e]
    exact q
end

/-! ### raise C(e, ..) -/
/-- the numbers of the classes stand for classes, their instances' fields -/
def sRaise (c : Nat) (names : List Str) (fs : EF (List U)) : SF := fun ρ st => (fs ρ st).stm ρ fun us st1 => match ofUs us with
  | some ds => if ds.length = names.length then .exc c (names.zip ds).reverse ρ st1 else .bad
  | none => .bad
section
variable {X : Cx} {T : Nat → Addr} {W : WX} {x n : Str} {p p1 p2 pos pos' apos : Pos} {e o : Expr} {es : List Expr} {fs : EF (List U)} {fa : EF U}
theorem RFs.zip {K T M H} : ∀ {names : List Str} {vs : List V} {ds : List D}, RDs K T M H vs ds → RFs K T M H (names.zip vs) (names.zip ds)
  | [], _, _, _ => .nil
  | _ :: _, _, _, .nil => .nil
  | _ :: names, _, _, .cons r t => .cons r (RFs.zip t)
theorem RFs.app {K T M H} : ∀ {a b : List (Str × V)} {c d : List (Str × D)}, RFs K T M H a c → RFs K T M H b d → RFs K T M H (a ++ b) (c ++ d)
  | _, _, _, _, .nil, s => s
  | _, _, _, _, .cons r t, s => .cons r (RFs.app t s)
theorem RFs.rev {K T M H} : ∀ {a : List (Str × V)} {c : List (Str × D)}, RFs K T M H a c → RFs K T M H a.reverse c.reverse
  | _, _, .nil => .nil
  | _, _, .cons r t => by
    rw [List.reverse_cons, List.reverse_cons]
    exact RFs.app (RFs.rev t) (.cons r .nil)
theorem upd_del {H : Hp} {a dx : Addr} {o1 o2 o3 o4 : HO} (ha : H a = none) (ne : dx ≠ a) : L2.upd (L2.del (L2.upd (L2.upd (L2.upd H a o1) dx o2) a o3) a) dx o4 = L2.upd H dx o4 := by
  funext b
  by_cases h1 : b = dx
  · rw [h1, upd_same, upd_same]
  · rw [upd_ne h1, upd_ne h1]
    by_cases h2 : b = a
    · rw [h2, del_same, ha]
    · rw [del_ne h2, upd_ne h2, upd_ne h1, upd_ne h2]
theorem ms_raise {c : Nat} {names : List Str} {fI : Addr} {k : Nat} {fd : FuncData} {ps : List Str} (hc : X.calm = true) (tk : Takes X W) (ox : OexC X.K (T c)) (iC : PySem.W.findIn X.K (.ref (T c)) "__init__" = some (some (.ref fI))) (tI : PySem.W.typeIn X.K (.ref fI) = some (.type "function"))
    (F1 : FnOk X.prog X.w X.K X.mg X.base (L2.CX X.prog X.w) k fI fd ps (spX (T c) names)) (hr : Room (k + 1) X.A) (hb : Binds X.K fd ps []) (hg : Gl X x) (hm : X.mg x = some (.ref (T c))) (hz : names.length ≤ 1000) (ha : MA X T W (e :: es) fs)
    (hdb : (x == ("__debug__" : Str)) = false := by decide) (he : starEach (e :: es) X.env = (false, eval e X.env) :: starEach es X.env := by rfl) (hpl : (backTo pos (starEach es X.env)).any (·.1) = false := by rfl) :
    MS X T W (.Raise (some (.Call (.Name x p) (e :: es) [] pos)) none pos') (sRaise c names fs) := by
  refine PS.imp (ps_raise hc tk (pmk_oex ox iC tI F1 hr hb .nil passL hg hm ha hdb he hpl)) fun D σ H ⟨M, ρ, st, rep, go⟩ => ?_
  refine ⟨M, ρ, st, rep, (GoS.bind (Rel := relL X.K T) rep go).mono fun vs H1 ⟨M1, st1, us, e1, rep1, rus, go1⟩ => ?_⟩
  cases q : ofUs us with
  | none => simp only [q] at go1; exact go1.elim
  | some ds =>
    simp only [q] at go1
    have r := RU.all rus q
    by_cases hl : ds.length = names.length
    · simp only [hl, if_true] at go1
      have hvl : vs.length = names.length := by rw [r.length]; exact hl
      refine ⟨by omega, fun a hna => ⟨by simp [hvl], a, vs ++ [], rfl, upd_same, fun dx hd ne => ?_⟩⟩
      rw [List.append_nil]
      have hd1 : H1 dx = none := by rw [upd_ne ne] at hd; exact hd
      refine ⟨rfl, dx, _, upd_same, by rw [upd_ne ne, upd_same], hd1, ?_⟩
      rw [upd_del hna ne]
      have ex := Ext.lay (M := M1) (o := .xd (names.zip vs).reverse) hd1
      have s2 := rep1.sto.lay (o := .xd (names.zip vs).reverse) hd1
      exact go1 M1 _ σ dx _ ex (rep1.ext ex s2) upd_same (RFs.rev (RFs.zip (r.ext ex))) (rep1.sto.new hd1)
    · simp only [hl, if_false] at go1
      exact go1.elim

/-! ### try: .., except C as n: .. -/
def RS.wipe (i : Nat) : RS → RS
  | .nx ρ st => .nx (ρ.set i none) st
  | .bk ρ st => .bk (ρ.set i none) st
  | .ct ρ st => .ct (ρ.set i none) st
  | .rt u st => .rt u st
  | _ => .bad
@[simp] theorem RS.wipe_nx (i ρ st) : (RS.nx ρ st).wipe i = .nx (ρ.set i none) st := rfl
@[simp] theorem RS.wipe_rt (i u st) : (RS.rt u st).wipe i = .rt u st := rfl
/-- what does not hang on the addresses -/
noncomputable def indep (f : Addr → Addr → RS) : RS := by
  classical
  exact if ∀ a d, f a d = f 0 0 then f 0 0 else .bad
theorem indep_eq {f : Addr → Addr → RS} {r : RS} (h : ∀ a d, f a d = r) : indep f = r := by
  unfold indep
  rw [if_pos (fun a d => (h a d).trans (h 0 0).symm)]
  exact h 0 0
theorem indep_at {f : Addr → Addr → RS} (h : indep f ≠ .bad) (a d : Addr) : f a d = indep f := by
  unfold indep at h ⊢
  by_cases q : ∀ a d, f a d = f 0 0
  · rw [if_pos q]
    exact q a d
  · rw [if_neg q] at h
    exact absurd rfl h
noncomputable def sTryAs (i : Nat) (test : Nat → Option Bool) (gb : SF) (gs : Addr → Addr → Nat → SF) : SF := fun ρ st => match gb ρ st with
  | .exc c fs ρ' st' => match test c with
    | some true => indep fun a d => (gs a d c (ρ'.set i (some (.d (.exc a d c fs)))) st').wipe i
    | some false => .exc c fs ρ' st'
    | none => .bad
  | r => r
theorem sTryAs_nx {i test gb gs ρ st ρ' st'} (h : gb ρ st = .nx ρ' st') : sTryAs i test gb gs ρ st = .nx ρ' st' := by unfold sTryAs; rw [h]
theorem sTryAs_rt {i test gb gs ρ st u st'} (h : gb ρ st = .rt u st') : sTryAs i test gb gs ρ st = .rt u st' := by unfold sTryAs; rw [h]
theorem sTryAs_exc {i test gb gs ρ st c fs ρ' st'} {r : RS} (h : gb ρ st = .exc c fs ρ' st') (ht : test c = some true) (hs : ∀ a d, (gs a d c (ρ'.set i (some (.d (.exc a d c fs)))) st').wipe i = r) : sTryAs i test gb gs ρ st = r := by
  unfold sTryAs
  rw [h]
  simp only [ht]
  exact indep_eq hs
theorem wipe_go {K T M H} {W : WX} {r : RS} {i : Nat} {D : Ends} (h : GoS K T W M H (r.wipe i) D) : GoS K T W0 M H r { nx := fun σ' H' => D.nx (σ'.set i none) H', rt := D.rt, bk := fun σ' H' => D.bk (σ'.set i none) H', ct := fun σ' H' => D.ct (σ'.set i none) H' } := by
  cases r with
  | nx ρ st => exact fun M' H' σ' e rep => h M' H' _ e (rep.forget i none)
  | bk ρ st => exact fun M' H' σ' e rep => h M' H' _ e (rep.forget i none)
  | ct ρ st => exact fun M' H' σ' e rep => h M' H' _ e (rep.forget i none)
  | rt u st => exact fun M' H' v e s r => h M' H' v e s r
  | exc c fs ρ st => exact h.elim
  | bad => exact h.elim
theorem ms_try_as {i : Nat} {cv : Value} {test : Nat → Option Bool} {body suite : List Stmt} {b₀ : Stmt} {np : Pos} {gb : SF} {gs : Addr → Addr → Nat → SF} (hs : X.stack = X.env :: X.outer) (hf : X.env.frame = some X.env.locals) (hN : X.N.Nodup) (hi : X.N[i]? = some n) (hln : X.env.kindOf n = some .local) (hc : Names X x cv) (tk : Takes X W)
    (ht : ∀ c b, test c = some b → PySem.W.exmOne X.K (.ref (T c)) cv = some b)
    (hb : ∀ (W : WX) (pn : List (Addr × Obj)) (xe : Value → Shared → Prop), Takes (X.tr pn xe) W → PassesOwn (model X.prog X.w) X.A X.env xe → MSs (X.tr pn xe) T W body gb)
    (hsu : ∀ (a : Addr) (oe : Obj) (c : Nat) (d : Addr) (pn : List (Addr × Obj)), test c = some true → Zc (.ref (T c)) (some d) oe → (∃ vs, oe.data = .fields vs) → MSs (X.suite a ((a, oe) :: pn)) T W0 (b₀ :: suite) (gs a d c)) :
    MS X T W (.Try body [.ExceptHandler (some (.Name x np)) (some n) (b₀ :: suite) pos'] [] [] pos) (sTryAs i test gb gs) := by
  refine PS.imp (ps_try_as (tb := fun W' => TSg X.K T W' gb) (ts := fun a cls d D σ H => ∃ c d', cls = .ref (T c) ∧ d = some d' ∧ test c = some true ∧ TSg X.K T W0 (gs a d' c) D σ H) (Wout := W) hs hf hN hi hln hc tk hb (fun a oe cls d pn hz hv => ⟨fun pins s σ H D I h => ?_⟩)) fun D σ H ⟨M, ρ, st, rep, go⟩ => ?_
  · obtain ⟨c, d', rfl, rfl, ht', h⟩ := h
    exact (hsu a oe c d' pn ht' hz hv).run pins s σ H D I h
  · refine ⟨M, ρ, st, rep, ?_⟩
    unfold sTryAs at go
    cases q : gb ρ st with
    | exc c fs ρ' st' =>
      rw [q] at go
      simp only at go
      intro M' H' σ' d fv e' rep' hd rf hm
      cases q2 : test c with
      | none => rw [q2] at go; exact go.elim
      | some b =>
        rw [q2] at go
        refine ⟨b, ht c b q2, fun hbt a na => ?_, fun hbf => ?_⟩
        · subst hbt
          simp only at go
          have hnb : indep (fun a d => (gs a d c (ρ'.set i (some (.d (.exc a d c fs)))) st').wipe i) ≠ .bad := fun z => by
            rw [z] at go
            exact go.elim
          rw [← indep_at hnb a d] at go
          exact ⟨c, d, rfl, rfl, q2, M', _, st', rep'.set i (.d (.exc hm hd rf)), wipe_go (GoS.base go e')⟩
        · subst hbf
          exact go M' H' σ' d fv e' rep' hd rf hm
    | nx ρ' st' => rw [q] at go; exact go
    | bk ρ' st' => rw [q] at go; exact go
    | ct ρ' st' => rw [q] at go; exact go
    | rt u st' => rw [q] at go; exact go
    | bad => rw [q] at go; exact go.elim
/-- e.f of the caught exception -/
def eXf (a d : Addr) (c : Nat) (f : Str) (fa : EF U) : EF U := fun ρ st => (fa ρ st).bind fun u st1 => match u with
  | .d (.exc a' d' c' fs) => if a' = a ∧ d' = d ∧ c' = c then match fs.lookup f with
      | some z => .ok (.d z) st1
      | none => .bad
    else .bad
  | _ => .bad
theorem m_xf {a d : Addr} {c : Nat} {oe : Obj} {pn : List (Addr × Obj)} {f : Str} (hX : XfC X.K (T c)) (hno : PySem.W.findIn X.K (.ref (T c)) f = some none) (hz : Zc (.ref (T c)) (some d) oe) (hf : ∃ vs, oe.data = .fields vs)
    (he : ME (X.suite a ((a, oe) :: pn)) T W e fa) (hb : attributeBase e f X.env (eval e X.env) = eval e X.env := by rfl) : ME (X.suite a ((a, oe) :: pn)) T W (.Attribute e f pos) (eXf a d c f fa) := by
  refine PE.imp (pe_xf hX hno hz hf he hb) fun σ H Q ⟨M, ρ, st, rep, go⟩ => ?_
  refine ⟨M, ρ, st, rep, (Go.bind (Rel := relU X.K T) rep go).mono fun v H1 ⟨M1, st1, u, e1, rep1, ru, go1⟩ => ?_⟩
  cases u with
  | loc _ => exact go1.elim
  | d y =>
    cases y with
    | exc a' d' c' fs =>
      simp only at go1
      by_cases hh : a' = a ∧ d' = d ∧ c' = c
      · obtain ⟨rfl, rfl, rfl⟩ := hh
        simp only [and_self, if_true] at go1
        cases ru with
        | d ru =>
          cases ru with
          | @exc _ _ _ fv _ hm hd rf =>
            cases q : fs.lookup f with
            | none => simp only [q] at go1; exact go1.elim
            | some z =>
              simp only [q] at go1
              obtain ⟨w, hw, rw⟩ := rf.lookup q
              exact ⟨rfl, rfl, d', fv, w, rfl, hd, hw, Go.now rep1.sto go1 (.d rw)⟩
      · simp only [hh, if_false] at go1
        exact go1.elim
    | _ => exact go1.elim
end
end MM
set_option maxRecDepth 100000
/-! M13: where no repr is under way; repr; the law's end -/
namespace MM
open PySem PySem.Spec PyProof.Rows L2

/-- a def's promise where no repr is under way -/
structure FnG (P : Program) (w : World) (K : PySem.W.Frag) (mg : Str → Option Value) (base : Heap) (CX : CXT) (k : Nat) (f : Addr) (fd : FuncData) (ps : List Str) (sp : Sp) : Prop where
  len : ∀ vs H Q E, sp vs H Q E → vs.length = ps.length
  run : ∀ (A : Around) (outer : List Env) (s : Shared) (H : Hp) (args : Args) (us : List Value) (vs : List V) (Q : VK) (E : XK), A.guards = some [] → Room k A → Env0 P w K mg base A outer s H → BindsTo s fd args (ps.zip us) → Vals vs us → sp vs H Q E →
    codeAny (model P w) A (.call (.ref f) args) (CR CX outer P w H s Q E) s
theorem FnG.of {P w K mg base CX k f fd ps sp} (h : FnOk P w K mg base CX k f fd ps sp) : FnG P w K mg base CX k f fd ps sp := ⟨h.len, fun A outer s H args us vs Q E _ => h.run A outer s H args us vs Q E⟩
section
variable {P : Program} {w : World} {K : PySem.W.Frag} {mg : Str → Option Value} {base : Heap} {T : Nat → Addr}
theorem fn_okG {x qual : Str} {st : Stmt} {f : Addr} {fd : FuncData} {N ps : List Str} {k : Nat} {g : SF} (F : Fun K x qual st f fd) (S : FnScope N ps (defScope st))
    (hb : ∀ (cdv : Value) (A : Around) (outer : List Env) (s : Shared) (H : Hp) (E : XK), A.guards = some [] → Room k (A.deeper (envOfC qual (defScope st) s.heap.objs.size f cdv)) →
      MSs (cxOf (L2.CX P w) P w K mg base N qual (defScope st) f cdv A outer s H E) T (fun c d _ H' => E c d H') (defBody st) g) :
    FnG P w K mg base (L2.CX P w) (k + 1) f fd ps (spM K T ps.length (runF N.length g)) := by
  obtain ⟨oc, od, kV, doc, pm, an, cdv, ct, osl, rfl, lk, hcd⟩ := F.ex
  refine ⟨fun vs H Q E h => h.1, fun A outer s H args us vs Q E hG hr e0 hbnd r hsp => ?_⟩
  obtain ⟨hl, M, uu, st', hs, hv, go⟩ := hsp
  have KX : K.In s.heap := e0.mod.kin.keeps fun b o e => (e0.bs b o e).1
  have lim : s.heap.NoLimit := e0.mod.nolimit.keeps fun b o e => (e0.bs b o e).1
  have hkind : ∀ y ∈ ps.zip us, (defScope st).names.lookup y.1 = some .local ∨ ((defScope st).names.lookup y.1 = some .cell ∧ ((cellsFrom (s.heap.objs.size + 1) (defScope st).names []).lookup y.1).isSome = true) := fun ⟨n, v⟩ hy => by
    rcases S.par n (List.of_mem_zip hy).1 with q | q
    · exact .inl q
    · exact .inr ⟨q, PySem.W.cellsFrom_some _ _ _ (.inl q)⟩
  refine codeAny_call_function hr.depth (KX _ _ lk) rfl S.co S.gen rfl (PySem.W.codeRec_of KX hcd) (hbnd _ _ _ _ ?_)
  refine wpAny_newFunctionEnv_cells S.kind hkind fun env he s1 x => ?_
  subst he
  refine ⟨lim.keeps x.toInCall.keep, codeAny_func ?_⟩
  have hm := hb cdv A outer s H E hG (hr.deeper _)
  have I : Inv (cxOf (L2.CX P w) P w K mg base N qual (defScope st) f cdv A outer s H E) [] (L2.start N vs) H s1 := inv_start S hr.hd e0 hl r x
  have q0 : TSg K T (fun c d _ H' => E c d H') g { nx := fun _ H' => Q .non H', rt := Q } (L2.start N vs) H := by
    refine ⟨M, uu.map some ++ List.replicate (N.length - uu.length) none, st', ⟨?_, hs⟩, ?_⟩
    · unfold L2.start
      rw [← Paired.len hv]
      exact start_rep _ hv
    · exact GoS_of hs.len.symm (fun _ _ q => q) (fun _ _ q => q) go fun _ _ _ _ q => q
  refine wpAny_mono (hm.run [] s1 (L2.start N vs) H _ I q0) (fun fl s' hs => ?_) fun e s' hs => hs
  have fin : ∀ {σ' : L2.St} {H' : Hp} {v : V} {u : Value}, Inv (cxOf (L2.CX P w) P w K mg base N qual (defScope st) f cdv A outer s H E) [] σ' H' s' → RelV v u → Q v H' → CE outer P w H s Q u s' :=
    fun {σ' H' v u} J rv q => ⟨v, H', J.os, J.bare, J.base, J.hok, rv, q⟩
  cases fl with
  | ret u =>
    obtain ⟨v, σ', H', J, rv, q⟩ := hs
    exact fin J rv q
  | next =>
    obtain ⟨σ', H', J, q⟩ := hs
    exact fin (v := V.non) (u := Value.none) J rfl q
  | brk =>
    obtain ⟨_, _, _, q⟩ := hs
    exact False.elim q
  | cont =>
    obtain ⟨_, _, _, q⟩ := hs
    exact False.elim q
end

/-! ### repr of data -/
def reprD (x : D) : Option Str := if sh 60 x = true ∧ x.py.showable = true ∧ x.py.hasDict = false ∧ x.py.shown.length ≤ 16777216 ∧ PyData.strOk x.py.shown = true then some x.py.shown else none
def bRepr : D → Option D := fun x => (reprD x).map .str
section
variable {X : Cx} {T : Nat → Addr} {W : WX} {e : Expr} {fa : EF U} {p pos : Pos}
def rRepr (X : Cx) (T : Nat → Addr) : List V → Hp → VK → Prop := fun xs H Q => ∃ v M x z, xs = [v] ∧ RV X.K T M H v x ∧ reprD x = some z ∧ Q (.str z) H
theorem cr_repr (hG : X.A.guards = some []) (hu : X.A.units + 66 < cLine) : CallR X (.builtin "repr") (rRepr X T) := by
  intro pins s σ H xs us Q I r h
  obtain ⟨v, M, x, z, rfl, rv, hz, q⟩ := h
  obtain ⟨u, rfl, ru⟩ := vals1 r
  unfold reprD at hz
  split at hz
  · rename_i hh
    obtain ⟨h1, h2, h3, h4, h5⟩ := hh
    cases hz
    obtain ⟨dp, cl⟩ := rv.dp h1
    obtain ⟨as, rd⟩ := Dp.reads I _ _ _ dp ru
    have hd := sh_depth 60 x h1
    have h4' : x.py.shown.length ≤ sizeLine := by rw [sizeLine_eq]; exact h4
    have fin : ∀ h' u tk, (∀ b o, s.heap.get? b = some o → h'.get? b = some o) → EP X pins σ Q (.str x.py.shown u) { s with heap := h', toks := tk } := fun h' u tk hk => ⟨.str x.py.shown, H, I.kept (t' := tk) hk, ⟨u, rfl⟩, q⟩
    cases hx : u with
    | ref a =>
      rw [hx] at rd
      exact repr_of_reads' rd h2 (PySem.PyData.noDict_hsm h3) hG (by omega) (fun _ _ e => e) fin h4'
    | none =>
      rw [hx] at rd
      generalize x.py = d at *
      cases rd
      exact PySem.P.repr_of_none (fin _ _ _ fun _ _ e => e)
    | bool b =>
      rw [hx] at rd
      generalize x.py = d at *
      cases rd
      cases b
      · exact PySem.P.repr_of_bool (fin _ _ _ fun _ _ e => e)
      · exact PySem.P.repr_of_bool (fin _ _ _ fun _ _ e => e)
    | int i t =>
      rw [hx] at rd
      generalize x.py = d at *
      cases rd
      exact PySem.P.repr_of_int (of_decide_eq_true h2) (fin _ _ _ fun _ _ e => e)
    | str y t =>
      rw [hx] at rd
      generalize x.py = d at *
      cases rd
      exact PySem.P.repr_of_str (fin _ _ _ fun _ _ e => e) h4'
    | _ => rw [hx] at rd; cases rd
  · cases hz
theorem m_repr (hG : X.A.guards = some []) (hu : X.A.units + 66 < cLine) (hg : Gl X "repr") (hm : X.mg "repr" = none) (hv : bootBuiltins "repr" = some (.builtin "repr")) (ha : ME X T W e fa)
    (he : starEach [e] X.env = (false, eval e X.env) :: starEach [] X.env := by rfl) : ME X T W (.Call (.Name "repr" p) [e] [] pos) (eUn (g1 bRepr) fa) := by
  refine PE.imp (pe_callB (cr_repr (T := T) hG hu) hg hm hv (pa_cons ha pa_nil he) (by decide) (by decide) he rfl) fun σ H Q ⟨M, ρ, st, rep, go⟩ => ?_
  refine ⟨M, ρ, st, rep, (Go.bind (Rel := relU X.K T) rep go).mono fun v H1 ⟨M1, st1, u, e1, rep1, ru, go1⟩ => ?_⟩
  unfold g1 at go1
  cases q : rd st1 u with
  | none => rw [q] at go1; exact go1.elim
  | some d =>
    rw [q] at go1
    simp only [bRepr] at go1
    cases qt : reprD d with
    | none => rw [qt] at go1; exact go1.elim
    | some z =>
      rw [qt] at go1
      simp only [Option.map] at go1
      have hz : PyData.strOk z = true := by
        unfold reprD at qt
        split at qt
        · rename_i hh
          cases qt
          exact hh.2.2.2.2
        · cases qt
      exact ⟨v, M1, d, z, rfl, ru.rv rep1.sto q, qt, Go.now rep1.sto go1 (.d (.str hz))⟩
end

/-! ### the law's end -/
theorem sc_rv {K : PySem.W.Frag} {T : Nat → Addr} {H : Hp} {a : Addr} {ns : List Int} (h : SqL K H a (ns.map V.int)) : RD K T [] H (.ref a) (.scr ns) := .scr (h.imp (fun f => ⟨by simp, f⟩) id)
/-- the law's promise at a script -/
theorem law_sp {K : PySem.W.Frag} {T : Nat → Addr} {H : Hp} {a : Addr} {ns : List Int} {F : FM} {st : Stor} (hF : F [.d (.scr ns)] [] = .ok (.d (.bool true)) st) (hS : SqL K H a (ns.map V.int)) : spM K T 1 F [.ref a] H (fun v _ => v = .bl true) (fun _ _ _ => False) := by
  refine ⟨rfl, [], [.d (.scr ns)], [], ⟨fun i j b h => by simp at h, .nil⟩, .cons (.d (sc_rv hS)) .nil, ?_⟩
  rw [hF]
  intro M' H' b e s r
  cases r with
  | d r => cases r; rfl
theorem law_callG {P : Program} {w : World} {K : PySem.W.Frag} {mg mb : Str → Option Value} {CX : CXT} {k : Nat} {fa a : Addr} {fd : FuncData} {x : Str} {sp : Sp} {s₁ : Shared} {vs : List Value} {ns : List Int}
    (KX : K.In s₁.heap) (hns : s₁.heap.Ns mainGlobals mg) (hb : s₁.heap.Ns builtinsNs mb) (hbb : ∀ x : Str, x ≠ "__name__" → mb x = bootBuiltins x) (hlim : s₁.heap.NoLimit) (hg : s₁.gens = #[])
    (ha : s₁.heap.get? a = some { cls := .type "list", data := .seq vs.toArray }) (hi : IntsAre vs ns) (hl : ns.length ≤ sizeLine) (hr : Room k callerA)
    (F : ∀ base : Heap, K.In base → base.Ns mainGlobals mg → FnG P w K mg base CX k fa fd [x] sp) (hbind : ∀ (s : Shared) (u : Value), BindsTo s fd ⟨[u], []⟩ [(x, u)])
    (hsp : ∀ H : Hp, Only H → SqL K H a (ns.map V.int) → sp [.ref a] H (fun v _ => v = .bl true) fun _ _ _ => False)
    (hCX : ∀ H e s', CX [] H s₁ (fun _ _ _ => False) e s' → False) :
    codeAny (model P w) callerA (.call (.ref fa) ⟨[.ref a], []⟩) (fun r s' => r = .ok (.ret (.bool true)) ∧ OldK s₁.heap s'.heap ∧ s'.os = s₁.os ∧ AllBare s'.gens) s₁ := by
  have rv := vals_ints hi
  have lenV := hi.length
  have core : ∀ H : Hp, Only H → SqL K H a (ns.map V.int) → HOk P w H s₁.heap → (∀ b, H b ≠ none → b = a) → (H a ≠ none → K.lookup a = none) →
      codeAny (model P w) callerA (.call (.ref fa) ⟨[.ref a], []⟩) (fun r s' => r = .ok (.ret (.bool true)) ∧ OldK s₁.heap s'.heap ∧ s'.os = s₁.os ∧ AllBare s'.gens) s₁ := by
    intro H hO hS hok hA hK
    have only : ∀ {b : Addr} {u : HO}, H b = some u → b = a := fun {b u} q => hA b (by rw [q]; simp)
    have noA : ∀ {b : Addr} {o : Obj}, s₁.heap.get? b = some o → (∀ vs n, o.data ≠ .seq vs n) → H b = none := fun {b o} e d => by
      cases q : H b with
      | none => rfl
      | some u =>
        have e' := only q
        subst e'
        rw [ha] at e; cases e
        exact absurd rfl (d _ _)
    have nsK : ∀ {b : Addr} {m : Str → Option Value}, s₁.heap.Ns b m → (hidT s₁.heap H).Ns b m := fun {b m} ⟨o, es, ep, e, d, r⟩ => ⟨o, es, ep, hidT_get e (noA e fun vs n z => by rw [d] at z; cases z), d, r⟩
    have hKb : K.In (hidT s₁.heap H) := fun b o e => hidT_get (KX b o e) (by
      cases q : H b with
      | none => rfl
      | some u =>
        have e' := only q
        subst e'
        rw [hK (by rw [q]; simp)] at e; cases e)
    have hM : Mod K mg (hidT s₁.heap H) := ⟨hKb, nsK hns, ⟨mb, nsK hb, hbb⟩, let ⟨mc, h1, h2⟩ := hlim; ⟨mc, nsK h1, h2⟩⟩
    have e0 : Env0 P w K mg (hidT s₁.heap H) callerA [] s₁ H := ⟨rfl, hM, fun b o e => of_hidT e, Nat.le_of_eq (hidT_size _ _), trivial, fun b hb => absurd (show b ∈ ([] : List Addr) from hb) (by simp), hok, .of_eq hg⟩
    refine codeAny_mono ((F _ hKb (nsK hns)).run callerA [] s₁ H ⟨[.ref a], []⟩ [.ref a] [.ref a] _ _ rfl hr e0 (hbind s₁ (.ref a)) (.cons rfl .nil) (hsp H hO hS)) fun r s' h => ?_
    cases r with
    | error e => exact (hCX H e s' h).elim
    | ok fl =>
      cases fl with
      | next => exact False.elim h
      | brk => exact False.elim h
      | cont => exact False.elim h
      | ret u =>
        obtain ⟨v, H', os, bare, un, hok', r', q⟩ := h
        cases q
        obtain rfl : u = Value.bool true := r'
        refine ⟨rfl, OldK.of_keep fun b o e => ?_, os, bare⟩
        cases q : H b with
        | none => exact un.keep b o e q (by intro z; exact absurd (show b ∈ ([] : List Addr) from z) (by simp)) (by simp)
        | some u =>
          rcases hO b with z | ⟨ob, xs, z⟩
          · rw [q] at z; cases z
          · obtain ⟨e1, _⟩ := hok b _ z
            obtain ⟨e2, _⟩ := hok' b _ (un.frzs b ob _ z)
            rw [e] at e1; cases e1
            exact e2
  cases hk : K.lookup a with
  | some o =>
    have e := KX a o hk
    rw [ha] at e
    cases e
    exact core (fun _ => none) (fun _ => .inl rfl) (.inr ⟨_, vs.toArray, _, hk, rfl, rfl, rfl, by rw [List.size_toArray, lenV]; exact hl, by simpa using rv⟩) (fun b u z => by have z' : (none : Option HO) = some u := z; cases z') (fun b z => absurd rfl z) fun z => absurd rfl z
  | none =>
    refine core (fun b => if b = a then some (.frz { cls := .type "list", data := .seq vs.toArray } (.lst (ns.map V.int))) else none) (fun b => ?_) (.inl (.inr ⟨{ cls := .type "list", data := .seq vs.toArray }, if_pos rfl⟩)) (fun b u z => ?_) (fun b z => ?_) fun _ => hk
    · by_cases hb : b = a
      · exact .inr ⟨_, _, if_pos hb⟩
      · exact .inl (if_neg hb)
    · by_cases hb : b = a
      · have z' := (if_pos hb).symm.trans z
        cases z'
        subst hb
        exact ⟨ha, by rw [List.length_map]; exact hl, vs, _, rv, ha⟩
      · have z' := (if_neg hb).symm.trans z
        cases z'
    · by_cases hb : b = a
      · exact hb
      · exact absurd (if_neg hb) z
/-- what the head leaves to be shown of a law whose def computes Fl -/
theorem walkM {l : PySem.W.OpenLaw} {k : Nat} {q : Program} {loose : List Str} {XP : (Str → Option Value) → Heap → Prop} {YP : World → Heap → Prop} {d : DefRec} {K : Params → PySem.W.Frag} {x : Str} {Fl : FM}
    (hn : l.most = some 63) (hdf : d.params.defaults = []) (hr : Room k callerA)
    (hY : ∀ (w : World) (h : Heap), YP w h → (K w.params).In h)
    (F : ∀ (w : World) (mg : Str → Option Value) (fa : Addr) (h : Heap), (K w.params).In h → h.Ns mainGlobals mg → mg d.name = some (.ref fa) →
      ∃ (fd : FuncData) (T : Nat → Addr), (∀ (s : Shared) (u : Value), BindsTo s fd ⟨[u], []⟩ [(x, u)]) ∧
        ∀ base : Heap, (K w.params).In base → base.Ns mainGlobals mg → FnG l.prog w (K w.params) mg base (L2.CX l.prog w) k fa fd [x] (spM (K w.params) T 1 Fl))
    (hF : ∀ ns : List Int, ns.length ≤ 63 → ∃ st, Fl [.d (.scr ns)] [] = .ok (.d (.bool true)) st) :
    PySem.W.WalkO q loose XP YP l.row.toRowW d [] (fun f vs => PySem.call f vs) := by
  refine Att.attach_call hn hdf fun w s₀ s₁ mg mb fa o pm cd doc a vs ns G Y ho hd hcd hmg hobj hints hlen hg => ?_
  have KX := hY w _ Y
  obtain ⟨fd, T, hb, hF'⟩ := F w mg fa _ KX G.T.g hmg
  obtain ⟨st, hst⟩ := hF ns hlen
  refine law_callG KX G.T.g G.T.b G.T.builtins G.T.nolimit hg hobj hints (Nat.le_trans hlen (by decide)) hr hF' hb (fun H hO hS => law_sp hst hS) fun H e s' z => ?_
  obtain ⟨_, _, _, _, _, _, _, _, _, _, _, _, z⟩ := z
  exact z
end MM
set_option maxRecDepth 100000
/-! M14: a changing list walked; a changing list that is to change no more -/
namespace MM
open PySem PySem.Spec PyProof.Rows L2
section
variable {X : Cx} {T : Nat → Addr} {W : WX} {e tg : Expr} {fa : EF U} {ss : List Stmt} {g : SF}
def kLive : U → Stor → R (List D × LV) := fun u st => match u with
  | .loc j => match st[j]? with
    | some (.lst ds) => .ok (ds, some (j, ds)) st
    | _ => .bad
  | _ => .bad
def eLive (f : EF U) : EF (List D × LV) := fun ρ st => (f ρ st).bind kLive
theorem mv_loc (he : ME X T W e fa) : MV X T W tg e (eLive fa) := by
  refine PI.imp (pi_any he) fun σ H R ⟨M, ρ, st, rep, go⟩ => ?_
  refine ⟨M, ρ, st, rep, (Go.bind (Rel := relU X.K T) rep go).mono fun v H1 ⟨M1, st1, u, e1, rep1, ru, go1⟩ => ?_⟩
  unfold kLive at go1
  cases u with
  | d _ => exact go1.elim
  | loc j =>
    simp only at go1
    cases q : st1[j]? with
    | none => simp only [q] at go1; exact go1.elim
    | some ob =>
      cases ob with
      | lst ds =>
        simp only [q] at go1
        obtain ⟨a, xs, hj, ha, _⟩ := loc_lst rep1.sto q
        cases ru_loc ru hj
        refine .inl ⟨a, rfl, ⟨xs, .inl (.inl ha)⟩, Go.now rep1.sto go1 (a := (ds, some (j, ds))) ?_⟩
        intro M2 H2 st2 e2 s2 lv
        have lv : st2[j]? = some (.lst ds) := lv
        obtain ⟨a', xs', hj', ha', r⟩ := loc_lst s2 lv
        have ea : a' = a := by
          rcases e2.old j (some a) hj with w | w
          · rw [hj'] at w; cases w; rfl
          · rw [hj'] at w; cases w
        subst ea
        have q : SqL X.K H2 a' xs' := .inl (.inl ha')
        refine ⟨fun i hi => ?_, ⟨xs', q, by rw [r.length]; exact Nat.le_refl _⟩, fun i x H3 hi y => ?_⟩
        · have hi' : i < xs'.length := by rw [r.length]; exact hi
          exact ⟨xs', xs'[i], q, by simp [hi']⟩
        · obtain ⟨rfl, y⟩ := y
          obtain ⟨d, hd, rd'⟩ := r.get' (y xs' q)
          exact ⟨d, hd, rd', Ext.refl, fun _ s => s⟩
      | _ => simp only [q] at go1; exact go1.elim
/-- from here on the list that slot i names changes no more -/
def sFrz (i : Nat) (g : SF) : SF := fun ρ st => match ρ[i]? with
  | some (some (.loc j)) => match st[j]? with
    | some (.lst ds) => g (ρ.set i (some (.d (.list ds)))) (st.set j .dead)
    | _ => .bad
  | _ => .bad
theorem mss_frz (i : Nat) (h : MSs X T W ss g) : MSs X T W ss (sFrz i g) := by
  refine PSs.imp h fun D σ H ⟨M, ρ, st, rep, go⟩ => ?_
  unfold sFrz at go
  cases q : ρ[i]? with
  | none => simp only [q] at go; exact go.elim
  | some o =>
    cases o with
    | none => simp only [q] at go; exact go.elim
    | some u =>
      cases u with
      | d _ => simp only [q] at go; exact go.elim
      | loc j =>
        simp only [q] at go
        cases q2 : st[j]? with
        | none => simp only [q2] at go; exact go.elim
        | some ob =>
          cases ob with
          | lst ds =>
            simp only [q2] at go
            obtain ⟨a, xs, hj, ha, r⟩ := loc_lst rep.sto q2
            obtain ⟨v, hv, ru⟩ := rep.get q
            cases ru_loc ru hj
            have hm : some a ∉ M.set j none := fun z => by
              obtain ⟨k, hk⟩ := List.getElem?_of_mem z
              rw [List.getElem?_set] at hk
              split at hk
              · split at hk <;> cases hk
              · rename_i ne
                exact ne (rep.sto.nd j k a hj hk)
            have rep1 := rep.ext Ext.hole (rep.sto.hole j)
            have rep2 := rep1.set i (RU.d (RD.lst hm ha (r.ext Ext.hole)))
            have es : σ.set i (some (.ref a)) = σ := by
              apply List.ext_getElem?
              intro k
              by_cases ek : i = k
              · subst ek
                rw [List.getElem?_set_self (List.getElem?_eq_some_iff.mp hv).1, hv]
              · rw [List.getElem?_set_ne ek]
            rw [es] at rep2
            exact ⟨_, _, _, rep2, GoS.base go Ext.hole⟩
          | _ => simp only [q2] at go; exact go.elim
end
theorem r64 {k : Nat} {A : Around} (r : Room k A) : A.units + 64 < cLine := by
  have := r.un
  omega
theorem r66 {k : Nat} {A : Around} (r : Room k A) : A.units + 66 < cLine := by
  have := r.un
  omega
section
variable {P : Program} {w : World} {K : PySem.W.Frag} {mg : Str → Option Value} {base : Heap} {T : Nat → Addr}
theorem def_ok {x qual : Str} {st : Stmt} {f : Addr} {fd : FuncData} {N ps : List Str} {k n m : Nat} {g : SF} {Fm : FM} (F : Fun K x qual st f fd) (S : FnScope N ps (defScope st)) (hm : ps.length = m) (hn : N.length = n) (hF : Fm = runF n g)
    (hb : ∀ (cdv : Value) (A : Around) (outer : List Env) (s : Shared) (H : Hp) (E : XK), Room k (A.deeper (envOfC qual (defScope st) s.heap.objs.size f cdv)) →
      MSs (cxOf (L2.CX P w) P w K mg base N qual (defScope st) f cdv A outer s H E) T (fun c d _ H' => E c d H') (defBody st) g) :
    FnOk P w K mg base (L2.CX P w) (k + 1) f fd ps (spM K T m Fm) := by
  subst hm hn hF
  exact fn_ok F S hb
theorem def_okG {x qual : Str} {st : Stmt} {f : Addr} {fd : FuncData} {N ps : List Str} {k n m : Nat} {g : SF} {Fm : FM} (F : Fun K x qual st f fd) (S : FnScope N ps (defScope st)) (hm : ps.length = m) (hn : N.length = n) (hF : Fm = runF n g)
    (hb : ∀ (cdv : Value) (A : Around) (outer : List Env) (s : Shared) (H : Hp) (E : XK), A.guards = some [] → Room k (A.deeper (envOfC qual (defScope st) s.heap.objs.size f cdv)) →
      MSs (cxOf (L2.CX P w) P w K mg base N qual (defScope st) f cdv A outer s H E) T (fun c d _ H' => E c d H') (defBody st) g) :
    FnG P w K mg base (L2.CX P w) (k + 1) f fd ps (spM K T m Fm) := by
  subst hm hn hF
  exact fn_okG F S hb
end
theorem exm_at {K : PySem.W.Frag} {S C : Addr} {b : Bool} (h1 : PySem.W.subIn K (.ref C) (.type "BaseException") = some true) (h2 : PySem.W.isClsIn K C = true) (h3 : PySem.W.typeIn K (.ref C) = some (.type "type"))
    (h4 : PySem.W.subIn K (.ref S) (.ref C) = some b) : PySem.W.exmOne K (.ref S) (.ref C) = some b := by
  have h5 : (PySem.W.clsIn K C).isSome = true := h2
  unfold PySem.W.exmOne PySem.W.kitCls
  simp [h1, h5, h3, h4]
end MM
set_option maxRecDepth 100000
/-! M15: evaluation: what simp is to know -/
namespace MM
open PySem
theorem rd_lst {st : Stor} {i : Nat} {ds : List D} (h : st[i]? = some (.lst ds)) : rd st (.loc i) = some (.list ds) := by
  unfold rd
  simp only [h]
theorem atI_nat {α : Type} (xs : List α) (n : Nat) : L2.atI xs (n : Int) = xs[n]? := by
  unfold L2.atI L2.ixN
  rw [if_pos (by omega)]
  by_cases h : (n : Int) < xs.length
  · rw [if_pos h]
    simp
  · rw [if_neg h, List.getElem?_eq_none (by omega)]
    rfl
theorem atI_lit {α : Type} (xs : List α) (n : Nat) : L2.atI xs (no_index (OfNat.ofNat n : Int)) = xs[(OfNat.ofNat n : Nat)]? := atI_nat xs n
theorem ixN_nat (m n : Nat) : L2.ixN m (n : Int) = if n < m then some n else none := by
  unfold L2.ixN
  rw [if_pos (by omega)]
  by_cases h : n < m
  · rw [if_pos (by omega), if_pos h]
    simp
  · rw [if_neg (by omega), if_neg h]
theorem ixN_lit (m n : Nat) : L2.ixN m (no_index (OfNat.ofNat n : Int)) = if (OfNat.ofNat n : Nat) < m then some (OfNat.ofNat n : Nat) else none := ixN_nat m n
theorem atI_pos {α : Type} (xs : List α) {i : Int} (h0 : 0 ≤ i) : L2.atI xs i = xs[i.toNat]? := by
  have := atI_nat xs i.toNat
  rwa [Int.toNat_of_nonneg h0] at this
theorem rd_set {st : Stor} {i : Nat} {ds : List D} (h : i < st.length) : rd (st.set i (.lst ds)) (.loc i) = some (.list ds) := rd_lst (by rw [List.getElem?_set_self h])
/-! by values -/
theorem g2_rd {f : D → D → Option D} {u w : U} {st : Stor} {x y : D} (h1 : rd st u = some x) (h2 : rd st w = some y) : g2 f u w st = (match f x y with | some z => .ok (.d z) st | none => .bad) := by
  unfold g2
  first | (simp only [h1, h2]; done) | (simp only [h1, h2]; cases f x y <;> rfl)
theorem g1_rd {f : D → Option D} {u : U} {st : Stor} {x : D} (h1 : rd st u = some x) : g1 f u st = (match f x with | some z => .ok (.d z) st | none => .bad) := by
  unfold g1
  first | (simp only [h1]; done) | (simp only [h1]; cases f x <;> rfl)
/-! ### loops by an invariant -/
theorem forL_inv {h : TgF} {g : SF} : ∀ {ds : List D} {ρ : Slots} {st : Stor} (P : Nat → Slots → Stor → Prop),
    (∀ k d ρ st, ds[k]? = some d → P k ρ st → ∃ ρ1 ρ2 st2, h d ρ = some ρ1 ∧ (g ρ1 st = .nx ρ2 st2 ∨ g ρ1 st = .ct ρ2 st2) ∧ P (k + 1) ρ2 st2) → P 0 ρ st →
    ∃ ρ' st', forL h g none ds ρ st = .nx ρ' st' ∧ P ds.length ρ' st'
  | [], ρ, st, P, _, h0 => ⟨ρ, st, rfl, h0⟩
  | d :: ds, ρ, st, P, step, h0 => by
    obtain ⟨ρ1, ρ2, st2, e1, e2, p1⟩ := step 0 d ρ st rfl h0
    obtain ⟨ρ', st', e3, p'⟩ := forL_inv (h := h) (g := g) (ds := ds) (ρ := ρ2) (st := st2) (fun k ρ st => P (k + 1) ρ st) (fun k d ρ st hk p => step (k + 1) d ρ st (by simpa using hk) p) p1
    refine ⟨ρ', st', ?_, p'⟩
    rw [← e3]
    show (match h d ρ with
      | none => RS.bad
      | some ρ1 => match g ρ1 st with
        | .nx ρ2 st2 => forL h g none ds ρ2 st2
        | .ct ρ2 st2 => forL h g none ds ρ2 st2
        | .bk ρ2 st2 => .nx ρ2 st2
        | r => r) = _
    rw [e1]
    rcases e2 with e2 | e2 <;> simp only [e2]
theorem lstAt_of {st : Stor} {n k : Nat} {acc : List D} (h : st[n]? = some (.lst acc)) (hk : acc.length ≤ k) : lstAt st n k = some acc := by
  unfold lstAt
  simp only [h, hk, if_true]
theorem compL_inv {h : TgF} {c : EF Bool} {e : EF U} {ρ : Slots} {n : Nat} {lv : LV} : ∀ {ds : List D} {st : Stor} {acc : List D} (k : Nat) (P : Nat → List D → Stor → Prop), (∀ k acc st, P k acc st → lvOk lv st ∧ st[n]? = some (.lst acc)) →
    (∀ j d acc st, ds[j]? = some d → P (k + j) acc st → ∃ ρ1 b st1, h d ρ = some ρ1 ∧ c ρ1 st = .ok b st1 ∧
      (b = true → ∃ x st2, e ρ1 st1 = .ok (.d x) st2 ∧ st2[n]? = some (.lst acc) ∧ P (k + j + 1) (acc ++ [x]) (st2.set n (.lst (acc ++ [x])))) ∧
      (b = false → P (k + j + 1) acc st1)) → P k acc st → acc.length ≤ k →
    ∃ acc' st', compL h c e ρ n lv k ds st = .ok () st' ∧ P (k + ds.length) acc' st' ∧ acc'.length ≤ k + ds.length
  | [], st, acc, k, P, hl, _, h0, hk => by
    refine ⟨acc, st, ?_, h0, hk⟩
    show chk lv st R.bad (R.ok () st) = _
    match lv, hl with
    | none, _ => rfl
    | some (j, ds), hl => exact chk_some (hl _ _ _ h0).1
  | d :: ds, st, acc, k, P, hl, step, h0, hk => by
    obtain ⟨ρ1, b, st1, e1, e2, hT, hF⟩ := step 0 d acc st rfl h0
    have hc : ∀ r : R Unit, chk lv st .bad r = r := fun r => by
      match lv, hl with
      | none, _ => rfl
      | some (j, ds), hl => exact chk_some (hl _ _ _ h0).1
    have st' : ∀ j d acc st, ds[j]? = some d → P (k + 1 + j) acc st → ∃ ρ1 b st1, h d ρ = some ρ1 ∧ c ρ1 st = .ok b st1 ∧
      (b = true → ∃ x st2, e ρ1 st1 = .ok (.d x) st2 ∧ st2[n]? = some (.lst acc) ∧ P (k + 1 + j + 1) (acc ++ [x]) (st2.set n (.lst (acc ++ [x])))) ∧
      (b = false → P (k + 1 + j + 1) acc st1) := fun j d acc st hj p => by
      have := step (j + 1) d acc st (by simpa using hj) (by rw [show k + (j + 1) = k + 1 + j by omega]; exact p)
      rw [show k + (j + 1) = k + 1 + j by omega] at this
      exact this
    cases b with
    | true =>
      obtain ⟨x, st2, e3, e4, p2⟩ := hT rfl
      obtain ⟨acc', stF, e5, p5, l5⟩ := compL_inv (ds := ds) (k + 1) P hl st' p2 (by rw [List.length_append, List.length_singleton]; omega)
      refine ⟨acc', stF, ?_, by rw [List.length_cons, show k + (ds.length + 1) = k + 1 + ds.length by omega]; exact p5, by rw [List.length_cons]; omega⟩
      rw [compL, hc, e1]
      simp only [e2, R.nox_ok, R.bind_ok, if_true, e3, lstAt_of e4 hk]
      exact e5
    | false =>
      have p2 := hF rfl
      obtain ⟨acc', stF, e5, p5, l5⟩ := compL_inv (ds := ds) (k + 1) P hl st' p2 (by omega)
      refine ⟨acc', stF, ?_, by rw [List.length_cons, show k + (ds.length + 1) = k + 1 + ds.length by omega]; exact p5, by rw [List.length_cons]; omega⟩
      rw [compL, hc, e1]
      simp only [e2, R.nox_ok, R.bind_ok, Bool.false_eq_true, if_false, lstAt_of (hl _ _ _ p2).2 hk]
      exact e5
/-- a comprehension that touches nothing -/
theorem comp_pure {vs : List Nat} {f : EF (List D × LV)} {h : TgF} {c : EF Bool} {e : EF U} {ρ : Slots} {st : Stor} {ds : List D} {lv : LV} (p : D → Bool) (q : D → D) (hf : f ρ st = .ok (ds, lv) st) (hz : ds.length ≤ 16777216) (hlv : ∀ acc, lvOk lv (st ++ [.lst acc]))
    (hs : ∀ d ∈ ds, ∃ ρ1, h d (wipeS ρ vs) = some ρ1 ∧ ∀ acc, c ρ1 (st ++ [.lst acc]) = .ok (p d) (st ++ [.lst acc]) ∧ (p d = true → e ρ1 (st ++ [.lst acc]) = .ok (.d (q d)) (st ++ [.lst acc]))) :
    eLc false vs f h c e ρ st = .ok (.d (.list ((ds.filter p).map q))) st := by
  unfold eLc
  rw [hf]
  simp only [R.bind_ok]
  rw [if_pos (show fits ds.length = true from decide_eq_true hz)]
  obtain ⟨acc', st', e1, ⟨rfl, rfl⟩, _⟩ := compL_inv (h := h) (c := c) (e := e) (ρ := wipeS ρ vs) (n := st.length) (lv := lv) (ds := ds) (st := st ++ [.lst []]) (acc := []) 0 (fun k acc st' => st' = st ++ [.lst acc] ∧ acc = ((ds.take k).filter p).map q)
    (fun k acc st' z => by
      obtain ⟨rfl, _⟩ := z
      exact ⟨hlv acc, by simp⟩)
    (fun j d acc st' hj z => by
      obtain ⟨rfl, rfl⟩ := z
      obtain ⟨ρ1, e1, e2⟩ := hs d (List.mem_of_getElem? hj)
      have hd : ds.take (0 + j + 1) = ds.take (0 + j) ++ [d] := by
        rw [List.take_add_one, show 0 + j = j by omega, hj]
        rfl
      refine ⟨ρ1, p d, _, e1, (e2 _).1, fun hp => ⟨q d, _, (e2 _).2 hp, by simp, ?_, ?_⟩, fun hp => ⟨rfl, ?_⟩⟩
      · simp
      · rw [hd, List.filter_append, List.map_append]
        simp [hp]
      · rw [hd, List.filter_append, List.map_append]
        simp [hp])
    ⟨rfl, by simp⟩ (by simp)
  rw [e1]
  simp [finL]
theorem dNe_bb (a b : Bool) : dNe (.bool a) (.bool b) = some (.bool (!(a == b))) := by simp [dNe, sh, D.eqv]
theorem dEq_bb (a b : Bool) : dEq (.bool a) (.bool b) = some (.bool (a == b)) := by simp [dEq, sh, D.eqv]
theorem dNe_ii (a b : Int) : dNe (.int a) (.int b) = some (.bool (!(a == b))) := by simp [dNe, sh, D.eqv]
theorem dEq_ii (a b : Int) : dEq (.int a) (.int b) = some (.bool (a == b)) := by simp [dEq, sh, D.eqv]
theorem dEq_nn : dEq (.list []) (.list []) = some (.bool true) := by simp [dEq, sh, shs, D.eqv, eqvs]
theorem dEq_tt (a b c d : Int) : dEq (.tuple [.int a, .int b]) (.tuple [.int c, .int d]) = some (.bool (a == c && b == d)) := by simp [dEq, sh, shs, D.eqv, eqvs]
theorem fits_le' {n : Nat} (h : n ≤ 16777216) : fits n = true := decide_eq_true h
theorem kLst_nil (st : Stor) : kLst [] st = .ok (.d (.list [])) st := by
  unfold kLst
  rw [show ofUs [] = some [] from rfl]
  exact if_pos (fits_le' (Nat.zero_le _))
end MM
set_option maxRecDepth 100000
/-! M16: evaluation statement by statement -/
namespace MM
open PySem
section
variable {c : EF Bool} {f : EF U} {fs : EF (List U)} {g1 g2 g : SF} {ρ ρ1 : Slots} {st st1 : Stor} {r : RS} {u : U} {i : Nat}
theorem sIf_t (h : c ρ st = .ok true st1) (hr : g1 ρ st1 = r) : sIf c g1 g2 ρ st = r := by
  unfold sIf
  rw [h]
  exact hr
theorem sIf_f (h : c ρ st = .ok false st1) (hr : g2 ρ st1 = r) : sIf c g1 g2 ρ st = r := by
  unfold sIf
  rw [h]
  exact hr
/-- a test that is false and nothing else -/
theorem sIf_n (h : c ρ st = .ok false st1) : sIf c g1 sNil ρ st = .nx ρ st1 := sIf_f h rfl
theorem sSeq_n (h : g1 ρ st = .nx ρ1 st1) (hr : g2 ρ1 st1 = r) : sSeq g1 g2 ρ st = r := by
  unfold sSeq
  rw [h]
  exact hr
theorem sSeq_r (h : g1 ρ st = .rt u st1) : sSeq g1 g2 ρ st = .rt u st1 := by
  unfold sSeq
  rw [h]
  rfl
theorem sRet_o (h : f ρ st = .ok u st1) : sRet f ρ st = .rt u st1 := by
  unfold sRet
  rw [h]
  rfl
theorem sSet_o (h : f ρ st = .ok u st1) : sSet i f ρ st = .nx (ρ.set i (some u)) st1 := by
  unfold sSet
  rw [h]
  rfl
theorem run_rt {n : Nat} {us : List U} {x : D} (h : g (us.map some ++ List.replicate (n - us.length) none) st = .rt (.d x) st1) : runF n g us st = .ok (.d x) (st1.take st.length) := by
  unfold runF
  rw [h]
  rfl
theorem run_same {n : Nat} {us : List U} {x : D} (h : g (us.map some ++ List.replicate (n - us.length) none) st = .rt (.d x) st) : runF n g us st = .ok (.d x) st := by
  rw [run_rt h, List.take_length]
theorem bin_o {h : U → U → Stor → R U} {fa fb : EF U} {a b : U} {st2 : Stor} {q : R U} (ha : fa ρ st = .ok a st1) (hb : fb ρ st1 = .ok b st2) (hq : h a b st2 = q) : eBin h fa fb ρ st = q := by
  unfold eBin
  rw [ha]
  simp only [R.bind_ok]
  rw [hb]
  exact hq
theorem asB_o {b : Bool} (h : f ρ st = .ok (.d (.bool b)) st1) : asB f ρ st = .ok b st1 := by
  unfold asB
  rw [h]
  rfl
theorem g2_o {k : D → D → Option D} {x y z : D} (h : k x y = some z) : MM.g2 k (.d x) (.d y) st = .ok (.d z) st := by
  unfold MM.g2
  simp only [rd_d, h]
theorem cons_o {fa : EF U} {a : U} {us : List U} {st2 : Stor} (ha : fa ρ st = .ok a st1) (hs : fs ρ st1 = .ok us st2) : eCons fa fs ρ st = .ok (a :: us) st2 := by
  unfold eCons
  rw [ha]
  simp only [R.bind_ok]
  rw [hs]
  rfl
theorem args_o {k : List U → Stor → R U} {us : List U} {q : R U} (hs : fs ρ st = .ok us st1) (hk : k us st1 = q) : eArgs fs k ρ st = q := by
  unfold eArgs
  rw [hs]
  exact hk
theorem len_o {n : Nat} {F : FM} {us : List U} {q : R U} (hl : us.length = n) (h : F us st = q) : kLen n F us st = q := by
  unfold kLen
  rw [if_pos hl]
  exact h
theorem tru_o {b : Bool} {x : D} (h : f ρ st = .ok (.d x) st1) (hb : x.tru = some b) : eTru f ρ st = .ok b st1 := by
  unfold eTru
  rw [h]
  simp only [R.bind_ok, uTru, rd_d, hb]
theorem notT_o {b : Bool} (h : c ρ st = .ok b st1) : eNotT c ρ st = .ok (!b) st1 := by
  unfold eNotT
  rw [h]
  rfl
theorem andT_t {c2 : EF Bool} {q : R Bool} (h : c ρ st = .ok true st1) (h2 : c2 ρ st1 = q) : eAndT c c2 ρ st = q := by
  unfold eAndT
  rw [h]
  exact h2
theorem andT_f {c2 : EF Bool} (h : c ρ st = .ok false st1) : eAndT c c2 ρ st = .ok false st1 := by
  unfold eAndT
  rw [h]
  rfl
theorem orT_t {c2 : EF Bool} (h : c ρ st = .ok true st1) : eOrT c c2 ρ st = .ok true st1 := by
  unfold eOrT
  rw [h]
  rfl
theorem orT_f {c2 : EF Bool} {q : R Bool} (h : c ρ st = .ok false st1) (h2 : c2 ρ st1 = q) : eOrT c c2 ρ st = q := by
  unfold eOrT
  rw [h]
  exact h2
theorem range1_o {us : List U} {ds : List D} {st2 : Stor} (h : fs ρ st = .ok us st1) (hk : kRange1 us st1 = .ok ds st2) : eRange1 fs ρ st = .ok ds st2 := by
  unfold eRange1
  rw [h]
  exact hk
theorem range2_o {us : List U} {ds : List D} {st2 : Stor} (h : fs ρ st = .ok us st1) (hk : kRange2 us st1 = .ok ds st2) : eRange2 fs ρ st = .ok ds st2 := by
  unfold eRange2
  rw [h]
  exact hk
theorem nl_o {k : EF (List D)} {ds : List D} (h : k ρ st = .ok ds st1) : nl k ρ st = .ok (ds, none) st1 := by
  unfold nl
  rw [h]
  rfl
theorem eV_o (h : ρ[i]? = some (some u)) : eV i ρ st = .ok u st := by
  unfold eV
  simp only [h]
theorem sFor_o {k : EF (List D × LV)} {h : TgF} {ds : List D} {lv : LV} (hf : k ρ st = .ok (ds, lv) st1) (hr : forL h g lv ds ρ st1 = r) : sFor k h g ρ st = r := by
  unfold sFor
  rw [hf]
  exact hr
theorem items_o {x : D} {ds : List D} (h : f ρ st = .ok (.d x) st1) (hi : x.items = some ds) : eItems f ρ st = .ok ds st1 := by
  unfold eItems
  rw [h]
  simp only [R.bind_ok, kItems, hi]
theorem tup_o {us : List U} {ds : List D} (h : ofUs us = some ds) (hl : ds.length ≤ 16777216) : kTup us st = .ok (.d (.tuple ds)) st := by
  unfold kTup
  rw [h]
  exact if_pos (fits_le' hl)
theorem lst_o {us : List U} {ds : List D} (h : ofUs us = some ds) (hl : ds.length ≤ 16777216) : kLst us st = .ok (.d (.list ds)) st := by
  unfold kLst
  rw [h]
  exact if_pos (fits_le' hl)
theorem lstN_o {us : List U} {ds : List D} (h : ofUs us = some ds) (hl : ds.length ≤ 16777216) : kLstN us st = .ok (.loc st.length) (st ++ [.lst ds]) := by
  unfold kLstN
  rw [h]
  exact if_pos (fits_le' hl)
theorem lm_o {k : List D → List U → Option (D × List D)} {fo : EF U} {j : Nat} {us : List U} {st2 : Stor} {d0 ds ds' : List D} {z : D} (ho : fo ρ st = .ok (.loc j) st1) (h1 : st1[j]? = some (.lst d0)) (ha : fs ρ st1 = .ok us st2) (h2 : st2[j]? = some (.lst ds)) (hk : k ds us = some (z, ds')) :
    eLM k fo fs ρ st = .ok (.d z) (st2.set j (.lst ds')) := by
  unfold eLM
  rw [ho]
  simp only [R.bind_ok, h1]
  rw [ha]
  simp only [R.bind_ok, h2, hk]
theorem sEx_o (h : f ρ st = .ok u st1) : sEx f ρ st = .nx ρ st1 := by
  unfold sEx
  rw [h]
  rfl
theorem kB_o {k : List D → Option D} {us : List U} {xs : List D} {z : D} (h : rds st us = some xs) (hk : k xs = some z) : kB k us st = .ok (.d z) st := by
  unfold kB
  simp only [h, hk]
theorem sPar_o {is : List Nat} {us : List U} (h : fs ρ st = .ok us st1) (hs : setU is us ρ = some ρ1) : sPar is fs ρ st = .nx ρ1 st1 := by
  unfold sPar
  rw [h]
  simp only [R.stm_ok, hs]
theorem rd_o {k : D → D → Option D} {a : U} {x y z : D} (h1 : rd st a = some x) (h : k x y = some z) : MM.g2 k a (.d y) st = .ok (.d z) st := by
  unfold MM.g2
  simp only [h1, rd_d, h]
end
end MM
set_option maxRecDepth 100000
/-! M17: evaluation of pure expressions, one rule a construct -/
namespace MM
open PySem
section
variable {ρ : Slots} {st : Stor} {fa fb fc : EF U} {x y z w : D} {i j : Int} {q : R U}
theorem cm_l {i j : Int} (h : -18446744073709551616 < i) (h2 : i < 18446744073709551616) : cMul i j = true := by
  unfold cMul
  rw [Bool.or_eq_true, Bool.and_eq_true]
  exact .inl ⟨decide_eq_true (by omega), decide_eq_true (by omega)⟩
theorem cm_r {i j : Int} (h : -18446744073709551616 < j) (h2 : j < 18446744073709551616) : cMul i j = true := by
  unfold cMul
  rw [Bool.or_eq_true, Bool.and_eq_true, Bool.and_eq_true]
  exact .inr ⟨decide_eq_true (by omega), decide_eq_true (by omega)⟩
theorem v1_o {k : List U → Stor → R U} (ha : fa ρ st = .ok (.d x) st) (hk : k [.d x] st = q) : eArgs (eCons fa eNil) k ρ st = q := args_o (cons_o ha rfl) hk
theorem v2_o {k : List U → Stor → R U} (ha : fa ρ st = .ok (.d x) st) (hb : fb ρ st = .ok (.d y) st) (hk : k [.d x, .d y] st = q) : eArgs (eCons fa (eCons fb eNil)) k ρ st = q := args_o (cons_o ha (cons_o hb rfl)) hk
theorem call1_o {F : FM} (ha : fa ρ st = .ok (.d x) st) (hk : F [.d x] st = q) : eArgs (eCons fa eNil) (kLen 1 F) ρ st = q := v1_o ha (len_o rfl hk)
theorem call2_o {F : FM} (ha : fa ρ st = .ok (.d x) st) (hb : fb ρ st = .ok (.d y) st) (hk : F [.d x, .d y] st = q) : eArgs (eCons fa (eCons fb eNil)) (kLen 2 F) ρ st = q := v2_o ha hb (len_o rfl hk)
theorem tup1_o (ha : fa ρ st = .ok (.d x) st) : eArgs (eCons fa eNil) kTup ρ st = .ok (.d (.tuple [x])) st := v1_o ha (tup_o rfl (by simp))
theorem tup2_o (ha : fa ρ st = .ok (.d x) st) (hb : fb ρ st = .ok (.d y) st) : eArgs (eCons fa (eCons fb eNil)) kTup ρ st = .ok (.d (.tuple [x, y])) st := v2_o ha hb (tup_o rfl (by simp))
theorem tup3_o (ha : fa ρ st = .ok (.d x) st) (hb : fb ρ st = .ok (.d y) st) (hc : fc ρ st = .ok (.d z) st) : eArgs (eCons fa (eCons fb (eCons fc eNil))) kTup ρ st = .ok (.d (.tuple [x, y, z])) st := args_o (cons_o ha (cons_o hb (cons_o hc rfl))) (tup_o rfl (by simp))
theorem mul_o (ha : fa ρ st = .ok (.d (.int i)) st) (hb : fb ρ st = .ok (.d (.int j)) st) (h : cMul i j = true) : eBin (g2 dMul) fa fb ρ st = .ok (.d (.int (i * j))) st := bin_o ha hb (g2_o (show (if cMul i j then some (D.int (i * j)) else none) = _ by rw [h]; rfl))
theorem add_o (ha : fa ρ st = .ok (.d (.int i)) st) (hb : fb ρ st = .ok (.d (.int j)) st) : eBin (g2 dAdd) fa fb ρ st = .ok (.d (.int (i + j))) st := bin_o ha hb (g2_o rfl)
theorem sub_o (ha : fa ρ st = .ok (.d (.int i)) st) (hb : fb ρ st = .ok (.d (.int j)) st) : eBin (g2 dSub) fa fb ρ st = .ok (.d (.int (i - j))) st := bin_o ha hb (g2_o rfl)
theorem neg_o (ha : fa ρ st = .ok (.d (.int i)) st) : eUn (g1 dNeg) fa ρ st = .ok (.d (.int (-i))) st := by
  unfold eUn
  rw [ha]
  rfl
theorem mod_o (ha : fa ρ st = .ok (.d (.int i)) st) (hb : fb ρ st = .ok (.d (.int j)) st) (h0 : 0 < j) (h1 : j < 1073741824) : eBin (g2 dMod) fa fb ρ st = .ok (.d (.int (i % j))) st := bin_o ha hb (g2_o (by
  have m1 : decide (0 < j) = true := decide_eq_true h0
  have m2 : decide (j < 1073741824) = true := decide_eq_true h1
  simp [dMod, m1, m2, h0, h1]))
theorem cmp_o {p : Int → Int → Bool} (ha : fa ρ st = .ok (.d (.int i)) st) (hb : fb ρ st = .ok (.d (.int j)) st) : eBin (g2 (dCmp p)) fa fb ρ st = .ok (.d (.bool (p i j))) st := bin_o ha hb (g2_o rfl)
theorem eqi_o (ha : fa ρ st = .ok (.d (.int i)) st) (hb : fb ρ st = .ok (.d (.int j)) st) : eBin (g2 dEq) fa fb ρ st = .ok (.d (.bool (i == j))) st := bin_o ha hb (g2_o (dEq_ii i j))
theorem ix_o {xs : List D} (ha : fa ρ st = .ok (.d (.tuple xs)) st) (hb : fb ρ st = .ok (.d (.int i)) st) (h : L2.atI xs i = some z) : eBin (g2 dIx) fa fb ρ st = .ok (.d z) st := bin_o ha hb (g2_o h)
theorem ixL_o {xs : List D} (ha : fa ρ st = .ok (.d (.list xs)) st) (hb : fb ρ st = .ok (.d (.int i)) st) (h : L2.atI xs i = some z) : eBin (g2 dIx) fa fb ρ st = .ok (.d z) st := bin_o ha hb (g2_o h)
theorem len1_o {xs : List D} (ha : fa ρ st = .ok (.d (.list xs)) st) : eArgs (eCons fa eNil) (kB bLen) ρ st = .ok (.d (.int xs.length)) st := v1_o ha (kB_o (xs := [.list xs]) rfl rfl)
theorem b1_o {k : List D → Option D} (ha : fa ρ st = .ok (.d x) st) (hk : k [x] = some z) : eArgs (eCons fa eNil) (kB k) ρ st = .ok (.d z) st := v1_o ha (kB_o rfl hk)
theorem un_o {k : D → Option D} (ha : fa ρ st = .ok (.d x) st) (hk : k x = some z) : eUn (g1 k) fa ρ st = .ok (.d z) st := by
  unfold eUn
  rw [ha]
  simp only [R.bind_ok, MM.g1, rd_d, hk]
/-- a test, or nothing -/
theorem sIf_rf {c : EF Bool} {g : SF} (h : c ρ st = .ok false st) : sIf c g sNil ρ st = .nx ρ st := sIf_n h
end
end MM
set_option maxRecDepth 100000
set_option maxHeartbeats 2000000
namespace K10
open PySem PySem.Spec PyProof.Rows L2 MM
def top (i : Nat) : Stmt := PySem.Challenge.pw_chartways_k10_whole_fractions.main.body.getD i (.Pass ⟨0, 0, 0, 0⟩)
abbrev i_BadNumber : Stmt := inClass (top 2) 0
abbrev PE_BadNumber : List PySem.Str := ["self", "value"]
abbrev FE_BadNumber : List PySem.Str := ["value"]
def t_BadNumber : Nat → Option Bool := fun c => if c = 0 then some true else none
theorem si_BadNumber : SupScope PE_BadNumber PE_BadNumber (defScope i_BadNumber) := ⟨rfl, rfl, rfl, by decide +kernel, rfl, by decide +kernel, by decide +kernel, by decide +kernel, by decide +kernel, by decide +kernel⟩
theorem ei_BadNumber {P : Program} {w : World} {K : PySem.W.Frag} {mg : PySem.Str → Option Value} {base : Heap} {CX : CXT} {C fI cc cda : Addr} {fd : FuncData} (c : SupC P K mg C fI cc cda "BadNumber.__init__" i_BadNumber fd) (hno0 : PySem.W.findIn K (.ref C) "value" = some none) : FnOk P w K mg base CX 1 fI fd PE_BadNumber (spX C FE_BadNumber) :=
  init1 c si_BadNumber rfl rfl rfl hno0 (by decide) (by decide) (fun _ => rfl) (fun _ => rfl) (fun _ => rfl) (fun env h => by first | rfl | simp [swapsWith, h]) (fun _ => rfl) 
structure Txt (K : PySem.W.Frag) (mg : PySem.Str → Option Value) (T : Nat → Addr) (f__law_alike f__law_low f__law_taken f__law_truth f_ceiling_of f_floor_of f_is_row f_is_whole f_reduced f_is_fraction f_is_less f_plus f_times f_median f_minus f_nearest f_over f_total f_want_fraction f_law e_BadNumber : Addr) : Prop where
  m__law_alike : mg "_law_alike" = some (.ref f__law_alike)
  k__law_alike : PySem.W.keepIn K (.ref f__law_alike) = true
  m__law_low : mg "_law_low" = some (.ref f__law_low)
  k__law_low : PySem.W.keepIn K (.ref f__law_low) = true
  m__law_taken : mg "_law_taken" = some (.ref f__law_taken)
  k__law_taken : PySem.W.keepIn K (.ref f__law_taken) = true
  m__law_truth : mg "_law_truth" = some (.ref f__law_truth)
  k__law_truth : PySem.W.keepIn K (.ref f__law_truth) = true
  m_ceiling_of : mg "ceiling_of" = some (.ref f_ceiling_of)
  k_ceiling_of : PySem.W.keepIn K (.ref f_ceiling_of) = true
  m_floor_of : mg "floor_of" = some (.ref f_floor_of)
  k_floor_of : PySem.W.keepIn K (.ref f_floor_of) = true
  m_is_fraction : mg "is_fraction" = some (.ref f_is_fraction)
  k_is_fraction : PySem.W.keepIn K (.ref f_is_fraction) = true
  m_is_less : mg "is_less" = some (.ref f_is_less)
  k_is_less : PySem.W.keepIn K (.ref f_is_less) = true
  m_is_row : mg "is_row" = some (.ref f_is_row)
  k_is_row : PySem.W.keepIn K (.ref f_is_row) = true
  m_is_whole : mg "is_whole" = some (.ref f_is_whole)
  k_is_whole : PySem.W.keepIn K (.ref f_is_whole) = true
  m_median : mg "median" = some (.ref f_median)
  k_median : PySem.W.keepIn K (.ref f_median) = true
  m_minus : mg "minus" = some (.ref f_minus)
  k_minus : PySem.W.keepIn K (.ref f_minus) = true
  m_nearest : mg "nearest" = some (.ref f_nearest)
  k_nearest : PySem.W.keepIn K (.ref f_nearest) = true
  m_over : mg "over" = some (.ref f_over)
  k_over : PySem.W.keepIn K (.ref f_over) = true
  m_plus : mg "plus" = some (.ref f_plus)
  k_plus : PySem.W.keepIn K (.ref f_plus) = true
  m_reduced : mg "reduced" = some (.ref f_reduced)
  k_reduced : PySem.W.keepIn K (.ref f_reduced) = true
  m_times : mg "times" = some (.ref f_times)
  k_times : PySem.W.keepIn K (.ref f_times) = true
  m_total : mg "total" = some (.ref f_total)
  k_total : PySem.W.keepIn K (.ref f_total) = true
  m_want_fraction : mg "want_fraction" = some (.ref f_want_fraction)
  k_want_fraction : PySem.W.keepIn K (.ref f_want_fraction) = true
  z_abs : mg "abs" = none
  z_bool : mg "bool" = none
  z_int : mg "int" = none
  z_isinstance : mg "isinstance" = none
  z_len : mg "len" = none
  z_list : mg "list" = none
  z_max : mg "max" = none
  z_min : mg "min" = none
  z_range : mg "range" = none
  z_repr : mg "repr" = none
  z_str : mg "str" = none
  z_tuple : mg "tuple" = none
  m_BadNumber : mg "BadNumber" = some (.ref (T 0))
  ox_BadNumber : OexC K (T 0)
  iC_BadNumber : PySem.W.findIn K (.ref (T 0)) "__init__" = some (some (.ref e_BadNumber))
  tI_BadNumber : PySem.W.typeIn K (.ref e_BadNumber) = some (.type "function")
  te_BadNumber : ∀ c b, t_BadNumber c = some b → PySem.W.exmOne K (.ref (T c)) (.ref (T 0)) = some b
  xf_BadNumber : ∀ c, t_BadNumber c = some true → XfC K (T c)
  nf_BadNumber_value : ∀ c, t_BadNumber c = some true → PySem.W.findIn K (.ref (T c)) "value" = some none
/-! _law_alike -/
abbrev s__law_alike : Stmt := top 22
abbrev N__law_alike : List PySem.Str := ["found", "due", "k"]
abbrev P__law_alike : List PySem.Str := ["found", "due"]
theorem sc__law_alike : FnScope N__law_alike P__law_alike (defScope s__law_alike) := ⟨rfl, rfl, rfl, by decide +kernel, rfl, by decide +kernel, by decide +kernel⟩
noncomputable def B__law_alike_0 (F__law_aliker : FM) : SF := (sIf (eTru (eUn (g1 (bIsi ["tuple", "list"])) (eV 1))) (sSeq (sIf (eOrT (eNotT (eTru (eUn (g1 (bIsi ["tuple", "list"])) (eV 0)))) (asB (eBin (g2 dNe) (eUn (g1 (bIsi ["list"])) (eV 0)) (eUn (g1 (bIsi ["list"])) (eV 1))))) (sRet (eC (.bool false))) sNil) (sSeq (sIf (asB (eBin (g2 dNe) (eArgs (eCons (eV 0) eNil) (kB bLen)) (eArgs (eCons (eV 1) eNil) (kB bLen)))) (sRet (eC (.bool false))) sNil) (sRet (eBin (g2 dEq) (eLc false [2] (nl (eRange1 (eCons (eArgs (eCons (eV 1) eNil) (kB bLen)) eNil))) (tName 2) (eNotT (eTru (eArgs (eCons (eBin (g2 dIx) (eV 0) (eV 2)) (eCons (eBin (g2 dIx) (eV 1) (eV 2)) eNil)) (kLen 2 F__law_aliker)))) (eV 2)) (eArgs eNil kLst))))) sNil)
noncomputable def B__law_alike_1 (F__law_aliker : FM) : SF := (sIf (eOrT (asB (eBin (g2 dIs) (eV 1) (eC .none))) (eTru (eUn (g1 (bIsi ["str"])) (eV 1)))) (sRet (eAndV (eBin (g2 dEq) (eV 0) (eV 1)) (eBin (g2 dEq) (eUn (g1 (bIsi ["str"])) (eV 0)) (eUn (g1 (bIsi ["str"])) (eV 1))))) sNil)
noncomputable def B__law_alike_2 (F__law_aliker : FM) : SF := (sRet (eAndV (eUn (g1 (bIsi ["int"])) (eV 0)) (eAndV (eBin (g2 dEq) (eUn (g1 (bIsi ["bool"])) (eV 0)) (eUn (g1 (bIsi ["bool"])) (eV 1))) (eBin (g2 dEq) (eV 0) (eV 1)))))
noncomputable def B__law_alike (F__law_aliker : FM) : SF := (sSeq (B__law_alike_0 F__law_aliker) (sSeq (B__law_alike_1 F__law_aliker) (B__law_alike_2 F__law_aliker)))
noncomputable def F__law_alike : Nat → FM
  | 0 => fun _ _ => .bad
  | t + 1 => runF 3 (B__law_alike (F__law_alike t))
theorem ok__law_alike {P : Program} {w : World} {K : PySem.W.Frag} {mg : PySem.Str → Option Value} {base : Heap} {T : Nat → Addr} {f__law_alike : Addr} {f__law_low : Addr} {f__law_taken : Addr} {f__law_truth : Addr} {f_ceiling_of : Addr} {f_floor_of : Addr} {f_is_row : Addr} {f_is_whole : Addr} {f_reduced : Addr} {f_is_fraction : Addr} {f_is_less : Addr} {f_plus : Addr} {f_times : Addr} {f_median : Addr} {f_minus : Addr} {f_nearest : Addr} {f_over : Addr} {f_total : Addr} {f_want_fraction : Addr} {f_law : Addr} {e_BadNumber : Addr} {fd : FuncData} (Z : Txt K mg T f__law_alike f__law_low f__law_taken f__law_truth f_ceiling_of f_floor_of f_is_row f_is_whole f_reduced f_is_fraction f_is_less f_plus f_times f_median f_minus f_nearest f_over f_total f_want_fraction f_law e_BadNumber) (F : Fun K "_law_alike" "_law_alike" s__law_alike f__law_alike fd) (b__law_alike : Binds K fd P__law_alike []) : ∀ t, FnOk P w K mg base (L2.CX P w) (0 + t) f__law_alike fd P__law_alike (spM K T 2 (F__law_alike t))
  | 0 => ⟨fun vs H Q E h => h.1, fun A outer s H args us vs Q E _ _ _ _ h => by
    obtain ⟨_, _, _, _, _, _, z⟩ := h
    exact z.elim⟩
  | t + 1 => by
    have G_rec := ok__law_alike Z F b__law_alike   t (P := P) (w := w) (base := base) (mg := mg) (T := T)
    refine def_ok (k := 0 + t) (n := 3) (m := 2) (g := B__law_alike (F__law_alike t)) F sc__law_alike rfl rfl rfl fun cdv A outer s H E hr => ?_
    have hu64 := r64 hr
    have hu66 := r66 hr
    exact (ms_cons (ms_if (m_truth (m_isiT (Ts := ["tuple", "list"]) (by decide +kernel) (by decide) rfl Z.z_isinstance (by decide +kernel) (ptys_cons rfl Z.z_tuple (by decide +kernel) (ptys_cons rfl Z.z_list (by decide +kernel) ptys_nil)) (m_var (pv 1)))) (ms_cons (ms_if (m_pw (m_wor (m_notT (m_truth (m_isiT (Ts := ["tuple", "list"]) (by decide +kernel) (by decide) rfl Z.z_isinstance (by decide +kernel) (ptys_cons rfl Z.z_tuple (by decide +kernel) (ptys_cons rfl Z.z_list (by decide +kernel) ptys_nil)) (m_var (pv 0))))) (m_wor1 (m_cmpT (op_neD hu64) p_ne.op (m_isi (T1 := "list") (by decide +kernel) rfl Z.z_isinstance (by decide +kernel) rfl Z.z_list (by decide +kernel) (m_var (pv 0))) (m_isi (T1 := "list") (by decide +kernel) rfl Z.z_isinstance (by decide +kernel) rfl Z.z_list (by decide +kernel) (m_var (pv 1))) (nomark _))))) (ms_one (ms_ret m_bl)) ms_nil) (ms_cons (ms_if (m_cmpT (op_neD hu64) p_ne.op (m_b call_len' l_len rfl Z.z_len (by decide +kernel) (m_arg m_nil (m_var (pv 0)))) (m_b call_len' l_len rfl Z.z_len (by decide +kernel) (m_arg m_nil (m_var (pv 1)))) (nomark _)) (ms_one (ms_ret m_bl)) ms_nil) (ms_one (ms_ret (m_cmp (op_eqD hu64) p_eq.op (m_lc false (own := [("k", 2)]) rfl sc__law_alike.nd (mv (mi_range1 rfl Z.z_range (m_arg m_nil (m_b call_len' l_len rfl Z.z_len (by decide +kernel) (m_arg m_nil (m_var (pv 1))))))) (blkOk_by (by show blkC N__law_alike (defScope s__law_alike) _ _ = true; decide +kernel)) (fun _ _ _ _ _ => (mg_name (i := 2) sc__law_alike.nd rfl (by first | exact Or.inl rfl | exact Or.inr rfl))) (fun _ _ _ _ _ => (mts_one (m_notT (m_truth (m_call takes0 G_rec hr rfl Z.m__law_alike Z.k__law_alike b__law_alike (m_arg (m_arg m_nil (m_ix (m_var (pv 1)) (m_var (pv 2)))) (m_ix (m_var (pv 0)) (m_var (pv 2))))))))) (fun _ _ _ _ _ => (m_var (pv 2)))) (m_lst m_nil) (nomark _)))))) ms_nil) (ms_cons (ms_if (m_pw (m_wor (m_cmpT op_isN p_is.op (m_var (pv 1)) m_non (nomark _)) (m_wor1 (m_truth (m_isi (T1 := "str") (by decide +kernel) rfl Z.z_isinstance (by decide +kernel) rfl Z.z_str (by decide +kernel) (m_var (pv 1))))))) (ms_one (ms_ret (m_and (m_cmp (op_eqD hu64) p_eq.op (m_var (pv 0)) (m_var (pv 1)) (nomark _)) (m_one (m_cmp (op_eqD hu64) p_eq.op (m_isi (T1 := "str") (by decide +kernel) rfl Z.z_isinstance (by decide +kernel) rfl Z.z_str (by decide +kernel) (m_var (pv 0))) (m_isi (T1 := "str") (by decide +kernel) rfl Z.z_isinstance (by decide +kernel) rfl Z.z_str (by decide +kernel) (m_var (pv 1))) (nomark _)))))) ms_nil) (ms_one (ms_ret (m_and (m_isi (T1 := "int") (by decide +kernel) rfl Z.z_isinstance (by decide +kernel) rfl Z.z_int (by decide +kernel) (m_var (pv 0))) (m_and (m_cmp (op_eqD hu64) p_eq.op (m_isi (T1 := "bool") (by decide +kernel) rfl Z.z_isinstance (by decide +kernel) rfl Z.z_bool (by decide +kernel) (m_var (pv 0))) (m_isi (T1 := "bool") (by decide +kernel) rfl Z.z_isinstance (by decide +kernel) rfl Z.z_bool (by decide +kernel) (m_var (pv 1))) (nomark _)) (m_one (m_cmp (op_eqD hu64) p_eq.op (m_var (pv 0)) (m_var (pv 1)) (nomark _)))))))))
/-! _law_low -/
abbrev s__law_low : Stmt := top 24
abbrev N__law_low : List PySem.Str := ["top", "bottom", "here", "one"]
abbrev P__law_low : List PySem.Str := ["top", "bottom"]
theorem sc__law_low : FnScope N__law_low P__law_low (defScope s__law_low) := ⟨rfl, rfl, rfl, by decide +kernel, rfl, by decide +kernel, by decide +kernel⟩
noncomputable def B__law_low_0 : SF := (sSet 2 (eC (.int 1)))
noncomputable def B__law_low_1 : SF := (sFor (nl (eRange2 (eCons (eC (.int 1)) (eCons (eBin (g2 dAdd) (eArgs (eCons (eV 1) eNil) (kB bInt)) (eC (.int 1))) eNil)))) (tName 3) (sIf (eAndT (asB (eBin (g2 dEq) (eBin (g2 dMod) (eArgs (eCons (eV 0) eNil) (kB bInt)) (eV 3)) (eC (.int 0)))) (asB (eBin (g2 dEq) (eBin (g2 dMod) (eArgs (eCons (eV 1) eNil) (kB bInt)) (eV 3)) (eC (.int 0))))) (sSet 2 (eV 3)) sNil))
noncomputable def B__law_low_2 : SF := (sRet (eArgs (eCons (eBin (g2 dDiv) (eArgs (eCons (eV 0) eNil) (kB bInt)) (eV 2)) (eCons (eBin (g2 dDiv) (eArgs (eCons (eV 1) eNil) (kB bInt)) (eV 2)) eNil)) kTup))
noncomputable def B__law_low : SF := (sSeq (B__law_low_0) (sSeq (B__law_low_1) (B__law_low_2)))
noncomputable def F__law_low : FM := runF 4 B__law_low
theorem ok__law_low {P : Program} {w : World} {K : PySem.W.Frag} {mg : PySem.Str → Option Value} {base : Heap} {T : Nat → Addr} {f__law_alike : Addr} {f__law_low : Addr} {f__law_taken : Addr} {f__law_truth : Addr} {f_ceiling_of : Addr} {f_floor_of : Addr} {f_is_row : Addr} {f_is_whole : Addr} {f_reduced : Addr} {f_is_fraction : Addr} {f_is_less : Addr} {f_plus : Addr} {f_times : Addr} {f_median : Addr} {f_minus : Addr} {f_nearest : Addr} {f_over : Addr} {f_total : Addr} {f_want_fraction : Addr} {f_law : Addr} {e_BadNumber : Addr} {fd : FuncData} (Z : Txt K mg T f__law_alike f__law_low f__law_taken f__law_truth f_ceiling_of f_floor_of f_is_row f_is_whole f_reduced f_is_fraction f_is_less f_plus f_times f_median f_minus f_nearest f_over f_total f_want_fraction f_law e_BadNumber) (F : Fun K "_law_low" "_law_low" s__law_low f__law_low fd) : FnOk P w K mg base (L2.CX P w) 1 f__law_low fd P__law_low (spM K T 2 F__law_low) := by
  refine def_ok (k := 0) (n := 4) (m := 2) (g := B__law_low) F sc__law_low rfl rfl rfl fun cdv A outer s H E hr => ?_
  have hu64 := r64 hr
  have hu66 := r66 hr
  exact (ms_cons (ms_set (i := 2) sc__law_low.nd rfl (by first | exact Or.inl rfl | exact Or.inr rfl) m_int) (ms_cons (ms_for (vs := [3]) (passes_of rfl) rfl (mv (mi_range2 rfl Z.z_range (m_arg (m_arg m_nil (m_bin op_addM p_add.op (m_bT call_int1 l_int rfl Z.z_int (by decide +kernel) (m_arg m_nil (m_var (pv 1)))) m_int)) m_int))) (mg_name (i := 3) sc__law_low.nd rfl (by first | exact Or.inl rfl | exact Or.inr rfl)) (ms_one (ms_if (m_pw (m_wand (m_cmpT (op_eqD hu64) p_eq.op (m_bin op_mod p_mod.op (m_bT call_int1 l_int rfl Z.z_int (by decide +kernel) (m_arg m_nil (m_var (pv 0)))) (m_var (pv 3))) m_int (nomark _)) (m_wand1 (m_cmpT (op_eqD hu64) p_eq.op (m_bin op_mod p_mod.op (m_bT call_int1 l_int rfl Z.z_int (by decide +kernel) (m_arg m_nil (m_var (pv 1)))) (m_var (pv 3))) m_int (nomark _))))) (ms_one (ms_set (i := 2) sc__law_low.nd rfl (by first | exact Or.inl rfl | exact Or.inr rfl) (m_var (pv 3)))) ms_nil))) (ms_one (ms_ret (m_tup (m_arg (m_arg m_nil (m_bin op_fdiv p_div.op (m_bT call_int1 l_int rfl Z.z_int (by decide +kernel) (m_arg m_nil (m_var (pv 1)))) (m_var (pv 2)))) (m_bin op_fdiv p_div.op (m_bT call_int1 l_int rfl Z.z_int (by decide +kernel) (m_arg m_nil (m_var (pv 0)))) (m_var (pv 2)))))))))
/-! _law_taken -/
abbrev s__law_taken : Stmt := top 21
abbrev N__law_taken : List PySem.Str := ["row", "many", "found", "cell"]
abbrev P__law_taken : List PySem.Str := ["row", "many"]
theorem sc__law_taken : FnScope N__law_taken P__law_taken (defScope s__law_taken) := ⟨rfl, rfl, rfl, by decide +kernel, rfl, by decide +kernel, by decide +kernel⟩
noncomputable def B__law_taken_0 : SF := (sIf (asB (eBin (g2 (dCmp fun i j => decide (j < i))) (eBin (g2 dIx) (eV 0) (eC (.int 3))) (eC (.int 0)))) (sSeq (sSet 2 (eBin (g2 dMod) (eArgs (eCons (eBin (g2 dIx) (eV 0) (eC (.int 3))) eNil) (kB bInt)) (eV 1))) (sSeq (sSub (eV 0) (eC (.int 3)) (eBin (g2 dDiv) (eBin (g2 dIx) (eV 0) (eC (.int 3))) (eV 1))) (sRet (eV 2)))) sNil)
noncomputable def B__law_taken_1 : SF := (sSub (eV 0) (eC (.int 1)) (eBin (g2 dAdd) (eBin (g2 dIx) (eV 0) (eC (.int 1))) (eC (.int 1))))
noncomputable def B__law_taken_2 : SF := (sIf (asB (eBin (g2 (dCmp fun i j => decide (j < i))) (eBin (g2 dIx) (eV 0) (eC (.int 1))) (eArgs (eCons (eBin (g2 dIx) (eV 0) (eC (.int 0))) eNil) (kB bLen)))) (sSeq (sSub (eV 0) (eC (.int 2)) (eBin (g2 dMod) (eArgs (eCons (eBin (g2 dAdd) (eBin (g2 dMul) (eBin (g2 dIx) (eV 0) (eC (.int 2))) (eC (.int 48271))) (eC (.int 11))) eNil) (kB bInt)) (eC (.int 2147483647)))) (sRet (eBin (g2 dMod) (eArgs (eCons (eBin (g2 dDiv) (eBin (g2 dIx) (eV 0) (eC (.int 2))) (eC (.int 7))) eNil) (kB bInt)) (eV 1)))) sNil)
noncomputable def B__law_taken_3 : SF := (sSet 3 (eBin (g2 dIx) (eBin (g2 dIx) (eV 0) (eC (.int 0))) (eBin (g2 dSub) (eBin (g2 dIx) (eV 0) (eC (.int 1))) (eC (.int 1)))))
noncomputable def B__law_taken_4 : SF := (sSub (eV 0) (eC (.int 2)) (eBin (g2 dMod) (eArgs (eCons (eBin (g2 dAdd) (eBin (g2 dAdd) (eBin (g2 dMul) (eBin (g2 dIx) (eV 0) (eC (.int 2))) (eC (.int 48271))) (eV 3)) (eC (.int 11))) eNil) (kB bInt)) (eC (.int 2147483647))))
noncomputable def B__law_taken_5 : SF := (sIf (asB (eBin (g2 (dCmp fun i j => decide (j ≤ i))) (eV 3) (eBin (g2 dPow) (eC (.int 10)) (eC (.int 18))))) (sSub (eV 0) (eC (.int 3)) (eBin (g2 dDiv) (eV 3) (eV 1))) sNil)
noncomputable def B__law_taken_6 : SF := (sRet (eBin (g2 dMod) (eArgs (eCons (eV 3) eNil) (kB bInt)) (eV 1)))
noncomputable def B__law_taken : SF := (sSeq (B__law_taken_0) (sSeq (B__law_taken_1) (sSeq (B__law_taken_2) (sSeq (B__law_taken_3) (sSeq (B__law_taken_4) (sSeq (B__law_taken_5) (B__law_taken_6)))))))
noncomputable def F__law_taken : FM := runF 4 B__law_taken
theorem ok__law_taken {P : Program} {w : World} {K : PySem.W.Frag} {mg : PySem.Str → Option Value} {base : Heap} {T : Nat → Addr} {f__law_alike : Addr} {f__law_low : Addr} {f__law_taken : Addr} {f__law_truth : Addr} {f_ceiling_of : Addr} {f_floor_of : Addr} {f_is_row : Addr} {f_is_whole : Addr} {f_reduced : Addr} {f_is_fraction : Addr} {f_is_less : Addr} {f_plus : Addr} {f_times : Addr} {f_median : Addr} {f_minus : Addr} {f_nearest : Addr} {f_over : Addr} {f_total : Addr} {f_want_fraction : Addr} {f_law : Addr} {e_BadNumber : Addr} {fd : FuncData} (Z : Txt K mg T f__law_alike f__law_low f__law_taken f__law_truth f_ceiling_of f_floor_of f_is_row f_is_whole f_reduced f_is_fraction f_is_less f_plus f_times f_median f_minus f_nearest f_over f_total f_want_fraction f_law e_BadNumber) (F : Fun K "_law_taken" "_law_taken" s__law_taken f__law_taken fd) : FnOk P w K mg base (L2.CX P w) 1 f__law_taken fd P__law_taken (spM K T 2 F__law_taken) := by
  refine def_ok (k := 0) (n := 4) (m := 2) (g := B__law_taken) F sc__law_taken rfl rfl rfl fun cdv A outer s H E hr => ?_
  have hu64 := r64 hr
  have hu66 := r66 hr
  exact (ms_cons (ms_if (m_cmpT op_gt (p_cmp _).op (m_ix (m_var (pv 0)) m_int) m_int (nomark _)) (ms_cons (ms_set (i := 2) sc__law_taken.nd rfl (by first | exact Or.inl rfl | exact Or.inr rfl) (m_bin op_mod p_mod.op (m_bT call_int1 l_int rfl Z.z_int (by decide +kernel) (m_arg m_nil (m_ix (m_var (pv 0)) m_int))) (m_var (pv 1)))) (ms_cons (ms_sub (m_var (pv 0)) m_int (m_bin op_fdiv p_div.op (m_ix (m_var (pv 0)) m_int) (m_var (pv 1)))) (ms_one (ms_ret (m_var (pv 2)))))) ms_nil) (ms_cons (ms_sub (m_var (pv 0)) m_int (m_bin op_addM p_add.op (m_ix (m_var (pv 0)) m_int) m_int)) (ms_cons (ms_if (m_cmpT op_gt (p_cmp _).op (m_ix (m_var (pv 0)) m_int) (m_b call_len' l_len rfl Z.z_len (by decide +kernel) (m_arg m_nil (m_ix (m_var (pv 0)) m_int))) (nomark _)) (ms_cons (ms_sub (m_var (pv 0)) m_int (m_bin op_mod p_mod.op (m_bT call_int1 l_int rfl Z.z_int (by decide +kernel) (m_arg m_nil (m_bin op_addM p_add.op (m_bin op_mulM p_mul.op (m_ix (m_var (pv 0)) m_int) m_int) m_int))) m_int)) (ms_one (ms_ret (m_bin op_mod p_mod.op (m_bT call_int1 l_int rfl Z.z_int (by decide +kernel) (m_arg m_nil (m_bin op_fdiv p_div.op (m_ix (m_var (pv 0)) m_int) m_int))) (m_var (pv 1)))))) ms_nil) (ms_cons (ms_set (i := 3) sc__law_taken.nd rfl (by first | exact Or.inl rfl | exact Or.inr rfl) (m_ix (m_ix (m_var (pv 0)) m_int) (m_bin op_sub p_sub.op (m_ix (m_var (pv 0)) m_int) m_int))) (ms_cons (ms_sub (m_var (pv 0)) m_int (m_bin op_mod p_mod.op (m_bT call_int1 l_int rfl Z.z_int (by decide +kernel) (m_arg m_nil (m_bin op_addM p_add.op (m_bin op_addM p_add.op (m_bin op_mulM p_mul.op (m_ix (m_var (pv 0)) m_int) m_int) (m_var (pv 3))) m_int))) m_int)) (ms_cons (ms_if (m_cmpT op_ge (p_cmp _).op (m_var (pv 3)) (m_bin op_pow p_pow.op m_int m_int) (nomark _)) (ms_one (ms_sub (m_var (pv 0)) m_int (m_bin op_fdiv p_div.op (m_var (pv 3)) (m_var (pv 1))))) ms_nil) (ms_one (ms_ret (m_bin op_mod p_mod.op (m_bT call_int1 l_int rfl Z.z_int (by decide +kernel) (m_arg m_nil (m_var (pv 3)))) (m_var (pv 1)))))))))))
/-! _law_truth -/
abbrev s__law_truth : Stmt := top 23
abbrev N__law_truth : List PySem.Str := ["found", "due"]
abbrev P__law_truth : List PySem.Str := ["found", "due"]
theorem sc__law_truth : FnScope N__law_truth P__law_truth (defScope s__law_truth) := ⟨rfl, rfl, rfl, by decide +kernel, rfl, by decide +kernel, by decide +kernel⟩
noncomputable def B__law_truth_0 : SF := (sRet (eAndV (eUn (g1 (bIsi ["bool"])) (eV 0)) (eBin (g2 dEq) (eV 0) (eV 1))))
noncomputable def B__law_truth : SF := (B__law_truth_0)
noncomputable def F__law_truth : FM := runF 2 B__law_truth
theorem ok__law_truth {P : Program} {w : World} {K : PySem.W.Frag} {mg : PySem.Str → Option Value} {base : Heap} {T : Nat → Addr} {f__law_alike : Addr} {f__law_low : Addr} {f__law_taken : Addr} {f__law_truth : Addr} {f_ceiling_of : Addr} {f_floor_of : Addr} {f_is_row : Addr} {f_is_whole : Addr} {f_reduced : Addr} {f_is_fraction : Addr} {f_is_less : Addr} {f_plus : Addr} {f_times : Addr} {f_median : Addr} {f_minus : Addr} {f_nearest : Addr} {f_over : Addr} {f_total : Addr} {f_want_fraction : Addr} {f_law : Addr} {e_BadNumber : Addr} {fd : FuncData} (Z : Txt K mg T f__law_alike f__law_low f__law_taken f__law_truth f_ceiling_of f_floor_of f_is_row f_is_whole f_reduced f_is_fraction f_is_less f_plus f_times f_median f_minus f_nearest f_over f_total f_want_fraction f_law e_BadNumber) (F : Fun K "_law_truth" "_law_truth" s__law_truth f__law_truth fd) : FnOk P w K mg base (L2.CX P w) 1 f__law_truth fd P__law_truth (spM K T 2 F__law_truth) := by
  refine def_ok (k := 0) (n := 2) (m := 2) (g := B__law_truth) F sc__law_truth rfl rfl rfl fun cdv A outer s H E hr => ?_
  have hu64 := r64 hr
  have hu66 := r66 hr
  exact (ms_one (ms_ret (m_and (m_isi (T1 := "bool") (by decide +kernel) rfl Z.z_isinstance (by decide +kernel) rfl Z.z_bool (by decide +kernel) (m_var (pv 0))) (m_one (m_cmp (op_eqD hu64) p_eq.op (m_var (pv 0)) (m_var (pv 1)) (nomark _))))))
/-! ceiling_of -/
abbrev s_ceiling_of : Stmt := top 16
abbrev N_ceiling_of : List PySem.Str := ["one"]
abbrev P_ceiling_of : List PySem.Str := ["one"]
theorem sc_ceiling_of : FnScope N_ceiling_of P_ceiling_of (defScope s_ceiling_of) := ⟨rfl, rfl, rfl, by decide +kernel, rfl, by decide +kernel, by decide +kernel⟩
noncomputable def B_ceiling_of_0 : SF := (sRet (eUn (g1 dNeg) (eBin (g2 dDiv) (eUn (g1 dNeg) (eBin (g2 dIx) (eV 0) (eC (.int 0)))) (eBin (g2 dIx) (eV 0) (eC (.int 1))))))
noncomputable def B_ceiling_of : SF := (B_ceiling_of_0)
noncomputable def F_ceiling_of : FM := runF 1 B_ceiling_of
theorem ok_ceiling_of {P : Program} {w : World} {K : PySem.W.Frag} {mg : PySem.Str → Option Value} {base : Heap} {T : Nat → Addr} {f__law_alike : Addr} {f__law_low : Addr} {f__law_taken : Addr} {f__law_truth : Addr} {f_ceiling_of : Addr} {f_floor_of : Addr} {f_is_row : Addr} {f_is_whole : Addr} {f_reduced : Addr} {f_is_fraction : Addr} {f_is_less : Addr} {f_plus : Addr} {f_times : Addr} {f_median : Addr} {f_minus : Addr} {f_nearest : Addr} {f_over : Addr} {f_total : Addr} {f_want_fraction : Addr} {f_law : Addr} {e_BadNumber : Addr} {fd : FuncData} (Z : Txt K mg T f__law_alike f__law_low f__law_taken f__law_truth f_ceiling_of f_floor_of f_is_row f_is_whole f_reduced f_is_fraction f_is_less f_plus f_times f_median f_minus f_nearest f_over f_total f_want_fraction f_law e_BadNumber) (F : Fun K "ceiling_of" "ceiling_of" s_ceiling_of f_ceiling_of fd) : FnOk P w K mg base (L2.CX P w) 1 f_ceiling_of fd P_ceiling_of (spM K T 1 F_ceiling_of) := by
  refine def_ok (k := 0) (n := 1) (m := 1) (g := B_ceiling_of) F sc_ceiling_of rfl rfl rfl fun cdv A outer s H E hr => ?_
  have hu64 := r64 hr
  have hu66 := r66 hr
  exact (ms_one (ms_ret (m_un un_neg p_neg.op (m_bin op_fdiv p_div.op (m_un un_neg p_neg.op (m_ix (m_var (pv 0)) m_int)) (m_ix (m_var (pv 0)) m_int)))))
/-! floor_of -/
abbrev s_floor_of : Stmt := top 15
abbrev N_floor_of : List PySem.Str := ["one"]
abbrev P_floor_of : List PySem.Str := ["one"]
theorem sc_floor_of : FnScope N_floor_of P_floor_of (defScope s_floor_of) := ⟨rfl, rfl, rfl, by decide +kernel, rfl, by decide +kernel, by decide +kernel⟩
noncomputable def B_floor_of_0 : SF := (sRet (eBin (g2 dDiv) (eBin (g2 dIx) (eV 0) (eC (.int 0))) (eBin (g2 dIx) (eV 0) (eC (.int 1)))))
noncomputable def B_floor_of : SF := (B_floor_of_0)
noncomputable def F_floor_of : FM := runF 1 B_floor_of
theorem ok_floor_of {P : Program} {w : World} {K : PySem.W.Frag} {mg : PySem.Str → Option Value} {base : Heap} {T : Nat → Addr} {f__law_alike : Addr} {f__law_low : Addr} {f__law_taken : Addr} {f__law_truth : Addr} {f_ceiling_of : Addr} {f_floor_of : Addr} {f_is_row : Addr} {f_is_whole : Addr} {f_reduced : Addr} {f_is_fraction : Addr} {f_is_less : Addr} {f_plus : Addr} {f_times : Addr} {f_median : Addr} {f_minus : Addr} {f_nearest : Addr} {f_over : Addr} {f_total : Addr} {f_want_fraction : Addr} {f_law : Addr} {e_BadNumber : Addr} {fd : FuncData} (Z : Txt K mg T f__law_alike f__law_low f__law_taken f__law_truth f_ceiling_of f_floor_of f_is_row f_is_whole f_reduced f_is_fraction f_is_less f_plus f_times f_median f_minus f_nearest f_over f_total f_want_fraction f_law e_BadNumber) (F : Fun K "floor_of" "floor_of" s_floor_of f_floor_of fd) : FnOk P w K mg base (L2.CX P w) 1 f_floor_of fd P_floor_of (spM K T 1 F_floor_of) := by
  refine def_ok (k := 0) (n := 1) (m := 1) (g := B_floor_of) F sc_floor_of rfl rfl rfl fun cdv A outer s H E hr => ?_
  have hu64 := r64 hr
  have hu66 := r66 hr
  exact (ms_one (ms_ret (m_bin op_fdiv p_div.op (m_ix (m_var (pv 0)) m_int) (m_ix (m_var (pv 0)) m_int))))
/-! is_row -/
abbrev s_is_row : Stmt := top 5
abbrev N_is_row : List PySem.Str := ["value"]
abbrev P_is_row : List PySem.Str := ["value"]
theorem sc_is_row : FnScope N_is_row P_is_row (defScope s_is_row) := ⟨rfl, rfl, rfl, by decide +kernel, rfl, by decide +kernel, by decide +kernel⟩
noncomputable def B_is_row_0 : SF := (sRet (eUn (g1 (bIsi ["list", "tuple"])) (eV 0)))
noncomputable def B_is_row : SF := (B_is_row_0)
noncomputable def F_is_row : FM := runF 1 B_is_row
theorem ok_is_row {P : Program} {w : World} {K : PySem.W.Frag} {mg : PySem.Str → Option Value} {base : Heap} {T : Nat → Addr} {f__law_alike : Addr} {f__law_low : Addr} {f__law_taken : Addr} {f__law_truth : Addr} {f_ceiling_of : Addr} {f_floor_of : Addr} {f_is_row : Addr} {f_is_whole : Addr} {f_reduced : Addr} {f_is_fraction : Addr} {f_is_less : Addr} {f_plus : Addr} {f_times : Addr} {f_median : Addr} {f_minus : Addr} {f_nearest : Addr} {f_over : Addr} {f_total : Addr} {f_want_fraction : Addr} {f_law : Addr} {e_BadNumber : Addr} {fd : FuncData} (Z : Txt K mg T f__law_alike f__law_low f__law_taken f__law_truth f_ceiling_of f_floor_of f_is_row f_is_whole f_reduced f_is_fraction f_is_less f_plus f_times f_median f_minus f_nearest f_over f_total f_want_fraction f_law e_BadNumber) (F : Fun K "is_row" "is_row" s_is_row f_is_row fd) : FnOk P w K mg base (L2.CX P w) 1 f_is_row fd P_is_row (spM K T 1 F_is_row) := by
  refine def_ok (k := 0) (n := 1) (m := 1) (g := B_is_row) F sc_is_row rfl rfl rfl fun cdv A outer s H E hr => ?_
  have hu64 := r64 hr
  have hu66 := r66 hr
  exact (ms_one (ms_ret (m_isiT (Ts := ["list", "tuple"]) (by decide +kernel) (by decide) rfl Z.z_isinstance (by decide +kernel) (ptys_cons rfl Z.z_list (by decide +kernel) (ptys_cons rfl Z.z_tuple (by decide +kernel) ptys_nil)) (m_var (pv 0)))))
/-! is_whole -/
abbrev s_is_whole : Stmt := top 4
abbrev N_is_whole : List PySem.Str := ["value"]
abbrev P_is_whole : List PySem.Str := ["value"]
theorem sc_is_whole : FnScope N_is_whole P_is_whole (defScope s_is_whole) := ⟨rfl, rfl, rfl, by decide +kernel, rfl, by decide +kernel, by decide +kernel⟩
noncomputable def B_is_whole_0 : SF := (sRet (eAndV (eUn (g1 (bIsi ["int"])) (eV 0)) (eNotV (eUn (g1 (bIsi ["bool"])) (eV 0)))))
noncomputable def B_is_whole : SF := (B_is_whole_0)
noncomputable def F_is_whole : FM := runF 1 B_is_whole
theorem ok_is_whole {P : Program} {w : World} {K : PySem.W.Frag} {mg : PySem.Str → Option Value} {base : Heap} {T : Nat → Addr} {f__law_alike : Addr} {f__law_low : Addr} {f__law_taken : Addr} {f__law_truth : Addr} {f_ceiling_of : Addr} {f_floor_of : Addr} {f_is_row : Addr} {f_is_whole : Addr} {f_reduced : Addr} {f_is_fraction : Addr} {f_is_less : Addr} {f_plus : Addr} {f_times : Addr} {f_median : Addr} {f_minus : Addr} {f_nearest : Addr} {f_over : Addr} {f_total : Addr} {f_want_fraction : Addr} {f_law : Addr} {e_BadNumber : Addr} {fd : FuncData} (Z : Txt K mg T f__law_alike f__law_low f__law_taken f__law_truth f_ceiling_of f_floor_of f_is_row f_is_whole f_reduced f_is_fraction f_is_less f_plus f_times f_median f_minus f_nearest f_over f_total f_want_fraction f_law e_BadNumber) (F : Fun K "is_whole" "is_whole" s_is_whole f_is_whole fd) : FnOk P w K mg base (L2.CX P w) 1 f_is_whole fd P_is_whole (spM K T 1 F_is_whole) := by
  refine def_ok (k := 0) (n := 1) (m := 1) (g := B_is_whole) F sc_is_whole rfl rfl rfl fun cdv A outer s H E hr => ?_
  have hu64 := r64 hr
  have hu66 := r66 hr
  exact (ms_one (ms_ret (m_and (m_isi (T1 := "int") (by decide +kernel) rfl Z.z_isinstance (by decide +kernel) rfl Z.z_int (by decide +kernel) (m_var (pv 0))) (m_one (m_not (m_isi (T1 := "bool") (by decide +kernel) rfl Z.z_isinstance (by decide +kernel) rfl Z.z_bool (by decide +kernel) (m_var (pv 0))))))))
/-! reduced -/
abbrev s_reduced : Stmt := top 7
abbrev N_reduced : List PySem.Str := ["top", "bottom", "one", "other"]
abbrev P_reduced : List PySem.Str := ["top", "bottom"]
theorem sc_reduced : FnScope N_reduced P_reduced (defScope s_reduced) := ⟨rfl, rfl, rfl, by decide +kernel, rfl, by decide +kernel, by decide +kernel⟩
noncomputable def B_reduced_0 : SF := (sPar [2, 3] (eCons (eArgs (eCons (eV 0) eNil) (kB bAbs)) (eCons (eV 1) eNil)))
noncomputable def B_reduced_1 : SF := (sWhile (asB (eBin (g2 (dCmp fun i j => decide (j < i))) (eV 3) (eC (.int 0)))) (sPar [2, 3] (eCons (eV 3) (eCons (eBin (g2 dMod) (eV 2) (eV 3)) eNil))))
noncomputable def B_reduced_2 : SF := (sRet (eIf (asB (eBin (g2 (dCmp fun i j => decide (j < i))) (eV 2) (eC (.int 0)))) (eArgs (eCons (eBin (g2 dDiv) (eV 0) (eV 2)) (eCons (eBin (g2 dDiv) (eV 1) (eV 2)) eNil)) kTup) (eArgs (eCons (eC (.int 0)) (eCons (eC (.int 1)) eNil)) kTup)))
noncomputable def B_reduced : SF := (sSeq (B_reduced_0) (sSeq (B_reduced_1) (B_reduced_2)))
noncomputable def F_reduced : FM := runF 4 B_reduced
theorem ok_reduced {P : Program} {w : World} {K : PySem.W.Frag} {mg : PySem.Str → Option Value} {base : Heap} {T : Nat → Addr} {f__law_alike : Addr} {f__law_low : Addr} {f__law_taken : Addr} {f__law_truth : Addr} {f_ceiling_of : Addr} {f_floor_of : Addr} {f_is_row : Addr} {f_is_whole : Addr} {f_reduced : Addr} {f_is_fraction : Addr} {f_is_less : Addr} {f_plus : Addr} {f_times : Addr} {f_median : Addr} {f_minus : Addr} {f_nearest : Addr} {f_over : Addr} {f_total : Addr} {f_want_fraction : Addr} {f_law : Addr} {e_BadNumber : Addr} {fd : FuncData} (Z : Txt K mg T f__law_alike f__law_low f__law_taken f__law_truth f_ceiling_of f_floor_of f_is_row f_is_whole f_reduced f_is_fraction f_is_less f_plus f_times f_median f_minus f_nearest f_over f_total f_want_fraction f_law e_BadNumber) (F : Fun K "reduced" "reduced" s_reduced f_reduced fd) : FnOk P w K mg base (L2.CX P w) 1 f_reduced fd P_reduced (spM K T 2 F_reduced) := by
  refine def_ok (k := 0) (n := 4) (m := 2) (g := B_reduced) F sc_reduced rfl rfl rfl fun cdv A outer s H E hr => ?_
  have hu64 := r64 hr
  have hu66 := r66 hr
  exact (ms_cons (ms_par2 (i := 2) (j := 3) rfl sc_reduced.nd rfl rfl (by decide) rfl rfl (m_arg (m_arg m_nil (m_var (pv 1))) (m_b call_abs l_abs rfl Z.z_abs (by decide +kernel) (m_arg m_nil (m_var (pv 0)))))) (ms_cons (ms_while (passes_of rfl) (m_cmpT op_gt (p_cmp _).op (m_var (pv 3)) m_int (nomark _)) (ms_one (ms_par2 (i := 2) (j := 3) rfl sc_reduced.nd rfl rfl (by decide) rfl rfl (m_arg (m_arg m_nil (m_bin op_mod p_mod.op (m_var (pv 2)) (m_var (pv 3)))) (m_var (pv 3)))))) (ms_one (ms_ret (m_if (m_cmpT op_gt (p_cmp _).op (m_var (pv 2)) m_int (nomark _)) (m_tup (m_arg (m_arg m_nil (m_bin op_fdiv p_div.op (m_var (pv 1)) (m_var (pv 2)))) (m_bin op_fdiv p_div.op (m_var (pv 0)) (m_var (pv 2))))) (m_tup (m_arg (m_arg m_nil m_int) m_int)))))))
/-! is_fraction -/
abbrev s_is_fraction : Stmt := top 8
abbrev N_is_fraction : List PySem.Str := ["value"]
abbrev P_is_fraction : List PySem.Str := ["value"]
theorem sc_is_fraction : FnScope N_is_fraction P_is_fraction (defScope s_is_fraction) := ⟨rfl, rfl, rfl, by decide +kernel, rfl, by decide +kernel, by decide +kernel⟩
noncomputable def B_is_fraction_0 : SF := (sIf (eOrT (eNotT (eTru (eArgs (eCons (eV 0) eNil) (kLen 1 F_is_row)))) (eOrT (asB (eBin (g2 dNe) (eArgs (eCons (eV 0) eNil) (kB bLen)) (eC (.int 2)))) (eOrT (eNotT (eTru (eArgs (eCons (eBin (g2 dIx) (eV 0) (eC (.int 0))) eNil) (kLen 1 F_is_whole)))) (eOrT (eNotT (eTru (eArgs (eCons (eBin (g2 dIx) (eV 0) (eC (.int 1))) eNil) (kLen 1 F_is_whole)))) (asB (eBin (g2 (dCmp fun i j => decide (i < j))) (eBin (g2 dIx) (eV 0) (eC (.int 1))) (eC (.int 1)))))))) (sRet (eC (.bool false))) sNil)
noncomputable def B_is_fraction_1 : SF := (sRet (eBin (g2 dEq) (eArgs (eCons (eBin (g2 dIx) (eV 0) (eC (.int 0))) (eCons (eBin (g2 dIx) (eV 0) (eC (.int 1))) eNil)) (kLen 2 F_reduced)) (eArgs (eCons (eBin (g2 dIx) (eV 0) (eC (.int 0))) (eCons (eBin (g2 dIx) (eV 0) (eC (.int 1))) eNil)) kTup)))
noncomputable def B_is_fraction : SF := (sSeq (B_is_fraction_0) (B_is_fraction_1))
noncomputable def F_is_fraction : FM := runF 1 B_is_fraction
theorem ok_is_fraction {P : Program} {w : World} {K : PySem.W.Frag} {mg : PySem.Str → Option Value} {base : Heap} {T : Nat → Addr} {f__law_alike : Addr} {f__law_low : Addr} {f__law_taken : Addr} {f__law_truth : Addr} {f_ceiling_of : Addr} {f_floor_of : Addr} {f_is_row : Addr} {f_is_whole : Addr} {f_reduced : Addr} {f_is_fraction : Addr} {f_is_less : Addr} {f_plus : Addr} {f_times : Addr} {f_median : Addr} {f_minus : Addr} {f_nearest : Addr} {f_over : Addr} {f_total : Addr} {f_want_fraction : Addr} {f_law : Addr} {e_BadNumber : Addr} {fd : FuncData} {fd_is_row : FuncData} {fd_is_whole : FuncData} {fd_reduced : FuncData} (Z : Txt K mg T f__law_alike f__law_low f__law_taken f__law_truth f_ceiling_of f_floor_of f_is_row f_is_whole f_reduced f_is_fraction f_is_less f_plus f_times f_median f_minus f_nearest f_over f_total f_want_fraction f_law e_BadNumber) (F : Fun K "is_fraction" "is_fraction" s_is_fraction f_is_fraction fd) (b_is_row : Binds K fd_is_row P_is_row []) (b_is_whole : Binds K fd_is_whole P_is_whole []) (b_reduced : Binds K fd_reduced P_reduced []) (G_is_row : FnOk P w K mg base (L2.CX P w) 1 f_is_row fd_is_row P_is_row (spM K T 1 F_is_row)) (G_is_whole : FnOk P w K mg base (L2.CX P w) 1 f_is_whole fd_is_whole P_is_whole (spM K T 1 F_is_whole)) (G_reduced : FnOk P w K mg base (L2.CX P w) 1 f_reduced fd_reduced P_reduced (spM K T 2 F_reduced)) : FnOk P w K mg base (L2.CX P w) 2 f_is_fraction fd P_is_fraction (spM K T 1 F_is_fraction) := by
  refine def_ok (k := 1) (n := 1) (m := 1) (g := B_is_fraction) F sc_is_fraction rfl rfl rfl fun cdv A outer s H E hr => ?_
  have hu64 := r64 hr
  have hu66 := r66 hr
  exact (ms_cons (ms_if (m_pw (m_wor (m_notT (m_truth (m_call (takes_of rfl rfl rfl rfl) G_is_row (hr.mono (by omega)) rfl Z.m_is_row Z.k_is_row b_is_row (m_arg m_nil (m_var (pv 0)))))) (m_wor (m_cmpT (op_neD hu64) p_ne.op (m_b call_len' l_len rfl Z.z_len (by decide +kernel) (m_arg m_nil (m_var (pv 0)))) m_int (nomark _)) (m_wor (m_notT (m_truth (m_call (takes_of rfl rfl rfl rfl) G_is_whole (hr.mono (by omega)) rfl Z.m_is_whole Z.k_is_whole b_is_whole (m_arg m_nil (m_ix (m_var (pv 0)) m_int))))) (m_wor (m_notT (m_truth (m_call (takes_of rfl rfl rfl rfl) G_is_whole (hr.mono (by omega)) rfl Z.m_is_whole Z.k_is_whole b_is_whole (m_arg m_nil (m_ix (m_var (pv 0)) m_int))))) (m_wor1 (m_cmpT op_lt (p_cmp _).op (m_ix (m_var (pv 0)) m_int) m_int (nomark _)))))))) (ms_one (ms_ret m_bl)) ms_nil) (ms_one (ms_ret (m_cmp (op_eqD hu64) p_eq.op (m_call (takes_of rfl rfl rfl rfl) G_reduced (hr.mono (by omega)) rfl Z.m_reduced Z.k_reduced b_reduced (m_arg (m_arg m_nil (m_ix (m_var (pv 0)) m_int)) (m_ix (m_var (pv 0)) m_int))) (m_tup (m_arg (m_arg m_nil (m_ix (m_var (pv 0)) m_int)) (m_ix (m_var (pv 0)) m_int))) (nomark _)))))
/-! is_less -/
abbrev s_is_less : Stmt := top 14
abbrev N_is_less : List PySem.Str := ["one", "other"]
abbrev P_is_less : List PySem.Str := ["one", "other"]
theorem sc_is_less : FnScope N_is_less P_is_less (defScope s_is_less) := ⟨rfl, rfl, rfl, by decide +kernel, rfl, by decide +kernel, by decide +kernel⟩
noncomputable def B_is_less_0 : SF := (sRet (eBin (g2 (dCmp fun i j => decide (i < j))) (eBin (g2 dMul) (eBin (g2 dIx) (eV 0) (eC (.int 0))) (eBin (g2 dIx) (eV 1) (eC (.int 1)))) (eBin (g2 dMul) (eBin (g2 dIx) (eV 1) (eC (.int 0))) (eBin (g2 dIx) (eV 0) (eC (.int 1))))))
noncomputable def B_is_less : SF := (B_is_less_0)
noncomputable def F_is_less : FM := runF 2 B_is_less
theorem ok_is_less {P : Program} {w : World} {K : PySem.W.Frag} {mg : PySem.Str → Option Value} {base : Heap} {T : Nat → Addr} {f__law_alike : Addr} {f__law_low : Addr} {f__law_taken : Addr} {f__law_truth : Addr} {f_ceiling_of : Addr} {f_floor_of : Addr} {f_is_row : Addr} {f_is_whole : Addr} {f_reduced : Addr} {f_is_fraction : Addr} {f_is_less : Addr} {f_plus : Addr} {f_times : Addr} {f_median : Addr} {f_minus : Addr} {f_nearest : Addr} {f_over : Addr} {f_total : Addr} {f_want_fraction : Addr} {f_law : Addr} {e_BadNumber : Addr} {fd : FuncData} (Z : Txt K mg T f__law_alike f__law_low f__law_taken f__law_truth f_ceiling_of f_floor_of f_is_row f_is_whole f_reduced f_is_fraction f_is_less f_plus f_times f_median f_minus f_nearest f_over f_total f_want_fraction f_law e_BadNumber) (F : Fun K "is_less" "is_less" s_is_less f_is_less fd) : FnOk P w K mg base (L2.CX P w) 1 f_is_less fd P_is_less (spM K T 2 F_is_less) := by
  refine def_ok (k := 0) (n := 2) (m := 2) (g := B_is_less) F sc_is_less rfl rfl rfl fun cdv A outer s H E hr => ?_
  have hu64 := r64 hr
  have hu66 := r66 hr
  exact (ms_one (ms_ret (m_cmp op_lt (p_cmp _).op (m_bin op_mulM p_mul.op (m_ix (m_var (pv 0)) m_int) (m_ix (m_var (pv 1)) m_int)) (m_bin op_mulM p_mul.op (m_ix (m_var (pv 1)) m_int) (m_ix (m_var (pv 0)) m_int)) (nomark _))))
/-! plus -/
abbrev s_plus : Stmt := top 10
abbrev N_plus : List PySem.Str := ["one", "other"]
abbrev P_plus : List PySem.Str := ["one", "other"]
theorem sc_plus : FnScope N_plus P_plus (defScope s_plus) := ⟨rfl, rfl, rfl, by decide +kernel, rfl, by decide +kernel, by decide +kernel⟩
noncomputable def B_plus_0 : SF := (sRet (eArgs (eCons (eBin (g2 dAdd) (eBin (g2 dMul) (eBin (g2 dIx) (eV 0) (eC (.int 0))) (eBin (g2 dIx) (eV 1) (eC (.int 1)))) (eBin (g2 dMul) (eBin (g2 dIx) (eV 1) (eC (.int 0))) (eBin (g2 dIx) (eV 0) (eC (.int 1))))) (eCons (eBin (g2 dMul) (eBin (g2 dIx) (eV 0) (eC (.int 1))) (eBin (g2 dIx) (eV 1) (eC (.int 1)))) eNil)) (kLen 2 F_reduced)))
noncomputable def B_plus : SF := (B_plus_0)
noncomputable def F_plus : FM := runF 2 B_plus
theorem ok_plus {P : Program} {w : World} {K : PySem.W.Frag} {mg : PySem.Str → Option Value} {base : Heap} {T : Nat → Addr} {f__law_alike : Addr} {f__law_low : Addr} {f__law_taken : Addr} {f__law_truth : Addr} {f_ceiling_of : Addr} {f_floor_of : Addr} {f_is_row : Addr} {f_is_whole : Addr} {f_reduced : Addr} {f_is_fraction : Addr} {f_is_less : Addr} {f_plus : Addr} {f_times : Addr} {f_median : Addr} {f_minus : Addr} {f_nearest : Addr} {f_over : Addr} {f_total : Addr} {f_want_fraction : Addr} {f_law : Addr} {e_BadNumber : Addr} {fd : FuncData} {fd_reduced : FuncData} (Z : Txt K mg T f__law_alike f__law_low f__law_taken f__law_truth f_ceiling_of f_floor_of f_is_row f_is_whole f_reduced f_is_fraction f_is_less f_plus f_times f_median f_minus f_nearest f_over f_total f_want_fraction f_law e_BadNumber) (F : Fun K "plus" "plus" s_plus f_plus fd) (b_reduced : Binds K fd_reduced P_reduced []) (G_reduced : FnOk P w K mg base (L2.CX P w) 1 f_reduced fd_reduced P_reduced (spM K T 2 F_reduced)) : FnOk P w K mg base (L2.CX P w) 2 f_plus fd P_plus (spM K T 2 F_plus) := by
  refine def_ok (k := 1) (n := 2) (m := 2) (g := B_plus) F sc_plus rfl rfl rfl fun cdv A outer s H E hr => ?_
  have hu64 := r64 hr
  have hu66 := r66 hr
  exact (ms_one (ms_ret (m_call (takes_of rfl rfl rfl rfl) G_reduced (hr.mono (by omega)) rfl Z.m_reduced Z.k_reduced b_reduced (m_arg (m_arg m_nil (m_bin op_mulM p_mul.op (m_ix (m_var (pv 0)) m_int) (m_ix (m_var (pv 1)) m_int))) (m_bin op_addM p_add.op (m_bin op_mulM p_mul.op (m_ix (m_var (pv 0)) m_int) (m_ix (m_var (pv 1)) m_int)) (m_bin op_mulM p_mul.op (m_ix (m_var (pv 1)) m_int) (m_ix (m_var (pv 0)) m_int)))))))
/-! times -/
abbrev s_times : Stmt := top 12
abbrev N_times : List PySem.Str := ["one", "other"]
abbrev P_times : List PySem.Str := ["one", "other"]
theorem sc_times : FnScope N_times P_times (defScope s_times) := ⟨rfl, rfl, rfl, by decide +kernel, rfl, by decide +kernel, by decide +kernel⟩
noncomputable def B_times_0 : SF := (sRet (eArgs (eCons (eBin (g2 dMul) (eBin (g2 dIx) (eV 0) (eC (.int 0))) (eBin (g2 dIx) (eV 1) (eC (.int 0)))) (eCons (eBin (g2 dMul) (eBin (g2 dIx) (eV 0) (eC (.int 1))) (eBin (g2 dIx) (eV 1) (eC (.int 1)))) eNil)) (kLen 2 F_reduced)))
noncomputable def B_times : SF := (B_times_0)
noncomputable def F_times : FM := runF 2 B_times
theorem ok_times {P : Program} {w : World} {K : PySem.W.Frag} {mg : PySem.Str → Option Value} {base : Heap} {T : Nat → Addr} {f__law_alike : Addr} {f__law_low : Addr} {f__law_taken : Addr} {f__law_truth : Addr} {f_ceiling_of : Addr} {f_floor_of : Addr} {f_is_row : Addr} {f_is_whole : Addr} {f_reduced : Addr} {f_is_fraction : Addr} {f_is_less : Addr} {f_plus : Addr} {f_times : Addr} {f_median : Addr} {f_minus : Addr} {f_nearest : Addr} {f_over : Addr} {f_total : Addr} {f_want_fraction : Addr} {f_law : Addr} {e_BadNumber : Addr} {fd : FuncData} {fd_reduced : FuncData} (Z : Txt K mg T f__law_alike f__law_low f__law_taken f__law_truth f_ceiling_of f_floor_of f_is_row f_is_whole f_reduced f_is_fraction f_is_less f_plus f_times f_median f_minus f_nearest f_over f_total f_want_fraction f_law e_BadNumber) (F : Fun K "times" "times" s_times f_times fd) (b_reduced : Binds K fd_reduced P_reduced []) (G_reduced : FnOk P w K mg base (L2.CX P w) 1 f_reduced fd_reduced P_reduced (spM K T 2 F_reduced)) : FnOk P w K mg base (L2.CX P w) 2 f_times fd P_times (spM K T 2 F_times) := by
  refine def_ok (k := 1) (n := 2) (m := 2) (g := B_times) F sc_times rfl rfl rfl fun cdv A outer s H E hr => ?_
  have hu64 := r64 hr
  have hu66 := r66 hr
  exact (ms_one (ms_ret (m_call (takes_of rfl rfl rfl rfl) G_reduced (hr.mono (by omega)) rfl Z.m_reduced Z.k_reduced b_reduced (m_arg (m_arg m_nil (m_bin op_mulM p_mul.op (m_ix (m_var (pv 0)) m_int) (m_ix (m_var (pv 1)) m_int))) (m_bin op_mulM p_mul.op (m_ix (m_var (pv 0)) m_int) (m_ix (m_var (pv 1)) m_int))))))
/-! median -/
abbrev s_median : Stmt := top 19
abbrev N_median : List PySem.Str := ["rows", "row", "one", "place", "first", "second", "other"]
abbrev P_median : List PySem.Str := ["rows"]
theorem sc_median : FnScope N_median P_median (defScope s_median) := ⟨rfl, rfl, rfl, by decide +kernel, rfl, by decide +kernel, by decide +kernel⟩
noncomputable def B_median_0 : SF := (sSet 1 (eArgs (eCons (eBin (g2 dIx) (eV 0) (eC (.int 0))) eNil) kLstN))
noncomputable def B_median_1 : SF := (sFor (nl (eItems (eSl (eV 0) (ePart (eC (.int 1))) eNoPart))) (tName 2) (sSeq (sSet 3 (eArgs (eCons (eLc false [6] (eLive (eV 1)) (tName 6) (eNotT (eTru (eArgs (eCons (eV 2) (eCons (eV 6) eNil)) (kLen 2 F_is_less)))) (eV 6)) eNil) (kB bLen))) (sEx (eLM kIns (eV 1) (eCons (eV 3) (eCons (eV 2) eNil))))))
noncomputable def B_median_2 : SF := (sPar [4, 5] (eCons (eBin (g2 dIx) (eV 1) (eBin (g2 dDiv) (eBin (g2 dSub) (eArgs (eCons (eV 1) eNil) (kB bLen)) (eC (.int 1))) (eC (.int 2)))) (eCons (eBin (g2 dIx) (eV 1) (eBin (g2 dDiv) (eArgs (eCons (eV 1) eNil) (kB bLen)) (eC (.int 2)))) eNil)))
noncomputable def B_median_3 : SF := (sRet (eArgs (eCons (eArgs (eCons (eV 4) (eCons (eV 5) eNil)) (kLen 2 F_plus)) (eCons (eArgs (eCons (eC (.int 1)) (eCons (eC (.int 2)) eNil)) kTup) eNil)) (kLen 2 F_times)))
noncomputable def B_median : SF := (sSeq (B_median_0) (sSeq (B_median_1) (sSeq (B_median_2) (B_median_3))))
noncomputable def F_median : FM := runF 7 B_median
theorem ok_median {P : Program} {w : World} {K : PySem.W.Frag} {mg : PySem.Str → Option Value} {base : Heap} {T : Nat → Addr} {f__law_alike : Addr} {f__law_low : Addr} {f__law_taken : Addr} {f__law_truth : Addr} {f_ceiling_of : Addr} {f_floor_of : Addr} {f_is_row : Addr} {f_is_whole : Addr} {f_reduced : Addr} {f_is_fraction : Addr} {f_is_less : Addr} {f_plus : Addr} {f_times : Addr} {f_median : Addr} {f_minus : Addr} {f_nearest : Addr} {f_over : Addr} {f_total : Addr} {f_want_fraction : Addr} {f_law : Addr} {e_BadNumber : Addr} {fd : FuncData} {fd_is_less : FuncData} {fd_plus : FuncData} {fd_times : FuncData} (Z : Txt K mg T f__law_alike f__law_low f__law_taken f__law_truth f_ceiling_of f_floor_of f_is_row f_is_whole f_reduced f_is_fraction f_is_less f_plus f_times f_median f_minus f_nearest f_over f_total f_want_fraction f_law e_BadNumber) (F : Fun K "median" "median" s_median f_median fd) (b_is_less : Binds K fd_is_less P_is_less []) (b_plus : Binds K fd_plus P_plus []) (b_times : Binds K fd_times P_times []) (G_is_less : FnOk P w K mg base (L2.CX P w) 1 f_is_less fd_is_less P_is_less (spM K T 2 F_is_less)) (G_plus : FnOk P w K mg base (L2.CX P w) 2 f_plus fd_plus P_plus (spM K T 2 F_plus)) (G_times : FnOk P w K mg base (L2.CX P w) 2 f_times fd_times P_times (spM K T 2 F_times)) : FnOk P w K mg base (L2.CX P w) 3 f_median fd P_median (spM K T 1 F_median) := by
  refine def_ok (k := 2) (n := 7) (m := 1) (g := B_median) F sc_median rfl rfl rfl fun cdv A outer s H E hr => ?_
  have hu64 := r64 hr
  have hu66 := r66 hr
  exact (ms_cons (ms_set (i := 1) sc_median.nd rfl (by first | exact Or.inl rfl | exact Or.inr rfl) (m_lstN (m_arg m_nil (m_ix (m_var (pv 0)) m_int)))) (ms_cons (ms_for (vs := [2]) (passes_of rfl) rfl (mv (mi_any (m_sl (m_var (pv 0)) (m_part m_int) m_nopart))) (mg_name (i := 2) sc_median.nd rfl (by first | exact Or.inl rfl | exact Or.inr rfl)) (ms_cons (ms_set (i := 3) sc_median.nd rfl (by first | exact Or.inl rfl | exact Or.inr rfl) (m_b call_len' l_len rfl Z.z_len (by decide +kernel) (m_arg m_nil (m_lc false (own := [("other", 6)]) rfl sc_median.nd (mv_loc (m_var (pv 1))) (blkOk_by (by show blkC N_median (defScope s_median) _ _ = true; decide +kernel)) (fun _ _ _ _ _ => (mg_name (i := 6) sc_median.nd rfl (by first | exact Or.inl rfl | exact Or.inr rfl))) (fun _ _ _ _ _ => (mts_one (m_notT (m_truth (m_call takes0 G_is_less (hr.mono (by omega)) rfl Z.m_is_less Z.k_is_less b_is_less (m_arg (m_arg m_nil (m_var (pv 6))) (m_var (pv 2)))))))) (fun _ _ _ _ _ => (m_var (pv 6))))))) (ms_one (ms_ex (m_insert (m_var (pv 1)) (m_arg (m_arg m_nil (m_var (pv 2))) (m_var (pv 3)))))))) (ms_cons (ms_par2 (i := 4) (j := 5) rfl sc_median.nd rfl rfl (by decide) rfl rfl (m_arg (m_arg m_nil (m_ix (m_var (pv 1)) (m_bin op_fdiv p_div.op (m_b call_len' l_len rfl Z.z_len (by decide +kernel) (m_arg m_nil (m_var (pv 1)))) m_int))) (m_ix (m_var (pv 1)) (m_bin op_fdiv p_div.op (m_bin op_sub p_sub.op (m_b call_len' l_len rfl Z.z_len (by decide +kernel) (m_arg m_nil (m_var (pv 1)))) m_int) m_int)))) (ms_one (ms_ret (m_call (takes_of rfl rfl rfl rfl) G_times (hr.mono (by omega)) rfl Z.m_times Z.k_times b_times (m_arg (m_arg m_nil (m_tup (m_arg (m_arg m_nil m_int) m_int))) (m_call (takes_of rfl rfl rfl rfl) G_plus (hr.mono (by omega)) rfl Z.m_plus Z.k_plus b_plus (m_arg (m_arg m_nil (m_var (pv 5))) (m_var (pv 4)))))))))))
/-! minus -/
abbrev s_minus : Stmt := top 11
abbrev N_minus : List PySem.Str := ["one", "other"]
abbrev P_minus : List PySem.Str := ["one", "other"]
theorem sc_minus : FnScope N_minus P_minus (defScope s_minus) := ⟨rfl, rfl, rfl, by decide +kernel, rfl, by decide +kernel, by decide +kernel⟩
noncomputable def B_minus_0 : SF := (sRet (eArgs (eCons (eBin (g2 dSub) (eBin (g2 dMul) (eBin (g2 dIx) (eV 0) (eC (.int 0))) (eBin (g2 dIx) (eV 1) (eC (.int 1)))) (eBin (g2 dMul) (eBin (g2 dIx) (eV 1) (eC (.int 0))) (eBin (g2 dIx) (eV 0) (eC (.int 1))))) (eCons (eBin (g2 dMul) (eBin (g2 dIx) (eV 0) (eC (.int 1))) (eBin (g2 dIx) (eV 1) (eC (.int 1)))) eNil)) (kLen 2 F_reduced)))
noncomputable def B_minus : SF := (B_minus_0)
noncomputable def F_minus : FM := runF 2 B_minus
theorem ok_minus {P : Program} {w : World} {K : PySem.W.Frag} {mg : PySem.Str → Option Value} {base : Heap} {T : Nat → Addr} {f__law_alike : Addr} {f__law_low : Addr} {f__law_taken : Addr} {f__law_truth : Addr} {f_ceiling_of : Addr} {f_floor_of : Addr} {f_is_row : Addr} {f_is_whole : Addr} {f_reduced : Addr} {f_is_fraction : Addr} {f_is_less : Addr} {f_plus : Addr} {f_times : Addr} {f_median : Addr} {f_minus : Addr} {f_nearest : Addr} {f_over : Addr} {f_total : Addr} {f_want_fraction : Addr} {f_law : Addr} {e_BadNumber : Addr} {fd : FuncData} {fd_reduced : FuncData} (Z : Txt K mg T f__law_alike f__law_low f__law_taken f__law_truth f_ceiling_of f_floor_of f_is_row f_is_whole f_reduced f_is_fraction f_is_less f_plus f_times f_median f_minus f_nearest f_over f_total f_want_fraction f_law e_BadNumber) (F : Fun K "minus" "minus" s_minus f_minus fd) (b_reduced : Binds K fd_reduced P_reduced []) (G_reduced : FnOk P w K mg base (L2.CX P w) 1 f_reduced fd_reduced P_reduced (spM K T 2 F_reduced)) : FnOk P w K mg base (L2.CX P w) 2 f_minus fd P_minus (spM K T 2 F_minus) := by
  refine def_ok (k := 1) (n := 2) (m := 2) (g := B_minus) F sc_minus rfl rfl rfl fun cdv A outer s H E hr => ?_
  have hu64 := r64 hr
  have hu66 := r66 hr
  exact (ms_one (ms_ret (m_call (takes_of rfl rfl rfl rfl) G_reduced (hr.mono (by omega)) rfl Z.m_reduced Z.k_reduced b_reduced (m_arg (m_arg m_nil (m_bin op_mulM p_mul.op (m_ix (m_var (pv 0)) m_int) (m_ix (m_var (pv 1)) m_int))) (m_bin op_sub p_sub.op (m_bin op_mulM p_mul.op (m_ix (m_var (pv 0)) m_int) (m_ix (m_var (pv 1)) m_int)) (m_bin op_mulM p_mul.op (m_ix (m_var (pv 1)) m_int) (m_ix (m_var (pv 0)) m_int)))))))
/-! nearest -/
abbrev s_nearest : Stmt := top 17
abbrev N_nearest : List PySem.Str := ["one"]
abbrev P_nearest : List PySem.Str := ["one"]
theorem sc_nearest : FnScope N_nearest P_nearest (defScope s_nearest) := ⟨rfl, rfl, rfl, by decide +kernel, rfl, by decide +kernel, by decide +kernel⟩
noncomputable def B_nearest_0 : SF := (sRet (eBin (g2 dDiv) (eBin (g2 dAdd) (eBin (g2 dMul) (eC (.int 2)) (eBin (g2 dIx) (eV 0) (eC (.int 0)))) (eBin (g2 dIx) (eV 0) (eC (.int 1)))) (eBin (g2 dMul) (eC (.int 2)) (eBin (g2 dIx) (eV 0) (eC (.int 1))))))
noncomputable def B_nearest : SF := (B_nearest_0)
noncomputable def F_nearest : FM := runF 1 B_nearest
theorem ok_nearest {P : Program} {w : World} {K : PySem.W.Frag} {mg : PySem.Str → Option Value} {base : Heap} {T : Nat → Addr} {f__law_alike : Addr} {f__law_low : Addr} {f__law_taken : Addr} {f__law_truth : Addr} {f_ceiling_of : Addr} {f_floor_of : Addr} {f_is_row : Addr} {f_is_whole : Addr} {f_reduced : Addr} {f_is_fraction : Addr} {f_is_less : Addr} {f_plus : Addr} {f_times : Addr} {f_median : Addr} {f_minus : Addr} {f_nearest : Addr} {f_over : Addr} {f_total : Addr} {f_want_fraction : Addr} {f_law : Addr} {e_BadNumber : Addr} {fd : FuncData} (Z : Txt K mg T f__law_alike f__law_low f__law_taken f__law_truth f_ceiling_of f_floor_of f_is_row f_is_whole f_reduced f_is_fraction f_is_less f_plus f_times f_median f_minus f_nearest f_over f_total f_want_fraction f_law e_BadNumber) (F : Fun K "nearest" "nearest" s_nearest f_nearest fd) : FnOk P w K mg base (L2.CX P w) 1 f_nearest fd P_nearest (spM K T 1 F_nearest) := by
  refine def_ok (k := 0) (n := 1) (m := 1) (g := B_nearest) F sc_nearest rfl rfl rfl fun cdv A outer s H E hr => ?_
  have hu64 := r64 hr
  have hu66 := r66 hr
  exact (ms_one (ms_ret (m_bin op_fdiv p_div.op (m_bin op_addM p_add.op (m_bin op_mulM p_mul.op m_int (m_ix (m_var (pv 0)) m_int)) (m_ix (m_var (pv 0)) m_int)) (m_bin op_mulM p_mul.op m_int (m_ix (m_var (pv 0)) m_int)))))
/-! over -/
abbrev s_over : Stmt := top 13
abbrev N_over : List PySem.Str := ["one", "other"]
abbrev P_over : List PySem.Str := ["one", "other"]
theorem sc_over : FnScope N_over P_over (defScope s_over) := ⟨rfl, rfl, rfl, by decide +kernel, rfl, by decide +kernel, by decide +kernel⟩
noncomputable def B_over_0 : SF := (sRet (eArgs (eCons (eBin (g2 dMul) (eBin (g2 dIx) (eV 0) (eC (.int 0))) (eBin (g2 dIx) (eV 1) (eC (.int 1)))) (eCons (eBin (g2 dMul) (eBin (g2 dIx) (eV 0) (eC (.int 1))) (eBin (g2 dIx) (eV 1) (eC (.int 0)))) eNil)) (kLen 2 F_reduced)))
noncomputable def B_over : SF := (B_over_0)
noncomputable def F_over : FM := runF 2 B_over
theorem ok_over {P : Program} {w : World} {K : PySem.W.Frag} {mg : PySem.Str → Option Value} {base : Heap} {T : Nat → Addr} {f__law_alike : Addr} {f__law_low : Addr} {f__law_taken : Addr} {f__law_truth : Addr} {f_ceiling_of : Addr} {f_floor_of : Addr} {f_is_row : Addr} {f_is_whole : Addr} {f_reduced : Addr} {f_is_fraction : Addr} {f_is_less : Addr} {f_plus : Addr} {f_times : Addr} {f_median : Addr} {f_minus : Addr} {f_nearest : Addr} {f_over : Addr} {f_total : Addr} {f_want_fraction : Addr} {f_law : Addr} {e_BadNumber : Addr} {fd : FuncData} {fd_reduced : FuncData} (Z : Txt K mg T f__law_alike f__law_low f__law_taken f__law_truth f_ceiling_of f_floor_of f_is_row f_is_whole f_reduced f_is_fraction f_is_less f_plus f_times f_median f_minus f_nearest f_over f_total f_want_fraction f_law e_BadNumber) (F : Fun K "over" "over" s_over f_over fd) (b_reduced : Binds K fd_reduced P_reduced []) (G_reduced : FnOk P w K mg base (L2.CX P w) 1 f_reduced fd_reduced P_reduced (spM K T 2 F_reduced)) : FnOk P w K mg base (L2.CX P w) 2 f_over fd P_over (spM K T 2 F_over) := by
  refine def_ok (k := 1) (n := 2) (m := 2) (g := B_over) F sc_over rfl rfl rfl fun cdv A outer s H E hr => ?_
  have hu64 := r64 hr
  have hu66 := r66 hr
  exact (ms_one (ms_ret (m_call (takes_of rfl rfl rfl rfl) G_reduced (hr.mono (by omega)) rfl Z.m_reduced Z.k_reduced b_reduced (m_arg (m_arg m_nil (m_bin op_mulM p_mul.op (m_ix (m_var (pv 0)) m_int) (m_ix (m_var (pv 1)) m_int))) (m_bin op_mulM p_mul.op (m_ix (m_var (pv 0)) m_int) (m_ix (m_var (pv 1)) m_int))))))
/-! total -/
abbrev s_total : Stmt := top 18
abbrev N_total : List PySem.Str := ["rows", "found", "one"]
abbrev P_total : List PySem.Str := ["rows"]
theorem sc_total : FnScope N_total P_total (defScope s_total) := ⟨rfl, rfl, rfl, by decide +kernel, rfl, by decide +kernel, by decide +kernel⟩
noncomputable def B_total_0 : SF := (sSet 1 (eArgs (eCons (eC (.int 0)) (eCons (eC (.int 1)) eNil)) kTup))
noncomputable def B_total_1 : SF := (sFor (nl (eItems (eV 0))) (tName 2) (sSet 1 (eArgs (eCons (eV 1) (eCons (eV 2) eNil)) (kLen 2 F_plus))))
noncomputable def B_total_2 : SF := (sRet (eV 1))
noncomputable def B_total : SF := (sSeq (B_total_0) (sSeq (B_total_1) (B_total_2)))
noncomputable def F_total : FM := runF 3 B_total
theorem ok_total {P : Program} {w : World} {K : PySem.W.Frag} {mg : PySem.Str → Option Value} {base : Heap} {T : Nat → Addr} {f__law_alike : Addr} {f__law_low : Addr} {f__law_taken : Addr} {f__law_truth : Addr} {f_ceiling_of : Addr} {f_floor_of : Addr} {f_is_row : Addr} {f_is_whole : Addr} {f_reduced : Addr} {f_is_fraction : Addr} {f_is_less : Addr} {f_plus : Addr} {f_times : Addr} {f_median : Addr} {f_minus : Addr} {f_nearest : Addr} {f_over : Addr} {f_total : Addr} {f_want_fraction : Addr} {f_law : Addr} {e_BadNumber : Addr} {fd : FuncData} {fd_plus : FuncData} (Z : Txt K mg T f__law_alike f__law_low f__law_taken f__law_truth f_ceiling_of f_floor_of f_is_row f_is_whole f_reduced f_is_fraction f_is_less f_plus f_times f_median f_minus f_nearest f_over f_total f_want_fraction f_law e_BadNumber) (F : Fun K "total" "total" s_total f_total fd) (b_plus : Binds K fd_plus P_plus []) (G_plus : FnOk P w K mg base (L2.CX P w) 2 f_plus fd_plus P_plus (spM K T 2 F_plus)) : FnOk P w K mg base (L2.CX P w) 3 f_total fd P_total (spM K T 1 F_total) := by
  refine def_ok (k := 2) (n := 3) (m := 1) (g := B_total) F sc_total rfl rfl rfl fun cdv A outer s H E hr => ?_
  have hu64 := r64 hr
  have hu66 := r66 hr
  exact (ms_cons (ms_set (i := 1) sc_total.nd rfl (by first | exact Or.inl rfl | exact Or.inr rfl) (m_tup (m_arg (m_arg m_nil m_int) m_int))) (ms_cons (ms_for (vs := [2]) (passes_of rfl) rfl (mv (mi_any (m_var (pv 0)))) (mg_name (i := 2) sc_total.nd rfl (by first | exact Or.inl rfl | exact Or.inr rfl)) (ms_one (ms_set (i := 1) sc_total.nd rfl (by first | exact Or.inl rfl | exact Or.inr rfl) (m_call (takes_of rfl rfl rfl rfl) G_plus (hr.mono (by omega)) rfl Z.m_plus Z.k_plus b_plus (m_arg (m_arg m_nil (m_var (pv 2))) (m_var (pv 1))))))) (ms_one (ms_ret (m_var (pv 1))))))
/-! want_fraction -/
abbrev s_want_fraction : Stmt := top 9
abbrev N_want_fraction : List PySem.Str := ["value"]
abbrev P_want_fraction : List PySem.Str := ["value"]
theorem sc_want_fraction : FnScope N_want_fraction P_want_fraction (defScope s_want_fraction) := ⟨rfl, rfl, rfl, by decide +kernel, rfl, by decide +kernel, by decide +kernel⟩
noncomputable def B_want_fraction_0 : SF := (sIf (eNotT (eTru (eArgs (eCons (eV 0) eNil) (kLen 1 F_is_fraction)))) (sRaise 0 ["value"] (eCons (eV 0) eNil)) sNil)
noncomputable def B_want_fraction_1 : SF := (sRet (eArgs (eCons (eV 0) eNil) (kB bTup)))
noncomputable def B_want_fraction : SF := (sSeq (B_want_fraction_0) (B_want_fraction_1))
noncomputable def F_want_fraction : FM := runF 1 B_want_fraction
theorem ok_want_fraction {P : Program} {w : World} {K : PySem.W.Frag} {mg : PySem.Str → Option Value} {base : Heap} {T : Nat → Addr} {f__law_alike : Addr} {f__law_low : Addr} {f__law_taken : Addr} {f__law_truth : Addr} {f_ceiling_of : Addr} {f_floor_of : Addr} {f_is_row : Addr} {f_is_whole : Addr} {f_reduced : Addr} {f_is_fraction : Addr} {f_is_less : Addr} {f_plus : Addr} {f_times : Addr} {f_median : Addr} {f_minus : Addr} {f_nearest : Addr} {f_over : Addr} {f_total : Addr} {f_want_fraction : Addr} {f_law : Addr} {e_BadNumber : Addr} {fd : FuncData} {fd_is_fraction : FuncData} {fe_BadNumber : FuncData} (Z : Txt K mg T f__law_alike f__law_low f__law_taken f__law_truth f_ceiling_of f_floor_of f_is_row f_is_whole f_reduced f_is_fraction f_is_less f_plus f_times f_median f_minus f_nearest f_over f_total f_want_fraction f_law e_BadNumber) (F : Fun K "want_fraction" "want_fraction" s_want_fraction f_want_fraction fd) (b_is_fraction : Binds K fd_is_fraction P_is_fraction []) (be_BadNumber : Binds K fe_BadNumber PE_BadNumber []) (G_is_fraction : FnOk P w K mg base (L2.CX P w) 2 f_is_fraction fd_is_fraction P_is_fraction (spM K T 1 F_is_fraction)) (E_BadNumber : FnOk P w K mg base (L2.CX P w) 1 e_BadNumber fe_BadNumber PE_BadNumber (spX (T 0) FE_BadNumber)) : FnOk P w K mg base (L2.CX P w) 3 f_want_fraction fd P_want_fraction (spM K T 1 F_want_fraction) := by
  refine def_ok (k := 2) (n := 1) (m := 1) (g := B_want_fraction) F sc_want_fraction rfl rfl rfl fun cdv A outer s H E hr => ?_
  have hu64 := r64 hr
  have hu66 := r66 hr
  exact (ms_cons (ms_if (m_notT (m_truth (m_call (takes_of rfl rfl rfl rfl) G_is_fraction (hr.mono (by omega)) rfl Z.m_is_fraction Z.k_is_fraction b_is_fraction (m_arg m_nil (m_var (pv 0)))))) (ms_one (ms_raise (c := 0) (names := ["value"]) rfl (takes_of rfl rfl rfl rfl) Z.ox_BadNumber Z.iC_BadNumber Z.tI_BadNumber E_BadNumber (hr.mono (by omega)) be_BadNumber rfl Z.m_BadNumber (by decide) (m_arg m_nil (m_var (pv 0))))) ms_nil) (ms_one (ms_ret (m_bT call_tuple_of l_tup rfl Z.z_tuple (by decide +kernel) (m_arg m_nil (m_var (pv 0)))))))
/-! law -/
abbrev s_law : Stmt := top 25
abbrev N_law : List PySem.Str := ["script", "row", "a", "b", "c", "d", "one", "other", "wholes", "below", "above", "best", "rows", "whole", "part", "middle", "value", "e", "k"]
abbrev P_law : List PySem.Str := ["script"]
theorem sc_law : FnScope N_law P_law (defScope s_law) := ⟨rfl, rfl, rfl, by decide +kernel, rfl, by decide +kernel, by decide +kernel⟩
noncomputable def B_law_0 : SF := (sSet 1 (eArgs (eCons (eV 0) (eCons (eC (.int 0)) (eCons (eC (.int 61)) (eCons (eC (.int 0)) eNil)))) kLstN))
noncomputable def B_law_1 : SF := (sPar [2, 3, 4, 5] (eCons (eBin (g2 dSub) (eArgs (eCons (eV 1) (eCons (eC (.int 121)) eNil)) (kLen 2 F__law_taken)) (eC (.int 60))) (eCons (eBin (g2 dAdd) (eC (.int 1)) (eArgs (eCons (eV 1) (eCons (eC (.int 60)) eNil)) (kLen 2 F__law_taken))) (eCons (eBin (g2 dSub) (eArgs (eCons (eV 1) (eCons (eC (.int 121)) eNil)) (kLen 2 F__law_taken)) (eC (.int 60))) (eCons (eBin (g2 dAdd) (eC (.int 1)) (eArgs (eCons (eV 1) (eCons (eC (.int 60)) eNil)) (kLen 2 F__law_taken))) eNil)))))
noncomputable def B_law_2 : SF := (sPar [6, 7] (eCons (eArgs (eCons (eV 2) (eCons (eV 3) eNil)) (kLen 2 F_reduced)) (eCons (eArgs (eCons (eV 4) (eCons (eV 5) eNil)) (kLen 2 F_reduced)) eNil)))
noncomputable def B_law_3 : SF := (sIf (eOrT (eNotT (eTru (eArgs (eCons (eArgs (eCons (eV 6) (eCons (eV 7) eNil)) kTup) (eCons (eArgs (eCons (eArgs (eCons (eV 2) (eCons (eV 3) eNil)) (kLen 2 F__law_low)) (eCons (eArgs (eCons (eV 4) (eCons (eV 5) eNil)) (kLen 2 F__law_low)) eNil)) kTup) eNil)) (kLen 2 (F__law_alike 4))))) (eOrT (eNotT (eTru (eArgs (eCons (eV 6) eNil) (kLen 1 F_is_fraction)))) (eTru (eArgs (eCons (eArgs (eCons (eBin (g2 dMul) (eV 2) (eC (.int 2))) (eCons (eBin (g2 dMul) (eV 3) (eC (.int 2))) eNil)) kTup) eNil) (kLen 1 F_is_fraction))))) (sRet (eC (.bool false))) sNil)
noncomputable def B_law_4 : SF := (sIf (eNotT (eTru (eArgs (eCons (eArgs (eCons (eArgs (eCons (eV 6) (eCons (eV 7) eNil)) (kLen 2 F_plus)) (eCons (eArgs (eCons (eV 6) (eCons (eV 7) eNil)) (kLen 2 F_minus)) (eCons (eArgs (eCons (eV 6) (eCons (eV 7) eNil)) (kLen 2 F_times)) eNil))) kTup) (eCons (eArgs (eCons (eArgs (eCons (eBin (g2 dAdd) (eBin (g2 dMul) (eV 2) (eV 5)) (eBin (g2 dMul) (eV 4) (eV 3))) (eCons (eBin (g2 dMul) (eV 3) (eV 5)) eNil)) (kLen 2 F__law_low)) (eCons (eArgs (eCons (eBin (g2 dSub) (eBin (g2 dMul) (eV 2) (eV 5)) (eBin (g2 dMul) (eV 4) (eV 3))) (eCons (eBin (g2 dMul) (eV 3) (eV 5)) eNil)) (kLen 2 F__law_low)) (eCons (eArgs (eCons (eBin (g2 dMul) (eV 2) (eV 4)) (eCons (eBin (g2 dMul) (eV 3) (eV 5)) eNil)) (kLen 2 F__law_low)) eNil))) kTup) eNil)) (kLen 2 (F__law_alike 4))))) (sRet (eC (.bool false))) sNil)
noncomputable def B_law_5 : SF := (sIf (eOrT (eAndT (asB (eBin (g2 (dCmp fun i j => decide (j < i))) (eV 4) (eC (.int 0)))) (eNotT (eTru (eArgs (eCons (eArgs (eCons (eV 6) (eCons (eV 7) eNil)) (kLen 2 F_over)) (eCons (eArgs (eCons (eBin (g2 dMul) (eV 2) (eV 5)) (eCons (eBin (g2 dMul) (eV 3) (eV 4)) eNil)) (kLen 2 F__law_low)) eNil)) (kLen 2 (F__law_alike 4)))))) (eNotT (eTru (eArgs (eCons (eArgs (eCons (eV 6) (eCons (eV 7) eNil)) (kLen 2 F_is_less)) (eCons (eBin (g2 (dCmp fun i j => decide (i < j))) (eBin (g2 dMul) (eV 2) (eV 5)) (eBin (g2 dMul) (eV 4) (eV 3))) eNil)) (kLen 2 F__law_truth))))) (sRet (eC (.bool false))) sNil)
noncomputable def B_law_6 : SF := (sSet 8 (eLstRg (eUn (g1 dNeg) (eC (.int 61))) (eC (.int 62))))
noncomputable def B_law_7 : SF := (sPar [9, 10] (eCons (eArgs (eCons (eLc false [18] (nl (eItems (eV 8))) (tName 18) (asB (eBin (g2 (dCmp fun i j => decide (i ≤ j))) (eBin (g2 dMul) (eV 18) (eV 3)) (eV 2))) (eV 18)) eNil) (kB bMax1)) (eCons (eArgs (eCons (eLc false [18] (nl (eItems (eV 8))) (tName 18) (asB (eBin (g2 (dCmp fun i j => decide (j ≤ i))) (eBin (g2 dMul) (eV 18) (eV 3)) (eV 2))) (eV 18)) eNil) (kB bMin1)) eNil)))
noncomputable def B_law_8 : SF := (sSet 11 (eArgs (eCons (eLc false [18] (nl (eItems (eV 8))) (tName 18) (asB (eBin (g2 (dCmp fun i j => decide (i ≤ j))) (eBin (g2 dMul) (eBin (g2 dSub) (eBin (g2 dMul) (eC (.int 2)) (eV 18)) (eC (.int 1))) (eV 3)) (eBin (g2 dMul) (eC (.int 2)) (eV 2)))) (eV 18)) eNil) (kB bMax1)))
noncomputable def B_law_9 : SF := (sIf (eNotT (eTru (eArgs (eCons (eArgs (eCons (eArgs (eCons (eV 6) eNil) (kLen 1 F_floor_of)) (eCons (eArgs (eCons (eV 6) eNil) (kLen 1 F_ceiling_of)) (eCons (eArgs (eCons (eV 6) eNil) (kLen 1 F_nearest)) eNil))) kTup) (eCons (eArgs (eCons (eV 9) (eCons (eV 10) (eCons (eV 11) eNil))) kTup) eNil)) (kLen 2 (F__law_alike 4))))) (sRet (eC (.bool false))) sNil)
noncomputable def B_law_10 : SF := (sPar [12, 13] (eCons (eBin (g2 dAdd) (eArgs (eCons (eV 6) (eCons (eV 7) eNil)) kLst) (eLc false [18] (nl (eRange1 (eCons (eArgs (eCons (eV 1) (eCons (eC (.int 5)) eNil)) (kLen 2 F__law_taken)) eNil))) (tName 18) eYes (eArgs (eCons (eBin (g2 dSub) (eArgs (eCons (eV 1) (eCons (eC (.int 40)) eNil)) (kLen 2 F__law_taken)) (eC (.int 20))) (eCons (eBin (g2 dAdd) (eC (.int 1)) (eArgs (eCons (eV 1) (eCons (eC (.int 6)) eNil)) (kLen 2 F__law_taken))) eNil)) (kLen 2 F_reduced)))) (eCons (eArgs (eCons (eC (.int 0)) (eCons (eC (.int 1)) eNil)) kTup) eNil)))
noncomputable def B_law_11 : SF := (sFor (nl (eItems (eV 12))) (tName 14) (sSet 13 (eArgs (eCons (eBin (g2 dAdd) (eBin (g2 dMul) (eBin (g2 dIx) (eV 13) (eC (.int 0))) (eBin (g2 dIx) (eV 14) (eC (.int 1)))) (eBin (g2 dMul) (eBin (g2 dIx) (eV 14) (eC (.int 0))) (eBin (g2 dIx) (eV 13) (eC (.int 1))))) (eCons (eBin (g2 dMul) (eBin (g2 dIx) (eV 13) (eC (.int 1))) (eBin (g2 dIx) (eV 14) (eC (.int 1)))) eNil)) (kLen 2 F__law_low))))
noncomputable def B_law_12 : SF := (sIf (eNotT (eTru (eArgs (eCons (eArgs (eCons (eV 12) eNil) (kLen 1 F_total)) (eCons (eV 13) eNil)) (kLen 2 (F__law_alike 4))))) (sRet (eC (.bool false))) sNil)
noncomputable def B_law_13 : SF := (sSet 15 (eArgs (eCons (eV 12) eNil) (kLen 1 F_median)))
noncomputable def B_law_14 : SF := (sSet 9 (eArgs (eCons (eLc false [14] (nl (eItems (eV 12))) (tName 14) (asB (eBin (g2 (dCmp fun i j => decide (i < j))) (eBin (g2 dMul) (eBin (g2 dIx) (eV 14) (eC (.int 0))) (eBin (g2 dIx) (eV 15) (eC (.int 1)))) (eBin (g2 dMul) (eBin (g2 dIx) (eV 15) (eC (.int 0))) (eBin (g2 dIx) (eV 14) (eC (.int 1)))))) (eC (.int 1))) eNil) (kB bLen)))
noncomputable def B_law_15 : SF := (sSet 10 (eArgs (eCons (eLc false [14] (nl (eItems (eV 12))) (tName 14) (asB (eBin (g2 (dCmp fun i j => decide (j < i))) (eBin (g2 dMul) (eBin (g2 dIx) (eV 14) (eC (.int 0))) (eBin (g2 dIx) (eV 15) (eC (.int 1)))) (eBin (g2 dMul) (eBin (g2 dIx) (eV 15) (eC (.int 0))) (eBin (g2 dIx) (eV 14) (eC (.int 1)))))) (eC (.int 1))) eNil) (kB bLen)))
noncomputable def B_law_16 : SF := (sIf (eOrT (asB (eBin (g2 (dCmp fun i j => decide (j < i))) (eBin (g2 dMul) (eC (.int 2)) (eV 9)) (eArgs (eCons (eV 12) eNil) (kB bLen)))) (eOrT (asB (eBin (g2 (dCmp fun i j => decide (j < i))) (eBin (g2 dMul) (eC (.int 2)) (eV 10)) (eArgs (eCons (eV 12) eNil) (kB bLen)))) (eAndT (asB (eBin (g2 dEq) (eBin (g2 dMod) (eArgs (eCons (eV 12) eNil) (kB bLen)) (eC (.int 2))) (eC (.int 1)))) (asB (eBin (g2 dNin) (eV 15) (eV 12)))))) (sRet (eC (.bool false))) sNil)
noncomputable def B_law_17 : SF := (sFor (nl (eItems (eArgs (eCons (eC .none) (eCons (eArgs (eCons (eC (.int 1)) (eCons (eC (.int 0)) eNil)) kTup) (eCons (eArgs (eCons (eC (.int 2)) (eCons (eC (.int 4)) eNil)) kTup) (eCons (eArgs (eCons (eC (.int 0)) (eCons (eC (.int 2)) eNil)) kTup) (eCons (eArgs (eCons (eC (.int 1)) eNil) kTup) (eCons (eArgs (eCons (eC (.bool true)) (eCons (eC (.int 2)) eNil)) kTup) (eCons (eArgs (eCons (eC (.int 1)) (eCons (eC (.int 2)) (eCons (eC (.int 3)) eNil))) kLst) (eCons (eC (.int 5)) (eCons (eArgs (eCons (eC (.int 1)) (eCons (eUn (g1 dNeg) (eC (.int 1))) eNil)) kTup) eNil))))))))) kLst))) (tName 16) (sSeq (sIf (eTru (eArgs (eCons (eV 16) eNil) (kLen 1 F_is_fraction))) (sRet (eC (.bool false))) sNil) (sTryAs 17 t_BadNumber (sSeq (sEx (eArgs (eCons (eV 16) eNil) (kLen 1 F_want_fraction))) (sRet (eC (.bool false)))) (fun a d c => (sIf (asB (eBin (g2 dNe) (eUn (g1 bRepr) (eXf a d c "value" (eV 17))) (eUn (g1 bRepr) (eV 16)))) (sRet (eC (.bool false))) sNil)))))
noncomputable def B_law_18 : SF := (sRet (eArgs (eCons (eArgs (eCons (eArgs (eCons (eV 6) eNil) (kB bLst)) eNil) (kLen 1 F_want_fraction)) (eCons (eV 6) eNil)) (kLen 2 (F__law_alike 4))))
noncomputable def B_law : SF := (sSeq (B_law_0) (sSeq (B_law_1) (sSeq (B_law_2) (sSeq (B_law_3) (sSeq (B_law_4) (sSeq (B_law_5) (sSeq (B_law_6) (sSeq (B_law_7) (sSeq (B_law_8) (sSeq (B_law_9) (sSeq (B_law_10) (sSeq (B_law_11) (sSeq (B_law_12) (sSeq (B_law_13) (sSeq (B_law_14) (sSeq (B_law_15) (sSeq (B_law_16) (sSeq (B_law_17) (B_law_18)))))))))))))))))))
noncomputable def F_law : FM := runF 19 B_law
theorem ok_law {P : Program} {w : World} {K : PySem.W.Frag} {mg : PySem.Str → Option Value} {base : Heap} {T : Nat → Addr} {f__law_alike : Addr} {f__law_low : Addr} {f__law_taken : Addr} {f__law_truth : Addr} {f_ceiling_of : Addr} {f_floor_of : Addr} {f_is_row : Addr} {f_is_whole : Addr} {f_reduced : Addr} {f_is_fraction : Addr} {f_is_less : Addr} {f_plus : Addr} {f_times : Addr} {f_median : Addr} {f_minus : Addr} {f_nearest : Addr} {f_over : Addr} {f_total : Addr} {f_want_fraction : Addr} {f_law : Addr} {e_BadNumber : Addr} {fd : FuncData} {fd__law_alike : FuncData} {fd__law_low : FuncData} {fd__law_taken : FuncData} {fd__law_truth : FuncData} {fd_ceiling_of : FuncData} {fd_floor_of : FuncData} {fd_is_fraction : FuncData} {fd_is_less : FuncData} {fd_median : FuncData} {fd_minus : FuncData} {fd_nearest : FuncData} {fd_over : FuncData} {fd_plus : FuncData} {fd_reduced : FuncData} {fd_times : FuncData} {fd_total : FuncData} {fd_want_fraction : FuncData} (Z : Txt K mg T f__law_alike f__law_low f__law_taken f__law_truth f_ceiling_of f_floor_of f_is_row f_is_whole f_reduced f_is_fraction f_is_less f_plus f_times f_median f_minus f_nearest f_over f_total f_want_fraction f_law e_BadNumber) (F : Fun K "law" "law" s_law f_law fd) (b__law_alike : Binds K fd__law_alike P__law_alike []) (b__law_low : Binds K fd__law_low P__law_low []) (b__law_taken : Binds K fd__law_taken P__law_taken []) (b__law_truth : Binds K fd__law_truth P__law_truth []) (b_ceiling_of : Binds K fd_ceiling_of P_ceiling_of []) (b_floor_of : Binds K fd_floor_of P_floor_of []) (b_is_fraction : Binds K fd_is_fraction P_is_fraction []) (b_is_less : Binds K fd_is_less P_is_less []) (b_median : Binds K fd_median P_median []) (b_minus : Binds K fd_minus P_minus []) (b_nearest : Binds K fd_nearest P_nearest []) (b_over : Binds K fd_over P_over []) (b_plus : Binds K fd_plus P_plus []) (b_reduced : Binds K fd_reduced P_reduced []) (b_times : Binds K fd_times P_times []) (b_total : Binds K fd_total P_total []) (b_want_fraction : Binds K fd_want_fraction P_want_fraction []) (G__law_alike : ∀ t, FnOk P w K mg base (L2.CX P w) (0 + t) f__law_alike fd__law_alike P__law_alike (spM K T 2 (F__law_alike t))) (G__law_low : FnOk P w K mg base (L2.CX P w) 1 f__law_low fd__law_low P__law_low (spM K T 2 F__law_low)) (G__law_taken : FnOk P w K mg base (L2.CX P w) 1 f__law_taken fd__law_taken P__law_taken (spM K T 2 F__law_taken)) (G__law_truth : FnOk P w K mg base (L2.CX P w) 1 f__law_truth fd__law_truth P__law_truth (spM K T 2 F__law_truth)) (G_ceiling_of : FnOk P w K mg base (L2.CX P w) 1 f_ceiling_of fd_ceiling_of P_ceiling_of (spM K T 1 F_ceiling_of)) (G_floor_of : FnOk P w K mg base (L2.CX P w) 1 f_floor_of fd_floor_of P_floor_of (spM K T 1 F_floor_of)) (G_is_fraction : FnOk P w K mg base (L2.CX P w) 2 f_is_fraction fd_is_fraction P_is_fraction (spM K T 1 F_is_fraction)) (G_is_less : FnOk P w K mg base (L2.CX P w) 1 f_is_less fd_is_less P_is_less (spM K T 2 F_is_less)) (G_median : FnOk P w K mg base (L2.CX P w) 3 f_median fd_median P_median (spM K T 1 F_median)) (G_minus : FnOk P w K mg base (L2.CX P w) 2 f_minus fd_minus P_minus (spM K T 2 F_minus)) (G_nearest : FnOk P w K mg base (L2.CX P w) 1 f_nearest fd_nearest P_nearest (spM K T 1 F_nearest)) (G_over : FnOk P w K mg base (L2.CX P w) 2 f_over fd_over P_over (spM K T 2 F_over)) (G_plus : FnOk P w K mg base (L2.CX P w) 2 f_plus fd_plus P_plus (spM K T 2 F_plus)) (G_reduced : FnOk P w K mg base (L2.CX P w) 1 f_reduced fd_reduced P_reduced (spM K T 2 F_reduced)) (G_times : FnOk P w K mg base (L2.CX P w) 2 f_times fd_times P_times (spM K T 2 F_times)) (G_total : FnOk P w K mg base (L2.CX P w) 3 f_total fd_total P_total (spM K T 1 F_total)) (G_want_fraction : FnOk P w K mg base (L2.CX P w) 3 f_want_fraction fd_want_fraction P_want_fraction (spM K T 1 F_want_fraction)) : FnG P w K mg base (L2.CX P w) 5 f_law fd P_law (spM K T 1 F_law) := by
  refine def_okG (k := 4) (n := 19) (m := 1) (g := B_law) F sc_law rfl rfl rfl fun cdv A outer s H E hGd hr => ?_
  have hu64 := r64 hr
  have hu66 := r66 hr
  exact (ms_cons (ms_set (i := 1) sc_law.nd rfl (by first | exact Or.inl rfl | exact Or.inr rfl) (m_lstN (m_arg (m_arg (m_arg (m_arg m_nil m_int) m_int) m_int) (m_var (pv 0))))) (ms_cons (ms_parN rfl (m_arg (m_arg (m_arg (m_arg m_nil (m_bin op_addM p_add.op m_int (m_call (takes_of rfl rfl rfl rfl) G__law_taken (hr.mono (by omega)) rfl Z.m__law_taken Z.k__law_taken b__law_taken (m_arg (m_arg m_nil m_int) (m_var (pv 1)))))) (m_bin op_sub p_sub.op (m_call (takes_of rfl rfl rfl rfl) G__law_taken (hr.mono (by omega)) rfl Z.m__law_taken Z.k__law_taken b__law_taken (m_arg (m_arg m_nil m_int) (m_var (pv 1)))) m_int)) (m_bin op_addM p_add.op m_int (m_call (takes_of rfl rfl rfl rfl) G__law_taken (hr.mono (by omega)) rfl Z.m__law_taken Z.k__law_taken b__law_taken (m_arg (m_arg m_nil m_int) (m_var (pv 1)))))) (m_bin op_sub p_sub.op (m_call (takes_of rfl rfl rfl rfl) G__law_taken (hr.mono (by omega)) rfl Z.m__law_taken Z.k__law_taken b__law_taken (m_arg (m_arg m_nil m_int) (m_var (pv 1)))) m_int)) (mgu_cons (i := 2) sc_law.nd rfl (by first | exact Or.inl rfl | exact Or.inr rfl) (mgu_cons (i := 3) sc_law.nd rfl (by first | exact Or.inl rfl | exact Or.inr rfl) (mgu_cons (i := 4) sc_law.nd rfl (by first | exact Or.inl rfl | exact Or.inr rfl) (mgu_cons (i := 5) sc_law.nd rfl (by first | exact Or.inl rfl | exact Or.inr rfl) mgu_nil))))) (ms_cons (ms_par2 (i := 6) (j := 7) rfl sc_law.nd rfl rfl (by decide) rfl rfl (m_arg (m_arg m_nil (m_call (takes_of rfl rfl rfl rfl) G_reduced (hr.mono (by omega)) rfl Z.m_reduced Z.k_reduced b_reduced (m_arg (m_arg m_nil (m_var (pv 5))) (m_var (pv 4))))) (m_call (takes_of rfl rfl rfl rfl) G_reduced (hr.mono (by omega)) rfl Z.m_reduced Z.k_reduced b_reduced (m_arg (m_arg m_nil (m_var (pv 3))) (m_var (pv 2)))))) (ms_cons (ms_if (m_pw (m_wor (m_notT (m_truth (m_call (takes_of rfl rfl rfl rfl) (G__law_alike 4) (hr.mono (by omega)) rfl Z.m__law_alike Z.k__law_alike b__law_alike (m_arg (m_arg m_nil (m_tup (m_arg (m_arg m_nil (m_call (takes_of rfl rfl rfl rfl) G__law_low (hr.mono (by omega)) rfl Z.m__law_low Z.k__law_low b__law_low (m_arg (m_arg m_nil (m_var (pv 5))) (m_var (pv 4))))) (m_call (takes_of rfl rfl rfl rfl) G__law_low (hr.mono (by omega)) rfl Z.m__law_low Z.k__law_low b__law_low (m_arg (m_arg m_nil (m_var (pv 3))) (m_var (pv 2))))))) (m_tup (m_arg (m_arg m_nil (m_var (pv 7))) (m_var (pv 6)))))))) (m_wor (m_notT (m_truth (m_call (takes_of rfl rfl rfl rfl) G_is_fraction (hr.mono (by omega)) rfl Z.m_is_fraction Z.k_is_fraction b_is_fraction (m_arg m_nil (m_var (pv 6)))))) (m_wor1 (m_truth (m_call (takes_of rfl rfl rfl rfl) G_is_fraction (hr.mono (by omega)) rfl Z.m_is_fraction Z.k_is_fraction b_is_fraction (m_arg m_nil (m_tup (m_arg (m_arg m_nil (m_bin op_mulM p_mul.op (m_var (pv 3)) m_int)) (m_bin op_mulM p_mul.op (m_var (pv 2)) m_int)))))))))) (ms_one (ms_ret m_bl)) ms_nil) (ms_cons (ms_if (m_notT (m_truth (m_call (takes_of rfl rfl rfl rfl) (G__law_alike 4) (hr.mono (by omega)) rfl Z.m__law_alike Z.k__law_alike b__law_alike (m_arg (m_arg m_nil (m_tup (m_arg (m_arg (m_arg m_nil (m_call (takes_of rfl rfl rfl rfl) G__law_low (hr.mono (by omega)) rfl Z.m__law_low Z.k__law_low b__law_low (m_arg (m_arg m_nil (m_bin op_mulM p_mul.op (m_var (pv 3)) (m_var (pv 5)))) (m_bin op_mulM p_mul.op (m_var (pv 2)) (m_var (pv 4)))))) (m_call (takes_of rfl rfl rfl rfl) G__law_low (hr.mono (by omega)) rfl Z.m__law_low Z.k__law_low b__law_low (m_arg (m_arg m_nil (m_bin op_mulM p_mul.op (m_var (pv 3)) (m_var (pv 5)))) (m_bin op_sub p_sub.op (m_bin op_mulM p_mul.op (m_var (pv 2)) (m_var (pv 5))) (m_bin op_mulM p_mul.op (m_var (pv 4)) (m_var (pv 3))))))) (m_call (takes_of rfl rfl rfl rfl) G__law_low (hr.mono (by omega)) rfl Z.m__law_low Z.k__law_low b__law_low (m_arg (m_arg m_nil (m_bin op_mulM p_mul.op (m_var (pv 3)) (m_var (pv 5)))) (m_bin op_addM p_add.op (m_bin op_mulM p_mul.op (m_var (pv 2)) (m_var (pv 5))) (m_bin op_mulM p_mul.op (m_var (pv 4)) (m_var (pv 3))))))))) (m_tup (m_arg (m_arg (m_arg m_nil (m_call (takes_of rfl rfl rfl rfl) G_times (hr.mono (by omega)) rfl Z.m_times Z.k_times b_times (m_arg (m_arg m_nil (m_var (pv 7))) (m_var (pv 6))))) (m_call (takes_of rfl rfl rfl rfl) G_minus (hr.mono (by omega)) rfl Z.m_minus Z.k_minus b_minus (m_arg (m_arg m_nil (m_var (pv 7))) (m_var (pv 6))))) (m_call (takes_of rfl rfl rfl rfl) G_plus (hr.mono (by omega)) rfl Z.m_plus Z.k_plus b_plus (m_arg (m_arg m_nil (m_var (pv 7))) (m_var (pv 6)))))))))) (ms_one (ms_ret m_bl)) ms_nil) (ms_cons (ms_if (m_pw (m_wor (m_pw (m_wand (m_cmpT op_gt (p_cmp _).op (m_var (pv 4)) m_int (nomark _)) (m_wand1 (m_notT (m_truth (m_call (takes_of rfl rfl rfl rfl) (G__law_alike 4) (hr.mono (by omega)) rfl Z.m__law_alike Z.k__law_alike b__law_alike (m_arg (m_arg m_nil (m_call (takes_of rfl rfl rfl rfl) G__law_low (hr.mono (by omega)) rfl Z.m__law_low Z.k__law_low b__law_low (m_arg (m_arg m_nil (m_bin op_mulM p_mul.op (m_var (pv 3)) (m_var (pv 4)))) (m_bin op_mulM p_mul.op (m_var (pv 2)) (m_var (pv 5)))))) (m_call (takes_of rfl rfl rfl rfl) G_over (hr.mono (by omega)) rfl Z.m_over Z.k_over b_over (m_arg (m_arg m_nil (m_var (pv 7))) (m_var (pv 6))))))))))) (m_wor1 (m_notT (m_truth (m_call (takes_of rfl rfl rfl rfl) G__law_truth (hr.mono (by omega)) rfl Z.m__law_truth Z.k__law_truth b__law_truth (m_arg (m_arg m_nil (m_cmp op_lt (p_cmp _).op (m_bin op_mulM p_mul.op (m_var (pv 2)) (m_var (pv 5))) (m_bin op_mulM p_mul.op (m_var (pv 4)) (m_var (pv 3))) (nomark _))) (m_call (takes_of rfl rfl rfl rfl) G_is_less (hr.mono (by omega)) rfl Z.m_is_less Z.k_is_less b_is_less (m_arg (m_arg m_nil (m_var (pv 7))) (m_var (pv 6))))))))))) (ms_one (ms_ret m_bl)) ms_nil) (ms_cons (ms_set (i := 8) sc_law.nd rfl (by first | exact Or.inl rfl | exact Or.inr rfl) (m_listRg2 rfl rfl Z.z_list rfl Z.z_range (m_un un_neg p_neg.op m_int) m_int)) (ms_cons (ms_par2 (i := 9) (j := 10) rfl sc_law.nd rfl rfl (by decide) rfl rfl (m_arg (m_arg m_nil (m_b (cr_min rfl) l_min1 rfl Z.z_min (by decide +kernel) (m_arg m_nil (m_lc false (own := [("k", 18)]) rfl sc_law.nd (mv (mi_any (m_var (pv 8)))) (blkOk_by (by show blkC N_law (defScope s_law) _ _ = true; decide +kernel)) (fun _ _ _ _ _ => (mg_name (i := 18) sc_law.nd rfl (by first | exact Or.inl rfl | exact Or.inr rfl))) (fun _ _ _ _ _ => (mts_one (m_cmpT op_ge (p_cmp _).op (m_bin op_mulM p_mul.op (m_var (pv 18)) (m_var (pv 3))) (m_var (pv 2)) (nomark _)))) (fun _ _ _ _ _ => (m_var (pv 18))))))) (m_b (cr_max rfl) l_max1 rfl Z.z_max (by decide +kernel) (m_arg m_nil (m_lc false (own := [("k", 18)]) rfl sc_law.nd (mv (mi_any (m_var (pv 8)))) (blkOk_by (by show blkC N_law (defScope s_law) _ _ = true; decide +kernel)) (fun _ _ _ _ _ => (mg_name (i := 18) sc_law.nd rfl (by first | exact Or.inl rfl | exact Or.inr rfl))) (fun _ _ _ _ _ => (mts_one (m_cmpT op_le (p_cmp _).op (m_bin op_mulM p_mul.op (m_var (pv 18)) (m_var (pv 3))) (m_var (pv 2)) (nomark _)))) (fun _ _ _ _ _ => (m_var (pv 18)))))))) (ms_cons (ms_set (i := 11) sc_law.nd rfl (by first | exact Or.inl rfl | exact Or.inr rfl) (m_b (cr_max rfl) l_max1 rfl Z.z_max (by decide +kernel) (m_arg m_nil (m_lc false (own := [("k", 18)]) rfl sc_law.nd (mv (mi_any (m_var (pv 8)))) (blkOk_by (by show blkC N_law (defScope s_law) _ _ = true; decide +kernel)) (fun _ _ _ _ _ => (mg_name (i := 18) sc_law.nd rfl (by first | exact Or.inl rfl | exact Or.inr rfl))) (fun _ _ _ _ _ => (mts_one (m_cmpT op_le (p_cmp _).op (m_bin op_mulM p_mul.op (m_bin op_sub p_sub.op (m_bin op_mulM p_mul.op m_int (m_var (pv 18))) m_int) (m_var (pv 3))) (m_bin op_mulM p_mul.op m_int (m_var (pv 2))) (nomark _)))) (fun _ _ _ _ _ => (m_var (pv 18))))))) (ms_cons (ms_if (m_notT (m_truth (m_call (takes_of rfl rfl rfl rfl) (G__law_alike 4) (hr.mono (by omega)) rfl Z.m__law_alike Z.k__law_alike b__law_alike (m_arg (m_arg m_nil (m_tup (m_arg (m_arg (m_arg m_nil (m_var (pv 11))) (m_var (pv 10))) (m_var (pv 9))))) (m_tup (m_arg (m_arg (m_arg m_nil (m_call (takes_of rfl rfl rfl rfl) G_nearest (hr.mono (by omega)) rfl Z.m_nearest Z.k_nearest b_nearest (m_arg m_nil (m_var (pv 6))))) (m_call (takes_of rfl rfl rfl rfl) G_ceiling_of (hr.mono (by omega)) rfl Z.m_ceiling_of Z.k_ceiling_of b_ceiling_of (m_arg m_nil (m_var (pv 6))))) (m_call (takes_of rfl rfl rfl rfl) G_floor_of (hr.mono (by omega)) rfl Z.m_floor_of Z.k_floor_of b_floor_of (m_arg m_nil (m_var (pv 6)))))))))) (ms_one (ms_ret m_bl)) ms_nil) (ms_cons (ms_par2 (i := 12) (j := 13) rfl sc_law.nd rfl rfl (by decide) rfl rfl (m_arg (m_arg m_nil (m_tup (m_arg (m_arg m_nil m_int) m_int))) (m_bin op_addM p_add.op (m_lst (m_arg (m_arg m_nil (m_var (pv 7))) (m_var (pv 6)))) (m_lc false (own := [("k", 18)]) rfl sc_law.nd (mv (mi_range1 rfl Z.z_range (m_arg m_nil (m_call (takes_of rfl rfl rfl rfl) G__law_taken (hr.mono (by omega)) rfl Z.m__law_taken Z.k__law_taken b__law_taken (m_arg (m_arg m_nil m_int) (m_var (pv 1))))))) (blkOk_by (by show blkC N_law (defScope s_law) _ _ = true; decide +kernel)) (fun _ _ _ _ _ => (mg_name (i := 18) sc_law.nd rfl (by first | exact Or.inl rfl | exact Or.inr rfl))) (fun _ _ _ _ _ => mts_nil) (fun _ _ _ _ _ => (m_call takes0 G_reduced (hr.mono (by omega)) rfl Z.m_reduced Z.k_reduced b_reduced (m_arg (m_arg m_nil (m_bin op_addM p_add.op m_int (m_call takes0 G__law_taken (hr.mono (by omega)) rfl Z.m__law_taken Z.k__law_taken b__law_taken (m_arg (m_arg m_nil m_int) (m_var (pv 1)))))) (m_bin op_sub p_sub.op (m_call takes0 G__law_taken (hr.mono (by omega)) rfl Z.m__law_taken Z.k__law_taken b__law_taken (m_arg (m_arg m_nil m_int) (m_var (pv 1)))) m_int)))))))) (ms_cons (ms_for (vs := [14]) (passes_of rfl) rfl (mv (mi_any (m_var (pv 12)))) (mg_name (i := 14) sc_law.nd rfl (by first | exact Or.inl rfl | exact Or.inr rfl)) (ms_one (ms_set (i := 13) sc_law.nd rfl (by first | exact Or.inl rfl | exact Or.inr rfl) (m_call (takes_of rfl rfl rfl rfl) G__law_low (hr.mono (by omega)) rfl Z.m__law_low Z.k__law_low b__law_low (m_arg (m_arg m_nil (m_bin op_mulM p_mul.op (m_ix (m_var (pv 13)) m_int) (m_ix (m_var (pv 14)) m_int))) (m_bin op_addM p_add.op (m_bin op_mulM p_mul.op (m_ix (m_var (pv 13)) m_int) (m_ix (m_var (pv 14)) m_int)) (m_bin op_mulM p_mul.op (m_ix (m_var (pv 14)) m_int) (m_ix (m_var (pv 13)) m_int)))))))) (ms_cons (ms_if (m_notT (m_truth (m_call (takes_of rfl rfl rfl rfl) (G__law_alike 4) (hr.mono (by omega)) rfl Z.m__law_alike Z.k__law_alike b__law_alike (m_arg (m_arg m_nil (m_var (pv 13))) (m_call (takes_of rfl rfl rfl rfl) G_total (hr.mono (by omega)) rfl Z.m_total Z.k_total b_total (m_arg m_nil (m_var (pv 12)))))))) (ms_one (ms_ret m_bl)) ms_nil) (ms_cons (ms_set (i := 15) sc_law.nd rfl (by first | exact Or.inl rfl | exact Or.inr rfl) (m_call (takes_of rfl rfl rfl rfl) G_median (hr.mono (by omega)) rfl Z.m_median Z.k_median b_median (m_arg m_nil (m_var (pv 12))))) (ms_cons (ms_set (i := 9) sc_law.nd rfl (by first | exact Or.inl rfl | exact Or.inr rfl) (m_b call_len' l_len rfl Z.z_len (by decide +kernel) (m_arg m_nil (m_lc false (own := [("part", 14)]) rfl sc_law.nd (mv (mi_any (m_var (pv 12)))) (blkOk_by (by show blkC N_law (defScope s_law) _ _ = true; decide +kernel)) (fun _ _ _ _ _ => (mg_name (i := 14) sc_law.nd rfl (by first | exact Or.inl rfl | exact Or.inr rfl))) (fun _ _ _ _ _ => (mts_one (m_cmpT op_lt (p_cmp _).op (m_bin op_mulM p_mul.op (m_ix (m_var (pv 14)) m_int) (m_ix (m_var (pv 15)) m_int)) (m_bin op_mulM p_mul.op (m_ix (m_var (pv 15)) m_int) (m_ix (m_var (pv 14)) m_int)) (nomark _)))) (fun _ _ _ _ _ => m_int))))) (ms_cons (ms_set (i := 10) sc_law.nd rfl (by first | exact Or.inl rfl | exact Or.inr rfl) (m_b call_len' l_len rfl Z.z_len (by decide +kernel) (m_arg m_nil (m_lc false (own := [("part", 14)]) rfl sc_law.nd (mv (mi_any (m_var (pv 12)))) (blkOk_by (by show blkC N_law (defScope s_law) _ _ = true; decide +kernel)) (fun _ _ _ _ _ => (mg_name (i := 14) sc_law.nd rfl (by first | exact Or.inl rfl | exact Or.inr rfl))) (fun _ _ _ _ _ => (mts_one (m_cmpT op_gt (p_cmp _).op (m_bin op_mulM p_mul.op (m_ix (m_var (pv 14)) m_int) (m_ix (m_var (pv 15)) m_int)) (m_bin op_mulM p_mul.op (m_ix (m_var (pv 15)) m_int) (m_ix (m_var (pv 14)) m_int)) (nomark _)))) (fun _ _ _ _ _ => m_int))))) (ms_cons (ms_if (m_pw (m_wor (m_cmpT op_gt (p_cmp _).op (m_bin op_mulM p_mul.op m_int (m_var (pv 9))) (m_b call_len' l_len rfl Z.z_len (by decide +kernel) (m_arg m_nil (m_var (pv 12)))) (nomark _)) (m_wor (m_cmpT op_gt (p_cmp _).op (m_bin op_mulM p_mul.op m_int (m_var (pv 10))) (m_b call_len' l_len rfl Z.z_len (by decide +kernel) (m_arg m_nil (m_var (pv 12)))) (nomark _)) (m_wor1 (m_pw (m_wand (m_cmpT (op_eqD hu64) p_eq.op (m_bin op_mod p_mod.op (m_b call_len' l_len rfl Z.z_len (by decide +kernel) (m_arg m_nil (m_var (pv 12)))) m_int) m_int (nomark _)) (m_wand1 (m_cmpT (op_ninM hu66) p_nin.op (m_var (pv 15)) (m_var (pv 12)) rfl)))))))) (ms_one (ms_ret m_bl)) ms_nil) (ms_cons (ms_for (vs := [16]) (passes_of rfl) rfl (mv (mi_any (m_lst (m_arg (m_arg (m_arg (m_arg (m_arg (m_arg (m_arg (m_arg (m_arg m_nil (m_tup (m_arg (m_arg m_nil (m_un un_neg p_neg.op m_int)) m_int))) m_int) (m_lst (m_arg (m_arg (m_arg m_nil m_int) m_int) m_int))) (m_tup (m_arg (m_arg m_nil m_int) m_bl))) (m_tup (m_arg m_nil m_int))) (m_tup (m_arg (m_arg m_nil m_int) m_int))) (m_tup (m_arg (m_arg m_nil m_int) m_int))) (m_tup (m_arg (m_arg m_nil m_int) m_int))) m_non)))) (mg_name (i := 16) sc_law.nd rfl (by first | exact Or.inl rfl | exact Or.inr rfl)) (ms_cons (ms_if (m_truth (m_call (takes_of rfl rfl rfl rfl) G_is_fraction (hr.mono (by omega)) rfl Z.m_is_fraction Z.k_is_fraction b_is_fraction (m_arg m_nil (m_var (pv 16))))) (ms_one (ms_ret m_bl)) ms_nil) (ms_one (ms_try_as (i := 17) rfl rfl sc_law.nd rfl rfl ⟨rfl, by decide, Or.inl Z.m_BadNumber⟩ (takes_of rfl rfl rfl rfl) Z.te_BadNumber (fun W pn xe tk hp => (ms_cons (ms_ex (m_call tk G_want_fraction (hr.mono (by omega)) rfl Z.m_want_fraction Z.k_want_fraction b_want_fraction (m_arg m_nil (m_var (pv 16))))) (ms_one (ms_ret m_bl)))) (fun a oe c d pn ht hz hf => (ms_one (ms_if (m_cmpT (op_neD hu64) p_ne.op (m_repr hGd hu66 rfl Z.z_repr (by decide +kernel) (m_xf (Z.xf_BadNumber c ht) (Z.nf_BadNumber_value c ht) hz hf (m_var (pv 17)))) (m_repr hGd hu66 rfl Z.z_repr (by decide +kernel) (m_var (pv 16))) (nomark _)) (ms_one (ms_ret m_bl)) ms_nil))))))) (ms_one (ms_ret (m_call (takes_of rfl rfl rfl rfl) (G__law_alike 4) (hr.mono (by omega)) rfl Z.m__law_alike Z.k__law_alike b__law_alike (m_arg (m_arg m_nil (m_var (pv 6))) (m_call (takes_of rfl rfl rfl rfl) G_want_fraction (hr.mono (by omega)) rfl Z.m_want_fraction Z.k_want_fraction b_want_fraction (m_arg m_nil (m_bT call_list_of l_lst rfl Z.z_list (by decide +kernel) (m_arg m_nil (m_var (pv 6))))))))))))))))))))))))))))
theorem all_mk {w : World} {K : PySem.W.Frag} {h : Heap} {mg : PySem.Str → Option Value} {fa : Addr} (X : K.In h) (G : h.Ns mainGlobals mg) (hfa : mg "law" = some (.ref fa))
    {f__law_alike : Addr} {od__law_alike an__law_alike : Option Addr} {sl__law_alike : Array (Option Value)} {oc__law_alike kV__law_alike dc__law_alike pm__law_alike cd__law_alike ct__law_alike : Value}
    {f__law_low : Addr} {od__law_low an__law_low : Option Addr} {sl__law_low : Array (Option Value)} {oc__law_low kV__law_low dc__law_low pm__law_low cd__law_low ct__law_low : Value}
    {f__law_taken : Addr} {od__law_taken an__law_taken : Option Addr} {sl__law_taken : Array (Option Value)} {oc__law_taken kV__law_taken dc__law_taken pm__law_taken cd__law_taken ct__law_taken : Value}
    {f__law_truth : Addr} {od__law_truth an__law_truth : Option Addr} {sl__law_truth : Array (Option Value)} {oc__law_truth kV__law_truth dc__law_truth pm__law_truth cd__law_truth ct__law_truth : Value}
    {f_ceiling_of : Addr} {od_ceiling_of an_ceiling_of : Option Addr} {sl_ceiling_of : Array (Option Value)} {oc_ceiling_of kV_ceiling_of dc_ceiling_of pm_ceiling_of cd_ceiling_of ct_ceiling_of : Value}
    {f_floor_of : Addr} {od_floor_of an_floor_of : Option Addr} {sl_floor_of : Array (Option Value)} {oc_floor_of kV_floor_of dc_floor_of pm_floor_of cd_floor_of ct_floor_of : Value}
    {f_is_row : Addr} {od_is_row an_is_row : Option Addr} {sl_is_row : Array (Option Value)} {oc_is_row kV_is_row dc_is_row pm_is_row cd_is_row ct_is_row : Value}
    {f_is_whole : Addr} {od_is_whole an_is_whole : Option Addr} {sl_is_whole : Array (Option Value)} {oc_is_whole kV_is_whole dc_is_whole pm_is_whole cd_is_whole ct_is_whole : Value}
    {f_reduced : Addr} {od_reduced an_reduced : Option Addr} {sl_reduced : Array (Option Value)} {oc_reduced kV_reduced dc_reduced pm_reduced cd_reduced ct_reduced : Value}
    {f_is_fraction : Addr} {od_is_fraction an_is_fraction : Option Addr} {sl_is_fraction : Array (Option Value)} {oc_is_fraction kV_is_fraction dc_is_fraction pm_is_fraction cd_is_fraction ct_is_fraction : Value}
    {f_is_less : Addr} {od_is_less an_is_less : Option Addr} {sl_is_less : Array (Option Value)} {oc_is_less kV_is_less dc_is_less pm_is_less cd_is_less ct_is_less : Value}
    {f_plus : Addr} {od_plus an_plus : Option Addr} {sl_plus : Array (Option Value)} {oc_plus kV_plus dc_plus pm_plus cd_plus ct_plus : Value}
    {f_times : Addr} {od_times an_times : Option Addr} {sl_times : Array (Option Value)} {oc_times kV_times dc_times pm_times cd_times ct_times : Value}
    {f_median : Addr} {od_median an_median : Option Addr} {sl_median : Array (Option Value)} {oc_median kV_median dc_median pm_median cd_median ct_median : Value}
    {f_minus : Addr} {od_minus an_minus : Option Addr} {sl_minus : Array (Option Value)} {oc_minus kV_minus dc_minus pm_minus cd_minus ct_minus : Value}
    {f_nearest : Addr} {od_nearest an_nearest : Option Addr} {sl_nearest : Array (Option Value)} {oc_nearest kV_nearest dc_nearest pm_nearest cd_nearest ct_nearest : Value}
    {f_over : Addr} {od_over an_over : Option Addr} {sl_over : Array (Option Value)} {oc_over kV_over dc_over pm_over cd_over ct_over : Value}
    {f_total : Addr} {od_total an_total : Option Addr} {sl_total : Array (Option Value)} {oc_total kV_total dc_total pm_total cd_total ct_total : Value}
    {f_want_fraction : Addr} {od_want_fraction an_want_fraction : Option Addr} {sl_want_fraction : Array (Option Value)} {oc_want_fraction kV_want_fraction dc_want_fraction pm_want_fraction cd_want_fraction ct_want_fraction : Value}
    {f_law : Addr} {od_law an_law : Option Addr} {sl_law : Array (Option Value)} {oc_law kV_law dc_law pm_law cd_law ct_law : Value}
    {C_BadNumber N_BadNumber e_BadNumber cc_BadNumber cda_BadNumber : Addr} {nm_BadNumber q_BadNumber : PySem.Str} {bs_BadNumber bm_BadNumber : List Value} {sn_BadNumber : List PySem.Str} {sub_BadNumber : List Value} {ab_BadNumber : Bool} {col_BadNumber : Option Bool} {dd_BadNumber : Option Addr} {m0_BadNumber m1_BadNumber m2_BadNumber m3_BadNumber m5_BadNumber : Option Value}
    {eoc_BadNumber ekV_BadNumber edc_BadNumber epm_BadNumber ect_BadNumber : Value} {eod_BadNumber ean_BadNumber : Option Addr} {esl_BadNumber : Array (Option Value)} {ccl_BadNumber cl_BadNumber : Value} {cdd_BadNumber cld_BadNumber : Option Addr} {vs_BadNumber : Array Value} {ccs_BadNumber csl_BadNumber : Array (Option Value)} {file_BadNumber : PySem.Str} {tf_BadNumber : Tok} {cdD_BadNumber : ClassData}
    (a__law_alike : PySem.W.nsIn K mainGlobals "_law_alike" = some (some (.ref f__law_alike)))
    (l__law_alike : K.lookup f__law_alike = some ⟨oc__law_alike, od__law_alike, .func (PySem.W.fnOf "_law_alike" "_law_alike" (defArgs s__law_alike) (defBody s__law_alike) (defScope s__law_alike) .none kV__law_alike dc__law_alike pm__law_alike an__law_alike cd__law_alike ct__law_alike), sl__law_alike⟩)
    (c__law_alike : PySem.W.codeIn K cd__law_alike "_law_alike" = true)
    (k__law_alike : PySem.W.keepIn K (.ref f__law_alike) = true)
    (a__law_low : PySem.W.nsIn K mainGlobals "_law_low" = some (some (.ref f__law_low)))
    (l__law_low : K.lookup f__law_low = some ⟨oc__law_low, od__law_low, .func (PySem.W.fnOf "_law_low" "_law_low" (defArgs s__law_low) (defBody s__law_low) (defScope s__law_low) .none kV__law_low dc__law_low pm__law_low an__law_low cd__law_low ct__law_low), sl__law_low⟩)
    (c__law_low : PySem.W.codeIn K cd__law_low "_law_low" = true)
    (k__law_low : PySem.W.keepIn K (.ref f__law_low) = true)
    (a__law_taken : PySem.W.nsIn K mainGlobals "_law_taken" = some (some (.ref f__law_taken)))
    (l__law_taken : K.lookup f__law_taken = some ⟨oc__law_taken, od__law_taken, .func (PySem.W.fnOf "_law_taken" "_law_taken" (defArgs s__law_taken) (defBody s__law_taken) (defScope s__law_taken) .none kV__law_taken dc__law_taken pm__law_taken an__law_taken cd__law_taken ct__law_taken), sl__law_taken⟩)
    (c__law_taken : PySem.W.codeIn K cd__law_taken "_law_taken" = true)
    (k__law_taken : PySem.W.keepIn K (.ref f__law_taken) = true)
    (a__law_truth : PySem.W.nsIn K mainGlobals "_law_truth" = some (some (.ref f__law_truth)))
    (l__law_truth : K.lookup f__law_truth = some ⟨oc__law_truth, od__law_truth, .func (PySem.W.fnOf "_law_truth" "_law_truth" (defArgs s__law_truth) (defBody s__law_truth) (defScope s__law_truth) .none kV__law_truth dc__law_truth pm__law_truth an__law_truth cd__law_truth ct__law_truth), sl__law_truth⟩)
    (c__law_truth : PySem.W.codeIn K cd__law_truth "_law_truth" = true)
    (k__law_truth : PySem.W.keepIn K (.ref f__law_truth) = true)
    (a_ceiling_of : PySem.W.nsIn K mainGlobals "ceiling_of" = some (some (.ref f_ceiling_of)))
    (l_ceiling_of : K.lookup f_ceiling_of = some ⟨oc_ceiling_of, od_ceiling_of, .func (PySem.W.fnOf "ceiling_of" "ceiling_of" (defArgs s_ceiling_of) (defBody s_ceiling_of) (defScope s_ceiling_of) .none kV_ceiling_of dc_ceiling_of pm_ceiling_of an_ceiling_of cd_ceiling_of ct_ceiling_of), sl_ceiling_of⟩)
    (c_ceiling_of : PySem.W.codeIn K cd_ceiling_of "ceiling_of" = true)
    (k_ceiling_of : PySem.W.keepIn K (.ref f_ceiling_of) = true)
    (a_floor_of : PySem.W.nsIn K mainGlobals "floor_of" = some (some (.ref f_floor_of)))
    (l_floor_of : K.lookup f_floor_of = some ⟨oc_floor_of, od_floor_of, .func (PySem.W.fnOf "floor_of" "floor_of" (defArgs s_floor_of) (defBody s_floor_of) (defScope s_floor_of) .none kV_floor_of dc_floor_of pm_floor_of an_floor_of cd_floor_of ct_floor_of), sl_floor_of⟩)
    (c_floor_of : PySem.W.codeIn K cd_floor_of "floor_of" = true)
    (k_floor_of : PySem.W.keepIn K (.ref f_floor_of) = true)
    (a_is_row : PySem.W.nsIn K mainGlobals "is_row" = some (some (.ref f_is_row)))
    (l_is_row : K.lookup f_is_row = some ⟨oc_is_row, od_is_row, .func (PySem.W.fnOf "is_row" "is_row" (defArgs s_is_row) (defBody s_is_row) (defScope s_is_row) .none kV_is_row dc_is_row pm_is_row an_is_row cd_is_row ct_is_row), sl_is_row⟩)
    (c_is_row : PySem.W.codeIn K cd_is_row "is_row" = true)
    (k_is_row : PySem.W.keepIn K (.ref f_is_row) = true)
    (a_is_whole : PySem.W.nsIn K mainGlobals "is_whole" = some (some (.ref f_is_whole)))
    (l_is_whole : K.lookup f_is_whole = some ⟨oc_is_whole, od_is_whole, .func (PySem.W.fnOf "is_whole" "is_whole" (defArgs s_is_whole) (defBody s_is_whole) (defScope s_is_whole) .none kV_is_whole dc_is_whole pm_is_whole an_is_whole cd_is_whole ct_is_whole), sl_is_whole⟩)
    (c_is_whole : PySem.W.codeIn K cd_is_whole "is_whole" = true)
    (k_is_whole : PySem.W.keepIn K (.ref f_is_whole) = true)
    (a_reduced : PySem.W.nsIn K mainGlobals "reduced" = some (some (.ref f_reduced)))
    (l_reduced : K.lookup f_reduced = some ⟨oc_reduced, od_reduced, .func (PySem.W.fnOf "reduced" "reduced" (defArgs s_reduced) (defBody s_reduced) (defScope s_reduced) .none kV_reduced dc_reduced pm_reduced an_reduced cd_reduced ct_reduced), sl_reduced⟩)
    (c_reduced : PySem.W.codeIn K cd_reduced "reduced" = true)
    (k_reduced : PySem.W.keepIn K (.ref f_reduced) = true)
    (a_is_fraction : PySem.W.nsIn K mainGlobals "is_fraction" = some (some (.ref f_is_fraction)))
    (l_is_fraction : K.lookup f_is_fraction = some ⟨oc_is_fraction, od_is_fraction, .func (PySem.W.fnOf "is_fraction" "is_fraction" (defArgs s_is_fraction) (defBody s_is_fraction) (defScope s_is_fraction) .none kV_is_fraction dc_is_fraction pm_is_fraction an_is_fraction cd_is_fraction ct_is_fraction), sl_is_fraction⟩)
    (c_is_fraction : PySem.W.codeIn K cd_is_fraction "is_fraction" = true)
    (k_is_fraction : PySem.W.keepIn K (.ref f_is_fraction) = true)
    (a_is_less : PySem.W.nsIn K mainGlobals "is_less" = some (some (.ref f_is_less)))
    (l_is_less : K.lookup f_is_less = some ⟨oc_is_less, od_is_less, .func (PySem.W.fnOf "is_less" "is_less" (defArgs s_is_less) (defBody s_is_less) (defScope s_is_less) .none kV_is_less dc_is_less pm_is_less an_is_less cd_is_less ct_is_less), sl_is_less⟩)
    (c_is_less : PySem.W.codeIn K cd_is_less "is_less" = true)
    (k_is_less : PySem.W.keepIn K (.ref f_is_less) = true)
    (a_plus : PySem.W.nsIn K mainGlobals "plus" = some (some (.ref f_plus)))
    (l_plus : K.lookup f_plus = some ⟨oc_plus, od_plus, .func (PySem.W.fnOf "plus" "plus" (defArgs s_plus) (defBody s_plus) (defScope s_plus) .none kV_plus dc_plus pm_plus an_plus cd_plus ct_plus), sl_plus⟩)
    (c_plus : PySem.W.codeIn K cd_plus "plus" = true)
    (k_plus : PySem.W.keepIn K (.ref f_plus) = true)
    (a_times : PySem.W.nsIn K mainGlobals "times" = some (some (.ref f_times)))
    (l_times : K.lookup f_times = some ⟨oc_times, od_times, .func (PySem.W.fnOf "times" "times" (defArgs s_times) (defBody s_times) (defScope s_times) .none kV_times dc_times pm_times an_times cd_times ct_times), sl_times⟩)
    (c_times : PySem.W.codeIn K cd_times "times" = true)
    (k_times : PySem.W.keepIn K (.ref f_times) = true)
    (a_median : PySem.W.nsIn K mainGlobals "median" = some (some (.ref f_median)))
    (l_median : K.lookup f_median = some ⟨oc_median, od_median, .func (PySem.W.fnOf "median" "median" (defArgs s_median) (defBody s_median) (defScope s_median) .none kV_median dc_median pm_median an_median cd_median ct_median), sl_median⟩)
    (c_median : PySem.W.codeIn K cd_median "median" = true)
    (k_median : PySem.W.keepIn K (.ref f_median) = true)
    (a_minus : PySem.W.nsIn K mainGlobals "minus" = some (some (.ref f_minus)))
    (l_minus : K.lookup f_minus = some ⟨oc_minus, od_minus, .func (PySem.W.fnOf "minus" "minus" (defArgs s_minus) (defBody s_minus) (defScope s_minus) .none kV_minus dc_minus pm_minus an_minus cd_minus ct_minus), sl_minus⟩)
    (c_minus : PySem.W.codeIn K cd_minus "minus" = true)
    (k_minus : PySem.W.keepIn K (.ref f_minus) = true)
    (a_nearest : PySem.W.nsIn K mainGlobals "nearest" = some (some (.ref f_nearest)))
    (l_nearest : K.lookup f_nearest = some ⟨oc_nearest, od_nearest, .func (PySem.W.fnOf "nearest" "nearest" (defArgs s_nearest) (defBody s_nearest) (defScope s_nearest) .none kV_nearest dc_nearest pm_nearest an_nearest cd_nearest ct_nearest), sl_nearest⟩)
    (c_nearest : PySem.W.codeIn K cd_nearest "nearest" = true)
    (k_nearest : PySem.W.keepIn K (.ref f_nearest) = true)
    (a_over : PySem.W.nsIn K mainGlobals "over" = some (some (.ref f_over)))
    (l_over : K.lookup f_over = some ⟨oc_over, od_over, .func (PySem.W.fnOf "over" "over" (defArgs s_over) (defBody s_over) (defScope s_over) .none kV_over dc_over pm_over an_over cd_over ct_over), sl_over⟩)
    (c_over : PySem.W.codeIn K cd_over "over" = true)
    (k_over : PySem.W.keepIn K (.ref f_over) = true)
    (a_total : PySem.W.nsIn K mainGlobals "total" = some (some (.ref f_total)))
    (l_total : K.lookup f_total = some ⟨oc_total, od_total, .func (PySem.W.fnOf "total" "total" (defArgs s_total) (defBody s_total) (defScope s_total) .none kV_total dc_total pm_total an_total cd_total ct_total), sl_total⟩)
    (c_total : PySem.W.codeIn K cd_total "total" = true)
    (k_total : PySem.W.keepIn K (.ref f_total) = true)
    (a_want_fraction : PySem.W.nsIn K mainGlobals "want_fraction" = some (some (.ref f_want_fraction)))
    (l_want_fraction : K.lookup f_want_fraction = some ⟨oc_want_fraction, od_want_fraction, .func (PySem.W.fnOf "want_fraction" "want_fraction" (defArgs s_want_fraction) (defBody s_want_fraction) (defScope s_want_fraction) .none kV_want_fraction dc_want_fraction pm_want_fraction an_want_fraction cd_want_fraction ct_want_fraction), sl_want_fraction⟩)
    (c_want_fraction : PySem.W.codeIn K cd_want_fraction "want_fraction" = true)
    (k_want_fraction : PySem.W.keepIn K (.ref f_want_fraction) = true)
    (a_law : PySem.W.nsIn K mainGlobals "law" = some (some (.ref f_law)))
    (l_law : K.lookup f_law = some ⟨oc_law, od_law, .func (PySem.W.fnOf "law" "law" (defArgs s_law) (defBody s_law) (defScope s_law) .none kV_law dc_law pm_law an_law cd_law ct_law), sl_law⟩)
    (c_law : PySem.W.codeIn K cd_law "law" = true)
    (k_law : PySem.W.keepIn K (.ref f_law) = true)
    (a_BadNumber : PySem.W.nsIn K mainGlobals "BadNumber" = some (some (.ref C_BadNumber)))
    (x_BadNumber : K.lookup C_BadNumber = some (excClassObj nm_BadNumber q_BadNumber C_BadNumber N_BadNumber bs_BadNumber bm_BadNumber true sn_BadNumber sub_BadNumber ab_BadNumber col_BadNumber dd_BadNumber m0_BadNumber m1_BadNumber m2_BadNumber m3_BadNumber m5_BadNumber "ValueError.__new__"))
    (rv_BadNumber : PySem.HandSPX.refsVE bm_BadNumber = true)
    (sa_BadNumber : PySem.W.findIn K (.ref C_BadNumber) "__setattr__" = some (some (.builtin "object.__setattr__")))
    (ga_BadNumber : PySem.W.findIn K (.ref C_BadNumber) "__getattribute__" = some (some (.builtin "BaseException.__getattribute__")))
    (gg_BadNumber : PySem.W.findIn K (.ref C_BadNumber) "__getattr__" = some none)
    (eC_BadNumber : PySem.W.subIn K (.ref C_BadNumber) (.type "BaseException") = some true)
    (tC_BadNumber : PySem.W.typeIn K (.ref C_BadNumber) = some (.type "type"))
    (kC_BadNumber : PySem.W.keepIn K (.ref C_BadNumber) = true)
    (hC_BadNumber : PySem.W.hasDictIn K C_BadNumber = true)
    (nf_BadNumber_value : PySem.W.findIn K (.ref C_BadNumber) "value" = some none)
    (iI_BadNumber : PySem.W.findIn K (.ref C_BadNumber) "__init__" = some (some (.ref e_BadNumber)))
    (tI_BadNumber : PySem.W.typeIn K (.ref e_BadNumber) = some (.type "function"))
    (l_BadNumber : K.lookup e_BadNumber = some ⟨eoc_BadNumber, eod_BadNumber, .func (PySem.W.ksFn "__init__" "BadNumber.__init__" (defArgs i_BadNumber) (defBody i_BadNumber) (defScope i_BadNumber) .none ekV_BadNumber edc_BadNumber epm_BadNumber ean_BadNumber (.ref cda_BadNumber) ect_BadNumber cc_BadNumber), esl_BadNumber⟩)
    (ci_BadNumber : PySem.W.codeIn K (.ref cda_BadNumber) "BadNumber.__init__" = true)
    (co_BadNumber : K.lookup cda_BadNumber = some ⟨ccl_BadNumber, cdd_BadNumber, .fields vs_BadNumber, ccs_BadNumber⟩)
    (cv_BadNumber : vs_BadNumber[2]? = some (.str file_BadNumber tf_BadNumber))
    (cf_BadNumber : ((PySem.Challenge.pw_chartways_k10_whole_fractions.main.file : PySem.Str) == file_BadNumber) = true)
    (ce_BadNumber : K.lookup cc_BadNumber = some ⟨cl_BadNumber, cld_BadNumber, .cell (some (.ref C_BadNumber)), csl_BadNumber⟩)
    (cls_BadNumber : PySem.W.clsIn K C_BadNumber = some cdD_BadNumber)
    (ms_BadNumber : PySem.W.mroIn K C_BadNumber (.ref C_BadNumber) = some true)
    (sI_BadNumber : PySem.W.ks_superIn K C_BadNumber C_BadNumber "__init__" = some (some (.builtin "ValueError.__init__")))
    (sv_BadNumber : PySem.W.subIn K (.ref C_BadNumber) (.type "ValueError") = some true)
    (ic_BadNumber : PySem.W.isClsIn K C_BadNumber = true)
    (sS_BadNumber : PySem.W.subIn K (.ref C_BadNumber) (.ref C_BadNumber) = some true)
    (opq : PySem.W.nsIn K PySem.cStatics "thirdparty.any" = some none)
    (sup : PySem.W.nsIn K mainGlobals "super" = some none)
    (z_abs : PySem.W.nsIn K mainGlobals "abs" = some none)
    (z_bool : PySem.W.nsIn K mainGlobals "bool" = some none)
    (z_int : PySem.W.nsIn K mainGlobals "int" = some none)
    (z_isinstance : PySem.W.nsIn K mainGlobals "isinstance" = some none)
    (z_len : PySem.W.nsIn K mainGlobals "len" = some none)
    (z_list : PySem.W.nsIn K mainGlobals "list" = some none)
    (z_max : PySem.W.nsIn K mainGlobals "max" = some none)
    (z_min : PySem.W.nsIn K mainGlobals "min" = some none)
    (z_range : PySem.W.nsIn K mainGlobals "range" = some none)
    (z_repr : PySem.W.nsIn K mainGlobals "repr" = some none)
    (z_str : PySem.W.nsIn K mainGlobals "str" = some none)
    (z_tuple : PySem.W.nsIn K mainGlobals "tuple" = some none) :
    ∃ (fd : FuncData) (T : Nat → Addr), (∀ (s : Shared) (u : Value), BindsTo s fd ⟨[u], []⟩ [("script", u)]) ∧ ∀ base : Heap, K.In base → base.Ns mainGlobals mg → FnG PySem.Challenge.pw_chartways_k10_whole_fractions w K mg base (L2.CX PySem.Challenge.pw_chartways_k10_whole_fractions w) 5 fa fd ["script"] (spM K T 1 F_law) := by
  have e := hfa.symm.trans (PySem.W.mg_of X G a_law)
  have e2 : f_law = fa := by
    cases e
    rfl
  subst e2
  let T : Nat → Addr := fun n => match n with | 0 => C_BadNumber | _ => 0
  have ox_BadNumber : OexC K C_BadNumber := ⟨⟨nm_BadNumber, q_BadNumber, N_BadNumber, bs_BadNumber, bm_BadNumber, sn_BadNumber, sub_BadNumber, ab_BadNumber, col_BadNumber, dd_BadNumber, m0_BadNumber, m1_BadNumber, m2_BadNumber, m3_BadNumber, m5_BadNumber, x_BadNumber, rv_BadNumber⟩, sa_BadNumber, eC_BadNumber, tC_BadNumber, kC_BadNumber⟩
  have sp_BadNumber : SupC PySem.Challenge.pw_chartways_k10_whole_fractions K mg C_BadNumber e_BadNumber cc_BadNumber cda_BadNumber "BadNumber.__init__" (inClass (top 2) 0) _ := ⟨ox_BadNumber, ⟨_, _, _, _, _, _, _, _, rfl, l_BadNumber⟩, ci_BadNumber, ⟨_, _, _, _, _, _, co_BadNumber, cv_BadNumber, cf_BadNumber⟩, ⟨_, _, _, ce_BadNumber⟩, ⟨_, cls_BadNumber⟩, ms_BadNumber, PySem.W.mg_none_of X G sup, opq, sI_BadNumber, sv_BadNumber, by decide +kernel⟩
  have Z : Txt K mg T f__law_alike f__law_low f__law_taken f__law_truth f_ceiling_of f_floor_of f_is_row f_is_whole f_reduced f_is_fraction f_is_less f_plus f_times f_median f_minus f_nearest f_over f_total f_want_fraction f_law e_BadNumber :=
    { m__law_alike := PySem.W.mg_of X G a__law_alike
      k__law_alike := k__law_alike
      m__law_low := PySem.W.mg_of X G a__law_low
      k__law_low := k__law_low
      m__law_taken := PySem.W.mg_of X G a__law_taken
      k__law_taken := k__law_taken
      m__law_truth := PySem.W.mg_of X G a__law_truth
      k__law_truth := k__law_truth
      m_ceiling_of := PySem.W.mg_of X G a_ceiling_of
      k_ceiling_of := k_ceiling_of
      m_floor_of := PySem.W.mg_of X G a_floor_of
      k_floor_of := k_floor_of
      m_is_fraction := PySem.W.mg_of X G a_is_fraction
      k_is_fraction := k_is_fraction
      m_is_less := PySem.W.mg_of X G a_is_less
      k_is_less := k_is_less
      m_is_row := PySem.W.mg_of X G a_is_row
      k_is_row := k_is_row
      m_is_whole := PySem.W.mg_of X G a_is_whole
      k_is_whole := k_is_whole
      m_median := PySem.W.mg_of X G a_median
      k_median := k_median
      m_minus := PySem.W.mg_of X G a_minus
      k_minus := k_minus
      m_nearest := PySem.W.mg_of X G a_nearest
      k_nearest := k_nearest
      m_over := PySem.W.mg_of X G a_over
      k_over := k_over
      m_plus := PySem.W.mg_of X G a_plus
      k_plus := k_plus
      m_reduced := PySem.W.mg_of X G a_reduced
      k_reduced := k_reduced
      m_times := PySem.W.mg_of X G a_times
      k_times := k_times
      m_total := PySem.W.mg_of X G a_total
      k_total := k_total
      m_want_fraction := PySem.W.mg_of X G a_want_fraction
      k_want_fraction := k_want_fraction
      z_abs := PySem.W.mg_none_of X G z_abs
      z_bool := PySem.W.mg_none_of X G z_bool
      z_int := PySem.W.mg_none_of X G z_int
      z_isinstance := PySem.W.mg_none_of X G z_isinstance
      z_len := PySem.W.mg_none_of X G z_len
      z_list := PySem.W.mg_none_of X G z_list
      z_max := PySem.W.mg_none_of X G z_max
      z_min := PySem.W.mg_none_of X G z_min
      z_range := PySem.W.mg_none_of X G z_range
      z_repr := PySem.W.mg_none_of X G z_repr
      z_str := PySem.W.mg_none_of X G z_str
      z_tuple := PySem.W.mg_none_of X G z_tuple
      m_BadNumber := PySem.W.mg_of X G a_BadNumber
      ox_BadNumber := ox_BadNumber
      iC_BadNumber := iI_BadNumber
      tI_BadNumber := tI_BadNumber
      te_BadNumber := fun c b h => by
        unfold K10.t_BadNumber at h
        split at h
        · rename_i e
          cases e
          cases h
          exact exm_at eC_BadNumber ic_BadNumber tC_BadNumber sS_BadNumber
        · cases h
      xf_BadNumber := fun c h => by
        unfold K10.t_BadNumber at h
        split at h
        · rename_i e
          cases e
          exact ⟨ga_BadNumber, gg_BadNumber, eC_BadNumber, hC_BadNumber⟩
        · cases h
      nf_BadNumber_value := fun c h => by
        unfold K10.t_BadNumber at h
        split at h
        · rename_i e
          cases e
          exact nf_BadNumber_value
        · cases h }
  have u__law_alike := fun_mk (st := s__law_alike) l__law_alike c__law_alike k__law_alike
  have u__law_low := fun_mk (st := s__law_low) l__law_low c__law_low k__law_low
  have u__law_taken := fun_mk (st := s__law_taken) l__law_taken c__law_taken k__law_taken
  have u__law_truth := fun_mk (st := s__law_truth) l__law_truth c__law_truth k__law_truth
  have u_ceiling_of := fun_mk (st := s_ceiling_of) l_ceiling_of c_ceiling_of k_ceiling_of
  have u_floor_of := fun_mk (st := s_floor_of) l_floor_of c_floor_of k_floor_of
  have u_is_row := fun_mk (st := s_is_row) l_is_row c_is_row k_is_row
  have u_is_whole := fun_mk (st := s_is_whole) l_is_whole c_is_whole k_is_whole
  have u_reduced := fun_mk (st := s_reduced) l_reduced c_reduced k_reduced
  have u_is_fraction := fun_mk (st := s_is_fraction) l_is_fraction c_is_fraction k_is_fraction
  have u_is_less := fun_mk (st := s_is_less) l_is_less c_is_less k_is_less
  have u_plus := fun_mk (st := s_plus) l_plus c_plus k_plus
  have u_times := fun_mk (st := s_times) l_times c_times k_times
  have u_median := fun_mk (st := s_median) l_median c_median k_median
  have u_minus := fun_mk (st := s_minus) l_minus c_minus k_minus
  have u_nearest := fun_mk (st := s_nearest) l_nearest c_nearest k_nearest
  have u_over := fun_mk (st := s_over) l_over c_over k_over
  have u_total := fun_mk (st := s_total) l_total c_total k_total
  have u_want_fraction := fun_mk (st := s_want_fraction) l_want_fraction c_want_fraction k_want_fraction
  have u_law := fun_mk (st := s_law) l_law c_law k_law
  have b__law_alike := u__law_alike.binds (ps := P__law_alike) fun _ _ _ _ _ _ us hl => match us, hl with | [_, _], _ => rfl
  have b__law_low := u__law_low.binds (ps := P__law_low) fun _ _ _ _ _ _ us hl => match us, hl with | [_, _], _ => rfl
  have b__law_taken := u__law_taken.binds (ps := P__law_taken) fun _ _ _ _ _ _ us hl => match us, hl with | [_, _], _ => rfl
  have b__law_truth := u__law_truth.binds (ps := P__law_truth) fun _ _ _ _ _ _ us hl => match us, hl with | [_, _], _ => rfl
  have b_ceiling_of := u_ceiling_of.binds (ps := P_ceiling_of) fun _ _ _ _ _ _ us hl => match us, hl with | [_], _ => rfl
  have b_floor_of := u_floor_of.binds (ps := P_floor_of) fun _ _ _ _ _ _ us hl => match us, hl with | [_], _ => rfl
  have b_is_fraction := u_is_fraction.binds (ps := P_is_fraction) fun _ _ _ _ _ _ us hl => match us, hl with | [_], _ => rfl
  have b_is_less := u_is_less.binds (ps := P_is_less) fun _ _ _ _ _ _ us hl => match us, hl with | [_, _], _ => rfl
  have b_is_row := u_is_row.binds (ps := P_is_row) fun _ _ _ _ _ _ us hl => match us, hl with | [_], _ => rfl
  have b_is_whole := u_is_whole.binds (ps := P_is_whole) fun _ _ _ _ _ _ us hl => match us, hl with | [_], _ => rfl
  have b_median := u_median.binds (ps := P_median) fun _ _ _ _ _ _ us hl => match us, hl with | [_], _ => rfl
  have b_minus := u_minus.binds (ps := P_minus) fun _ _ _ _ _ _ us hl => match us, hl with | [_, _], _ => rfl
  have b_nearest := u_nearest.binds (ps := P_nearest) fun _ _ _ _ _ _ us hl => match us, hl with | [_], _ => rfl
  have b_over := u_over.binds (ps := P_over) fun _ _ _ _ _ _ us hl => match us, hl with | [_, _], _ => rfl
  have b_plus := u_plus.binds (ps := P_plus) fun _ _ _ _ _ _ us hl => match us, hl with | [_, _], _ => rfl
  have b_reduced := u_reduced.binds (ps := P_reduced) fun _ _ _ _ _ _ us hl => match us, hl with | [_, _], _ => rfl
  have b_times := u_times.binds (ps := P_times) fun _ _ _ _ _ _ us hl => match us, hl with | [_, _], _ => rfl
  have b_total := u_total.binds (ps := P_total) fun _ _ _ _ _ _ us hl => match us, hl with | [_], _ => rfl
  have b_want_fraction := u_want_fraction.binds (ps := P_want_fraction) fun _ _ _ _ _ _ us hl => match us, hl with | [_], _ => rfl
  have be_BadNumber : Binds K (PySem.W.ksFn "__init__" "BadNumber.__init__" (defArgs (inClass (top 2) 0)) (defBody (inClass (top 2) 0)) (defScope (inClass (top 2) 0)) .none ekV_BadNumber edc_BadNumber epm_BadNumber ean_BadNumber (.ref cda_BadNumber) ect_BadNumber cc_BadNumber) PE_BadNumber [] := .all fun us hl => match us, hl with | [_, _], _ => rfl
  refine ⟨PySem.W.fnOf "law" "law" (defArgs s_law) (defBody s_law) (defScope s_law) .none kV_law dc_law pm_law an_law cd_law ct_law, T, fun s v => .of_eq rfl, fun base _ _ => ?_⟩
  have E_BadNumber : FnOk PySem.Challenge.pw_chartways_k10_whole_fractions w K mg base (L2.CX PySem.Challenge.pw_chartways_k10_whole_fractions w) 1 e_BadNumber _ PE_BadNumber (spX (T 0) FE_BadNumber) := ei_BadNumber sp_BadNumber nf_BadNumber_value
  have G__law_alike := ok__law_alike (P := PySem.Challenge.pw_chartways_k10_whole_fractions) (w := w) (base := base) Z u__law_alike b__law_alike
  have G__law_low := ok__law_low (P := PySem.Challenge.pw_chartways_k10_whole_fractions) (w := w) (base := base) Z u__law_low
  have G__law_taken := ok__law_taken (P := PySem.Challenge.pw_chartways_k10_whole_fractions) (w := w) (base := base) Z u__law_taken
  have G__law_truth := ok__law_truth (P := PySem.Challenge.pw_chartways_k10_whole_fractions) (w := w) (base := base) Z u__law_truth
  have G_ceiling_of := ok_ceiling_of (P := PySem.Challenge.pw_chartways_k10_whole_fractions) (w := w) (base := base) Z u_ceiling_of
  have G_floor_of := ok_floor_of (P := PySem.Challenge.pw_chartways_k10_whole_fractions) (w := w) (base := base) Z u_floor_of
  have G_is_row := ok_is_row (P := PySem.Challenge.pw_chartways_k10_whole_fractions) (w := w) (base := base) Z u_is_row
  have G_is_whole := ok_is_whole (P := PySem.Challenge.pw_chartways_k10_whole_fractions) (w := w) (base := base) Z u_is_whole
  have G_reduced := ok_reduced (P := PySem.Challenge.pw_chartways_k10_whole_fractions) (w := w) (base := base) Z u_reduced
  have G_is_fraction := ok_is_fraction (P := PySem.Challenge.pw_chartways_k10_whole_fractions) (w := w) (base := base) Z u_is_fraction b_is_row b_is_whole b_reduced G_is_row G_is_whole G_reduced
  have G_is_less := ok_is_less (P := PySem.Challenge.pw_chartways_k10_whole_fractions) (w := w) (base := base) Z u_is_less
  have G_plus := ok_plus (P := PySem.Challenge.pw_chartways_k10_whole_fractions) (w := w) (base := base) Z u_plus b_reduced G_reduced
  have G_times := ok_times (P := PySem.Challenge.pw_chartways_k10_whole_fractions) (w := w) (base := base) Z u_times b_reduced G_reduced
  have G_median := ok_median (P := PySem.Challenge.pw_chartways_k10_whole_fractions) (w := w) (base := base) Z u_median b_is_less b_plus b_times G_is_less G_plus G_times
  have G_minus := ok_minus (P := PySem.Challenge.pw_chartways_k10_whole_fractions) (w := w) (base := base) Z u_minus b_reduced G_reduced
  have G_nearest := ok_nearest (P := PySem.Challenge.pw_chartways_k10_whole_fractions) (w := w) (base := base) Z u_nearest
  have G_over := ok_over (P := PySem.Challenge.pw_chartways_k10_whole_fractions) (w := w) (base := base) Z u_over b_reduced G_reduced
  have G_total := ok_total (P := PySem.Challenge.pw_chartways_k10_whole_fractions) (w := w) (base := base) Z u_total b_plus G_plus
  have G_want_fraction := ok_want_fraction (P := PySem.Challenge.pw_chartways_k10_whole_fractions) (w := w) (base := base) Z u_want_fraction b_is_fraction be_BadNumber G_is_fraction E_BadNumber
  have G_law := ok_law (P := PySem.Challenge.pw_chartways_k10_whole_fractions) (w := w) (base := base) Z u_law b__law_alike b__law_low b__law_taken b__law_truth b_ceiling_of b_floor_of b_is_fraction b_is_less b_median b_minus b_nearest b_over b_plus b_reduced b_times b_total b_want_fraction G__law_alike G__law_low G__law_taken G__law_truth G_ceiling_of G_floor_of G_is_fraction G_is_less G_median G_minus G_nearest G_over G_plus G_reduced G_times G_total G_want_fraction
  exact G_law
end K10
set_option maxRecDepth 100000
namespace K10
open PySem MM
/-- the row of the draws -/
def Row (o : O) : Prop := ∃ ns a b c, o = .lst [.scr ns, .int a, .int b, .int c] ∧ 0 ≤ a ∧ 0 ≤ c
theorem taken {st : Stor} {i : Nat} {many : Int} {o : O} (hi : st[i]? = some o) (h : Row o) (h0 : 0 < many) (h1 : many < 1073741824) :
    ∃ x o', F__law_taken [.loc i, .d (.int many)] st = .ok (.d (.int x)) (st.set i o') ∧ 0 ≤ x ∧ x < many ∧ Row o' := by
  obtain ⟨ns, a, b, c, rfl, ha, hc⟩ := h
  have hl : i < st.length := (List.getElem?_eq_some_iff.mp hi).1
  have m1 : decide (0 < many) = true := decide_eq_true h0
  have m2 : decide (many < 1073741824) = true := decide_eq_true h1
  have hr := rd_lst hi
  have hs : ∀ ds, (st.set i (O.lst ds))[i]? = some (O.lst ds) := fun ds => List.getElem?_set_self hl
  have hrs : ∀ ds, rd (st.set i (O.lst ds)) (.loc i) = some (.list ds) := fun ds => rd_set hl
  unfold F__law_taken runF
  by_cases c0 : 0 < c
  · have c1 : decide (0 < c) = true := decide_eq_true c0
    refine ⟨c % many, .lst [.scr ns, .int a, .int b, .int (c / many)], ?_, Int.emod_nonneg _ (by omega), Int.emod_lt_of_pos _ h0, ns, a, b, _, rfl, ha, Int.ediv_nonneg hc (by omega)⟩
    simp [B__law_taken, B__law_taken_0, sSeq, sIf, asB, eBin, eV, eC, g2, hr, hi, dIx, atI_lit, ixN_lit, dCmp, c1, c0, sSet, sSub, sRet, eArgs, eCons, eNil, kB, rds, bInt, dMod, dDiv, m1, m2, h0, h1, uB]
    exact List.take_of_length_le (by simp)
  · have c1 : decide (0 < c) = false := decide_eq_false c0
    have tk : ∀ o : O, List.take st.length (st.set i o) = st.set i o := fun o => List.take_of_length_le (by simp)
    have bm : ∀ z : Int, decide (0 < (2147483647 : Int)) = true := fun _ => by decide
    by_cases c2 : (ns.length : Int) < a + 1
    · refine ⟨(b * 48271 + 11) % 2147483647 / 7 % many, .lst [.scr ns, .int (a + 1), .int ((b * 48271 + 11) % 2147483647), .int c], ?_, Int.emod_nonneg _ (by omega), Int.emod_lt_of_pos _ h0, ns, a + 1, _, c, rfl, by omega, hc⟩
      simp [B__law_taken, B__law_taken_0, B__law_taken_1, B__law_taken_2, sSeq, sIf, sNil, asB, eBin, eV, eC, g2, hr, hi, hs, hrs, dIx, atI_lit, ixN_lit, dCmp, c1, c0, c2, sSet, sSub, sRet, eArgs, eCons, eNil, kB, rds, bInt, bLen, dAdd, dMul, dMod, dDiv, m1, m2, h0, h1, uB, cMul, tk]
    · have ha1 : a.toNat < ns.length := by omega
      have hat : L2.atI ns a = some ns[a.toNat] := by
        rw [atI_pos _ ha]
        exact List.getElem?_eq_getElem ha1
      generalize ns[a.toNat] = cell at hat
      have p10 : dPow (.int 10) (.int 18) = some (.int 1000000000000000000) := by rfl
      by_cases c3 : (1000000000000000000 : Int) ≤ cell
      · refine ⟨cell % many, .lst [.scr ns, .int (a + 1), .int ((b * 48271 + cell + 11) % 2147483647), .int (cell / many)], ?_, Int.emod_nonneg _ (by omega), Int.emod_lt_of_pos _ h0, ns, a + 1, _, _, rfl, by omega, Int.ediv_nonneg (by omega) (by omega)⟩
        simp only [B__law_taken, B__law_taken_0, B__law_taken_1, B__law_taken_2, B__law_taken_3, B__law_taken_4, B__law_taken_5, B__law_taken_6]
        simp [sSeq, sIf, sNil, asB, eBin, eV, eC, g2, hr, hi, hs, hrs, dIx, atI_lit, ixN_lit, dCmp, c1, c0, c2, sSet, sSub, sRet, eArgs, eCons, eNil, kB, rds, bInt, bLen, dAdd, dSub, dMul, dMod, dDiv, m1, m2, h0, h1, uB, cMul, tk, hat, p10, c3]
      · refine ⟨cell % many, .lst [.scr ns, .int (a + 1), .int ((b * 48271 + cell + 11) % 2147483647), .int c], ?_, Int.emod_nonneg _ (by omega), Int.emod_lt_of_pos _ h0, ns, a + 1, _, _, rfl, by omega, hc⟩
        simp only [B__law_taken, B__law_taken_0, B__law_taken_1, B__law_taken_2, B__law_taken_3, B__law_taken_4, B__law_taken_5, B__law_taken_6]
        simp [sSeq, sIf, sNil, asB, eBin, eV, eC, g2, hr, hi, hs, hrs, dIx, atI_lit, ixN_lit, dCmp, c1, c0, c2, sSet, sSub, sRet, eArgs, eCons, eNil, kB, rds, bInt, bLen, dAdd, dSub, dMul, dMod, dDiv, m1, m2, h0, h1, uB, cMul, tk, hat, p10, c3]
end K10
set_option maxRecDepth 100000
namespace K10
open PySem MM
def fr (t b : Int) : D := .tuple [.int t, .int b]
/-- t / b reduced -/
def red (t b : Int) : D := fr (t / (Int.gcd t b : Nat)) (b / (Int.gcd t b : Nat))
theorem gcd_loop : ∀ (y x : Nat) (u v : Option U) (st : Stor), ∃ n, whileL (asB (eBin (g2 (dCmp fun i j => decide (j < i))) (eV 3) (eC (.int 0)))) (sPar [2, 3] (eCons (eV 3) (eCons (eBin (g2 dMod) (eV 2) (eV 3)) eNil))) n [u, v, some (.d (.int (x : Nat))), some (.d (.int (y : Nat)))] st =
    .nx [u, v, some (.d (.int (Nat.gcd x y : Nat))), some (.d (.int 0))] st := by
  intro y
  induction y using Nat.strongRecOn with
  | _ y ih =>
    intro x u v st
    by_cases hy : y = 0
    · subst hy
      exact ⟨1, by simp [whileL, sSeq, sIf, sNil, sEx, asB, eTru, uTru, D.tru, eBin, eUn, eV, eC, g2, g1, rd, dIx, atI_lit, ixN_lit, dCmp, sSet, sRet, sRetN, eArgs, eCons, eNil, kB, rds, bInt, bLen, dAdd, dSub, dMul, dMod, dDiv, dNeg, uB, eNotT, eAndT, eOrT, eNotV, eAndV, eOrV]⟩
    · obtain ⟨n, hn⟩ := ih (x % y) (Nat.mod_lt _ (by omega)) y u v st
      refine ⟨n + 1, ?_⟩
      have h1 : (0 : Int) < (y : Nat) := by omega
      have h2 : decide ((0 : Int) < (y : Nat)) = true := decide_eq_true h1
      have e : Nat.gcd y (x % y) = Nat.gcd x y := by rw [Nat.gcd_comm y, ← Nat.gcd_rec, Nat.gcd_comm]
      rw [e] at hn
      rw [show ((x % y : Nat) : Int) = ((x : Nat) : Int) % ((y : Nat) : Int) by simp] at hn
      rw [whileL]
      simp [sSeq, sIf, sNil, sEx, asB, eTru, uTru, D.tru, eBin, eUn, eV, eC, g2, g1, rd, dIx, atI_lit, ixN_lit, dCmp, sSet, sRet, sRetN, eArgs, eCons, eNil, kB, rds, bInt, bLen, dAdd, dSub, dMul, dMod, dDiv, dNeg, uB, eNotT, eAndT, eOrT, eNotV, eAndV, eOrV, sPar, setU, h1, h2, hy, show 0 < y by omega]
      exact hn
theorem v_reduced {t b : Int} (hb : 0 < b) (hz : b < 1073741824) (st : Stor) : F_reduced [.d (.int t), .d (.int b)] st = .ok (.d (red t b)) st := by
  have hg : Nat.gcd t.natAbs b.toNat = Int.gcd t b := by
    unfold Int.gcd
    congr 1
    omega
  have hg0 : 0 < Int.gcd t b := by
    rw [Int.gcd_pos_iff]
    right
    omega
  have hgb : (Int.gcd t b : Int) ≤ b := Int.le_of_dvd hb (Int.gcd_dvd_right ..)
  obtain ⟨n, hn⟩ := gcd_loop b.toNat t.natAbs (some (.d (.int t))) (some (.d (.int b))) st
  rw [hg] at hn
  have e1 : ((b.toNat : Nat) : Int) = b := Int.toNat_of_nonneg (by omega)
  have e2 : ((t.natAbs : Nat) : Int) = if t < 0 then -t else t := by split <;> omega
  rw [e1, e2] at hn
  have hw := sWhile_of hn (by simp)
  have g1' : (0 : Int) < (Int.gcd t b : Nat) := by omega
  have g2' : ((Int.gcd t b : Nat) : Int) < 1073741824 := by omega
  have d1 : decide ((0 : Int) < (Int.gcd t b : Nat)) = true := decide_eq_true g1'
  have d2 : decide (((Int.gcd t b : Nat) : Int) < 1073741824) = true := decide_eq_true g2'
  unfold F_reduced runF
  simp [B_reduced, B_reduced_0, sSeq, sIf, sNil, sEx, asB, eTru, uTru, D.tru, eBin, eUn, eV, eC, g2, g1, rd, dIx, atI_lit, ixN_lit, dCmp, sSet, sRet, sRetN, eArgs, eCons, eNil, kB, rds, bInt, bLen, dAdd, dSub, dMul, dMod, dDiv, dNeg, uB, eNotT, eAndT, eOrT, eNotV, eAndV, eOrV, sPar, setU, bAbs]
  rw [B_reduced_1, hw]
  simp [B_reduced_2, sSeq, sIf, sNil, sEx, asB, eTru, uTru, D.tru, eBin, eUn, eV, eC, g2, g1, rd, dIx, atI_lit, ixN_lit, dCmp, sSet, sRet, sRetN, eArgs, eCons, eNil, kB, rds, bInt, bLen, dAdd, dSub, dMul, dMod, dDiv, dNeg, uB, eNotT, eAndT, eOrT, eNotV, eAndV, eOrV, eIf, kTup, ofUs, fits, g1', g2', d1, d2, red, fr, hg0]

/-! low: the greatest divisor of both, found by trying all -/
theorem v_low {t b : Int} (hb : 0 < b) (hz : b < 1073741824) (st : Stor) : F__law_low [.d (.int t), .d (.int b)] st = .ok (.d (red t b)) st := by
  have hg0 : 0 < Int.gcd t b := by
    rw [Int.gcd_pos_iff]
    right
    omega
  have hgb : (Int.gcd t b : Int) ≤ b := Int.le_of_dvd hb (Int.gcd_dvd_right ..)
  -- the loop
  obtain ⟨ds, hds⟩ : ∃ ds : List D, ds = (List.range b.toNat).map fun (k : Nat) => D.int (1 + (k : Int)) := ⟨_, rfl⟩
  have hlen : ds.length = b.toNat := by rw [hds]; simp
  obtain ⟨ρ', st', e1, w, w3, hρ, rfl, hw⟩ := forL_inv (ds := ds) (ρ := [some (.d (.int t)), some (.d (.int b)), some (.d (.int 1)), none]) (st := st) (h := tName 3)
    (g := sIf (eAndT (asB (eBin (g2 dEq) (eBin (g2 dMod) (eArgs (eCons (eV 0) eNil) (kB bInt)) (eV 3)) (eC (.int 0)))) (asB (eBin (g2 dEq) (eBin (g2 dMod) (eArgs (eCons (eV 1) eNil) (kB bInt)) (eV 3)) (eC (.int 0))))) (sSet 2 (eV 3)) sNil)
    (fun k ρ st' => ∃ w w3 : Option U, ρ = [some (.d (.int t)), some (.d (.int b)), w, w3] ∧ st' = st ∧ ∃ h : Nat, w = some (.d (.int h)) ∧ 0 < h ∧ (h : Int) ∣ t ∧ (h : Int) ∣ b ∧ ∀ d : Nat, (d : Int) ∣ t → (d : Int) ∣ b → d ≤ k → d ≤ h)
    (fun k d ρ st' hk z => by
      obtain ⟨w, w3, hρ, rfl, h, rfl, h0, h1, h2, h3⟩ := z
      obtain ⟨hk1, rfl⟩ : k < b.toNat ∧ d = .int (1 + (k : Int)) := by
        rw [hds] at hk
        obtain ⟨q, q2⟩ := List.getElem?_eq_some_iff.mp hk
        simp at q q2
        exact ⟨by omega, q2.symm⟩
      rw [hρ]
      have k1 : (0 : Int) < 1 + (k : Int) := by omega
      have k2 : decide ((0 : Int) < 1 + (k : Int)) = true := decide_eq_true k1
      by_cases c1 : t % (1 + (k : Int)) = 0
      · by_cases c2 : b % (1 + (k : Int)) = 0
        · refine ⟨_, [some (.d (.int t)), some (.d (.int b)), some (.d (.int (1 + (k : Int)))), some (.d (.int (1 + (k : Int))))], st', rfl, .inl ?_, _, _, rfl, rfl, k + 1, by simp; omega, by omega, ?_, ?_, fun d _ _ hd => hd⟩
          · simp [sSeq, sIf, sNil, sEx, asB, eTru, uTru, D.tru, eBin, eUn, eV, eC, g2, g1, rd, dIx, atI_lit, ixN_lit, dCmp, sSet, sRet, sRetN, eArgs, eCons, eNil, kB, rds, bInt, bLen, dAdd, dSub, dMul, dMod, dDiv, dNeg, uB, eNotT, eAndT, eOrT, eNotV, eAndV, eOrV, tName, dEq, sh, D.eqv, c1, c2, k1, k2]
          · rw [show ((k + 1 : Nat) : Int) = 1 + (k : Int) by omega]
            exact Int.dvd_of_emod_eq_zero c1
          · rw [show ((k + 1 : Nat) : Int) = 1 + (k : Int) by omega]
            exact Int.dvd_of_emod_eq_zero c2
        · refine ⟨_, [some (.d (.int t)), some (.d (.int b)), some (.d (.int h)), some (.d (.int (1 + (k : Int))))], st', rfl, .inl ?_, _, _, rfl, rfl, h, rfl, h0, h1, h2, fun d d1 d2 hd => ?_⟩
          · simp [sSeq, sIf, sNil, sEx, asB, eTru, uTru, D.tru, eBin, eUn, eV, eC, g2, g1, rd, dIx, atI_lit, ixN_lit, dCmp, sSet, sRet, sRetN, eArgs, eCons, eNil, kB, rds, bInt, bLen, dAdd, dSub, dMul, dMod, dDiv, dNeg, uB, eNotT, eAndT, eOrT, eNotV, eAndV, eOrV, tName, dEq, sh, D.eqv, c1, c2, k1, k2]
          · by_cases e : d = k + 1
            · subst e
              exact absurd (Int.emod_eq_zero_of_dvd d2) (by rw [show ((k + 1 : Nat) : Int) = 1 + (k : Int) by omega]; exact c2)
            · exact h3 d d1 d2 (by omega)
      · refine ⟨_, [some (.d (.int t)), some (.d (.int b)), some (.d (.int h)), some (.d (.int (1 + (k : Int))))], st', rfl, .inl ?_, _, _, rfl, rfl, h, rfl, h0, h1, h2, fun d d1 d2 hd => ?_⟩
        · simp [sSeq, sIf, sNil, sEx, asB, eTru, uTru, D.tru, eBin, eUn, eV, eC, g2, g1, rd, dIx, atI_lit, ixN_lit, dCmp, sSet, sRet, sRetN, eArgs, eCons, eNil, kB, rds, bInt, bLen, dAdd, dSub, dMul, dMod, dDiv, dNeg, uB, eNotT, eAndT, eOrT, eNotV, eAndV, eOrV, tName, dEq, sh, D.eqv, c1, k1, k2]
        · by_cases e : d = k + 1
          · subst e
            exact absurd (Int.emod_eq_zero_of_dvd d1) (by rw [show ((k + 1 : Nat) : Int) = 1 + (k : Int) by omega]; exact c1)
          · exact h3 d d1 d2 (by omega))
    ⟨_, _, rfl, rfl, 1, rfl, by omega, Int.one_dvd t, Int.one_dvd b, fun d _ _ hd => by omega⟩
  obtain ⟨h, rfl, h0, h1, h2, h3⟩ := hw
  have hgd : h = Int.gcd t b := by
    apply Nat.le_antisymm
    · exact Nat.le_of_dvd hg0 (Int.natCast_dvd_natCast.mp (Int.dvd_coe_gcd h1 h2))
    · exact h3 _ (Int.gcd_dvd_left ..) (Int.gcd_dvd_right ..) (by rw [hlen]; omega)
  subst hgd
  have g1' : (0 : Int) < (Int.gcd t b : Nat) := by omega
  have g2' : ((Int.gcd t b : Nat) : Int) < 1073741824 := by omega
  have d1 : decide ((0 : Int) < (Int.gcd t b : Nat)) = true := decide_eq_true g1'
  have d2 : decide (((Int.gcd t b : Nat) : Int) < 1073741824) = true := decide_eq_true g2'
  have r1 : inR (b + 1) = true := by unfold inR; simp; omega
  have r2 : inR 1 = true := by decide
  have hb1 : (b + 1 - 1).toNat = b.toNat := by omega
  unfold F__law_low runF
  simp [B__law_low, B__law_low_0, sSeq, sIf, sNil, sEx, asB, eTru, uTru, D.tru, eBin, eUn, eV, eC, g2, g1, rd, dIx, atI_lit, ixN_lit, dCmp, sSet, sRet, sRetN, eArgs, eCons, eNil, kB, rds, bInt, bLen, dAdd, dSub, dMul, dMod, dDiv, dNeg, uB, eNotT, eAndT, eOrT, eNotV, eAndV, eOrV]
  rw [B__law_low_1]
  simp [sSeq, sIf, sNil, sEx, asB, eTru, uTru, D.tru, eBin, eUn, eV, eC, g2, g1, rd, dIx, atI_lit, ixN_lit, dCmp, sSet, sRet, sRetN, eArgs, eCons, eNil, kB, rds, bInt, bLen, dAdd, dSub, dMul, dMod, dDiv, dNeg, uB, eNotT, eAndT, eOrT, eNotV, eAndV, eOrV, sFor, nl, eRange2, kRange2, r1, r2]
  rw [← hds, e1, hρ]
  simp [B__law_low_2, sSeq, sIf, sNil, sEx, asB, eTru, uTru, D.tru, eBin, eUn, eV, eC, g2, g1, rd, dIx, atI_lit, ixN_lit, dCmp, sSet, sRet, sRetN, eArgs, eCons, eNil, kB, rds, bInt, bLen, dAdd, dSub, dMul, dMod, dDiv, dNeg, uB, eNotT, eAndT, eOrT, eNotV, eAndV, eOrV, kTup, ofUs, fits, g1', g2', d1, d2, red, fr, hg0]
end K10
set_option maxRecDepth 100000
namespace K10
open PySem MM
theorem cm {i j : Int} (h0 : 0 < j) (h1 : j < 1073741824) : cMul i j = true := by
  unfold cMul
  simp
  omega
section
variable {t1 b1 t2 b2 : Int} {st : Stor}
theorem v_plus (h1 : 0 < b1) (h2 : 0 < b2) (h3 : b1 < 1073741824) (h4 : b2 < 1073741824) (h5 : b1 * b2 < 1073741824) : F_plus [.d (fr t1 b1), .d (fr t2 b2)] st = .ok (.d (red (t1 * b2 + t2 * b1) (b1 * b2))) st := by
  unfold F_plus runF
  simp [B_plus, B_plus_0, sSeq, sIf, sNil, sEx, asB, eTru, uTru, D.tru, eBin, eUn, eV, eC, g2, g1, rd, dIx, atI_lit, ixN_lit, dCmp, sSet, sRet, sRetN, eArgs, eCons, eNil, kB, rds, bInt, bLen, dAdd, dSub, dMul, dMod, dDiv, dNeg, uB, eNotT, eAndT, eOrT, eNotV, eAndV, eOrV, fr, kLen, cm, h1, h2, h3, h4, v_reduced (Int.mul_pos h1 h2) h5]
theorem v_minus (h1 : 0 < b1) (h2 : 0 < b2) (h3 : b1 < 1073741824) (h4 : b2 < 1073741824) (h5 : b1 * b2 < 1073741824) : F_minus [.d (fr t1 b1), .d (fr t2 b2)] st = .ok (.d (red (t1 * b2 - t2 * b1) (b1 * b2))) st := by
  unfold F_minus runF
  simp [B_minus, B_minus_0, sSeq, sIf, sNil, sEx, asB, eTru, uTru, D.tru, eBin, eUn, eV, eC, g2, g1, rd, dIx, atI_lit, ixN_lit, dCmp, sSet, sRet, sRetN, eArgs, eCons, eNil, kB, rds, bInt, bLen, dAdd, dSub, dMul, dMod, dDiv, dNeg, uB, eNotT, eAndT, eOrT, eNotV, eAndV, eOrV, fr, kLen, cm, h1, h2, h3, h4, v_reduced (Int.mul_pos h1 h2) h5]
theorem v_times (h1 : 0 < b1) (h2 : 0 < b2) (h3 : b1 < 1073741824) (h4 : b2 < 1073741824) (h5 : b1 * b2 < 1073741824) (ht : -18446744073709551616 < t1 ∧ t1 < 18446744073709551616) : F_times [.d (fr t1 b1), .d (fr t2 b2)] st = .ok (.d (red (t1 * t2) (b1 * b2))) st := by
  have ht' : cMul t1 t2 = true := by
    unfold cMul
    simp
    omega
  unfold F_times runF
  simp [B_times, B_times_0, sSeq, sIf, sNil, sEx, asB, eTru, uTru, D.tru, eBin, eUn, eV, eC, g2, g1, rd, dIx, atI_lit, ixN_lit, dCmp, sSet, sRet, sRetN, eArgs, eCons, eNil, kB, rds, bInt, bLen, dAdd, dSub, dMul, dMod, dDiv, dNeg, uB, eNotT, eAndT, eOrT, eNotV, eAndV, eOrV, fr, kLen, cm, h1, h2, h3, h4, ht', v_reduced (Int.mul_pos h1 h2) h5]
theorem v_over (h1 : 0 < b1) (h2 : 0 < b2) (h3 : b1 < 1073741824) (h4 : b2 < 1073741824) (ht : 0 < t2) (ht2 : t2 < 1073741824) (h5 : b1 * t2 < 1073741824) : F_over [.d (fr t1 b1), .d (fr t2 b2)] st = .ok (.d (red (t1 * b2) (b1 * t2))) st := by
  unfold F_over runF
  simp [B_over, B_over_0, sSeq, sIf, sNil, sEx, asB, eTru, uTru, D.tru, eBin, eUn, eV, eC, g2, g1, rd, dIx, atI_lit, ixN_lit, dCmp, sSet, sRet, sRetN, eArgs, eCons, eNil, kB, rds, bInt, bLen, dAdd, dSub, dMul, dMod, dDiv, dNeg, uB, eNotT, eAndT, eOrT, eNotV, eAndV, eOrV, fr, kLen, cm, h1, h2, h3, h4, ht, ht2, v_reduced (Int.mul_pos h1 ht) h5]
theorem v_less (h1 : 0 < b1) (h2 : 0 < b2) (h3 : b1 < 1073741824) (h4 : b2 < 1073741824) : F_is_less [.d (fr t1 b1), .d (fr t2 b2)] st = .ok (.d (.bool (decide (t1 * b2 < t2 * b1)))) st := by
  unfold F_is_less runF
  simp [B_is_less, B_is_less_0, sSeq, sIf, sNil, sEx, asB, eTru, uTru, D.tru, eBin, eUn, eV, eC, g2, g1, rd, dIx, atI_lit, ixN_lit, dCmp, sSet, sRet, sRetN, eArgs, eCons, eNil, kB, rds, bInt, bLen, dAdd, dSub, dMul, dMod, dDiv, dNeg, uB, eNotT, eAndT, eOrT, eNotV, eAndV, eOrV, fr, kLen, cm, h1, h2, h3, h4]
theorem v_floor (h1 : 0 < b1) (h3 : b1 < 1073741824) : F_floor_of [.d (fr t1 b1)] st = .ok (.d (.int (t1 / b1))) st := by
  unfold F_floor_of runF
  simp [B_floor_of, B_floor_of_0, sSeq, sIf, sNil, sEx, asB, eTru, uTru, D.tru, eBin, eUn, eV, eC, g2, g1, rd, dIx, atI_lit, ixN_lit, dCmp, sSet, sRet, sRetN, eArgs, eCons, eNil, kB, rds, bInt, bLen, dAdd, dSub, dMul, dMod, dDiv, dNeg, uB, eNotT, eAndT, eOrT, eNotV, eAndV, eOrV, fr, h1, h3]
theorem v_ceiling (h1 : 0 < b1) (h3 : b1 < 1073741824) : F_ceiling_of [.d (fr t1 b1)] st = .ok (.d (.int (-(-t1 / b1)))) st := by
  unfold F_ceiling_of runF
  simp [B_ceiling_of, B_ceiling_of_0, sSeq, sIf, sNil, sEx, asB, eTru, uTru, D.tru, eBin, eUn, eV, eC, g2, g1, rd, dIx, atI_lit, ixN_lit, dCmp, sSet, sRet, sRetN, eArgs, eCons, eNil, kB, rds, bInt, bLen, dAdd, dSub, dMul, dMod, dDiv, dNeg, uB, eNotT, eAndT, eOrT, eNotV, eAndV, eOrV, fr, h1, h3]
theorem v_nearest (h1 : 0 < b1) (h3 : b1 < 536870912) : F_nearest [.d (fr t1 b1)] st = .ok (.d (.int ((2 * t1 + b1) / (2 * b1)))) st := by
  have c2 : ∀ j : Int, cMul 2 j = true := fun j => by
    unfold cMul
    simp
  have h4 : (0 : Int) < 2 * b1 := by omega
  have h5 : (2 : Int) * b1 < 1073741824 := by omega
  unfold F_nearest runF
  simp [B_nearest, B_nearest_0, sSeq, sIf, sNil, sEx, asB, eTru, uTru, D.tru, eBin, eUn, eV, eC, g2, g1, rd, dIx, atI_lit, ixN_lit, dCmp, sSet, sRet, sRetN, eArgs, eCons, eNil, kB, rds, bInt, bLen, dAdd, dSub, dMul, dMod, dDiv, dNeg, uB, eNotT, eAndT, eOrT, eNotV, eAndV, eOrV, fr, h1, h3, c2, h4, h5]
theorem v_truth (b : Bool) : F__law_truth [.d (.bool b), .d (.bool b)] st = .ok (.d (.bool true)) st := by
  unfold F__law_truth runF
  simp [B__law_truth, B__law_truth_0, sSeq, sIf, sNil, sEx, asB, eTru, uTru, D.tru, eBin, eUn, eV, eC, g2, g1, rd, dIx, atI_lit, ixN_lit, dCmp, sSet, sRet, sRetN, eArgs, eCons, eNil, kB, rds, bInt, bLen, dAdd, dSub, dMul, dMod, dDiv, dNeg, uB, eNotT, eAndT, eOrT, eNotV, eAndV, eOrV, dEq, sh, D.eqv, isB]
theorem v_whole (i : Int) : F_is_whole [.d (.int i)] st = .ok (.d (.bool true)) st := by
  unfold F_is_whole runF
  simp [B_is_whole, B_is_whole_0, sSeq, sIf, sNil, sEx, asB, eTru, uTru, D.tru, eBin, eUn, eV, eC, g2, g1, rd, dIx, atI_lit, ixN_lit, dCmp, sSet, sRet, sRetN, eArgs, eCons, eNil, kB, rds, bInt, bLen, dAdd, dSub, dMul, dMod, dDiv, dNeg, uB, eNotT, eAndT, eOrT, eNotV, eAndV, eOrV, isB]
theorem v_row (xs : List D) : F_is_row [.d (.tuple xs)] st = .ok (.d (.bool true)) st := by
  unfold F_is_row runF
  simp [B_is_row, B_is_row_0, sSeq, sIf, sNil, sEx, asB, eTru, uTru, D.tru, eBin, eUn, eV, eC, g2, g1, rd, dIx, atI_lit, ixN_lit, dCmp, sSet, sRet, sRetN, eArgs, eCons, eNil, kB, rds, bInt, bLen, dAdd, dSub, dMul, dMod, dDiv, dNeg, uB, eNotT, eAndT, eOrT, eNotV, eAndV, eOrV, isB]
theorem v_rowL (xs : List D) : F_is_row [.d (.list xs)] st = .ok (.d (.bool true)) st := by
  unfold F_is_row runF
  simp [B_is_row, B_is_row_0, sSeq, sIf, sNil, sEx, asB, eTru, uTru, D.tru, eBin, eUn, eV, eC, g2, g1, rd, dIx, atI_lit, ixN_lit, dCmp, sSet, sRet, sRetN, eArgs, eCons, eNil, kB, rds, bInt, bLen, dAdd, dSub, dMul, dMod, dDiv, dNeg, uB, eNotT, eAndT, eOrT, eNotV, eAndV, eOrV, isB]
end

/-! alike -/
mutual
/-- ints, and tuples of such, n deep -/
def pl : Nat → D → Bool
  | _, .int _ => true
  | n + 1, .tuple xs => decide (xs.length ≤ 1000) && pls n xs
  | _, _ => false
def pls : Nat → List D → Bool
  | _, [] => true
  | n, x :: xs => pl n x && pls n xs
end
theorem pls_mem {n : Nat} : ∀ {xs : List D} {x : D}, pls n xs = true → x ∈ xs → pl n x = true
  | y :: ys, x, h, hm => by
    rw [pls, Bool.and_eq_true] at h
    rcases List.mem_cons.mp hm with e | hm
    · rw [e]; exact h.1
    · exact pls_mem h.2 hm
theorem filter_none {α : Type} {p : α → Bool} : ∀ {l : List α}, (∀ x ∈ l, p x = false) → l.filter p = []
  | [], _ => rfl
  | x :: l, h => by
    rw [List.filter_cons_of_neg (by rw [h x List.mem_cons_self]; simp)]
    exact filter_none fun y hy => h y (List.mem_cons_of_mem _ hy)
theorem alike_key {F : FM} {xs : List D} (hl : xs.length ≤ 1000) (st : Stor) (ih : ∀ x ∈ xs, ∀ st, F [.d x, .d x] st = .ok (.d (.bool true)) st) :
    eLc false [2] (nl (eRange1 (eCons (eArgs (eCons (eV 1) eNil) (kB bLen)) eNil))) (tName 2) (eNotT (eTru (eArgs (eCons (eBin (g2 dIx) (eV 0) (eV 2)) (eCons (eBin (g2 dIx) (eV 1) (eV 2)) eNil)) (kLen 2 F)))) (eV 2) [some (.d (.tuple xs)), some (.d (.tuple xs)), none] st = .ok (.d (.list [])) st := by
  have hr : inR (xs.length : Int) = true := by
    unfold inR
    rw [Bool.and_eq_true]
    exact ⟨decide_eq_true (by omega), decide_eq_true (by omega)⟩
  have hds : ((List.range xs.length).map fun (i : Nat) => D.int (0 + (i : Int))).length ≤ 16777216 := by
    rw [List.length_map, List.length_range]
    omega
  have h1 : nl (eRange1 (eCons (eArgs (eCons (eV 1) eNil) (kB bLen)) eNil)) [some (.d (.tuple xs)), some (.d (.tuple xs)), none] st = .ok ((List.range xs.length).map fun (i : Nat) => D.int (0 + (i : Int)), none) st := by
    have e : (eCons (eArgs (eCons (eV 1) eNil) (kB bLen)) eNil) [some (.d (.tuple xs)), some (.d (.tuple xs)), none] st = .ok [.d (.int (xs.length : Int))] st := rfl
    have e2 : kRange1 [.d (.int (xs.length : Int))] st = .ok ((List.range xs.length).map fun (i : Nat) => D.int (0 + (i : Int))) st := by
      have e3 : kRange1 [.d (.int (xs.length : Int))] st = if inR (xs.length : Int) then .ok ((List.range (xs.length : Int).toNat).map fun (i : Nat) => D.int (0 + (i : Int))) st else .bad := rfl
      rw [e3, if_pos hr, Int.toNat_natCast]
    exact nl_o (range1_o e e2)
  have h2 := comp_pure (vs := [2]) (h := tName 2) (c := eNotT (eTru (eArgs (eCons (eBin (g2 dIx) (eV 0) (eV 2)) (eCons (eBin (g2 dIx) (eV 1) (eV 2)) eNil)) (kLen 2 F)))) (e := eV 2) (fun _ => false) id h1 hds (fun _ => True.intro) (fun d hd => ?_)
  · rw [filter_none (fun _ _ => rfl)] at h2
    exact h2
  · obtain ⟨k, hk, rfl⟩ := List.mem_map.mp hd
    have hk : k < xs.length := List.mem_range.mp hk
    refine ⟨_, rfl, fun acc => ⟨?_, fun h => Bool.noConfusion h⟩⟩
    have ha : L2.atI xs (0 + (k : Int)) = some xs[k] := by
      rw [Int.zero_add, atI_nat]
      exact List.getElem?_eq_getElem hk
    have hv := ih xs[k] (List.getElem_mem hk) (st ++ [O.lst acc])
    have hx : dIx (.tuple xs) (.int (0 + (k : Int))) = some xs[k] := ha
    exact notT_o (tru_o (args_o (cons_o (bin_o rfl rfl (g2_o hx)) (cons_o (bin_o rfl rfl (g2_o hx)) rfl)) (len_o rfl hv)) rfl)
theorem alike_int {F : FM} (i : Int) (st : Stor) : runF 3 (B__law_alike F) [.d (.int i), .d (.int i)] st = .ok (.d (.bool true)) st := by
  unfold runF
  simp [B__law_alike, B__law_alike_0, B__law_alike_1, B__law_alike_2, sSeq, sIf, sNil, sEx, asB, eTru, uTru, D.tru, eBin, eUn, eV, eC, g2, g1, rd, dIx, atI_lit, ixN_lit, dCmp, sSet, sRet, sRetN, eArgs, eCons, eNil, kB, rds, bInt, bLen, dAdd, dSub, dMul, dMod, dDiv, dNeg, uB, eNotT, eAndT, eOrT, eNotV, eAndV, eOrV, dIs, D.isN, dEq_bb, dEq_ii, isB]
section
variable (xs : List D) (st : Stor)
theorem q1 : eTru (eUn (g1 (bIsi ["tuple", "list"])) (eV 1)) [some (.d (.tuple xs)), some (.d (.tuple xs)), none] st = .ok true st := by
  simp [sSeq, sIf, sNil, sEx, asB, eTru, uTru, D.tru, eBin, eUn, eV, eC, g2, g1, rd, dIx, atI_lit, ixN_lit, dCmp, sSet, sRet, sRetN, eArgs, eCons, eNil, kB, rds, bInt, bLen, dAdd, dSub, dMul, dMod, dDiv, dNeg, uB, eNotT, eAndT, eOrT, eNotV, eAndV, eOrV, isB]
theorem q2 : (eOrT (eNotT (eTru (eUn (g1 (bIsi ["tuple", "list"])) (eV 0)))) (asB (eBin (g2 dNe) (eUn (g1 (bIsi ["list"])) (eV 0)) (eUn (g1 (bIsi ["list"])) (eV 1))))) [some (.d (.tuple xs)), some (.d (.tuple xs)), none] st = .ok false st := by
  simp [sSeq, sIf, sNil, sEx, asB, eTru, uTru, D.tru, eBin, eUn, eV, eC, g2, g1, rd, dIx, atI_lit, ixN_lit, dCmp, sSet, sRet, sRetN, eArgs, eCons, eNil, kB, rds, bInt, bLen, dAdd, dSub, dMul, dMod, dDiv, dNeg, uB, eNotT, eAndT, eOrT, eNotV, eAndV, eOrV, isB, dNe_bb]
theorem q3 : (asB (eBin (g2 dNe) (eArgs (eCons (eV 0) eNil) (kB bLen)) (eArgs (eCons (eV 1) eNil) (kB bLen)))) [some (.d (.tuple xs)), some (.d (.tuple xs)), none] st = .ok false st := by
  simp [sSeq, sIf, sNil, sEx, asB, eTru, uTru, D.tru, eBin, eUn, eV, eC, g2, g1, rd, dIx, atI_lit, ixN_lit, dCmp, sSet, sRet, sRetN, eArgs, eCons, eNil, kB, rds, bInt, bLen, dAdd, dSub, dMul, dMod, dDiv, dNeg, uB, eNotT, eAndT, eOrT, eNotV, eAndV, eOrV, isB, dNe_ii]
theorem q4 (E : EF U) (h : E [some (.d (.tuple xs)), some (.d (.tuple xs)), none] st = .ok (.d (.list [])) st) : sRet (eBin (g2 dEq) E (eArgs eNil kLst)) [some (.d (.tuple xs)), some (.d (.tuple xs)), none] st = .rt (.d (.bool true)) st := by
  simp only [sRet, eBin, h, R.bind_ok, eArgs, eNil, kLst_nil, g2_d, dEq_nn, R.stm_ok]
theorem alike_tup {F : FM} 
    (key : eLc false [2] (nl (eRange1 (eCons (eArgs (eCons (eV 1) eNil) (kB bLen)) eNil))) (tName 2) (eNotT (eTru (eArgs (eCons (eBin (g2 dIx) (eV 0) (eV 2)) (eCons (eBin (g2 dIx) (eV 1) (eV 2)) eNil)) (kLen 2 F)))) (eV 2) [some (.d (.tuple xs)), some (.d (.tuple xs)), none] st = .ok (.d (.list [])) st) :
    runF 3 (B__law_alike F) [.d (.tuple xs), .d (.tuple xs)] st = .ok (.d (.bool true)) st := by
  have h4 := q4 xs st _ key
  exact run_same (sSeq_r (sIf_t (q1 xs st) (sSeq_n (sIf_n (q2 xs st)) (sSeq_n (sIf_n (q3 xs st)) h4))))
end
theorem v_alike : ∀ (n : Nat) (x : D), pl n x = true → ∀ st, F__law_alike (n + 1) [.d x, .d x] st = .ok (.d (.bool true)) st
  | 0, .int i, _, st => alike_int i st
  | n + 1, .int i, _, st => alike_int i st
  | n + 1, .tuple xs, hx, st => by
    rw [pl, Bool.and_eq_true] at hx
    exact alike_tup xs st (alike_key (of_decide_eq_true hx.1) st fun x hm => v_alike n x (pls_mem hx.2 hm))
  | 0, .none, hx, _ => by simp [pl] at hx
  | 0, .bool _, hx, _ => by simp [pl] at hx
  | 0, .str _, hx, _ => by simp [pl] at hx
  | 0, .list _, hx, _ => by simp [pl] at hx
  | 0, .tuple _, hx, _ => by simp [pl] at hx
  | 0, .dict _, hx, _ => by simp [pl] at hx
  | 0, .ins _ _, hx, _ => by simp [pl] at hx
  | 0, .fn _, hx, _ => by simp [pl] at hx
  | 0, .exc _ _ _ _, hx, _ => by simp [pl] at hx
  | 0, .scr _, hx, _ => by simp [pl] at hx
  | _ + 1, .none, hx, _ => by simp [pl] at hx
  | _ + 1, .bool _, hx, _ => by simp [pl] at hx
  | _ + 1, .str _, hx, _ => by simp [pl] at hx
  | _ + 1, .list _, hx, _ => by simp [pl] at hx
  | _ + 1, .dict _, hx, _ => by simp [pl] at hx
  | _ + 1, .ins _ _, hx, _ => by simp [pl] at hx
  | _ + 1, .fn _, hx, _ => by simp [pl] at hx
  | _ + 1, .exc _ _ _ _, hx, _ => by simp [pl] at hx
  | _ + 1, .scr _, hx, _ => by simp [pl] at hx
end K10
set_option maxRecDepth 100000
namespace K10
open PySem MM
section
variable {t b : Int} {st : Stor}
theorem red_pos {t b : Int} (hb : 0 < b) : 0 < Int.gcd t b ∧ (Int.gcd t b : Int) ∣ t ∧ (Int.gcd t b : Int) ∣ b ∧ 0 < b / (Int.gcd t b : Nat) ∧ b / (Int.gcd t b : Nat) ≤ b ∧ Int.gcd (t / (Int.gcd t b : Nat)) (b / (Int.gcd t b : Nat)) = 1 := by
  have h0 : 0 < Int.gcd t b := by
    rw [Int.gcd_pos_iff]
    right
    omega
  have h2 : (Int.gcd t b : Int) ∣ b := Int.gcd_dvd_right ..
  have hgb : (Int.gcd t b : Int) ≤ b := Int.le_of_dvd hb h2
  refine ⟨h0, Int.gcd_dvd_left .., h2, ?_, ?_, Int.gcd_ediv_gcd_ediv_gcd h0⟩
  · exact Int.ediv_pos_of_pos_of_dvd hb (by omega) h2
  · exact Int.ediv_le_self _ (by omega)
theorem eqv_red (hb : 0 < b) : D.eqv (red t b) (fr t b) = decide (Int.gcd t b = 1) := by
  obtain ⟨h0, h1, h2, h3, h4, h5⟩ := red_pos (t := t) hb
  by_cases hg : Int.gcd t b = 1
  · simp [red, fr, hg, D.eqv, eqvs]
  · have : b / (Int.gcd t b : Nat) ≠ b := by
      intro e
      have h6 : b / (Int.gcd t b : Nat) < b := by
        apply Int.ediv_lt_self_of_pos_of_ne_one hb
        all_goals omega
      omega
    simp [red, fr, hg, D.eqv, eqvs, this]
theorem v_isf (hb : 0 < b) (hz : b < 1073741824) : F_is_fraction [.d (fr t b)] st = .ok (.d (.bool (decide (Int.gcd t b = 1)))) st := by
  have e := eqv_red (t := t) hb
  have h1 : ¬ b < 1 := by omega
  have hs : sh 60 (red t b) = true := by simp [red, fr, sh, shs]
  have hr := v_reduced (t := t) hb hz st
  have w1 := v_whole (st := st) t
  have w2 := v_whole (st := st) b
  have w3 := v_row (st := st) [.int t, .int b]
  unfold fr at e
  unfold F_is_fraction runF
  simp only [B_is_fraction, B_is_fraction_0, B_is_fraction_1]
  simp [sSeq, sIf, sNil, sEx, asB, eTru, uTru, D.tru, eBin, eUn, eV, eC, g2, g1, rd, dIx, atI_lit, ixN_lit, dCmp, sSet, sRet, sRetN, eArgs, eCons, eNil, kB, rds, bInt, bLen, dAdd, dSub, dMul, dMod, dDiv, dNeg, uB, eNotT, eAndT, eOrT, eNotV, eAndV, eOrV, fr, kLen, w1, w2, w3, h1, hr, kTup, ofUs, fits, dNe, dEq, sh, shs, D.eqv, eqvs, hs]
  rw [e]
theorem v_isfL (hb : 0 < b) (hz : b < 1073741824) : F_is_fraction [.d (.list [.int t, .int b])] st = .ok (.d (.bool (decide (Int.gcd t b = 1)))) st := by
  have e := eqv_red (t := t) hb
  have h1 : ¬ b < 1 := by omega
  have hs : sh 60 (red t b) = true := by simp [red, fr, sh, shs]
  have hr := v_reduced (t := t) hb hz st
  have w1 := v_whole (st := st) t
  have w2 := v_whole (st := st) b
  have w3 := v_rowL (st := st) [.int t, .int b]
  unfold fr at e
  unfold F_is_fraction runF
  simp only [B_is_fraction, B_is_fraction_0, B_is_fraction_1]
  simp [sSeq, sIf, sNil, sEx, asB, eTru, uTru, D.tru, eBin, eUn, eV, eC, g2, g1, rd, dIx, atI_lit, ixN_lit, dCmp, sSet, sRet, sRetN, eArgs, eCons, eNil, kB, rds, bInt, bLen, dAdd, dSub, dMul, dMod, dDiv, dNeg, uB, eNotT, eAndT, eOrT, eNotV, eAndV, eOrV, fr, kLen, w1, w2, w3, h1, hr, kTup, ofUs, fits, dNe, dEq, sh, shs, D.eqv, eqvs, hs]
  rw [e]
theorem v_want (hb : 0 < b) (hz : b < 1073741824) (hg : Int.gcd t b = 1) : F_want_fraction [.d (.list [.int t, .int b])] st = .ok (.d (fr t b)) st := by
  have h := v_isfL (t := t) (st := st) hb hz
  rw [hg] at h
  unfold F_want_fraction runF
  simp [B_want_fraction, B_want_fraction_0, B_want_fraction_1, sSeq, sIf, sNil, sEx, asB, eTru, uTru, D.tru, eBin, eUn, eV, eC, g2, g1, rd, dIx, atI_lit, ixN_lit, dCmp, sSet, sRet, sRetN, eArgs, eCons, eNil, kB, rds, bInt, bLen, dAdd, dSub, dMul, dMod, dDiv, dNeg, uB, eNotT, eAndT, eOrT, eNotV, eAndV, eOrV, kLen, h, bTup, fr]
/-- the values that are no fraction -/
def weird : List D := [.none, fr 1 0, fr 2 4, fr 0 2, .tuple [.int 1], .tuple [.bool true, .int 2], .list [.int 1, .int 2, .int 3], .int 5, fr 1 (-1)]
theorem r_none : F_is_row [.d .none] st = .ok (.d (.bool false)) st := by
  unfold F_is_row runF
  simp [B_is_row, B_is_row_0, sSeq, sIf, sNil, sEx, asB, eTru, uTru, D.tru, eBin, eUn, eV, eC, g2, g1, rd, dIx, atI_lit, ixN_lit, dCmp, sSet, sRet, sRetN, eArgs, eCons, eNil, kB, rds, bInt, bLen, dAdd, dSub, dMul, dMod, dDiv, dNeg, uB, eNotT, eAndT, eOrT, eNotV, eAndV, eOrV, isB]
theorem r_int (i : Int) : F_is_row [.d (.int i)] st = .ok (.d (.bool false)) st := by
  unfold F_is_row runF
  simp [B_is_row, B_is_row_0, sSeq, sIf, sNil, sEx, asB, eTru, uTru, D.tru, eBin, eUn, eV, eC, g2, g1, rd, dIx, atI_lit, ixN_lit, dCmp, sSet, sRet, sRetN, eArgs, eCons, eNil, kB, rds, bInt, bLen, dAdd, dSub, dMul, dMod, dDiv, dNeg, uB, eNotT, eAndT, eOrT, eNotV, eAndV, eOrV, isB]
theorem w_bool (i : Bool) : F_is_whole [.d (.bool i)] st = .ok (.d (.bool false)) st := by
  unfold F_is_whole runF
  simp [B_is_whole, B_is_whole_0, sSeq, sIf, sNil, sEx, asB, eTru, uTru, D.tru, eBin, eUn, eV, eC, g2, g1, rd, dIx, atI_lit, ixN_lit, dCmp, sSet, sRet, sRetN, eArgs, eCons, eNil, kB, rds, bInt, bLen, dAdd, dSub, dMul, dMod, dDiv, dNeg, uB, eNotT, eAndT, eOrT, eNotV, eAndV, eOrV, isB]
theorem v_weird : ∀ v ∈ weird, F_is_fraction [.d v] st = .ok (.d (.bool false)) st := by
  intro v hv
  have ri := fun i => r_int (st := st) i
  have rl := fun i => v_rowL (st := st) i
  have rt := fun i => v_row (st := st) i
  have wi := fun i => v_whole (st := st) i
  have wb := fun i => w_bool (st := st) i
  have rn := r_none (st := st)
  have f1 := v_isf (t := 2) (b := 4) (st := st) (by decide) (by decide)
  have f2 := v_isf (t := 0) (b := 2) (st := st) (by decide) (by decide)
  simp only [weird, List.mem_cons, List.not_mem_nil, or_false] at hv
  rcases hv with rfl | rfl | rfl | rfl | rfl | rfl | rfl | rfl | rfl
  · unfold F_is_fraction runF
    simp [B_is_fraction, B_is_fraction_0, sSeq, sIf, sNil, sEx, asB, eTru, uTru, D.tru, eBin, eUn, eV, eC, g2, g1, rd, dIx, atI_lit, ixN_lit, dCmp, sSet, sRet, sRetN, eArgs, eCons, eNil, kB, rds, bInt, bLen, dAdd, dSub, dMul, dMod, dDiv, dNeg, uB, eNotT, eAndT, eOrT, eNotV, eAndV, eOrV, kLen, rn]
  · unfold F_is_fraction runF
    simp [B_is_fraction, B_is_fraction_0, sSeq, sIf, sNil, sEx, asB, eTru, uTru, D.tru, eBin, eUn, eV, eC, g2, g1, rd, dIx, atI_lit, ixN_lit, dCmp, sSet, sRet, sRetN, eArgs, eCons, eNil, kB, rds, bInt, bLen, dAdd, dSub, dMul, dMod, dDiv, dNeg, uB, eNotT, eAndT, eOrT, eNotV, eAndV, eOrV, fr, kLen, rt, wi, dNe, sh, D.eqv]
  · rw [f1]
    rfl
  · rw [f2]
    rfl
  · unfold F_is_fraction runF
    simp [B_is_fraction, B_is_fraction_0, sSeq, sIf, sNil, sEx, asB, eTru, uTru, D.tru, eBin, eUn, eV, eC, g2, g1, rd, dIx, atI_lit, ixN_lit, dCmp, sSet, sRet, sRetN, eArgs, eCons, eNil, kB, rds, bInt, bLen, dAdd, dSub, dMul, dMod, dDiv, dNeg, uB, eNotT, eAndT, eOrT, eNotV, eAndV, eOrV, fr, kLen, rt, wi, dNe, sh, D.eqv]
  · unfold F_is_fraction runF
    simp [B_is_fraction, B_is_fraction_0, sSeq, sIf, sNil, sEx, asB, eTru, uTru, D.tru, eBin, eUn, eV, eC, g2, g1, rd, dIx, atI_lit, ixN_lit, dCmp, sSet, sRet, sRetN, eArgs, eCons, eNil, kB, rds, bInt, bLen, dAdd, dSub, dMul, dMod, dDiv, dNeg, uB, eNotT, eAndT, eOrT, eNotV, eAndV, eOrV, fr, kLen, rt, wi, wb, dNe, sh, D.eqv]
  · unfold F_is_fraction runF
    simp [B_is_fraction, B_is_fraction_0, sSeq, sIf, sNil, sEx, asB, eTru, uTru, D.tru, eBin, eUn, eV, eC, g2, g1, rd, dIx, atI_lit, ixN_lit, dCmp, sSet, sRet, sRetN, eArgs, eCons, eNil, kB, rds, bInt, bLen, dAdd, dSub, dMul, dMod, dDiv, dNeg, uB, eNotT, eAndT, eOrT, eNotV, eAndV, eOrV, fr, kLen, rl, wi, wb, dNe, sh, D.eqv]
  · unfold F_is_fraction runF
    simp [B_is_fraction, B_is_fraction_0, sSeq, sIf, sNil, sEx, asB, eTru, uTru, D.tru, eBin, eUn, eV, eC, g2, g1, rd, dIx, atI_lit, ixN_lit, dCmp, sSet, sRet, sRetN, eArgs, eCons, eNil, kB, rds, bInt, bLen, dAdd, dSub, dMul, dMod, dDiv, dNeg, uB, eNotT, eAndT, eOrT, eNotV, eAndV, eOrV, fr, kLen, ri]
  · unfold F_is_fraction runF
    simp [B_is_fraction, B_is_fraction_0, sSeq, sIf, sNil, sEx, asB, eTru, uTru, D.tru, eBin, eUn, eV, eC, g2, g1, rd, dIx, atI_lit, ixN_lit, dCmp, sSet, sRet, sRetN, eArgs, eCons, eNil, kB, rds, bInt, bLen, dAdd, dSub, dMul, dMod, dDiv, dNeg, uB, eNotT, eAndT, eOrT, eNotV, eAndV, eOrV, fr, kLen, rt, wi, dNe, sh, D.eqv]
theorem want_weird : ∀ v ∈ weird, F_want_fraction [.d v] st = .exc 0 [("value", v)] st := by
  intro v hv
  have h := v_weird (st := st) v hv
  unfold F_want_fraction runF
  simp [B_want_fraction, B_want_fraction_0, sSeq, sIf, sNil, sEx, asB, eTru, uTru, D.tru, eBin, eUn, eV, eC, g2, g1, rd, dIx, atI_lit, ixN_lit, dCmp, sSet, sRet, sRetN, eArgs, eCons, eNil, kB, rds, bInt, bLen, dAdd, dSub, dMul, dMod, dDiv, dNeg, uB, eNotT, eAndT, eOrT, eNotV, eAndV, eOrV, kLen, h, sRaise, ofUs]
end
end K10
set_option maxRecDepth 100000
namespace K10
open PySem MM
abbrev Fra := Int × Int
def redp (t b : Int) : Fra := (t / (Int.gcd t b : Nat), b / (Int.gcd t b : Nat))
def pr (p : Fra) : D := fr p.1 p.2
theorem red_pr (t b : Int) : red t b = pr (redp t b) := rfl
def step (p q : Fra) : Fra := redp (p.1 * q.2 + q.1 * p.2) (p.2 * q.2)
/-- all bottoms at least 1; p's and theirs together stay small -/
def Sm : Int → List Fra → Prop
  | b, [] => 0 < b ∧ b < 1073741824
  | b, q :: qs => 0 < b ∧ b < 1073741824 ∧ 0 < q.2 ∧ q.2 < 1073741824 ∧ Sm (b * q.2) qs
theorem Sm.le : ∀ {qs : List Fra} {b c : Int}, Sm b qs → 0 < c → c ≤ b → Sm c qs
  | [], b, c, h, h0, h1 => ⟨h0, by have := h.2; omega⟩
  | q :: qs, b, c, h, h0, h1 => ⟨h0, by have := h.2.1; omega, h.2.2.1, h.2.2.2.1, Sm.le h.2.2.2.2 (Int.mul_pos h0 h.2.2.1) (Int.mul_le_mul_of_nonneg_right h1 (Int.le_of_lt h.2.2.1))⟩
theorem Sm.pos {b : Int} {qs : List Fra} (h : Sm b qs) : 0 < b ∧ b < 1073741824 := by
  cases qs with
  | nil => exact h
  | cons q qs => exact ⟨h.1, h.2.1⟩
theorem sm_step {p q : Fra} {qs : List Fra} (h : Sm p.2 (q :: qs)) : 0 < p.2 * q.2 ∧ p.2 * q.2 < 1073741824 ∧ Sm (step p q).2 qs := by
  obtain ⟨h1, h2, h3, h4, h5⟩ := h
  have hb := Int.mul_pos h1 h3
  obtain ⟨g0, _, _, g3, g4, _⟩ := red_pos (t := p.1 * q.2 + q.1 * p.2) hb
  exact ⟨hb, h5.pos.2, h5.le g3 g4⟩
/-- a loop that adds up -/
theorem fold_loop {g : SF} {i j : Nat} (st : Stor) (hg : ∀ (p q : Fra) (ρ : Slots), 0 < p.2 → p.2 < 1073741824 → 0 < q.2 → q.2 < 1073741824 → p.2 * q.2 < 1073741824 → ρ[i]? = some (some (.d (pr p))) → ρ[j]? = some (some (.d (pr q))) → g ρ st = .nx (ρ.set i (some (.d (pr (step p q))))) st)
    (hij : i ≠ j) : ∀ (qs : List Fra) (p : Fra) (ρ : Slots), Sm p.2 qs → i < ρ.length → j < ρ.length → ρ[i]? = some (some (.d (pr p))) → ∃ w, forL (tName j) g none (qs.map pr) ρ st = .nx ((ρ.set j w).set i (some (.d (pr (qs.foldl step p))))) st
  | [], p, ρ, h, hi, hj, hp => by
    refine ⟨ρ[j], ?_⟩
    have e1 : ρ.set j ρ[j] = ρ := List.set_getElem_self hj
    have e2 : ρ.set i (some (.d (pr p))) = ρ := by
      obtain ⟨h1, h2⟩ := List.getElem?_eq_some_iff.mp hp
      rw [← h2]
      exact List.set_getElem_self h1
    rw [e1]
    show RS.nx ρ st = _
    rw [List.foldl_nil, e2]
  | q :: qs, p, ρ, h, hi, hj, hp => by
    obtain ⟨h1, h2, h3⟩ := sm_step h
    have a1 : (ρ.set j (some (.d (pr q))))[i]? = some (some (.d (pr p))) := by rw [List.getElem?_set_ne (Ne.symm hij)]; exact hp
    have a2 : (ρ.set j (some (.d (pr q))))[j]? = some (some (.d (pr q))) := List.getElem?_set_self hj
    have e := hg p q (ρ.set j (some (.d (pr q)))) h.1 h.2.1 h.2.2.1 h.2.2.2.1 h2 a1 a2
    obtain ⟨w, hw⟩ := fold_loop st hg hij qs (step p q) ((ρ.set j (some (.d (pr q)))).set i (some (.d (pr (step p q))))) h3 (by simpa using hi) (by simpa using hj) (List.getElem?_set_self (by simpa using hi))
    refine ⟨w, ?_⟩
    have e0 : forL (tName j) g none (pr q :: qs.map pr) ρ st = forL (tName j) g none (qs.map pr) ((ρ.set j (some (.d (pr q)))).set i (some (.d (pr (step p q))))) st := by
      rw [forL]
      simp only [chk_none, tName]
      rw [e]
    rw [List.map_cons, e0, hw, List.foldl_cons]
    congr 1
    apply List.ext_getElem?
    intro k
    simp only [List.getElem?_set, List.length_set]
    by_cases h1 : i = k
    · simp [h1]
    · by_cases h2 : j = k
      · simp [h1, h2]
      · simp [h1, h2]

theorem v_step {p q : Fra} {st : Stor} (h1 : 0 < p.2) (h2 : p.2 < 1073741824) (h3 : 0 < q.2) (h4 : q.2 < 1073741824) (h5 : p.2 * q.2 < 1073741824) : F_plus [.d (pr p), .d (pr q)] st = .ok (.d (pr (step p q))) st := v_plus h1 h3 h2 h4 h5
theorem v_total {qs : List Fra} (h : Sm 1 qs) (st : Stor) : F_total [.d (.list (qs.map pr))] st = .ok (.d (pr (qs.foldl step (0, 1)))) st := by
  obtain ⟨w, hw⟩ := fold_loop (g := sSet 1 (eArgs (eCons (eV 1) (eCons (eV 2) eNil)) (kLen 2 F_plus))) (i := 1) (j := 2) st (fun p q ρ h1 h2 h3 h4 h5 e1 e2 => sSet_o (args_o (cons_o (eV_o e1) (cons_o (eV_o e2) rfl)) (len_o rfl (v_step h1 h2 h3 h4 h5))))
    (by decide) qs (0, 1) [some (.d (.list (qs.map pr))), some (.d (pr (0, 1))), none] h (by simp) (by simp) rfl
  have h0 : B_total_0 [some (.d (.list (qs.map pr))), none, none] st = .nx [some (.d (.list (qs.map pr))), some (.d (pr (0, 1))), none] st := sSet_o (args_o (cons_o rfl (cons_o rfl rfl)) (tup_o rfl (by decide)))
  have h1 : B_total_1 [some (.d (.list (qs.map pr))), some (.d (pr (0, 1))), none] st = _ := sFor_o (nl_o (items_o (eV_o rfl) rfl)) hw
  exact run_same (g := B_total) (sSeq_n h0 (sSeq_n h1 (sRet_o (eV_o rfl))))
end K10
set_option maxRecDepth 100000
namespace K10
open PySem MM
theorem redp_scale {k t b : Int} (hk : 0 < k) : redp (k * t) (k * b) = redp t b := by
  unfold redp
  rw [Int.gcd_mul_left]
  have e : ((k.natAbs * Int.gcd t b : Nat) : Int) = k * (Int.gcd t b : Nat) := by
    rw [Int.natCast_mul]
    congr 1
    omega
  rw [e, Int.mul_ediv_mul_of_pos _ _ hk, Int.mul_ediv_mul_of_pos _ _ hk]
theorem redp_back {t b : Int} (hb : 0 < b) : t = (Int.gcd t b : Nat) * (redp t b).1 ∧ b = (Int.gcd t b : Nat) * (redp t b).2 ∧ (0 : Int) < (Int.gcd t b : Nat) := by
  obtain ⟨h0, h1, h2, _⟩ := red_pos (t := t) hb
  exact ⟨(Int.mul_ediv_cancel' h1).symm, (Int.mul_ediv_cancel' h2).symm, by omega⟩
theorem step_red {a b c d : Int} (hb : 0 < b) (hd : 0 < d) : step (redp a b) (redp c d) = redp (a * d + c * b) (b * d) := by
  obtain ⟨h1, h2, h3⟩ := redp_back (t := a) hb
  obtain ⟨h4, h5, h6⟩ := redp_back (t := c) hd
  generalize redp a b = p at h1 h2 ⊢
  generalize redp c d = q at h4 h5 ⊢
  generalize ((Int.gcd a b : Nat) : Int) = g at h1 h2 h3
  generalize ((Int.gcd c d : Nat) : Int) = e at h4 h5 h6
  have hk : 0 < g * e := Int.mul_pos h3 h6
  unfold step
  rw [← redp_scale hk (t := p.1 * q.2 + q.1 * p.2) (b := p.2 * q.2)]
  congr 1
  · rw [h1, h2, h4, h5]
    simp only [Int.mul_add]
    congr 1 <;> ac_rfl
  · rw [h2, h5]
    ac_rfl
theorem dInts_map : ∀ ns : List Int, dInts (ns.map D.int) = some ns
  | [] => rfl
  | i :: ns => by
    rw [List.map_cons, dInts, dInts_map ns]
theorem max_o {ns : List Int} {m : Int} (hm : m ∈ ns) (hu : ∀ y ∈ ns, y ≤ m) : bMax1 [.list (ns.map D.int)] = some (.int m) := by
  unfold bMax1
  simp only [dInts_map]
  cases ns with
  | nil => cases hm
  | cons i ns => exact congrArg some (congrArg D.int (Int.le_antisymm (hu _ (maxI_mem _ (by simp))) (maxI_ub _ _ hm)))
theorem min_o {ns : List Int} {m : Int} (hm : m ∈ ns) (hu : ∀ y ∈ ns, m ≤ y) : bMin1 [.list (ns.map D.int)] = some (.int m) := by
  unfold bMin1
  simp only [dInts_map]
  cases ns with
  | nil => cases hm
  | cons i ns => exact congrArg some (congrArg D.int (Int.le_antisymm (minI_lb _ _ hm) (hu _ (minI_mem _ (by simp)))))
/-- -61 .. 61 -/
def whs : List Int := (List.range 123).map fun (i : Nat) => -61 + (i : Int)
theorem whs_mem {k : Int} : k ∈ whs ↔ -61 ≤ k ∧ k ≤ 61 := by
  unfold whs
  rw [List.mem_map]
  constructor
  · rintro ⟨i, hi, rfl⟩
    have := List.mem_range.mp hi
    omega
  · intro h
    exact ⟨(k + 61).toNat, List.mem_range.mpr (by omega), by omega⟩
theorem filter_int (ns : List Int) (p : Int → Bool) (q : D → Bool) (h : ∀ i, q (.int i) = p i) : (((ns.map D.int).filter q).map id) = (ns.filter p).map D.int := by
  rw [List.map_id, List.filter_map]
  congr 1
  apply List.filter_congr
  intro x _
  exact h x
theorem max_floor {a b : Int} (hb : 0 < b) (h1 : -60 ≤ a) (h2 : a ≤ 60) : bMax1 [.list ((whs.filter fun k => decide (k * b ≤ a)).map D.int)] = some (.int (a / b)) := by
  have e1 : a / b * b ≤ a := Int.ediv_mul_le a (by omega)
  have e2 : a < (a / b + 1) * b := Int.lt_ediv_add_one_mul_self a hb
  refine max_o (List.mem_filter.mpr ⟨whs_mem.mpr ?_, decide_eq_true e1⟩) fun y hy => ?_
  · constructor
    · exact Int.le_ediv_of_mul_le hb (by omega)
    · have : a / b ≤ a / 1 ∨ a / b < 0 ∨ True := .inr (.inr trivial)
      have : a / b < 62 := Int.ediv_lt_of_lt_mul hb (by omega)
      omega
  · have := of_decide_eq_true (List.mem_filter.mp hy).2
    exact Int.le_ediv_of_mul_le hb this
theorem min_ceil {a b : Int} (hb : 0 < b) (h1 : -60 ≤ a) (h2 : a ≤ 60) : bMin1 [.list ((whs.filter fun k => decide (a ≤ k * b)).map D.int)] = some (.int (-(-a / b))) := by
  have e1 : -a / b * b ≤ -a := Int.ediv_mul_le (-a) (by omega)
  have e2 : -a < (-a / b + 1) * b := Int.lt_ediv_add_one_mul_self (-a) hb
  have l1 : -61 ≤ -a / b := Int.le_ediv_of_mul_le hb (by omega)
  have l2 : -a / b < 62 := Int.ediv_lt_of_lt_mul hb (by omega)
  have e3 : a ≤ -(-a / b) * b := by
    rw [Int.neg_mul]
    omega
  refine min_o (List.mem_filter.mpr ⟨whs_mem.mpr (by omega), decide_eq_true e3⟩) fun y hy => ?_
  have h : a ≤ y * b := of_decide_eq_true (List.mem_filter.mp hy).2
  have : -y ≤ -a / b := Int.le_ediv_of_mul_le hb (by rw [Int.neg_mul]; omega)
  omega
theorem max_near {a b : Int} (hb : 0 < b) (h1 : -60 ≤ a) (h2 : a ≤ 60) : bMax1 [.list ((whs.filter fun k => decide ((2 * k - 1) * b ≤ 2 * a)).map D.int)] = some (.int ((2 * a + b) / (2 * b))) := by
  have hb2 : 0 < 2 * b := by omega
  have e1 : (2 * a + b) / (2 * b) * (2 * b) ≤ 2 * a + b := Int.ediv_mul_le (2 * a + b) (by omega)
  have l1 : -61 ≤ (2 * a + b) / (2 * b) := Int.le_ediv_of_mul_le hb2 (by omega)
  have l2 : (2 * a + b) / (2 * b) < 62 := Int.ediv_lt_of_lt_mul hb2 (by omega)
  have key : ∀ k : Int, (2 * k - 1) * b = k * (2 * b) - b := fun k => by
    rw [Int.sub_mul, Int.one_mul, Int.mul_assoc, Int.mul_left_comm]
  refine max_o (List.mem_filter.mpr ⟨whs_mem.mpr (by omega), decide_eq_true (by rw [key]; omega)⟩) fun y hy => ?_
  have h : (2 * y - 1) * b ≤ 2 * a := of_decide_eq_true (List.mem_filter.mp hy).2
  rw [key] at h
  exact Int.le_ediv_of_mul_le hb2 (by omega)
theorem red_floor {a b : Int} (hb : 0 < b) : (redp a b).1 / (redp a b).2 = a / b := by
  obtain ⟨h1, h2, h3⟩ := redp_back (t := a) hb
  generalize redp a b = p at h1 h2 ⊢
  generalize ((Int.gcd a b : Nat) : Int) = g at h1 h2 h3
  rw [h1, h2, Int.mul_ediv_mul_of_pos _ _ h3]
theorem red_ceil {a b : Int} (hb : 0 < b) : -(-(redp a b).1 / (redp a b).2) = -(-a / b) := by
  obtain ⟨h1, h2, h3⟩ := redp_back (t := a) hb
  generalize redp a b = p at h1 h2 ⊢
  generalize ((Int.gcd a b : Nat) : Int) = g at h1 h2 h3
  rw [h1, h2, ← Int.mul_neg, Int.mul_ediv_mul_of_pos _ _ h3]
theorem red_near {a b : Int} (hb : 0 < b) : (2 * (redp a b).1 + (redp a b).2) / (2 * (redp a b).2) = (2 * a + b) / (2 * b) := by
  obtain ⟨h1, h2, h3⟩ := redp_back (t := a) hb
  generalize redp a b = p at h1 h2 ⊢
  generalize ((Int.gcd a b : Nat) : Int) = g at h1 h2 h3
  have e1 : 2 * a + b = g * (2 * p.1 + p.2) := by
    rw [h1, h2, Int.mul_add, Int.mul_left_comm]
  have e2 : 2 * b = g * (2 * p.2) := by
    rw [h2, Int.mul_left_comm]
  rw [e1, e2, Int.mul_ediv_mul_of_pos _ _ h3]
end K10
set_option maxRecDepth 100000
namespace K10
open PySem MM
def ok1 (p : Fra) : Prop := 0 < p.2 ∧ p.2 < 1073741824
def ltf (p q : Fra) : Bool := decide (p.1 * q.2 < q.1 * p.2)
def place (row : List Fra) (q : Fra) : Nat := (row.filter fun o => !ltf q o).length
def ins (row : List Fra) (q : Fra) : List Fra := row.take (place row q) ++ [q] ++ row.drop (place row q)
theorem place_le (row : List Fra) (q : Fra) : place row q ≤ row.length := List.length_filter_le ..
theorem ins_len (row : List Fra) (q : Fra) : (ins row q).length = row.length + 1 := by
  have := place_le row q
  unfold ins
  simp
  omega
theorem med_comp {R0 w3 w4 w5 w6 : Option U} {row : List Fra} {q : Fra} {st : Stor} (hq : ok1 q) (hr : ∀ p ∈ row, ok1 p) (hl : row.length ≤ 1000) :
    eLc false [6] (eLive (eV 1)) (tName 6) (eNotT (eTru (eArgs (eCons (eV 2) (eCons (eV 6) eNil)) (kLen 2 F_is_less)))) (eV 6) [R0, some (.loc st.length), some (.d (pr q)), w3, w4, w5, w6] (st ++ [.lst (row.map pr)]) =
      .ok (.d (.list ((row.filter fun o => !ltf q o).map pr))) (st ++ [.lst (row.map pr)]) := by
  have hf : eLive (eV 1) [R0, some (.loc st.length), some (.d (pr q)), w3, w4, w5, w6] (st ++ [.lst (row.map pr)]) = .ok (row.map pr, some (st.length, row.map pr)) (st ++ [.lst (row.map pr)]) := by
    unfold eLive
    rw [eV_o (u := .loc st.length) rfl]
    simp only [R.bind_ok, kLive]
    simp
  have hlt : ∀ (p : Fra), ok1 p → ∀ st, F_is_less [.d (pr q), .d (pr p)] st = .ok (.d (.bool (ltf q p))) st := fun p hp st => v_less hq.1 hp.1 hq.2 hp.2
  have h2 := comp_pure (vs := [6]) (h := tName 6) (c := eNotT (eTru (eArgs (eCons (eV 2) (eCons (eV 6) eNil)) (kLen 2 F_is_less)))) (e := eV 6)
    (fun d => match d with
      | .tuple [.int t, .int b] => !ltf q (t, b)
      | _ => false) id hf (by rw [List.length_map]; omega) (fun acc => by
        show ((st ++ [O.lst (row.map pr)]) ++ [O.lst acc])[st.length]? = _
        simp) (fun d hd => by
        obtain ⟨p, hp, rfl⟩ := List.mem_map.mp hd
        exact ⟨_, rfl, fun acc => ⟨notT_o (tru_o (args_o (cons_o (eV_o rfl) (cons_o (eV_o rfl) rfl)) (len_o rfl (hlt p (hr p hp) _))) rfl), fun _ => eV_o rfl⟩⟩)
  rw [h2, List.map_id, List.filter_map]
  congr 4
theorem med_step {R0 w3 w4 w5 w6 : Option U} {row : List Fra} {q : Fra} {st : Stor} (hq : ok1 q) (hr : ∀ p ∈ row, ok1 p) (hl : row.length ≤ 1000) :
    ∃ w, sSeq (sSet 3 (eArgs (eCons (eLc false [6] (eLive (eV 1)) (tName 6) (eNotT (eTru (eArgs (eCons (eV 2) (eCons (eV 6) eNil)) (kLen 2 F_is_less)))) (eV 6)) eNil) (kB bLen))) (sEx (eLM kIns (eV 1) (eCons (eV 3) (eCons (eV 2) eNil)))) [R0, some (.loc st.length), some (.d (pr q)), w3, w4, w5, w6] (st ++ [.lst (row.map pr)]) =
      .nx [R0, some (.loc st.length), some (.d (pr q)), w, w4, w5, w6] (st ++ [.lst ((ins row q).map pr)]) := by
  refine ⟨some (.d (.int (place row q))), sSeq_n (sSet_o (args_o (cons_o (med_comp hq hr hl) rfl) (q := .ok (.d (.int (place row q))) (st ++ [.lst (row.map pr)])) ?_)) ?_⟩
  · have : bLen [.list ((row.filter fun o => !ltf q o).map pr)] = some (.int (place row q)) := by
      have e : bLen [.list ((row.filter fun o => !ltf q o).map pr)] = some (.int ((row.filter fun o => !ltf q o).map pr).length) := rfl
      rw [e, List.length_map]
      rfl
    exact kB_o rfl this
  · have hp := place_le row q
    have hk : kIns (row.map pr) [.d (.int (place row q)), .d (pr q)] = some (.none, (ins row q).map pr) := by
      have e : kIns (row.map pr) [.d (.int (place row q)), .d (pr q)] = if decide ((0 : Int) ≤ place row q ∧ (place row q : Int) < 2 ^ 63 ∧ (row.map pr).length < 16777216) then some (.none, (row.map pr).take (place row q : Int).toNat ++ [pr q] ++ (row.map pr).drop (place row q : Int).toNat) else none := rfl
      rw [e, if_pos (decide_eq_true ⟨by omega, by omega, by rw [List.length_map]; omega⟩), Int.toNat_natCast]
      unfold ins
      rw [List.map_append, List.map_append, List.map_take, List.map_drop]
      rfl
    have hz : (st ++ [O.lst (row.map pr)])[st.length]? = some (.lst (row.map pr)) := by simp
    have h := sEx_o (lm_o (k := kIns) (fo := eV 1) (fs := eCons (eV 3) (eCons (eV 2) eNil)) (ρ := [R0, some (.loc st.length), some (.d (pr q)), some (.d (.int (place row q))), w4, w5, w6]) (eV_o rfl) hz (cons_o (eV_o rfl) (cons_o (eV_o rfl) rfl)) hz hk)
    have e2 : (st ++ [O.lst (row.map pr)]).set st.length (.lst ((ins row q).map pr)) = st ++ [.lst ((ins row q).map pr)] := by simp
    rw [e2] at h
    exact h
theorem ins_mem {row : List Fra} {q p : Fra} (h : p ∈ ins row q) : p ∈ row ∨ p = q := by
  unfold ins at h
  rw [List.mem_append, List.mem_append] at h
  rcases h with (h | h) | h
  · exact .inl (List.mem_of_mem_take h)
  · exact .inr (List.mem_singleton.mp h)
  · exact .inl (List.mem_of_mem_drop h)
theorem med_loop {R0 w4 w5 w6 : Option U} {st : Stor} : ∀ (qs row : List Fra) (w2 w3 : Option U), (∀ p ∈ qs, ok1 p) → (∀ p ∈ row, ok1 p) → row.length + qs.length ≤ 1000 →
    ∃ v2 v3, forL (tName 2) (sSeq (sSet 3 (eArgs (eCons (eLc false [6] (eLive (eV 1)) (tName 6) (eNotT (eTru (eArgs (eCons (eV 2) (eCons (eV 6) eNil)) (kLen 2 F_is_less)))) (eV 6)) eNil) (kB bLen))) (sEx (eLM kIns (eV 1) (eCons (eV 3) (eCons (eV 2) eNil))))) none (qs.map pr)
      [R0, some (.loc st.length), w2, w3, w4, w5, w6] (st ++ [.lst (row.map pr)]) = .nx [R0, some (.loc st.length), v2, v3, w4, w5, w6] (st ++ [.lst ((qs.foldl ins row).map pr)])
  | [], row, w2, w3, _, _, _ => ⟨w2, w3, rfl⟩
  | q :: qs, row, w2, w3, hq, hr, hl => by
    rw [List.length_cons] at hl
    obtain ⟨w, hw⟩ := med_step (R0 := R0) (w3 := w3) (w4 := w4) (w5 := w5) (w6 := w6) (st := st) (hq q List.mem_cons_self) hr (by omega)
    obtain ⟨v2, v3, hv⟩ := med_loop (R0 := R0) (w4 := w4) (w5 := w5) (w6 := w6) (st := st) qs (ins row q) (some (.d (pr q))) w (fun p hp => hq p (List.mem_cons_of_mem _ hp)) (fun p hp => (ins_mem hp).elim (hr p) fun e => e ▸ hq q List.mem_cons_self) (by rw [ins_len]; omega)
    refine ⟨v2, v3, ?_⟩
    rw [List.map_cons, forL]
    simp only [chk_none, tName]
    show (match sSeq _ _ [R0, some (.loc st.length), some (.d (pr q)), w3, w4, w5, w6] (st ++ [.lst (row.map pr)]) with
      | .nx ρ2 st2 => forL (tName 2) _ none (qs.map pr) ρ2 st2
      | .ct ρ2 st2 => forL (tName 2) _ none (qs.map pr) ρ2 st2
      | .bk ρ2 st2 => RS.nx ρ2 st2
      | r => r) = _
    rw [hw]
    exact hv
end K10
set_option maxRecDepth 100000
namespace K10
open PySem MM
theorem cut1 {α : Type} (x : α) (xs : List α) : cut (x :: xs) (some 1) none = xs := by
  unfold cut
  rw [HT.sIx_none, show (some (1 : Int)) = some ((1 : Nat) : Int) from rfl, HT.sIx_nat, List.length_cons, Nat.min_eq_left (by omega)]
  simp
theorem v_median {f0 f s : Fra} {qs : List Fra} {st : Stor} (h0 : ok1 f0) (hq : ∀ p ∈ qs, ok1 p) (hl : qs.length ≤ 900)
    (hf : (qs.foldl ins [f0])[((qs.foldl ins [f0]).length - 1) / 2]? = some f) (hs : (qs.foldl ins [f0])[(qs.foldl ins [f0]).length / 2]? = some s) (hn : 0 < (qs.foldl ins [f0]).length)
    (of : ok1 f) (os : ok1 s) (b1 : f.2 * s.2 < 1073741824) (b2 : (step f s).2 * 2 < 1073741824) (b3 : 0 < (step f s).2) (b4 : -18446744073709551616 < (step f s).1 ∧ (step f s).1 < 18446744073709551616) :
    F_median [.d (.list ((f0 :: qs).map pr))] st = .ok (.d (red ((step f s).1 * 1) ((step f s).2 * 2))) st := by
  obtain ⟨v2, v3, hw⟩ := med_loop (R0 := some (.d (.list ((f0 :: qs).map pr)))) (w4 := none) (w5 := none) (w6 := none) (st := st) qs [f0] none none hq (fun p hp => by rw [List.mem_singleton.mp hp]; exact h0) (by simp; omega)
  generalize qs.foldl ins [f0] = row at hf hs hn hw
  have e0 : B_median_0 [some (.d (.list ((f0 :: qs).map pr))), none, none, none, none, none, none] st = .nx [some (.d (.list ((f0 :: qs).map pr))), some (.loc st.length), none, none, none, none, none] (st ++ [.lst [pr f0]]) :=
    sSet_o (args_o (cons_o (bin_o (eV_o rfl) rfl (g2_o (z := pr f0) (by show L2.atI (pr f0 :: qs.map pr) 0 = _; rw [atI_lit]; rfl))) rfl) (lstN_o rfl (by simp)))
  have hsl : nl (eItems (eSl (eV 0) (ePart (eC (.int 1))) eNoPart)) [some (.d (.list ((f0 :: qs).map pr))), some (.loc st.length), none, none, none, none, none] (st ++ [.lst [pr f0]]) = .ok (qs.map pr, none) (st ++ [.lst [pr f0]]) := by
    refine nl_o (items_o (x := .list (qs.map pr)) ?_ rfl)
    have e : eSl (eV 0) (ePart (eC (.int 1))) eNoPart [some (.d (.list ((f0 :: qs).map pr))), some (.loc st.length), none, none, none, none, none] (st ++ [.lst [pr f0]]) = .ok (.d (.list (cut ((f0 :: qs).map pr) (some 1) none))) (st ++ [.lst [pr f0]]) := rfl
    rw [e, List.map_cons, cut1]
  have e1 : B_median_1 [some (.d (.list ((f0 :: qs).map pr))), some (.loc st.length), none, none, none, none, none] (st ++ [.lst [pr f0]]) = _ := sFor_o hsl hw
  have hr : rd (st ++ [O.lst (row.map pr)]) (.loc st.length) = some (.list (row.map pr)) := rd_lst (by simp)
  have i1 : dIx (.list (row.map pr)) (.int (((row.length : Int) - 1) / 2)) = some (pr f) := by
    show L2.atI (row.map pr) _ = _
    rw [atI_pos _ (by omega), show (((row.length : Int) - 1) / 2).toNat = (row.length - 1) / 2 by omega, List.getElem?_map, hf]
    rfl
  have i2 : dIx (.list (row.map pr)) (.int ((row.length : Int) / 2)) = some (pr s) := by
    show L2.atI (row.map pr) _ = _
    rw [atI_pos _ (by omega), show ((row.length : Int) / 2).toNat = row.length / 2 by omega, List.getElem?_map, hs]
    rfl
  have hln : eArgs (eCons (eV 1) eNil) (kB bLen) [some (.d (.list ((f0 :: qs).map pr))), some (.loc st.length), v2, v3, none, none, none] (st ++ [.lst (row.map pr)]) = .ok (.d (.int row.length)) (st ++ [.lst (row.map pr)]) := by
    refine args_o (cons_o (eV_o rfl) rfl) (kB_o (xs := [.list (row.map pr)]) ?_ ?_)
    · rw [rds, hr]
      rfl
    · have e : bLen [.list (row.map pr)] = some (.int (row.map pr).length) := rfl
      rw [e, List.length_map]
  have e2 : B_median_2 [some (.d (.list ((f0 :: qs).map pr))), some (.loc st.length), v2, v3, none, none, none] (st ++ [.lst (row.map pr)]) = .nx [some (.d (.list ((f0 :: qs).map pr))), some (.loc st.length), v2, v3, some (.d (pr f)), some (.d (pr s)), none] (st ++ [.lst (row.map pr)]) :=
    sPar_o (cons_o (bin_o (eV_o rfl) (bin_o (bin_o hln rfl (g2_o rfl)) rfl (g2_o rfl)) (rd_o hr i1)) (cons_o (bin_o (eV_o rfl) (bin_o hln rfl (g2_o rfl)) (rd_o hr i2)) rfl)) rfl
  have e3 : B_median_3 [some (.d (.list ((f0 :: qs).map pr))), some (.loc st.length), v2, v3, some (.d (pr f)), some (.d (pr s)), none] (st ++ [.lst (row.map pr)]) = .rt (.d (red ((step f s).1 * 1) ((step f s).2 * 2))) (st ++ [.lst (row.map pr)]) :=
    sRet_o (args_o (cons_o (args_o (cons_o (eV_o rfl) (cons_o (eV_o rfl) rfl)) (len_o rfl (v_step of.1 of.2 os.1 os.2 b1))) (cons_o (args_o (cons_o rfl (cons_o rfl rfl)) (tup_o rfl (by simp))) rfl))
      (len_o rfl (v_times (t2 := 1) (b2 := 2) b3 (by decide) (by omega) (by decide) b2 b4)))
  have := run_rt (g := B_median) (n := 7) (us := [.d (.list ((f0 :: qs).map pr))]) (st := st) (sSeq_n e0 (sSeq_n e1 (sSeq_n e2 e3)))
  rw [show (st ++ [O.lst (row.map pr)]).take st.length = st by simp] at this
  exact this
end K10
set_option maxRecDepth 100000
namespace K10
open PySem MM
theorem pos_of {x y : Int} (h : 0 < x * y) (hx : 0 < x) : 0 < y := by
  rcases Int.lt_trichotomy y 0 with h1 | h1 | h1
  · have := Int.mul_neg_of_pos_of_neg hx h1
    omega
  · rw [h1, Int.mul_zero] at h
    omega
  · exact h1
/-- over one common bottom -/
def kk (L : Int) (p : Fra) : Int := p.1 * (L / p.2)
theorem key_lt {L : Int} {p q : Fra} (hL : 0 < L) (hp : 0 < p.2) (dp : p.2 ∣ L) (hq : 0 < q.2) (dq : q.2 ∣ L) : p.1 * q.2 < q.1 * p.2 ↔ kk L p < kk L q := by
  obtain ⟨a, ha⟩ := dp
  obtain ⟨b, hb⟩ := dq
  have ea : L / p.2 = a := by rw [ha, Int.mul_ediv_cancel_left _ (by omega)]
  have eb : L / q.2 = b := by rw [hb, Int.mul_ediv_cancel_left _ (by omega)]
  have a0 : 0 < a := pos_of (by rw [← ha]; exact hL) hp
  have b0 : 0 < b := pos_of (by rw [← hb]; exact hL) hq
  unfold kk
  rw [ea, eb, ← Int.mul_lt_mul_right (Int.mul_pos a0 b0)]
  have e1 : p.1 * q.2 * (a * b) = p.1 * a * L := by
    rw [hb]
    ac_rfl
  have e2 : q.1 * p.2 * (a * b) = q.1 * b * L := by
    rw [ha]
    ac_rfl
  rw [e1, e2, Int.mul_lt_mul_right hL]
theorem ins_sorted {κ : Fra → Int} {q : Fra} : ∀ {row : List Fra}, (∀ o ∈ row, ltf q o = decide (κ q < κ o)) → row.Pairwise (fun a b => κ a ≤ κ b) → (ins row q).Pairwise fun a b => κ a ≤ κ b
  | [], _, _ => by
    unfold ins place
    simp
  | x :: xs, hk, hs => by
    rw [List.pairwise_cons] at hs
    have ih := ins_sorted (κ := κ) (q := q) (row := xs) (fun o ho => hk o (List.mem_cons_of_mem _ ho)) hs.2
    by_cases h : κ q < κ x
    · have e0 : place (x :: xs) q = 0 := by
        unfold place
        rw [filter_none fun o ho => ?_]
        · rfl
        · rw [hk o ho]
          have : κ q < κ o := by
            rcases List.mem_cons.mp ho with e | e
            · rw [e]; exact h
            · have := hs.1 o e
              omega
          simp [this]
      unfold ins
      rw [e0]
      simp only [List.take_zero, List.nil_append, List.drop_zero, List.singleton_append]
      refine List.pairwise_cons.mpr ⟨fun o ho => ?_, List.pairwise_cons.mpr hs⟩
      rcases List.mem_cons.mp ho with e | e
      · rw [e]; omega
      · have := hs.1 o e
        omega
    · have e0 : place (x :: xs) q = place xs q + 1 := by
        unfold place
        rw [List.filter_cons_of_pos (by rw [hk x List.mem_cons_self]; simp [h])]
        rfl
      have e1 : ins (x :: xs) q = x :: ins xs q := by
        unfold ins
        rw [e0]
        rfl
      rw [e1]
      refine List.pairwise_cons.mpr ⟨fun o ho => ?_, ih⟩
      rcases ins_mem ho with e | e
      · exact hs.1 o e
      · rw [e]; omega
theorem ins_perm (row : List Fra) (q : Fra) : (ins row q).Perm (q :: row) := by
  unfold ins
  have h : (row.take (place row q) ++ [q] ++ row.drop (place row q)).Perm (q :: (row.take (place row q) ++ row.drop (place row q))) := by
    rw [List.append_assoc]
    exact List.perm_middle
  rw [List.take_append_drop] at h
  exact h
theorem fold_perm : ∀ (qs row : List Fra), (qs.foldl ins row).Perm (qs ++ row)
  | [], row => List.Perm.refl _
  | q :: qs, row => by
    rw [List.foldl_cons]
    refine (fold_perm qs (ins row q)).trans ?_
    refine ((ins_perm row q).append_left qs).trans ?_
    exact List.perm_middle
theorem fold_sorted {κ : Fra → Int} : ∀ (qs row : List Fra), (∀ p ∈ qs ++ row, ∀ o ∈ qs ++ row, ltf p o = decide (κ p < κ o)) → row.Pairwise (fun a b => κ a ≤ κ b) → (qs.foldl ins row).Pairwise fun a b => κ a ≤ κ b
  | [], row, _, hs => hs
  | q :: qs, row, hk, hs => by
    rw [List.foldl_cons]
    refine fold_sorted qs (ins row q) (fun p hp o ho => ?_) (ins_sorted (fun o ho => hk q (by simp) o (by simp [ho])) hs)
    have key : ∀ x, x ∈ qs ++ ins row q → x ∈ q :: qs ++ row := fun x hx => by
      rcases List.mem_append.mp hx with h | h
      · simp [h]
      · rcases ins_mem h with h | h
        · simp [h]
        · simp [h]
    exact hk p (key p hp) o (key o ho)
/-- how many lie below half the sum of two middles -/
theorem count_below {κ : Fra → Int} {row : List Fra} {f s : Fra} (hs : row.Pairwise fun a b => κ a ≤ κ b) (h1 : row[(row.length - 1) / 2]? = some f) (h2 : row[row.length / 2]? = some s) :
    2 * (row.filter fun p => decide (2 * κ p < κ f + κ s)).length ≤ row.length := by
  obtain ⟨l2, e2⟩ := List.getElem?_eq_some_iff.mp h2
  obtain ⟨l1, e1⟩ := List.getElem?_eq_some_iff.mp h1
  have fs : κ f ≤ κ s := by
    rcases Nat.lt_or_ge ((row.length - 1) / 2) (row.length / 2) with h | h
    · rw [← e1, ← e2]
      exact List.pairwise_iff_getElem.mp hs _ _ l1 l2 h
    · have e : (row.length - 1) / 2 = row.length / 2 := by omega
      have e3 : f = s := by
        rw [e, h2] at h1
        exact (Option.some.inj h1).symm
      rw [e3]
      exact Int.le_refl _
  have hd : ∀ p ∈ row.drop (row.length / 2), κ s ≤ κ p := by
    have hp := List.Pairwise.sublist (List.drop_sublist (row.length / 2) row) hs
    rw [List.drop_eq_getElem_cons l2, e2] at hp ⊢
    intro p hm
    rcases List.mem_cons.mp hm with e | e
    · rw [e]
      exact Int.le_refl _
    · exact (List.pairwise_cons.mp hp).1 p e
  have e : row.filter (fun p => decide (2 * κ p < κ f + κ s)) = (row.take (row.length / 2)).filter (fun p => decide (2 * κ p < κ f + κ s)) := by
    conv => lhs; rw [← List.take_append_drop (row.length / 2) row]
    rw [List.filter_append, filter_none (l := row.drop (row.length / 2)) (fun p hp => by
      have := hd p hp
      exact decide_eq_false (by omega)), List.append_nil]
  rw [e]
  have := List.length_filter_le (fun p => decide (2 * κ p < κ f + κ s)) (row.take (row.length / 2))
  rw [List.length_take] at this
  omega
theorem count_above {κ : Fra → Int} {row : List Fra} {f s : Fra} (hs : row.Pairwise fun a b => κ a ≤ κ b) (h1 : row[(row.length - 1) / 2]? = some f) (h2 : row[row.length / 2]? = some s) :
    2 * (row.filter fun p => decide (κ f + κ s < 2 * κ p)).length ≤ row.length := by
  obtain ⟨l2, e2⟩ := List.getElem?_eq_some_iff.mp h2
  obtain ⟨l1, e1⟩ := List.getElem?_eq_some_iff.mp h1
  have fs : κ f ≤ κ s := by
    rcases Nat.lt_or_ge ((row.length - 1) / 2) (row.length / 2) with h | h
    · rw [← e1, ← e2]
      exact List.pairwise_iff_getElem.mp hs _ _ l1 l2 h
    · have e : (row.length - 1) / 2 = row.length / 2 := by omega
      have e3 : f = s := by
        rw [e, h2] at h1
        exact (Option.some.inj h1).symm
      rw [e3]
      exact Int.le_refl _
  have hd : ∀ p ∈ row.take ((row.length - 1) / 2 + 1), κ p ≤ κ f := by
    intro p hm
    obtain ⟨k, hk⟩ := List.getElem?_of_mem hm
    obtain ⟨q1, q2⟩ := List.getElem?_eq_some_iff.mp hk
    rw [List.length_take] at q1
    rw [List.getElem_take] at q2
    rw [← q2, ← e1]
    rcases Nat.lt_or_ge k ((row.length - 1) / 2) with h | h
    · exact List.pairwise_iff_getElem.mp hs _ _ (by omega) l1 h
    · have e : k = (row.length - 1) / 2 := by omega
      subst e
      exact Int.le_refl _
  have e : row.filter (fun p => decide (κ f + κ s < 2 * κ p)) = (row.drop ((row.length - 1) / 2 + 1)).filter (fun p => decide (κ f + κ s < 2 * κ p)) := by
    conv => lhs; rw [← List.take_append_drop ((row.length - 1) / 2 + 1) row]
    rw [List.filter_append, filter_none (l := row.take ((row.length - 1) / 2 + 1)) (fun p hp => by
      have := hd p hp
      exact decide_eq_false (by omega)), List.nil_append]
  rw [e]
  have := List.length_filter_le (fun p => decide (κ f + κ s < 2 * κ p)) (row.drop ((row.length - 1) / 2 + 1))
  rw [List.length_drop] at this
  omega
/-- a fraction's value is kept when it is reduced -/
theorem redp_val {t b : Int} (hb : 0 < b) : (redp t b).1 * b = t * (redp t b).2 := by
  obtain ⟨h1, h2, h3⟩ := redp_back (t := t) hb
  generalize redp t b = p at h1 h2 ⊢
  generalize ((Int.gcd t b : Nat) : Int) = g at h1 h2 h3
  rw [h1, h2]
  ac_rfl
/-- the middle's value, over twice the common bottom -/
theorem mid_val {L : Int} {f s : Fra} (hL : 0 < L) (hf : 0 < f.2) (df : f.2 ∣ L) (hs : 0 < s.2) (ds : s.2 ∣ L) :
    (redp ((step f s).1 * 1) ((step f s).2 * 2)).1 * (2 * L) = (kk L f + kk L s) * (redp ((step f s).1 * 1) ((step f s).2 * 2)).2 := by
  have hfs := Int.mul_pos hf hs
  have v1 : (step f s).1 * (f.2 * s.2) = (f.1 * s.2 + s.1 * f.2) * (step f s).2 := redp_val hfs
  have p2 : 0 < (step f s).2 := (red_pos (t := f.1 * s.2 + s.1 * f.2) hfs).2.2.2.1
  have v2 := redp_val (t := (step f s).1 * 1) (b := (step f s).2 * 2) (by omega)
  generalize redp ((step f s).1 * 1) ((step f s).2 * 2) = m at v2 ⊢
  generalize step f s = u at v1 v2 p2
  obtain ⟨a, ha⟩ := df
  obtain ⟨b, hb⟩ := ds
  have ea : L / f.2 = a := by rw [ha, Int.mul_ediv_cancel_left _ (by omega)]
  have eb : L / s.2 = b := by rw [hb, Int.mul_ediv_cancel_left _ (by omega)]
  unfold kk
  rw [ea, eb]
  have a0 : 0 < a := pos_of (by rw [← ha]; exact hL) hf
  have b0 : 0 < b := pos_of (by rw [← hb]; exact hL) hs
  have c : u.2 * (f.2 * s.2) ≠ 0 := Int.ne_of_gt (Int.mul_pos p2 hfs)
  apply Int.eq_of_mul_eq_mul_right c
  have r1 : m.1 * (2 * L) * (u.2 * (f.2 * s.2)) = (m.1 * (u.2 * 2)) * (L * (f.2 * s.2)) := by ac_rfl
  have r2 : (u.1 * 1 * m.2) * (L * (f.2 * s.2)) = (u.1 * (f.2 * s.2)) * (m.2 * L) := by
    rw [Int.mul_one]
    ac_rfl
  have r3 : f.1 * s.2 * u.2 * (m.2 * L) = f.1 * a * m.2 * (u.2 * (f.2 * s.2)) := by
    rw [ha]
    ac_rfl
  have r4 : s.1 * f.2 * u.2 * (m.2 * L) = s.1 * b * m.2 * (u.2 * (f.2 * s.2)) := by
    rw [hb]
    ac_rfl
  rw [r1, v2, r2, v1, Int.add_mul, Int.add_mul, r3, r4, ← Int.add_mul, ← Int.add_mul]
theorem lt_mid {L c : Int} {p m : Fra} (hL : 0 < L) (hp : 0 < p.2) (dp : p.2 ∣ L) (hm : 0 < m.2) (hv : m.1 * (2 * L) = c * m.2) : (p.1 * m.2 < m.1 * p.2 ↔ 2 * kk L p < c) ∧ (m.1 * p.2 < p.1 * m.2 ↔ c < 2 * kk L p) := by
  obtain ⟨a, ha⟩ := dp
  have ea : L / p.2 = a := by rw [ha, Int.mul_ediv_cancel_left _ (by omega)]
  have a0 : 0 < a := pos_of (by rw [← ha]; exact hL) hp
  have e1 : p.1 * m.2 * (2 * a) = 2 * kk L p * m.2 := by
    unfold kk
    rw [ea]
    ac_rfl
  have e2 : m.1 * p.2 * (2 * a) = c * m.2 := by
    rw [← hv, ha]
    ac_rfl
  have h2a : 0 < 2 * a := by omega
  constructor
  · rw [← Int.mul_lt_mul_right h2a, e1, e2, Int.mul_lt_mul_right hm]
  · rw [← Int.mul_lt_mul_right h2a, e1, e2, Int.mul_lt_mul_right hm]
theorem dvd_cop {a b c : Int} (h : a ∣ b * c) (g : Int.gcd a b = 1) : a ∣ c := by
  have h1 : a.natAbs ∣ b.natAbs * c.natAbs := by
    rw [← Int.natAbs_mul]
    exact Int.natAbs_dvd_natAbs.mpr h
  exact Int.natAbs_dvd_natAbs.mp (Nat.Coprime.dvd_of_dvd_mul_left (show Nat.Coprime a.natAbs b.natAbs from g) h1)
/-- of one value, both reduced: the same -/
theorem red_uniq {p m : Fra} (hp : 0 < p.2) (hm : 0 < m.2) (gp : Int.gcd p.1 p.2 = 1) (gm : Int.gcd m.1 m.2 = 1) (h : m.1 * p.2 = p.1 * m.2) : m = p := by
  have d1 : p.2 ∣ m.2 := dvd_cop (b := p.1) ⟨m.1, by rw [Int.mul_comm p.2, h]⟩ (by rw [Int.gcd_comm]; exact gp)
  have d2 : m.2 ∣ p.2 := dvd_cop (b := m.1) ⟨p.1, by rw [Int.mul_comm m.2, ← h]⟩ (by rw [Int.gcd_comm]; exact gm)
  have e : m.2 = p.2 := Int.le_antisymm (Int.le_of_dvd hp d2) (Int.le_of_dvd hm d1)
  rw [e] at h
  have e1 : m.1 = p.1 := Int.eq_of_mul_eq_mul_right (Int.ne_of_gt hp) h
  exact Prod.ext e1 e
end K10
set_option maxRecDepth 100000
namespace K10
open PySem MM
/-! of reduced parts -/
theorem parts {a b : Int} (hb : 0 < b) : ∃ g : Int, 0 < g ∧ a = g * (redp a b).1 ∧ b = g * (redp a b).2 ∧ 0 < (redp a b).2 ∧ (redp a b).2 ≤ b ∧ Int.gcd (redp a b).1 (redp a b).2 = 1 ∧ (redp a b).1.natAbs ≤ a.natAbs := by
  obtain ⟨h1, h2, h3⟩ := redp_back (t := a) hb
  obtain ⟨_, _, _, h4, h5, h6⟩ := red_pos (t := a) hb
  refine ⟨_, h3, h1, h2, h4, h5, h6, ?_⟩
  show (a / _).natAbs ≤ _
  exact Int.natAbs_ediv_le_natAbs a _
theorem minus_red {a b c d : Int} (hb : 0 < b) (hd : 0 < d) : redp ((redp a b).1 * (redp c d).2 - (redp c d).1 * (redp a b).2) ((redp a b).2 * (redp c d).2) = redp (a * d - c * b) (b * d) := by
  obtain ⟨g, h3, h1, h2, _⟩ := parts (a := a) hb
  obtain ⟨e, h6, h4, h5, _⟩ := parts (a := c) hd
  generalize redp a b = p at *
  generalize redp c d = q at *
  rw [← redp_scale (Int.mul_pos h3 h6) (t := p.1 * q.2 - q.1 * p.2) (b := p.2 * q.2)]
  congr 1
  · rw [h1, h2, h4, h5]
    simp only [Int.mul_sub]
    congr 1 <;> ac_rfl
  · rw [h2, h5]
    ac_rfl
theorem times_red {a b c d : Int} (hb : 0 < b) (hd : 0 < d) : redp ((redp a b).1 * (redp c d).1) ((redp a b).2 * (redp c d).2) = redp (a * c) (b * d) := by
  obtain ⟨g, h3, h1, h2, _⟩ := parts (a := a) hb
  obtain ⟨e, h6, h4, h5, _⟩ := parts (a := c) hd
  generalize redp a b = p at *
  generalize redp c d = q at *
  rw [← redp_scale (Int.mul_pos h3 h6) (t := p.1 * q.1) (b := p.2 * q.2)]
  congr 1
  · rw [h1, h4]
    ac_rfl
  · rw [h2, h5]
    ac_rfl
theorem over_red {a b c d : Int} (hb : 0 < b) (hd : 0 < d) : redp ((redp a b).1 * (redp c d).2) ((redp a b).2 * (redp c d).1) = redp (a * d) (b * c) := by
  obtain ⟨g, h3, h1, h2, _⟩ := parts (a := a) hb
  obtain ⟨e, h6, h4, h5, _⟩ := parts (a := c) hd
  generalize redp a b = p at *
  generalize redp c d = q at *
  rw [← redp_scale (Int.mul_pos h3 h6) (t := p.1 * q.2) (b := p.2 * q.1)]
  congr 1
  · rw [h1, h5]
    ac_rfl
  · rw [h2, h4]
    ac_rfl
theorem less_red {a b c d : Int} (hb : 0 < b) (hd : 0 < d) : (redp a b).1 * (redp c d).2 < (redp c d).1 * (redp a b).2 ↔ a * d < c * b := by
  obtain ⟨g, h3, h1, h2, _⟩ := parts (a := a) hb
  obtain ⟨e, h6, h4, h5, _⟩ := parts (a := c) hd
  generalize redp a b = p at *
  generalize redp c d = q at *
  have hk := Int.mul_pos h3 h6
  have e1 : a * d = (g * e) * (p.1 * q.2) := by
    rw [h1, h5]
    ac_rfl
  have e2 : c * b = (g * e) * (q.1 * p.2) := by
    rw [h2, h4]
    ac_rfl
  rw [e1, e2, Int.mul_lt_mul_left hk]
/-! the middle -/
theorem has_L : ∀ l : List Fra, (∀ p ∈ l, 0 < p.2) → ∃ L : Int, 0 < L ∧ ∀ p ∈ l, p.2 ∣ L
  | [], _ => ⟨1, by decide, fun p h => by cases h⟩
  | q :: l, h => by
    obtain ⟨L, h1, h2⟩ := has_L l fun p hp => h p (List.mem_cons_of_mem _ hp)
    refine ⟨q.2 * L, Int.mul_pos (h q List.mem_cons_self) h1, fun p hp => ?_⟩
    rcases List.mem_cons.mp hp with e | e
    · rw [e]
      exact Int.dvd_mul_right ..
    · exact Int.dvd_trans (h2 p e) (Int.dvd_mul_left ..)
/-- a small reduced fraction -/
def good (p : Fra) : Prop := 0 < p.2 ∧ p.2 ≤ 60 ∧ -60 ≤ p.1 ∧ p.1 ≤ 60 ∧ Int.gcd p.1 p.2 = 1
theorem mul_bd {a b x y : Int} (ha : -x ≤ a) (ha2 : a ≤ x) (hb : 0 ≤ b) (hb2 : b ≤ y) (hx : 0 ≤ x) : -(x * y) ≤ a * b ∧ a * b ≤ x * y := by
  have h1 : a * b ≤ x * b := Int.mul_le_mul_of_nonneg_right ha2 hb
  have h2 : x * b ≤ x * y := Int.mul_le_mul_of_nonneg_left hb2 hx
  have h3 : (-x) * b ≤ a * b := Int.mul_le_mul_of_nonneg_right ha hb
  rw [Int.neg_mul] at h3
  omega
theorem v_mid {f0 : Fra} {qs : List Fra} {st : Stor} (hg : ∀ p ∈ f0 :: qs, good p) (hl : qs.length ≤ 900) :
    ∃ m : Fra, F_median [.d (.list ((f0 :: qs).map pr))] st = .ok (.d (pr m)) st ∧ 0 < m.2 ∧ m.2 ≤ 7200 ∧ -7200 ≤ m.1 ∧ m.1 ≤ 7200 ∧
      2 * ((f0 :: qs).filter fun p => decide (p.1 * m.2 < m.1 * p.2)).length ≤ (f0 :: qs).length ∧
      2 * ((f0 :: qs).filter fun p => decide (m.1 * p.2 < p.1 * m.2)).length ≤ (f0 :: qs).length ∧
      ((f0 :: qs).length % 2 = 1 → m ∈ f0 :: qs) := by
  obtain ⟨L, hL, hd⟩ := has_L (f0 :: qs) fun p hp => (hg p hp).1
  have hperm : (qs.foldl ins [f0]).Perm (f0 :: qs) := (fold_perm qs [f0]).trans (List.perm_append_comm (l₁ := qs) (l₂ := [f0]))
  have hmem : ∀ p ∈ qs.foldl ins [f0], p ∈ f0 :: qs := fun p hp => hperm.mem_iff.mp hp
  have hsort : (qs.foldl ins [f0]).Pairwise fun a b => kk L a ≤ kk L b := fold_sorted qs [f0] (fun p hp o ho => by
    have h1 : p ∈ f0 :: qs := by
      rcases List.mem_append.mp hp with h | h
      · exact List.mem_cons_of_mem _ h
      · rw [List.mem_singleton.mp h]; exact List.mem_cons_self
    have h2 : o ∈ f0 :: qs := by
      rcases List.mem_append.mp ho with h | h
      · exact List.mem_cons_of_mem _ h
      · rw [List.mem_singleton.mp h]; exact List.mem_cons_self
    unfold ltf
    exact decide_eq_decide.mpr (key_lt hL (hg p h1).1 (hd p h1) (hg o h2).1 (hd o h2))) (List.pairwise_singleton ..)
  have hlen : (qs.foldl ins [f0]).length = (f0 :: qs).length := hperm.length_eq
  have hvm := fun f s a b c d e => v_median (f0 := f0) (f := f) (s := s) (qs := qs) (st := st) a b hl c d e
  generalize qs.foldl ins [f0] = row at *
  have hn : 0 < row.length := by rw [hlen]; simp
  have hf : row[(row.length - 1) / 2]? = some row[(row.length - 1) / 2] := List.getElem?_eq_getElem (by omega)
  have hs : row[row.length / 2]? = some row[row.length / 2] := List.getElem?_eq_getElem (by omega)
  have hfm := hmem _ (List.mem_of_getElem? hf)
  have hsm := hmem _ (List.mem_of_getElem? hs)
  generalize hfe : row[(row.length - 1) / 2] = f at hf hfm
  generalize hse : row[row.length / 2] = s at hs hsm
  have ok1' : ∀ p ∈ f0 :: qs, ok1 p := fun p hp => ⟨(hg p hp).1, by have := (hg p hp).2.1; omega⟩
  obtain ⟨f1, f2, f3, f4, f5⟩ := hg f hfm
  obtain ⟨s1, s2, s3, s4, s5⟩ := hg s hsm
  have hbb := mul_bd (a := f.2) (b := s.2) (x := 60) (y := 60) (by omega) f2 (by omega) s2 (by omega)
  have hfs := Int.mul_pos f1 s1
  have t1 := mul_bd (a := f.1) (b := s.2) (x := 60) (y := 60) (by omega) f4 (by omega) s2 (by omega)
  have t2 := mul_bd (a := s.1) (b := f.2) (x := 60) (y := 60) (by omega) s4 (by omega) f2 (by omega)
  obtain ⟨_, _, _, _, u1, u2, _, u3⟩ := parts (a := f.1 * s.2 + s.1 * f.2) hfs
  have hm := mid_val hL f1 (hd f hfm) s1 (hd s hsm)
  have hv := hvm f s (ok1' _ List.mem_cons_self) (fun p hp => ok1' p (List.mem_cons_of_mem _ hp)) hf hs hn (ok1' f hfm) (ok1' s hsm) (by omega)
  change 0 < (step f s).2 at u1
  change (step f s).2 ≤ _ at u2
  change (step f s).1.natAbs ≤ _ at u3
  have hv := hv (by omega) u1 (by omega)
  obtain ⟨_, _, _, _, w1, w2, w5, w3⟩ := parts (a := (step f s).1 * 1) (b := (step f s).2 * 2) (by omega)
  refine ⟨redp ((step f s).1 * 1) ((step f s).2 * 2), hv, w1, by omega, by omega, by omega, ?_, ?_, fun hodd => ?_⟩
  · rw [← hlen, ← (hperm.filter _).length_eq]
    have := count_below hsort hf hs
    rw [show row.filter (fun p => decide (p.1 * (redp ((step f s).1 * 1) ((step f s).2 * 2)).2 < (redp ((step f s).1 * 1) ((step f s).2 * 2)).1 * p.2)) = row.filter (fun p => decide (2 * kk L p < kk L f + kk L s)) from List.filter_congr fun p hp => decide_eq_decide.mpr (lt_mid hL (hg p (hmem p hp)).1 (hd p (hmem p hp)) w1 hm).1]
    exact this
  · rw [← hlen, ← (hperm.filter _).length_eq]
    have := count_above hsort hf hs
    rw [show row.filter (fun p => decide ((redp ((step f s).1 * 1) ((step f s).2 * 2)).1 * p.2 < p.1 * (redp ((step f s).1 * 1) ((step f s).2 * 2)).2)) = row.filter (fun p => decide (kk L f + kk L s < 2 * kk L p)) from List.filter_congr fun p hp => decide_eq_decide.mpr (lt_mid hL (hg p (hmem p hp)).1 (hd p (hmem p hp)) w1 hm).2]
    exact this
  · have e : f = s := by
      rw [← hlen] at hodd
      have e : (row.length - 1) / 2 = row.length / 2 := by omega
      rw [e, hs] at hf
      exact (Option.some.inj hf).symm
    rw [← e] at hm w1 w5 ⊢
    have : redp ((step f f).1 * 1) ((step f f).2 * 2) = f := by
      refine red_uniq f1 w1 f5 w5 ?_
      obtain ⟨a, ha⟩ := hd f hfm
      have ea : L / f.2 = a := by rw [ha, Int.mul_ediv_cancel_left _ (by omega)]
      have a0 : 0 < a := pos_of (by rw [← ha]; exact hL) f1
      unfold kk at hm
      rw [ea] at hm
      generalize redp ((step f f).1 * 1) ((step f f).2 * 2) = m at hm ⊢
      apply Int.eq_of_mul_eq_mul_right (a := 2 * a) (by omega)
      have r1 : m.1 * f.2 * (2 * a) = m.1 * (2 * L) := by
        rw [ha]
        ac_rfl
      have r2 : f.1 * m.2 * (2 * a) = (f.1 * a + f.1 * a) * m.2 := by
        rw [← Int.two_mul]
        ac_rfl
      rw [r1, r2, hm]
    rw [this]
    exact hfm
end K10
set_option maxRecDepth 100000
namespace K10
open PySem MM
theorem draw {ρ : Slots} {o : O} {n : Int} {rest : Stor} (hρ : ρ[1]? = some (some (.loc 0))) (h : Row o) (h0 : 0 < n) (h1 : n < 1073741824) :
    ∃ x o', eArgs (eCons (eV 1) (eCons (eC (.int n)) eNil)) (kLen 2 F__law_taken) ρ (o :: rest) = .ok (.d (.int x)) (o' :: rest) ∧ 0 ≤ x ∧ x < n ∧ Row o' := by
  obtain ⟨x, o', e, hx, hx2, hr⟩ := taken (st := o :: rest) (i := 0) rfl h h0 h1
  exact ⟨x, o', args_o (cons_o (eV_o hρ) (cons_o rfl rfl)) (len_o rfl e), hx, hx2, hr⟩
theorem cmpT_o {ρ : Slots} {st : Stor} {fa fb : EF U} {i j : Int} {p : Int → Int → Bool} {b : Bool} (ha : fa ρ st = .ok (.d (.int i)) st) (hb : fb ρ st = .ok (.d (.int j)) st) (h : p i j = b) : asB (eBin (g2 (dCmp p)) fa fb) ρ st = .ok b st := by
  subst h
  exact asB_o (cmp_o ha hb)
theorem alike_o {ρ : Slots} {st : Stor} {fa fb : EF U} {x y : D} (ha : fa ρ st = .ok (.d x) st) (hb : fb ρ st = .ok (.d y) st) (hx : pl 3 x = true) (e : x = y) :
    eNotT (eTru (eArgs (eCons fa (eCons fb eNil)) (kLen 2 (F__law_alike 4)))) ρ st = .ok false st := by
  subst e
  exact notT_o (tru_o (call2_o ha hb (v_alike 3 x hx st)) rfl)
theorem pl_pr (n : Nat) (p : Fra) : pl (n + 1) (pr p) = true := by simp [pr, fr, pl, pls]
abbrev sg (R : D) (a b c d : Int) (w8 w9 w10 w11 w12 w13 w14 w15 w16 w17 w18 : Option U) : Slots :=
  [some (.d R), some (.loc 0), some (.d (.int a)), some (.d (.int b)), some (.d (.int c)), some (.d (.int d)), some (.d (pr (redp a b))), some (.d (pr (redp c d))), w8, w9, w10, w11, w12, w13, w14, w15, w16, w17, w18]
section
variable {R : D} {a b c d : Int} {w8 w9 w10 w11 w12 w13 w14 w15 w16 w17 w18 : Option U} {st : Stor}
theorem bds {a b : Int} (hb : 1 ≤ b ∧ b ≤ 60) (ha : -60 ≤ a ∧ a ≤ 60) : good (redp a b) := by
  obtain ⟨_, _, _, _, h1, h2, h3, h4⟩ := parts (a := a) (b := b) (by omega)
  exact ⟨h1, by omega, by omega, by omega, h3⟩
theorem s3 (ha : -60 ≤ a ∧ a ≤ 60) (hb : 1 ≤ b ∧ b ≤ 60) (hc : -60 ≤ c ∧ c ≤ 60) (hd : 1 ≤ d ∧ d ≤ 60) : B_law_3 (sg R a b c d w8 w9 w10 w11 w12 w13 w14 w15 w16 w17 w18) st = .nx (sg R a b c d w8 w9 w10 w11 w12 w13 w14 w15 w16 w17 w18) st := by
  have g1 := bds hb ha
  have h1 : Int.gcd (a * 2) (b * 2) ≠ 1 := by
    rw [Int.gcd_mul_right]
    intro e
    have := Nat.eq_one_of_mul_eq_one_left e
    simp at this
  have i1 : F_is_fraction [.d (pr (redp a b))] st = .ok (.d (.bool true)) st := by
    have := v_isf (t := (redp a b).1) (b := (redp a b).2) (st := st) g1.1 (by have := g1.2.1; omega)
    rw [decide_eq_true g1.2.2.2.2] at this
    exact this
  have i2 : F_is_fraction [.d (.tuple [.int (a * 2), .int (b * 2)])] st = .ok (.d (.bool false)) st := by
    have := v_isf (t := a * 2) (b := b * 2) (st := st) (by omega) (by omega)
    rw [decide_eq_false h1] at this
    exact this
  exact sIf_n (orT_f (alike_o (tup2_o (eV_o rfl) (eV_o rfl)) (tup2_o (call2_o (eV_o rfl) (eV_o rfl) (v_low (by omega) (by omega) st)) (call2_o (eV_o rfl) (eV_o rfl) (v_low (by omega) (by omega) st))) (by simp [pr, fr, pl, pls]) rfl)
    (orT_f (notT_o (tru_o (call1_o (eV_o rfl) i1) rfl)) (tru_o (call1_o (tup2_o (mul_o (eV_o rfl) rfl (cm_l (by omega) (by omega))) (mul_o (eV_o rfl) rfl (cm_l (by omega) (by omega)))) i2) rfl)))
theorem s4 (ha : -60 ≤ a ∧ a ≤ 60) (hb : 1 ≤ b ∧ b ≤ 60) (hc : -60 ≤ c ∧ c ≤ 60) (hd : 1 ≤ d ∧ d ≤ 60) : B_law_4 (sg R a b c d w8 w9 w10 w11 w12 w13 w14 w15 w16 w17 w18) st = .nx (sg R a b c d w8 w9 w10 w11 w12 w13 w14 w15 w16 w17 w18) st := by
  obtain ⟨p1, p2, p3, p4, _⟩ := bds hb ha
  obtain ⟨q1, q2, q3, q4, _⟩ := bds hd hc
  have hb0 : 0 < b := by omega
  have hd0 : 0 < d := by omega
  have hm := mul_bd (a := (redp a b).2) (b := (redp c d).2) (x := 60) (y := 60) (by omega) p2 (by omega) q2 (by omega)
  have hbd0 := Int.mul_pos hb0 hd0
  have hbd := mul_bd (a := b) (b := d) (x := 60) (y := 60) (by omega) hb.2 (by omega) hd.2 (by omega)
  have e1 : F_plus [.d (pr (redp a b)), .d (pr (redp c d))] st = .ok (.d (pr (redp (a * d + c * b) (b * d)))) st := by
    rw [v_step p1 (by omega) q1 (by omega) (by omega), step_red hb0 hd0]
  have e2 : F_minus [.d (pr (redp a b)), .d (pr (redp c d))] st = .ok (.d (pr (redp (a * d - c * b) (b * d)))) st := by
    rw [show pr (redp a b) = fr (redp a b).1 (redp a b).2 from rfl, show pr (redp c d) = fr (redp c d).1 (redp c d).2 from rfl, v_minus p1 q1 (by omega) (by omega) (by omega), red_pr, minus_red hb0 hd0]
  have e3 : F_times [.d (pr (redp a b)), .d (pr (redp c d))] st = .ok (.d (pr (redp (a * c) (b * d)))) st := by
    rw [show pr (redp a b) = fr (redp a b).1 (redp a b).2 from rfl, show pr (redp c d) = fr (redp c d).1 (redp c d).2 from rfl, v_times p1 q1 (by omega) (by omega) (by omega) (by omega), red_pr, times_red hb0 hd0]
  have l := fun t => v_low (t := t) (b := b * d) hbd0 (by omega) st
  have md : ∀ i, cMul b i = true := fun i => cm_l (by omega) (by omega)
  have ma : ∀ i, cMul a i = true := fun i => cm_l (by omega) (by omega)
  have mc : ∀ i, cMul c i = true := fun i => cm_l (by omega) (by omega)
  exact sIf_n (alike_o (tup3_o (call2_o (eV_o rfl) (eV_o rfl) e1) (call2_o (eV_o rfl) (eV_o rfl) e2) (call2_o (eV_o rfl) (eV_o rfl) e3))
    (tup3_o (call2_o (add_o (mul_o (eV_o rfl) (eV_o rfl) (ma _)) (mul_o (eV_o rfl) (eV_o rfl) (mc _))) (mul_o (eV_o rfl) (eV_o rfl) (md _)) (l _))
      (call2_o (sub_o (mul_o (eV_o rfl) (eV_o rfl) (ma _)) (mul_o (eV_o rfl) (eV_o rfl) (mc _))) (mul_o (eV_o rfl) (eV_o rfl) (md _)) (l _))
      (call2_o (mul_o (eV_o rfl) (eV_o rfl) (ma _)) (mul_o (eV_o rfl) (eV_o rfl) (md _)) (l _))) (by simp [pr, fr, pl, pls]) rfl)
theorem s5 (ha : -60 ≤ a ∧ a ≤ 60) (hb : 1 ≤ b ∧ b ≤ 60) (hc : -60 ≤ c ∧ c ≤ 60) (hd : 1 ≤ d ∧ d ≤ 60) : B_law_5 (sg R a b c d w8 w9 w10 w11 w12 w13 w14 w15 w16 w17 w18) st = .nx (sg R a b c d w8 w9 w10 w11 w12 w13 w14 w15 w16 w17 w18) st := by
  obtain ⟨p1, p2, p3, p4, _⟩ := bds hb ha
  obtain ⟨q1, q2, q3, q4, _⟩ := bds hd hc
  have hb0 : 0 < b := by omega
  have hd0 : 0 < d := by omega
  have md : ∀ i, cMul b i = true := fun i => cm_l (by omega) (by omega)
  have ma : ∀ i, cMul a i = true := fun i => cm_l (by omega) (by omega)
  have mc : ∀ i, cMul c i = true := fun i => cm_l (by omega) (by omega)
  have e1 : F_is_less [.d (pr (redp a b)), .d (pr (redp c d))] st = .ok (.d (.bool (decide (a * d < c * b)))) st := by
    rw [show pr (redp a b) = fr (redp a b).1 (redp a b).2 from rfl, show pr (redp c d) = fr (redp c d).1 (redp c d).2 from rfl, v_less p1 q1 (by omega) (by omega), decide_eq_decide.mpr (less_red hb0 hd0)]
  refine sIf_n (orT_f (st1 := st) ?_ (notT_o (b := true) (tru_o (x := .bool true) (call2_o (call2_o (eV_o rfl) (eV_o rfl) e1) (cmp_o (mul_o (eV_o rfl) (eV_o rfl) (ma _)) (mul_o (eV_o rfl) (eV_o rfl) (mc _))) (v_truth _)) rfl)))
  by_cases h : 0 < c
  · have q5 : 0 < (redp c d).1 := by
      obtain ⟨g, k1, k2, _⟩ := parts (a := c) hd0
      exact pos_of (by rw [← k2]; exact h) k1
    have hm := mul_bd (a := (redp a b).2) (b := (redp c d).1) (x := 60) (y := 60) (by omega) p2 (by omega) q4 (by omega)
    have hbc0 := Int.mul_pos hb0 h
    have hbc := mul_bd (a := b) (b := c) (x := 60) (y := 60) (by omega) hb.2 (by omega) hc.2 (by omega)
    have e2 : F_over [.d (pr (redp a b)), .d (pr (redp c d))] st = .ok (.d (pr (redp (a * d) (b * c)))) st := by
      rw [show pr (redp a b) = fr (redp a b).1 (redp a b).2 from rfl, show pr (redp c d) = fr (redp c d).1 (redp c d).2 from rfl, v_over p1 q1 (by omega) (by omega) q5 (by omega) (by omega), red_pr, over_red hb0 hd0]
    exact andT_t (cmpT_o (b := true) (eV_o rfl) rfl (decide_eq_true h)) (alike_o (call2_o (eV_o rfl) (eV_o rfl) e2) (call2_o (mul_o (eV_o rfl) (eV_o rfl) (ma _)) (mul_o (eV_o rfl) (eV_o rfl) (md _)) (v_low hbc0 (by omega) st)) (by simp [pr, fr, pl, pls]) rfl)
  · exact andT_f (cmpT_o (b := false) (eV_o rfl) rfl (decide_eq_false h))
theorem s6 : B_law_6 (sg R a b c d w8 w9 w10 w11 w12 w13 w14 w15 w16 w17 w18) st = .nx (sg R a b c d (some (.d (.list (whs.map .int)))) w9 w10 w11 w12 w13 w14 w15 w16 w17 w18) st := by
  refine sSet_o (u := .d (.list (whs.map .int))) (bin_o (neg_o rfl) rfl (g2_o ?_))
  rfl
theorem comp_wh {P : Int → Bool} {c' : EF Bool} (h : ∀ k acc, c' (sg R a b c d (some (.d (.list (whs.map .int)))) w9 w10 w11 w12 w13 w14 w15 w16 w17 (some (.d (.int k)))) (st ++ [.lst acc]) = .ok (P k) (st ++ [.lst acc])) :
    eLc false [18] (nl (eItems (eV 8))) (tName 18) c' (eV 18) (sg R a b c d (some (.d (.list (whs.map .int)))) w9 w10 w11 w12 w13 w14 w15 w16 w17 w18) st = .ok (.d (.list ((whs.filter P).map .int))) st := by
  have hx : nl (eItems (eV 8)) (sg R a b c d (some (.d (.list (whs.map .int)))) w9 w10 w11 w12 w13 w14 w15 w16 w17 w18) st = .ok (whs.map .int, none) st := nl_o (items_o (x := .list (whs.map .int)) (eV_o rfl) rfl)
  have h2 := comp_pure (vs := [18]) (h := tName 18) (c := c') (e := eV 18) (fun d => match d with
      | .int k => P k
      | _ => false) id hx (by simp [whs]) (fun _ => True.intro) (fun d hd => by
        obtain ⟨k, hk, rfl⟩ := List.mem_map.mp hd
        exact ⟨_, rfl, fun acc => ⟨h k acc, fun _ => eV_o rfl⟩⟩)
  rw [h2, filter_int whs P _ fun i => rfl]
theorem s7 (ha : -60 ≤ a ∧ a ≤ 60) (hb : 1 ≤ b ∧ b ≤ 60) : B_law_7 (sg R a b c d (some (.d (.list (whs.map .int)))) w9 w10 w11 w12 w13 w14 w15 w16 w17 w18) st =
    .nx (sg R a b c d (some (.d (.list (whs.map .int)))) (some (.d (.int (a / b)))) (some (.d (.int (-(-a / b))))) w11 w12 w13 w14 w15 w16 w17 w18) st := by
  have mb : ∀ i, cMul i b = true := fun i => cm_r (by omega) (by omega)
  refine sPar_o (us := [.d (.int (a / b)), .d (.int (-(-a / b)))]) (cons_o (b1_o (comp_wh (P := fun k => decide (k * b ≤ a)) fun k acc => ?_) (max_floor (by omega) ha.1 ha.2)) (cons_o (b1_o (comp_wh (P := fun k => decide (a ≤ k * b)) fun k acc => ?_) (min_ceil (by omega) ha.1 ha.2)) rfl)) rfl
  · exact cmpT_o (mul_o (eV_o rfl) (eV_o rfl) (mb _)) (eV_o rfl) rfl
  · exact cmpT_o (mul_o (eV_o rfl) (eV_o rfl) (mb _)) (eV_o rfl) rfl
theorem s8 (ha : -60 ≤ a ∧ a ≤ 60) (hb : 1 ≤ b ∧ b ≤ 60) : B_law_8 (sg R a b c d (some (.d (.list (whs.map .int)))) w9 w10 w11 w12 w13 w14 w15 w16 w17 w18) st =
    .nx (sg R a b c d (some (.d (.list (whs.map .int)))) w9 w10 (some (.d (.int ((2 * a + b) / (2 * b))))) w12 w13 w14 w15 w16 w17 w18) st := by
  have mb : ∀ i, cMul i b = true := fun i => cm_r (by omega) (by omega)
  have m2 : ∀ i, cMul 2 i = true := fun i => cm_l (by omega) (by omega)
  refine sSet_o (b1_o (comp_wh (P := fun k => decide ((2 * k - 1) * b ≤ 2 * a)) fun k acc => ?_) (max_near (by omega) ha.1 ha.2))
  exact cmpT_o (mul_o (sub_o (mul_o rfl (eV_o rfl) (m2 _)) rfl) (eV_o rfl) (mb _)) (mul_o rfl (eV_o rfl) (m2 _)) rfl
theorem s9 (ha : -60 ≤ a ∧ a ≤ 60) (hb : 1 ≤ b ∧ b ≤ 60) : B_law_9 (sg R a b c d w8 (some (.d (.int (a / b)))) (some (.d (.int (-(-a / b))))) (some (.d (.int ((2 * a + b) / (2 * b))))) w12 w13 w14 w15 w16 w17 w18) st =
    .nx (sg R a b c d w8 (some (.d (.int (a / b)))) (some (.d (.int (-(-a / b))))) (some (.d (.int ((2 * a + b) / (2 * b))))) w12 w13 w14 w15 w16 w17 w18) st := by
  obtain ⟨p1, p2, p3, p4, _⟩ := bds hb ha
  have hb0 : 0 < b := by omega
  have e1 : F_floor_of [.d (pr (redp a b))] st = .ok (.d (.int (a / b))) st := by
    rw [show pr (redp a b) = fr (redp a b).1 (redp a b).2 from rfl, v_floor p1 (by omega), red_floor hb0]
  have e2 : F_ceiling_of [.d (pr (redp a b))] st = .ok (.d (.int (-(-a / b)))) st := by
    rw [show pr (redp a b) = fr (redp a b).1 (redp a b).2 from rfl, v_ceiling p1 (by omega), red_ceil hb0]
  have e3 : F_nearest [.d (pr (redp a b))] st = .ok (.d (.int ((2 * a + b) / (2 * b)))) st := by
    rw [show pr (redp a b) = fr (redp a b).1 (redp a b).2 from rfl, v_nearest p1 (by omega), red_near hb0]
  exact sIf_n (alike_o (tup3_o (call1_o (eV_o rfl) e1) (call1_o (eV_o rfl) e2) (call1_o (eV_o rfl) e3)) (tup3_o (eV_o rfl) (eV_o rfl) (eV_o rfl)) (by simp [pl, pls]) rfl)
end
end K10
set_option maxRecDepth 100000
namespace K10
open PySem MM
/-- what the row of draws brings -/
def fit (p : Fra) : Prop := 0 < p.2 ∧ p.2 ≤ 6 ∧ good p
noncomputable abbrev iT (n : Int) : EF U := eArgs (eCons (eV 1) (eCons (eC (.int n)) eNil)) (kLen 2 F__law_taken)
theorem draw_fit {ρ : Slots} {o : O} {rest : Stor} (hρ : ρ[1]? = some (some (.loc 0))) (h : Row o) :
    ∃ p o', eArgs (eCons (eBin (g2 dSub) (iT 40) (eC (.int 20))) (eCons (eBin (g2 dAdd) (eC (.int 1)) (iT 6)) eNil)) (kLen 2 F_reduced) ρ (o :: rest) = .ok (.d (pr p)) (o' :: rest) ∧ fit p ∧ Row o' := by
  obtain ⟨x, o1, e1, x1, x2, r1⟩ := draw (n := 40) (rest := rest) hρ h (by decide) (by decide)
  obtain ⟨y, o2, e2, y1, y2, r2⟩ := draw (n := 6) (rest := rest) hρ r1 (by decide) (by decide)
  obtain ⟨_, _, _, _, h1, h2, h3, h4⟩ := parts (a := x - 20) (b := 1 + y) (by omega)
  refine ⟨redp (x - 20) (1 + y), o2, args_o (cons_o (bin_o e1 rfl (g2_o rfl)) (cons_o (bin_o rfl e2 (g2_o rfl)) rfl)) (len_o rfl (v_reduced (by omega) (by omega) _)), ⟨h1, by omega, h1, by omega, by omega, by omega, h3⟩, r2⟩
theorem rows_o {ρ : Slots} {o : O} (hl : ρ.length = 19) (hρ : ρ[1]? = some (some (.loc 0))) (h : Row o) :
    ∃ (fs : List Fra) (o' : O), eLc false [18] (nl (eRange1 (eCons (iT 5) eNil))) (tName 18) eYes (eArgs (eCons (eBin (g2 dSub) (iT 40) (eC (.int 20))) (eCons (eBin (g2 dAdd) (eC (.int 1)) (iT 6)) eNil)) (kLen 2 F_reduced)) ρ [o] = .ok (.d (.list (fs.map pr))) [o'] ∧ fs.length ≤ 4 ∧ (∀ p ∈ fs, fit p) ∧ Row o' := by
  obtain ⟨x, o1, e1, x1, x2, r1⟩ := draw (n := 5) (rest := []) hρ h (by decide) (by decide)
  obtain ⟨ds, hds⟩ : ∃ ds : List D, ds = (List.range x.toNat).map fun (i : Nat) => D.int (0 + i) := ⟨_, rfl⟩
  have hdl : ds.length ≤ 4 := by rw [hds, List.length_map, List.length_range]; omega
  have hf : nl (eRange1 (eCons (iT 5) eNil)) ρ [o] = .ok (ds, none) [o1] := by
    refine nl_o (range1_o (cons_o e1 rfl) ?_)
    have hr : inR x = true := by
      unfold inR
      rw [Bool.and_eq_true]
      exact ⟨decide_eq_true (by omega), decide_eq_true (by omega)⟩
    have e3 : kRange1 [.d (.int x)] [o1] = if inR x then .ok ((List.range x.toNat).map fun (i : Nat) => D.int (0 + (i : Int))) [o1] else .bad := rfl
    rw [e3, if_pos hr, hds]
  have hρ2 : ∀ d, ((wipeS ρ [18]).set 18 (some (.d d)))[1]? = some (some (.loc 0)) := fun d => by
    show (List.set (List.set ρ 18 none) 18 _)[1]? = _
    rw [List.getElem?_set_ne (by decide), List.getElem?_set_ne (by decide)]
    exact hρ
  obtain ⟨acc', st', ec, ⟨fs, o', rfl, rfl, hr', hfs⟩, hl'⟩ := compL_inv (h := tName 18) (c := eYes) (e := eArgs (eCons (eBin (g2 dSub) (iT 40) (eC (.int 20))) (eCons (eBin (g2 dAdd) (eC (.int 1)) (iT 6)) eNil)) (kLen 2 F_reduced)) (ρ := wipeS ρ [18]) (n := 1) (lv := none) (ds := ds) (st := [o1, .lst []]) (acc := []) 0
    (fun k acc st => ∃ fs o', acc = fs.map pr ∧ st = [o', .lst acc] ∧ Row o' ∧ ∀ p ∈ fs, fit p)
    (fun k acc st z => by
      obtain ⟨fs, o', rfl, rfl, _⟩ := z
      exact ⟨True.intro, rfl⟩)
    (fun j d acc st hj z => by
      obtain ⟨fs, o', rfl, rfl, hr, hfs⟩ := z
      obtain ⟨p, o2, ep, hp, hr2⟩ := draw_fit (rest := [.lst (fs.map pr)]) (hρ2 d) hr
      refine ⟨_, true, _, rfl, rfl, fun _ => ⟨pr p, _, ep, rfl, fs ++ [p], o2, by simp, rfl, hr2, fun q hq => ?_⟩, fun h => Bool.noConfusion h⟩
      rcases List.mem_append.mp hq with e | e
      · exact hfs q e
      · rw [List.mem_singleton.mp e]; exact hp)
    ⟨[], o1, rfl, rfl, r1, fun p h => by cases h⟩ (by simp)
  refine ⟨fs, o', ?_, by rw [List.length_map] at hl'; omega, hfs, hr'⟩
  unfold eLc
  rw [hf]
  simp only [R.bind_ok]
  rw [if_pos (fits_le' (by omega))]
  show R.bind (R.nox (compL _ _ _ _ 1 none 0 ds [o1, .lst []])) _ = _
  rw [ec]
  rfl
theorem sm_of : ∀ (fs : List Fra) (b : Int), 0 < b → (∀ p ∈ fs, fit p) → b * 6 ^ fs.length < 1073741824 → Sm b fs
  | [], b, h0, _, h => ⟨h0, by simpa using h⟩
  | q :: fs, b, h0, hq, h => by
    obtain ⟨q1, q2, _⟩ := hq q List.mem_cons_self
    have hp : (1 : Int) ≤ 6 ^ fs.length := by
      have : (0 : Int) < 6 ^ fs.length := Int.pow_pos (by decide)
      omega
    have e : b * 6 ^ (q :: fs).length = b * 6 * 6 ^ fs.length := by
      rw [List.length_cons, Int.pow_succ, Int.mul_comm (6 ^ fs.length) 6, Int.mul_assoc]
    rw [e] at h
    have hb6 : b * 6 ≤ b * 6 * 6 ^ fs.length := by
      have := Int.mul_le_mul_of_nonneg_left hp (show 0 ≤ b * 6 by omega)
      rwa [Int.mul_one] at this
    have hbq : b * q.2 ≤ b * 6 := Int.mul_le_mul_of_nonneg_left q2 (by omega)
    refine ⟨h0, by omega, q1, by omega, sm_of fs (b * q.2) (Int.mul_pos h0 q1) (fun p hp => hq p (List.mem_cons_of_mem _ hp)) ?_⟩
    have := Int.mul_le_mul_of_nonneg_right hbq (show (0 : Int) ≤ 6 ^ fs.length by omega)
    omega
section
variable {R : D} {a b c d : Int} {w8 w9 w10 w11 w12 w13 w14 w15 w16 w17 w18 : Option U} {st : Stor}
theorem s10 (ha : -60 ≤ a ∧ a ≤ 60) (hb : 1 ≤ b ∧ b ≤ 60) (hc : -60 ≤ c ∧ c ≤ 60) (hd : 1 ≤ d ∧ d ≤ 60) {o : O} (h : Row o) :
    ∃ (fs : List Fra) (o' : O), B_law_10 (sg R a b c d w8 w9 w10 w11 w12 w13 w14 w15 w16 w17 w18) [o] = .nx (sg R a b c d w8 w9 w10 w11 (some (.d (.list ((redp a b :: redp c d :: fs).map pr)))) (some (.d (pr (0, 1)))) w14 w15 w16 w17 w18) [o'] ∧
      Sm 1 (redp a b :: redp c d :: fs) ∧ (∀ p ∈ redp a b :: redp c d :: fs, good p) ∧ fs.length ≤ 4 := by
  obtain ⟨fs, o', e, hl, hf, hr⟩ := rows_o (ρ := sg R a b c d w8 w9 w10 w11 w12 w13 w14 w15 w16 w17 w18) rfl rfl h
  have g1 := bds hb ha
  have g2' := bds hd hc
  refine ⟨fs, o', ?_, ?_, ?_, hl⟩
  · refine sPar_o (us := [.d (.list ((redp a b :: redp c d :: fs).map pr)), .d (pr (0, 1))]) (cons_o (bin_o (v2_o (eV_o rfl) (eV_o rfl) (lst_o rfl (by simp))) e (g2_o ?_)) (cons_o (tup2_o rfl rfl) rfl)) rfl
    show (if fits ([pr (redp a b), pr (redp c d)].length + (fs.map pr).length) then some (D.list ([pr (redp a b), pr (redp c d)] ++ fs.map pr)) else none) = _
    rw [if_pos (fits_le' (by rw [List.length_map]; simp; omega))]
    rfl
  · obtain ⟨p1, p2, _⟩ := g1
    obtain ⟨q1, q2, _⟩ := g2'
    have hm := mul_bd (a := (redp a b).2) (b := (redp c d).2) (x := 60) (y := 60) (by omega) p2 (by omega) q2 (by omega)
    have hm0 := Int.mul_pos p1 q1
    refine ⟨by omega, by omega, p1, by omega, by omega, by omega, q1, by omega, sm_of fs _ (by rw [Int.one_mul]; exact hm0) hf ?_⟩
    have h6 : (6 : Int) ^ fs.length ≤ 6 ^ 4 := by
      have := Nat.pow_le_pow_right (n := 6) (by decide) hl
      exact_mod_cast this
    have h60 : (0 : Int) ≤ 6 ^ fs.length := Int.le_of_lt (Int.pow_pos (by decide))
    have := mul_bd (a := 1 * (redp a b).2 * (redp c d).2) (b := 6 ^ fs.length) (x := 3600) (y := 6 ^ 4) (by rw [Int.one_mul]; omega) (by rw [Int.one_mul]; omega) h60 h6 (by omega)
    omega
  · intro p hp
    rcases List.mem_cons.mp hp with e | hp
    · rw [e]; exact g1
    rcases List.mem_cons.mp hp with e | hp
    · rw [e]; exact g2'
    · exact (hf p hp).2.2
end
theorem ixp0 (p : Fra) : L2.atI [D.int p.1, .int p.2] 0 = some (.int p.1) := rfl
theorem ixp1 (p : Fra) : L2.atI [D.int p.1, .int p.2] 1 = some (.int p.2) := rfl
section
variable {R : D} {a b c d : Int} {w8 w9 w10 w11 w12 w13 w14 w15 w16 w17 w18 : Option U} {st : Stor} {qs : List Fra}
theorem p0 {ρ : Slots} {st : Stor} {i : Nat} {p : Fra} (h : ρ[i]? = some (some (.d (pr p)))) : eBin (g2 dIx) (eV i) (eC (.int 0)) ρ st = .ok (.d (.int p.1)) st := ix_o (eV_o h) rfl (ixp0 p)
theorem p1 {ρ : Slots} {st : Stor} {i : Nat} {p : Fra} (h : ρ[i]? = some (some (.d (pr p)))) : eBin (g2 dIx) (eV i) (eC (.int 1)) ρ st = .ok (.d (.int p.2)) st := ix_o (eV_o h) rfl (ixp1 p)
theorem s11 (h : Sm 1 qs) : ∃ w, B_law_11 (sg R a b c d w8 w9 w10 w11 (some (.d (.list (qs.map pr)))) (some (.d (pr (0, 1)))) w14 w15 w16 w17 w18) st =
    .nx (sg R a b c d w8 w9 w10 w11 (some (.d (.list (qs.map pr)))) (some (.d (pr (qs.foldl step (0, 1))))) w w15 w16 w17 w18) st := by
  obtain ⟨w, hw⟩ := fold_loop (g := sSet 13 (eArgs (eCons (eBin (g2 dAdd) (eBin (g2 dMul) (eBin (g2 dIx) (eV 13) (eC (.int 0))) (eBin (g2 dIx) (eV 14) (eC (.int 1)))) (eBin (g2 dMul) (eBin (g2 dIx) (eV 14) (eC (.int 0))) (eBin (g2 dIx) (eV 13) (eC (.int 1))))) (eCons (eBin (g2 dMul) (eBin (g2 dIx) (eV 13) (eC (.int 1))) (eBin (g2 dIx) (eV 14) (eC (.int 1)))) eNil)) (kLen 2 F__law_low))) (i := 13) (j := 14) st
    (fun p q ρ h1 h2 h3 h4 h5 e1 e2 => sSet_o (call2_o (add_o (mul_o (p0 e1) (p1 e2) (cm_r (by omega) (by omega))) (mul_o (p0 e2) (p1 e1) (cm_r (by omega) (by omega)))) (mul_o (p1 e1) (p1 e2) (cm_r (by omega) (by omega))) (v_low (Int.mul_pos h1 h3) h5 st)))
    (by decide) qs (0, 1) (sg R a b c d w8 w9 w10 w11 (some (.d (.list (qs.map pr)))) (some (.d (pr (0, 1)))) w14 w15 w16 w17 w18) h (by simp) (by simp) rfl
  exact ⟨w, sFor_o (nl_o (items_o (eV_o rfl) rfl)) hw⟩
theorem s12 (h : Sm 1 qs) : B_law_12 (sg R a b c d w8 w9 w10 w11 (some (.d (.list (qs.map pr)))) (some (.d (pr (qs.foldl step (0, 1))))) w14 w15 w16 w17 w18) st =
    .nx (sg R a b c d w8 w9 w10 w11 (some (.d (.list (qs.map pr)))) (some (.d (pr (qs.foldl step (0, 1))))) w14 w15 w16 w17 w18) st :=
  sIf_n (alike_o (call1_o (eV_o rfl) (v_total h st)) (eV_o rfl) (pl_pr 2 _) rfl)
theorem comp_rows {P : Fra → Bool} {m : Fra} {w13 : Option U} {c' : EF Bool} (hl : qs.length ≤ 1000)
    (h : ∀ p ∈ qs, ∀ acc, c' (sg R a b c d w8 w9 w10 w11 (some (.d (.list (qs.map pr)))) w13 (some (.d (pr p))) (some (.d (pr m))) w16 w17 w18) (st ++ [.lst acc]) = .ok (P p) (st ++ [.lst acc])) :
    eArgs (eCons (eLc false [14] (nl (eItems (eV 12))) (tName 14) c' (eC (.int 1))) eNil) (kB bLen) (sg R a b c d w8 w9 w10 w11 (some (.d (.list (qs.map pr)))) w13 w14 (some (.d (pr m))) w16 w17 w18) st = .ok (.d (.int (qs.filter P).length)) st := by
  have hx : nl (eItems (eV 12)) (sg R a b c d w8 w9 w10 w11 (some (.d (.list (qs.map pr)))) w13 w14 (some (.d (pr m))) w16 w17 w18) st = .ok (qs.map pr, none) st := nl_o (items_o (x := .list (qs.map pr)) (eV_o rfl) rfl)
  have h2 := comp_pure (vs := [14]) (h := tName 14) (c := c') (e := eC (.int 1)) (fun d => match d with
      | .tuple [.int t, .int b] => P (t, b)
      | _ => false) (fun _ => .int 1) hx (by rw [List.length_map]; omega) (fun _ => True.intro) (fun d hd => by
        obtain ⟨p, hp, rfl⟩ := List.mem_map.mp hd
        exact ⟨_, rfl, fun acc => ⟨h p hp acc, fun _ => rfl⟩⟩)
  have h3 := len1_o h2
  rw [List.length_map, List.filter_map, List.length_map] at h3
  exact h3
theorem cnt_bd {n m : Nat} (h : 2 * n ≤ m) : (fun i j : Int => decide (j < i)) (2 * (n : Int)) (m : Int) = false := decide_eq_false (by omega)
theorem sh_rows : ∀ (qs : List Fra), shs 60 (qs.map pr) = true
  | [] => rfl
  | q :: qs => by
    rw [List.map_cons, shs, sh_rows qs]
    rfl
theorem any_rows {m : Fra} {qs : List Fra} (h : m ∈ qs) : ((qs.map pr).any fun y => y.eqv (pr m)) = true := by
  rw [List.any_eq_true]
  refine ⟨pr m, List.mem_map.mpr ⟨m, h, rfl⟩, ?_⟩
  simp [pr, fr, D.eqv, eqvs]
theorem s13 (f0 : Fra) (qs : List Fra) (hg : ∀ p ∈ f0 :: qs, good p) (hl : qs.length ≤ 900) {w13 : Option U} :
    ∃ w9' w10' m, sSeq B_law_13 (sSeq B_law_14 (sSeq B_law_15 B_law_16)) (sg R a b c d w8 w9 w10 w11 (some (.d (.list ((f0 :: qs).map pr)))) w13 w14 w15 w16 w17 w18) st =
      .nx (sg R a b c d w8 w9' w10' w11 (some (.d (.list ((f0 :: qs).map pr)))) w13 w14 m w16 w17 w18) st := by
  obtain ⟨m, e, m1, m2, m3, m4, c1, c2, c3⟩ := v_mid (st := st) hg hl
  generalize hq : f0 :: qs = rows at *
  have hl2 : rows.length ≤ 1000 := by rw [← hq, List.length_cons]; omega
  have mm : ∀ i, cMul i m.2 = true := fun i => cm_r (by omega) (by omega)
  have mm1 : ∀ i, cMul m.1 i = true := fun i => cm_l (by omega) (by omega)
  refine ⟨some (.d (.int (rows.filter fun p => decide (p.1 * m.2 < m.1 * p.2)).length)), some (.d (.int (rows.filter fun p => decide (m.1 * p.2 < p.1 * m.2)).length)), some (.d (pr m)), ?_⟩
  refine sSeq_n (sSet_o (call1_o (eV_o rfl) e)) (sSeq_n (sSet_o (comp_rows (P := fun p => decide (p.1 * m.2 < m.1 * p.2)) hl2 fun p hp acc => ?_)) (sSeq_n (sSet_o (comp_rows (P := fun p => decide (m.1 * p.2 < p.1 * m.2)) hl2 fun p hp acc => ?_)) ?_))
  · exact cmpT_o (mul_o (p0 rfl) (p1 rfl) (mm _)) (mul_o (p0 rfl) (p1 rfl) (mm1 _)) rfl
  · exact cmpT_o (mul_o (p0 rfl) (p1 rfl) (mm _)) (mul_o (p0 rfl) (p1 rfl) (mm1 _)) rfl
  · have m2' : ∀ i, cMul 2 i = true := fun i => cm_l (by omega) (by omega)
    have hlen : ∀ {ρ : Slots}, ρ[12]? = some (some (.d (.list (rows.map pr)))) → eArgs (eCons (eV 12) eNil) (kB bLen) ρ st = .ok (.d (.int rows.length)) st := fun h => by
      have := len1_o (eV_o (st := st) h)
      rwa [List.length_map] at this
    refine sIf_n (orT_f (cmpT_o (mul_o rfl (eV_o rfl) (m2' _)) (hlen rfl) (cnt_bd c1)) (orT_f (cmpT_o (mul_o rfl (eV_o rfl) (m2' _)) (hlen rfl) (cnt_bd c2)) ?_))
    by_cases ho : rows.length % 2 = 1
    · refine andT_t (asB_o (b := true) ?_) (asB_o (bin_o (eV_o rfl) (eV_o rfl) (g2_o ?_)))
      · have := eqi_o (st := st) (mod_o (hlen (ρ := sg R a b c d w8 (some (.d (.int (rows.filter fun p => decide (p.1 * m.2 < m.1 * p.2)).length))) (some (.d (.int (rows.filter fun p => decide (m.1 * p.2 < p.1 * m.2)).length))) w11 (some (.d (.list (rows.map pr)))) w13 w14 (some (.d (pr m))) w16 w17 w18) rfl) (fb := eC (.int 2)) rfl (by decide) (by decide)) (fb := eC (.int 1)) (j := 1) rfl
        rw [show ((rows.length : Int) % 2 == 1) = true by rw [beq_iff_eq]; omega] at this
        exact this
      · show (if sh 60 (pr m) && shs 60 (rows.map pr) then some (D.bool (!(rows.map pr).any fun y => y.eqv (pr m))) else none) = _
        rw [sh_rows, any_rows (c3 ho)]
        rfl
    · refine andT_f (asB_o (b := false) ?_)
      have := eqi_o (st := st) (mod_o (hlen (ρ := sg R a b c d w8 (some (.d (.int (rows.filter fun p => decide (p.1 * m.2 < m.1 * p.2)).length))) (some (.d (.int (rows.filter fun p => decide (m.1 * p.2 < p.1 * m.2)).length))) w11 (some (.d (.list (rows.map pr)))) w13 w14 (some (.d (pr m))) w16 w17 w18) rfl) (fb := eC (.int 2)) rfl (by decide) (by decide)) (fb := eC (.int 1)) (j := 1) rfl
      rw [show ((rows.length : Int) % 2 == 1) = false by rw [beq_eq_false_iff_ne]; omega] at this
      exact this
end
end K10
set_option maxRecDepth 100000
namespace K10
open PySem MM
theorem seq_assoc (a b c : SF) : sSeq (sSeq a b) c = sSeq a (sSeq b c) := by
  funext ρ st
  unfold sSeq
  cases a ρ st <;> rfl
theorem seq4 {a b c d e : SF} {ρ ρ1 : Slots} {st st1 : Stor} {r : RS} (h : sSeq a (sSeq b (sSeq c d)) ρ st = .nx ρ1 st1) (hr : e ρ1 st1 = r) : sSeq a (sSeq b (sSeq c (sSeq d e))) ρ st = r := by
  rw [← seq_assoc c d e, ← seq_assoc b, ← seq_assoc a]
  exact sSeq_n h hr
theorem repr_weird : ∀ v ∈ weird, ∃ z, bRepr v = some (.str z) := by
  intro v hv
  simp only [weird, List.mem_cons, List.not_mem_nil, or_false] at hv
  rcases hv with rfl | rfl | rfl | rfl | rfl | rfl | rfl | rfl | rfl <;> exact ⟨_, by unfold bRepr reprD; rw [if_pos (by decide +kernel)]; rfl⟩
theorem ex_o {f : EF U} {g : SF} {ρ : Slots} {st st1 : Stor} {c : Nat} {fs : List (Str × D)} (h : f ρ st = .exc c fs st1) : sSeq (sEx f) g ρ st = .exc c fs ρ st1 := by
  unfold sSeq sEx
  rw [h]
  rfl
section
variable {R : D} {a b c d : Int} {w8 w9 w10 w11 w12 w13 w14 w15 w16 w17 w18 : Option U} {st : Stor}
theorem s17 : ∃ w w', B_law_17 (sg R a b c d w8 w9 w10 w11 w12 w13 w14 w15 w16 w17 w18) st = .nx (sg R a b c d w8 w9 w10 w11 w12 w13 w14 w15 w w' w18) st := by
  have hx : nl (eItems (eArgs (eCons (eC .none) (eCons (eArgs (eCons (eC (.int 1)) (eCons (eC (.int 0)) eNil)) kTup) (eCons (eArgs (eCons (eC (.int 2)) (eCons (eC (.int 4)) eNil)) kTup) (eCons (eArgs (eCons (eC (.int 0)) (eCons (eC (.int 2)) eNil)) kTup) (eCons (eArgs (eCons (eC (.int 1)) eNil) kTup) (eCons (eArgs (eCons (eC (.bool true)) (eCons (eC (.int 2)) eNil)) kTup) (eCons (eArgs (eCons (eC (.int 1)) (eCons (eC (.int 2)) (eCons (eC (.int 3)) eNil))) kLst) (eCons (eC (.int 5)) (eCons (eArgs (eCons (eC (.int 1)) (eCons (eUn (g1 dNeg) (eC (.int 1))) eNil)) kTup) eNil))))))))) kLst)) (sg R a b c d w8 w9 w10 w11 w12 w13 w14 w15 w16 w17 w18) st = .ok (weird, none) st := by
    refine nl_o (items_o (x := .list weird) (args_o (us := weird.map .d) ?_ (lst_o rfl (by simp [weird]))) rfl)
    exact cons_o rfl (cons_o (tup2_o rfl rfl) (cons_o (tup2_o rfl rfl) (cons_o (tup2_o rfl rfl) (cons_o (tup1_o rfl) (cons_o (tup2_o rfl rfl) (cons_o (args_o (cons_o rfl (cons_o rfl (cons_o rfl rfl))) (lst_o rfl (by simp))) (cons_o rfl (cons_o (tup2_o rfl (neg_o rfl)) rfl))))))))
  obtain ⟨ρ', st', e, w, w', rfl, rfl⟩ := forL_inv (ds := weird) (ρ := sg R a b c d w8 w9 w10 w11 w12 w13 w14 w15 w16 w17 w18) (st := st) (h := tName 16) (g := sSeq (sIf (eTru (eArgs (eCons (eV 16) eNil) (kLen 1 F_is_fraction))) (sRet (eC (.bool false))) sNil) (sTryAs 17 t_BadNumber (sSeq (sEx (eArgs (eCons (eV 16) eNil) (kLen 1 F_want_fraction))) (sRet (eC (.bool false)))) (fun a d c => (sIf (asB (eBin (g2 dNe) (eUn (g1 bRepr) (eXf a d c "value" (eV 17))) (eUn (g1 bRepr) (eV 16)))) (sRet (eC (.bool false))) sNil))))
    (fun k ρ st' => ∃ w w', ρ = sg R a b c d w8 w9 w10 w11 w12 w13 w14 w15 w w' w18 ∧ st' = st)
    (fun k v ρ st' hk z => by
      obtain ⟨w, w', rfl, rfl⟩ := z
      have hv := List.mem_of_getElem? hk
      obtain ⟨z, hz⟩ := repr_weird v hv
      refine ⟨_, sg R a b c d w8 w9 w10 w11 w12 w13 w14 w15 (some (.d v)) none w18, st', rfl, .inl ?_, _, _, rfl, rfl⟩
      refine sSeq_n (sIf_n (tru_o (call1_o (eV_o rfl) (v_weird v hv)) rfl)) (sTryAs_exc (ex_o (call1_o (eV_o rfl) (want_weird v hv))) rfl fun a' d' => ?_)
      have h1 : ∀ ρ : Slots, ρ[17]? = some (some (.d (.exc a' d' 0 [("value", v)]))) → eXf a' d' 0 "value" (eV 17) ρ st' = .ok (.d v) st' := fun ρ h => by
        unfold eXf
        rw [eV_o h]
        simp only [MM.R.bind_ok, if_true, and_self]
        rfl
      have e2 : sIf (asB (eBin (g2 dNe) (eUn (g1 bRepr) (eXf a' d' 0 "value" (eV 17))) (eUn (g1 bRepr) (eV 16)))) (sRet (eC (.bool false))) sNil (sg R a b c d w8 w9 w10 w11 w12 w13 w14 w15 (some (.d v)) (some (.d (.exc a' d' 0 [("value", v)]))) w18) st' = .nx (sg R a b c d w8 w9 w10 w11 w12 w13 w14 w15 (some (.d v)) (some (.d (.exc a' d' 0 [("value", v)]))) w18) st' := by
        refine sIf_n (asB_o (bin_o (un_o (h1 _ rfl) hz) (un_o (eV_o rfl) hz) (g2_o ?_)))
        simp [dNe, sh, D.eqv]
      exact congrArg (RS.wipe 17) e2)
    ⟨_, _, rfl, rfl⟩
  exact ⟨w, w', sFor_o hx e⟩
theorem s18 (ha : -60 ≤ a ∧ a ≤ 60) (hb : 1 ≤ b ∧ b ≤ 60) : B_law_18 (sg R a b c d w8 w9 w10 w11 w12 w13 w14 w15 w16 w17 w18) st = .rt (.d (.bool true)) st := by
  obtain ⟨p1, p2, p3, p4, p5⟩ := bds hb ha
  have e : F_want_fraction [.d (.list [.int (redp a b).1, .int (redp a b).2])] st = .ok (.d (pr (redp a b))) st := v_want p1 (by omega) p5
  exact sRet_o (call2_o (call1_o (b1_o (eV_o rfl) rfl) e) (eV_o rfl) (v_alike 3 _ (pl_pr 2 _) st))
end
theorem s01 (ns : List Int) : ∃ a b c d o, Row o ∧ (-60 ≤ a ∧ a ≤ 60) ∧ (1 ≤ b ∧ b ≤ 60) ∧ (-60 ≤ c ∧ c ≤ 60) ∧ (1 ≤ d ∧ d ≤ 60) ∧
    ∀ g : SF, sSeq B_law_0 (sSeq B_law_1 (sSeq B_law_2 g)) ([U.d (.scr ns)].map some ++ List.replicate 18 none) [] = g (sg (.scr ns) a b c d none none none none none none none none none none none) [o] := by
  have r0 : Row (.lst [.scr ns, .int 0, .int 61, .int 0]) := ⟨ns, 0, 61, 0, rfl, by decide, by decide⟩
  let ρ : Slots := [some (.d (.scr ns)), some (.loc 0), none, none, none, none, none, none, none, none, none, none, none, none, none, none, none, none, none]
  obtain ⟨x1, o1, e1, a1, a2, r1⟩ := draw (ρ := ρ) (n := 121) (rest := []) rfl r0 (by decide) (by decide)
  obtain ⟨x2, o2, e2, b1, b2, r2⟩ := draw (ρ := ρ) (n := 60) (rest := []) rfl r1 (by decide) (by decide)
  obtain ⟨x3, o3, e3, c1, c2, r3⟩ := draw (ρ := ρ) (n := 121) (rest := []) rfl r2 (by decide) (by decide)
  obtain ⟨x4, o4, e4, d1, d2, r4⟩ := draw (ρ := ρ) (n := 60) (rest := []) rfl r3 (by decide) (by decide)
  refine ⟨x1 - 60, 1 + x2, x3 - 60, 1 + x4, o4, r4, by omega, by omega, by omega, by omega, fun g => ?_⟩
  refine sSeq_n (ρ1 := ρ) (st1 := [.lst [.scr ns, .int 0, .int 61, .int 0]]) (sSet_o (args_o (cons_o (eV_o rfl) (cons_o rfl (cons_o rfl (cons_o rfl rfl)))) (lstN_o rfl (by simp)))) ?_
  refine sSeq_n (ρ1 := [some (.d (.scr ns)), some (.loc 0), some (.d (.int (x1 - 60))), some (.d (.int (1 + x2))), some (.d (.int (x3 - 60))), some (.d (.int (1 + x4))), none, none, none, none, none, none, none, none, none, none, none, none, none]) (st1 := [o4]) (sPar_o (cons_o (bin_o e1 rfl (g2_o rfl)) (cons_o (bin_o rfl e2 (g2_o rfl)) (cons_o (bin_o e3 rfl (g2_o rfl)) (cons_o (bin_o rfl e4 (g2_o rfl)) rfl)))) rfl) ?_
  exact sSeq_n (sPar_o (cons_o (call2_o (eV_o rfl) (eV_o rfl) (v_reduced (by omega) (by omega) _)) (cons_o (call2_o (eV_o rfl) (eV_o rfl) (v_reduced (by omega) (by omega) _)) rfl)) rfl) rfl
theorem plain : ∀ ns : List Int, ns.length ≤ 63 → ∃ st, F_law [.d (.scr ns)] [] = .ok (.d (.bool true)) st := by
  intro ns _
  obtain ⟨a, b, c, d, o, hr, ha, hb, hc, hd, h⟩ := s01 ns
  obtain ⟨fs, o', e10, hS, hG, hl⟩ := s10 (R := .scr ns) (w8 := some (.d (.list (whs.map .int)))) (w9 := some (.d (.int (a / b)))) (w10 := some (.d (.int (-(-a / b))))) (w11 := some (.d (.int ((2 * a + b) / (2 * b))))) (w12 := none) (w13 := none) (w14 := none) (w15 := none) (w16 := none) (w17 := none) (w18 := none) ha hb hc hd hr
  obtain ⟨w, e11⟩ := s11 (R := .scr ns) (a := a) (b := b) (c := c) (d := d) (w8 := some (.d (.list (whs.map .int)))) (w9 := some (.d (.int (a / b)))) (w10 := some (.d (.int (-(-a / b))))) (w11 := some (.d (.int ((2 * a + b) / (2 * b))))) (w14 := none) (w15 := none) (w16 := none) (w17 := none) (w18 := none) (st := [o']) hS
  obtain ⟨w9, w10, m, e13⟩ := s13 (R := .scr ns) (a := a) (b := b) (c := c) (d := d) (w8 := some (.d (.list (whs.map .int)))) (w9 := some (.d (.int (a / b)))) (w10 := some (.d (.int (-(-a / b))))) (w11 := some (.d (.int ((2 * a + b) / (2 * b))))) (w13 := some (.d (pr ((redp a b :: redp c d :: fs).foldl step (0, 1))))) (w14 := w) (w15 := none) (w16 := none) (w17 := none) (w18 := none) (st := [o']) (redp a b) (redp c d :: fs) hG (by rw [List.length_cons]; omega)
  obtain ⟨w16, w17, e17⟩ := s17 (R := .scr ns) (a := a) (b := b) (c := c) (d := d) (w8 := some (.d (.list (whs.map .int)))) (w9 := w9) (w10 := w10) (w11 := some (.d (.int ((2 * a + b) / (2 * b))))) (w12 := some (.d (.list ((redp a b :: redp c d :: fs).map pr)))) (w13 := some (.d (pr ((redp a b :: redp c d :: fs).foldl step (0, 1))))) (w14 := w) (w15 := m) (w16 := none) (w17 := none) (w18 := none) (st := [o'])
  refine ⟨_, run_rt (g := B_law) (n := 19) (us := [.d (.scr ns)]) (st := []) (st1 := [o']) (x := .bool true) ?_⟩
  refine (h _).trans ?_
  exact sSeq_n (s3 ha hb hc hd) (sSeq_n (s4 ha hb hc hd) (sSeq_n (s5 ha hb hc hd) (sSeq_n s6 (sSeq_n (s7 ha hb) (sSeq_n (s8 ha hb) (sSeq_n (s9 ha hb) (sSeq_n e10 (sSeq_n e11 (sSeq_n (s12 hS) (seq4 e13 (sSeq_n e17 (s18 ha hb))))))))))))
end K10
open PySem PySem.W PyProof.Rows in
set_option maxRecDepth 100000 in
set_option maxHeartbeats 0 in
theorem PySem.Challenge.cw_chartways_k10_whole_fractions_holds : PySem.Challenge.rw_chartways_k10_whole_fractions.Holds := by
  w_on; o_law; k_head; (case hw => w_witness2)
  k_fill
  refine MM.walkM (l := PySem.Challenge.rw_chartways_k10_whole_fractions) (k := 5) (x := "script") (Fl := K10.F_law) rfl rfl ⟨rfl, by decide, by decide⟩ (fun w h Y => PySem.W.kIn_of Y) ?F K10.plain
  case F =>
    intro w mg fa h KX G hmg
    refine' K10.all_mk KX G hmg ?a__law_alike ?l__law_alike ?c__law_alike ?k__law_alike ?a__law_low ?l__law_low ?c__law_low ?k__law_low ?a__law_taken ?l__law_taken ?c__law_taken ?k__law_taken ?a__law_truth ?l__law_truth ?c__law_truth ?k__law_truth ?a_ceiling_of ?l_ceiling_of ?c_ceiling_of ?k_ceiling_of ?a_floor_of ?l_floor_of ?c_floor_of ?k_floor_of ?a_is_row ?l_is_row ?c_is_row ?k_is_row ?a_is_whole ?l_is_whole ?c_is_whole ?k_is_whole ?a_reduced ?l_reduced ?c_reduced ?k_reduced ?a_is_fraction ?l_is_fraction ?c_is_fraction ?k_is_fraction ?a_is_less ?l_is_less ?c_is_less ?k_is_less ?a_plus ?l_plus ?c_plus ?k_plus ?a_times ?l_times ?c_times ?k_times ?a_median ?l_median ?c_median ?k_median ?a_minus ?l_minus ?c_minus ?k_minus ?a_nearest ?l_nearest ?c_nearest ?k_nearest ?a_over ?l_over ?c_over ?k_over ?a_total ?l_total ?c_total ?k_total ?a_want_fraction ?l_want_fraction ?c_want_fraction ?k_want_fraction ?a_law ?l_law ?c_law ?k_law ?a_BadNumber ?x_BadNumber ?rv_BadNumber ?sa_BadNumber ?ga_BadNumber ?gg_BadNumber ?eC_BadNumber ?tC_BadNumber ?kC_BadNumber ?hC_BadNumber ?nf_BadNumber_value ?iI_BadNumber ?tI_BadNumber ?l_BadNumber ?ci_BadNumber ?co_BadNumber ?cv_BadNumber ?cf_BadNumber ?ce_BadNumber ?cls_BadNumber ?ms_BadNumber ?sI_BadNumber ?sv_BadNumber ?ic_BadNumber ?sS_BadNumber ?opq ?sup ?z_abs ?z_bool ?z_int ?z_isinstance ?z_len ?z_list ?z_max ?z_min ?z_range ?z_repr ?z_str ?z_tuple
    (case a__law_alike => k_is)
    (case l__law_alike => k_is)
    (case c__law_alike => k_is)
    (case k__law_alike => k_is)
    (case a__law_low => k_is)
    (case l__law_low => k_is)
    (case c__law_low => k_is)
    (case k__law_low => k_is)
    (case a__law_taken => k_is)
    (case l__law_taken => k_is)
    (case c__law_taken => k_is)
    (case k__law_taken => k_is)
    (case a__law_truth => k_is)
    (case l__law_truth => k_is)
    (case c__law_truth => k_is)
    (case k__law_truth => k_is)
    (case a_ceiling_of => k_is)
    (case l_ceiling_of => k_is)
    (case c_ceiling_of => k_is)
    (case k_ceiling_of => k_is)
    (case a_floor_of => k_is)
    (case l_floor_of => k_is)
    (case c_floor_of => k_is)
    (case k_floor_of => k_is)
    (case a_is_row => k_is)
    (case l_is_row => k_is)
    (case c_is_row => k_is)
    (case k_is_row => k_is)
    (case a_is_whole => k_is)
    (case l_is_whole => k_is)
    (case c_is_whole => k_is)
    (case k_is_whole => k_is)
    (case a_reduced => k_is)
    (case l_reduced => k_is)
    (case c_reduced => k_is)
    (case k_reduced => k_is)
    (case a_is_fraction => k_is)
    (case l_is_fraction => k_is)
    (case c_is_fraction => k_is)
    (case k_is_fraction => k_is)
    (case a_is_less => k_is)
    (case l_is_less => k_is)
    (case c_is_less => k_is)
    (case k_is_less => k_is)
    (case a_plus => k_is)
    (case l_plus => k_is)
    (case c_plus => k_is)
    (case k_plus => k_is)
    (case a_times => k_is)
    (case l_times => k_is)
    (case c_times => k_is)
    (case k_times => k_is)
    (case a_median => k_is)
    (case l_median => k_is)
    (case c_median => k_is)
    (case k_median => k_is)
    (case a_minus => k_is)
    (case l_minus => k_is)
    (case c_minus => k_is)
    (case k_minus => k_is)
    (case a_nearest => k_is)
    (case l_nearest => k_is)
    (case c_nearest => k_is)
    (case k_nearest => k_is)
    (case a_over => k_is)
    (case l_over => k_is)
    (case c_over => k_is)
    (case k_over => k_is)
    (case a_total => k_is)
    (case l_total => k_is)
    (case c_total => k_is)
    (case k_total => k_is)
    (case a_want_fraction => k_is)
    (case l_want_fraction => k_is)
    (case c_want_fraction => k_is)
    (case k_want_fraction => k_is)
    (case a_law => k_is)
    (case l_law => k_is)
    (case c_law => k_is)
    (case k_law => k_is)
    (case a_BadNumber => k_is)
    (case x_BadNumber => k_is)
    (case rv_BadNumber => decide +kernel)
    (case sa_BadNumber => k_is)
    (case ga_BadNumber => k_is)
    (case gg_BadNumber => k_is)
    (case eC_BadNumber => k_is)
    (case tC_BadNumber => k_is)
    (case kC_BadNumber => k_is)
    (case hC_BadNumber => k_is)
    (case nf_BadNumber_value => k_is)
    (case iI_BadNumber => k_is)
    (case tI_BadNumber => k_is)
    (case l_BadNumber => k_is)
    (case ci_BadNumber => k_is)
    (case co_BadNumber => k_is)
    (case cv_BadNumber => first | rfl | decide +kernel)
    (case cf_BadNumber => first | rfl | decide +kernel)
    (case ce_BadNumber => k_is)
    (case cls_BadNumber => k_is)
    (case ms_BadNumber => k_is)
    (case sI_BadNumber => ks_is)
    (case sv_BadNumber => k_is)
    (case ic_BadNumber => k_is)
    (case sS_BadNumber => k_is)
    (case opq => k_is)
    (case sup => k_is)
    (case z_abs => k_is)
    (case z_bool => k_is)
    (case z_int => k_is)
    (case z_isinstance => k_is)
    (case z_len => k_is)
    (case z_list => k_is)
    (case z_max => k_is)
    (case z_min => k_is)
    (case z_range => k_is)
    (case z_repr => k_is)
    (case z_str => k_is)
    (case z_tuple => k_is)
