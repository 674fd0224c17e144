import PyProof.Rows.All
import HandS.ForMost
import HandS.ForSpec
import HandS.Walk
import HandS.Flow
import HandS.Deep
import HandS.TupAny
import HandS.TupMul
import PyProof.P3In
import HandS.Codes
import HandS.Style
import KE.GoesEnum
import HandS.ExcOwn
import HandS.ExcField
import HandS.CallSlots
import HandS.ExcInit
import HandS.ExcSuper
import KE.KExcSuper
import HandS.More
import HandS.IsInst
import HandS.Conv
import HandS.BoundList
import HandS.Ends
import PyProof.ReprRoads
import HandS.CallLocal
import HandS.OwnEq
import HandS.WordsExc
import PyProof.InstNe
import KE.DataMinMax
import KE.SortData
import HandS.Zip
import HandS.RaiseMore
import HandS.Dict
import HandS.Iter
import HandS.ExcIs
import KE.KEqDeep
import PySem.Challenge.RW_chartways_k09_errors
set_option Elab.async false
set_option linter.all false
set_option maxRecDepth 100000
/-! M0: values by value, the store of what changes, how they lie in the heap -/
namespace MM
open PySem PySem.Spec PyProof.Rows L2

/-- data: what changes no more -/
inductive D where
  | none
  | bool (b : Bool)
  | int (i : Int)
  | str (s : Str)
  | list (xs : List D)
  | tuple (xs : List D)
  | dict (kvs : List (D × D))
  | ins (c : Nat) (fs : List (Str × D))
  | fn (n : Nat)
  | exc (a d : Addr) (c : Nat) (fs : List (Str × D))
  | scr (ns : List Int)
/-- a value: data, or a changing object of the store -/
inductive U where
  | d (x : D)
  | loc (i : Nat)
/-- what changes -/
inductive O where
  | lst (ds : List D)
  | dic (kvs : List (D × D))
  | ins (c : Nat) (fs : List (Str × D))
  | dead
abbrev Stor := List O
abbrev Slots := List (Option U)
/-- an expression's outcome -/
inductive R (α : Type) where
  | ok (a : α) (st : Stor)
  | exc (c : Nat) (fs : List (Str × D)) (st : Stor)
  | bad
/-- a statement's outcome -/
inductive RS where
  | nx (ρ : Slots) (st : Stor)
  | rt (u : U) (st : Stor)
  | bk (ρ : Slots) (st : Stor)
  | ct (ρ : Slots) (st : Stor)
  | exc (c : Nat) (fs : List (Str × D)) (ρ : Slots) (st : Stor)
  | bad
abbrev EF (α : Type) := Slots → Stor → R α
abbrev SF := Slots → Stor → RS

/-! ### data in the heap; M: the addresses of what changes -/
def Fz (M : List (Option Addr)) (H : Hp) (a : Addr) (o : HO) : Prop := some a ∉ M ∧ Rd H a o
def KL (K : PySem.W.Frag) (a : Addr) (xs : List V) : Prop := ∃ (o : Obj) (its : Array Value) (n : Nat), K.lookup a = some o ∧ o.cls = .type "list" ∧ o.dict = none ∧ o.data = .seq its n ∧ its.size ≤ sizeLine ∧ Vals xs its.toList
def KT (K : PySem.W.Frag) (a : Addr) (xs : List V) : Prop := ∃ (o : Obj) (its : Array Value) (n : Nat), K.lookup a = some o ∧ o.cls = .type "tuple" ∧ o.data = .seq its n ∧ its.size ≤ sizeLine ∧ Vals xs its.toList
def kD : Key → D
  | .inl i => .int i
  | .inr x => .str x
def tD (ks : List Key) : D := .tuple (ks.map kD)
section
variable (K : PySem.W.Frag) (T : Nat → Addr) (M : List (Option Addr)) (H : Hp)
mutual
inductive RD : V → D → Prop
  | non : RD .non .none
  | bl (b : Bool) : RD (.bl b) (.bool b)
  | int (i : Int) : RD (.int i) (.int i)
  | str {x : Str} : PyData.strOk x = true → RD (.str x) (.str x)
  | lst {a : Addr} {xs : List V} {ds : List D} : some a ∉ M → H a = some (.lst xs) → RDs xs ds → RD (.ref a) (.list ds)
  | scr {a : Addr} {ns : List Int} : Fz M H a (.lst (ns.map V.int)) ∨ KL K a (ns.map V.int) → RD (.ref a) (.scr ns)
  | tup {a : Addr} {xs : List V} {ds : List D} : Fz M H a (.tup xs) ∨ KT K a xs → RDs xs ds → RD (.ref a) (.tuple ds)
  | dK {a : Addr} {kv : List (Key × V)} {ds : List (D × D)} : Fz M H a (.dK kv) → RKs kv ds → RD (.ref a) (.dict ds)
  | dT {a : Addr} {kv : List (List Key × V)} {ds : List (D × D)} : Fz M H a (.dT kv) → RTs kv ds → RD (.ref a) (.dict ds)
  | ins {a dx : Addr} {c : Nat} {fv : List (Str × V)} {fs : List (Str × D)} : some a ∉ M → H a = some (.ins (T c) dx fv) → RFs fv fs → RD (.ref a) (.ins c fs)
  | fn (n : Nat) : RD (.ref (T n)) (.fn n)
  | exc {a d : Addr} {c : Nat} {fv : List (Str × V)} {fs : List (Str × D)} : some d ∉ M → H d = some (.xd fv) → RFs fv fs → RD (.ref a) (.exc a d c fs)
  | xn {a d : Addr} {c : Nat} : RD (.ref a) (.exc a d c [])
inductive RDs : List V → List D → Prop
  | nil : RDs [] []
  | cons {v : V} {vs : List V} {d : D} {ds : List D} : RD v d → RDs vs ds → RDs (v :: vs) (d :: ds)
inductive RKs : List (Key × V) → List (D × D) → Prop
  | nil : RKs [] []
  | cons {k : Key} {v : V} {vs : List (Key × V)} {d : D} {ds : List (D × D)} : RD v d → RKs vs ds → RKs ((k, v) :: vs) ((kD k, d) :: ds)
inductive RTs : List (List Key × V) → List (D × D) → Prop
  | cons {k : List Key} {v : V} {vs : List (List Key × V)} {d : D} {ds : List (D × D)} : RD v d → RTs vs ds → RTs ((k, v) :: vs) ((tD k, d) :: ds)
inductive RFs : List (Str × V) → List (Str × D) → Prop
  | nil : RFs [] []
  | cons {n : Str} {v : V} {d : D} {fv : List (Str × V)} {fs : List (Str × D)} : RD v d → RFs fv fs → RFs ((n, v) :: fv) ((n, d) :: fs)
end
end

theorem RDs.length {K T M H} : ∀ {vs : List V} {ds : List D}, RDs K T M H vs ds → vs.length = ds.length
  | _, _, .nil => rfl
  | _, _, .cons _ t => by rw [List.length_cons, List.length_cons, RDs.length t]
theorem RDs.get {K T M H} : ∀ {vs : List V} {ds : List D} {i : Nat} {d : D}, RDs K T M H vs ds → ds[i]? = some d → ∃ v, vs[i]? = some v ∧ RD K T M H v d
  | _, _, _, _, .nil, e => by simp at e
  | _, _, 0, _, .cons r _, e => by simp at e; subst e; exact ⟨_, rfl, r⟩
  | _, _, i + 1, _, .cons _ t, e => by
    obtain ⟨v, h1, h2⟩ := RDs.get (i := i) t (by simpa using e)
    exact ⟨v, by simpa using h1, h2⟩
theorem RDs.get' {K T M H} : ∀ {vs : List V} {ds : List D} {i : Nat} {v : V}, RDs K T M H vs ds → vs[i]? = some v → ∃ d, ds[i]? = some d ∧ RD K T M H v d
  | _, _, _, _, .nil, e => by simp at e
  | _, _, 0, _, .cons r _, e => by simp at e; subst e; exact ⟨_, rfl, r⟩
  | _, _, i + 1, _, .cons _ t, e => by
    obtain ⟨v, h1, h2⟩ := RDs.get' (i := i) t (by simpa using e)
    exact ⟨v, by simpa using h1, h2⟩
theorem RDs.app {K T M H} : ∀ {vs ws : List V} {ds es : List D}, RDs K T M H vs ds → RDs K T M H ws es → RDs K T M H (vs ++ ws) (ds ++ es)
  | _, _, _, _, .nil, s => s
  | _, _, _, _, .cons r t, s => .cons r (RDs.app t s)
theorem RDs.set {K T M H} {v : V} {d : D} (r : RD K T M H v d) : ∀ {vs : List V} {ds : List D} (i : Nat), RDs K T M H vs ds → RDs K T M H (vs.set i v) (ds.set i d)
  | _, _, _, .nil => .nil
  | _, _, 0, .cons _ t => .cons r t
  | _, _, i + 1, .cons q t => .cons q (RDs.set r i t)
theorem RDs.take {K T M H} : ∀ {vs : List V} {ds : List D} (n : Nat), RDs K T M H vs ds → RDs K T M H (vs.take n) (ds.take n)
  | _, _, 0, _ => .nil
  | _, _, _ + 1, .nil => .nil
  | _, _, n + 1, .cons r t => .cons r (RDs.take n t)
theorem RDs.drop {K T M H} : ∀ {vs : List V} {ds : List D} (n : Nat), RDs K T M H vs ds → RDs K T M H (vs.drop n) (ds.drop n)
  | _, _, 0, r => r
  | _, _, _ + 1, .nil => .nil
  | _, _, n + 1, .cons _ t => RDs.drop n t

/-! ### what a step keeps -/
def isD : HO → Bool
  | .dK _ => true
  | .dT _ => true
  | _ => false
structure Ext (M M' : List (Option Addr)) (H H' : Hp) : Prop where
  len : M.length ≤ M'.length
  old : ∀ (i : Nat) m, M[i]? = some m → M'[i]? = some m ∨ M'[i]? = some none
  new : ∀ (i : Nat) a, M.length ≤ i → M'[i]? = some (some a) → H a = none
  keep : ∀ a o, H a = some o → some a ∉ M → isD o = false → H' a = some o
  keepK : ∀ a kv, Rd H a (.dK kv) → some a ∉ M → Rd H' a (.dK kv)
  keepT : ∀ a kv, Rd H a (.dT kv) → some a ∉ M → Rd H' a (.dT kv)
  dom : ∀ a, H' a = none → H a = none
theorem Ext.refl {M H} : Ext M M H H := ⟨Nat.le_refl _, fun _ _ h => .inl h, fun i a h e => by
  have := (List.getElem?_eq_some_iff.mp e).1
  omega, fun _ _ h _ _ => h, fun _ _ h _ => h, fun _ _ h _ => h, fun _ h => h⟩
theorem Rd.ne_none {H : Hp} {a : Addr} {o : HO} (h : Rd H a o) : H a ≠ none := fun z => by
  rcases h with h | ⟨_, h⟩ <;> rw [z] at h <;> cases h
theorem Ext.out {M M' H H'} (e : Ext M M' H H') {a : Addr} (h : H a ≠ none) (hm : some a ∉ M) : some a ∉ M' := by
  intro z
  obtain ⟨i, hi⟩ := List.getElem?_of_mem z
  by_cases hl : M.length ≤ i
  · exact h (e.new i a hl hi)
  · have hlt : i < M.length := by omega
    rcases e.old i M[i] (List.getElem?_eq_getElem hlt) with q | q
    · rw [hi] at q
      exact hm (by rw [show some a = M[i] from Option.some.inj q]; exact List.getElem_mem hlt)
    · rw [hi] at q
      cases q
theorem Ext.trans {M M1 M2 H H1 H2} (a : Ext M M1 H H1) (b : Ext M1 M2 H1 H2) : Ext M M2 H H2 := by
  refine ⟨Nat.le_trans a.len b.len, fun i m h => ?_, fun i x hl h => ?_, fun x o h hm hd => b.keep x o (a.keep x o h hm hd) (a.out (by rw [h]; exact fun z => by cases z) hm) hd, fun x kv h hm => b.keepK x kv (a.keepK x kv h hm) (a.out (Rd.ne_none h) hm), fun x kv h hm => b.keepT x kv (a.keepT x kv h hm) (a.out (Rd.ne_none h) hm), fun x h => a.dom x (b.dom x h)⟩
  · rcases a.old i m h with q | q
    · exact b.old i m q
    · rcases b.old i none q with q | q <;> exact .inr q
  · by_cases h1 : M1.length ≤ i
    · exact a.dom x (b.new i x h1 h)
    · have hlt : i < M1.length := by omega
      rcases b.old i M1[i] (List.getElem?_eq_getElem hlt) with q | q
      · rw [h] at q
        exact a.new i x hl (by rw [List.getElem?_eq_getElem hlt]; exact q.symm)
      · rw [h] at q
        cases q
theorem Ext.notin {M M' H H'} (e : Ext M M' H H') {a : Addr} {o : HO} (h : H a = some o) (hm : some a ∉ M) : some a ∉ M' := e.out (by rw [h]; exact fun z => by cases z) hm
theorem Fz.ext {M M' H H' a o} (f : Fz M H a o) (e : Ext M M' H H') (h1 : isD o = false) (h2 : ∀ ob, isD (.frz ob o) = false) : Fz M' H' a o := by
  obtain ⟨hm, h⟩ := f
  refine ⟨e.out (Rd.ne_none h) hm, ?_⟩
  rcases h with h | ⟨ob, h⟩
  · exact .inl (e.keep a _ h hm h1)
  · exact .inr ⟨ob, e.keep a _ h hm (h2 ob)⟩
mutual
theorem RD.ext {K T M M' H H'} (e : Ext M M' H H') : ∀ {v : V} {x : D}, RD K T M H v x → RD K T M' H' v x
  | _, _, .non => .non
  | _, _, .xn => .xn
  | _, _, .bl b => .bl b
  | _, _, .int i => .int i
  | _, _, .str h => .str h
  | _, _, .lst hm h r => .lst (e.notin h hm) (e.keep _ _ h hm rfl) (RDs.ext e r)
  | _, _, .scr h => .scr (h.imp (fun f => f.ext e rfl fun _ => rfl) id)
  | _, _, .tup h r => .tup (h.imp (fun f => f.ext e rfl fun _ => rfl) id) (RDs.ext e r)
  | _, _, .dK h r => .dK ⟨e.out (Rd.ne_none h.2) h.1, e.keepK _ _ h.2 h.1⟩ (RKs.ext e r)
  | _, _, .dT h r => .dT ⟨e.out (Rd.ne_none h.2) h.1, e.keepT _ _ h.2 h.1⟩ (RTs.ext e r)
  | _, _, .ins hm h r => .ins (e.notin h hm) (e.keep _ _ h hm rfl) (RFs.ext e r)
  | _, _, .fn a => .fn a
  | _, _, .exc hm h r => .exc (e.notin h hm) (e.keep _ _ h hm rfl) (RFs.ext e r)
theorem RDs.ext {K T M M' H H'} (e : Ext M M' H H') : ∀ {vs : List V} {ds : List D}, RDs K T M H vs ds → RDs K T M' H' vs ds
  | _, _, .nil => .nil
  | _, _, .cons r t => .cons (RD.ext e r) (RDs.ext e t)
theorem RKs.ext {K T M M' H H'} (e : Ext M M' H H') : ∀ {vs : List (Key × V)} {ds : List (D × D)}, RKs K T M H vs ds → RKs K T M' H' vs ds
  | _, _, .nil => .nil
  | _, _, .cons r t => .cons (RD.ext e r) (RKs.ext e t)
theorem RTs.ext {K T M M' H H'} (e : Ext M M' H H') : ∀ {vs : List (List Key × V)} {ds : List (D × D)}, RTs K T M H vs ds → RTs K T M' H' vs ds
  | _, _, .cons r t => .cons (RD.ext e r) (RTs.ext e t)
theorem RFs.ext {K T M M' H H'} (e : Ext M M' H H') : ∀ {vs : List (Str × V)} {ds : List (Str × D)}, RFs K T M H vs ds → RFs K T M' H' vs ds
  | _, _, .nil => .nil
  | _, _, .cons r t => .cons (RD.ext e r) (RFs.ext e t)
end
theorem sql_of {K M H a xs} (h : Fz M H a (.lst xs) ∨ KL K a xs) : SqL K H a xs := h.imp (fun f => f.2) id
theorem sqt_of {K M H a xs} (h : Fz M H a (.tup xs) ∨ KT K a xs) : SqT K H a xs := h.imp (fun f => f.2) id

section
variable (K : PySem.W.Frag) (T : Nat → Addr) (M : List (Option Addr)) (H : Hp)
inductive RU : V → U → Prop
  | d {v : V} {x : D} : RD K T M H v x → RU v (.d x)
  | loc {a : Addr} {i : Nat} : M[i]? = some (some a) → RU (.ref a) (.loc i)
  | hole {v : V} {i : Nat} : M[i]? = some none → RU v (.loc i)
/-- what lies at a changing address -/
def RO (m : Option Addr) : O → Prop
  | .lst ds => ∃ a xs, m = some a ∧ H a = some (.lst xs) ∧ RDs K T M H xs ds
  | .dic ds => ∃ a, m = some a ∧ ((∃ kv, H a = some (.dK kv) ∧ RKs K T M H kv ds) ∨ ∃ kv, H a = some (.dT kv) ∧ RTs K T M H kv ds)
  | .ins c fs => ∃ a dx fv, m = some a ∧ H a = some (.ins (T c) dx fv) ∧ RFs K T M H fv fs
  | .dead => ∀ a, m = some a → ∃ o, H a = some o
def RS1 (v : Option V) (u : Option U) : Prop := ∀ u', u = some u' → ∃ v', v = some v' ∧ RU K T M H v' u'
structure Rst (st : Stor) : Prop where
  nd : ∀ (i j : Nat) a, M[i]? = some (some a) → M[j]? = some (some a) → i = j
  obj : Paired (fun a o => RO K T M H a o) M st
structure Rep (σ : L2.St) (ρ : Slots) (st : Stor) : Prop where
  slots : Paired (RS1 K T M H) σ ρ
  sto : Rst K T M H st
end
theorem RU.ext {K T M M' H H'} (e : Ext M M' H H') {v : V} {u : U} : RU K T M H v u → RU K T M' H' v u
  | .d r => .d (r.ext e)
  | .loc h => (e.old _ _ h).elim .loc .hole
  | .hole h => .hole ((e.old _ _ h).elim id id)
theorem RS1.ext {K T M M' H H'} (e : Ext M M' H H') {v : Option V} {u : Option U} (r : RS1 K T M H v u) : RS1 K T M' H' v u := fun u' h => by
  obtain ⟨v', h1, h2⟩ := r u' h
  exact ⟨v', h1, h2.ext e⟩
theorem slots_ext {K T M M' H H'} (e : Ext M M' H H') {σ : L2.St} {ρ : Slots} (r : Paired (RS1 K T M H) σ ρ) : Paired (RS1 K T M' H') σ ρ := L2.Paired.mapP r fun _ _ h => h.ext e
theorem Rep.ext {K T M M' H H'} {σ : L2.St} {ρ : Slots} {st st' : Stor} (r : Rep K T M H σ ρ st) (e : Ext M M' H H') (s : Rst K T M' H' st') : Rep K T M' H' σ ρ st' := ⟨slots_ext e r.slots, s⟩
theorem Paired.get2 {α β : Type} {F : α → β → Prop} : ∀ {xs : List α} {ys : List β} {i : Nat} {y : β}, Paired F xs ys → ys[i]? = some y → ∃ x, xs[i]? = some x ∧ F x y
  | _, _, _, _, .nil, e => by simp at e
  | _, _, 0, _, .cons r _, e => by simp at e; subst e; exact ⟨_, rfl, r⟩
  | _, _, i + 1, _, .cons _ t, e => by
    obtain ⟨v, h1, h2⟩ := Paired.get2 (i := i) t (by simpa using e)
    exact ⟨v, by simpa using h1, h2⟩
theorem Paired.get1 {α β : Type} {F : α → β → Prop} : ∀ {xs : List α} {ys : List β} {i : Nat} {x : α}, Paired F xs ys → xs[i]? = some x → ∃ y, ys[i]? = some y ∧ F x y
  | _, _, _, _, .nil, e => by simp at e
  | _, _, 0, _, .cons r _, e => by simp at e; subst e; exact ⟨_, rfl, r⟩
  | _, _, i + 1, _, .cons _ t, e => by
    obtain ⟨v, h1, h2⟩ := Paired.get1 (i := i) t (by simpa using e)
    exact ⟨v, by simpa using h1, h2⟩
theorem Paired.set2 {α β : Type} {F : α → β → Prop} {x : α} {y : β} (h : F x y) : ∀ {xs : List α} {ys : List β} (i : Nat), Paired F xs ys → Paired F (xs.set i x) (ys.set i y)
  | _, _, _, .nil => .nil
  | _, _, 0, .cons _ t => .cons h t
  | _, _, i + 1, .cons q t => .cons q (Paired.set2 h i t)
theorem Paired.app2 {α β : Type} {F : α → β → Prop} : ∀ {xs zs : List α} {ys ws : List β}, Paired F xs ys → Paired F zs ws → Paired F (xs ++ zs) (ys ++ ws)
  | _, _, _, _, .nil, s => s
  | _, _, _, _, .cons r t, s => .cons r (Paired.app2 t s)
theorem Paired.take2 {α β : Type} {F : α → β → Prop} : ∀ {xs : List α} {ys : List β} (n : Nat), Paired F xs ys → Paired F (xs.take n) (ys.take n)
  | _, _, 0, _ => .nil
  | _, _, _ + 1, .nil => .nil
  | _, _, n + 1, .cons r t => .cons r (Paired.take2 n t)
theorem Paired.len {α β : Type} {F : α → β → Prop} {xs : List α} {ys : List β} (r : Paired F xs ys) : xs.length = ys.length := Paired.length r
theorem Rep.get {K T M H} {σ : L2.St} {ρ : Slots} {st : Stor} (r : Rep K T M H σ ρ st) {i : Nat} {u : U} (h : ρ[i]? = some (some u)) : ∃ v, σ[i]? = some (some v) ∧ RU K T M H v u := by
  obtain ⟨x, h1, h2⟩ := Paired.get2 r.slots h
  obtain ⟨v, rfl, h3⟩ := h2 u rfl
  exact ⟨v, h1, h3⟩
theorem Rep.set {K T M H} {σ : L2.St} {ρ : Slots} {st : Stor} (r : Rep K T M H σ ρ st) (i : Nat) {v : V} {u : U} (h : RU K T M H v u) : Rep K T M H (σ.set i (some v)) (ρ.set i (some u)) st :=
  ⟨Paired.set2 (F := RS1 K T M H) (fun _ e => by cases e; exact ⟨v, rfl, h⟩) i r.slots, r.sto⟩
theorem Rep.forget {K T M H} {σ : L2.St} {ρ : Slots} {st : Stor} (r : Rep K T M H σ ρ st) (i : Nat) (w : Option V) : Rep K T M H (σ.set i w) (ρ.set i none) st :=
  ⟨Paired.set2 (F := RS1 K T M H) (fun _ e => by cases e) i r.slots, r.sto⟩
theorem Rep.fgt {K T M H} {σ : L2.St} {ρ : Slots} {st : Stor} (r : Rep K T M H σ ρ st) (i : Nat) : Rep K T M H σ (ρ.set i none) st := by
  refine ⟨?_, r.sto⟩
  have h : ∀ {σ : L2.St} {ρ : Slots} (i : Nat), Paired (RS1 K T M H) σ ρ → Paired (RS1 K T M H) σ (ρ.set i none) := by
    intro σ ρ i p
    induction p generalizing i with
    | nil => exact .nil
    | cons h t ih =>
      cases i with
      | zero => exact .cons (fun u' e => by cases e) t
      | succ i => exact .cons h (ih i)
  exact h i r.slots
theorem Rst.len {K T M H st} (r : Rst K T M H st) : M.length = st.length := Paired.len r.obj
theorem Rst.get {K T M H st} (r : Rst K T M H st) {i : Nat} {o : O} (h : st[i]? = some o) : ∃ m, M[i]? = some m ∧ RO K T M H m o := Paired.get2 r.obj h
theorem RO.there {K T M H a o} (r : RO K T M H (some a) o) : ∃ x, H a = some x := by
  cases o with
  | lst ds => obtain ⟨_, xs, q, h, _⟩ := r; cases q; exact ⟨_, h⟩
  | dic ds =>
    obtain ⟨_, q, ⟨kv, h, _⟩ | ⟨kv, h, _⟩⟩ := r
    · cases q; exact ⟨_, h⟩
    · cases q; exact ⟨_, h⟩
  | ins c fs => obtain ⟨_, dx, fv, q, h, _⟩ := r; cases q; exact ⟨_, h⟩
  | dead => exact r a rfl
theorem Rst.there {K T M H st} (r : Rst K T M H st) {a : Addr} (h : some a ∈ M) : ∃ x, H a = some x := by
  obtain ⟨i, hi⟩ := List.getElem?_of_mem h
  obtain ⟨o, _, ro⟩ := Paired.get1 r.obj hi
  exact ro.there
theorem Rst.new {K T M H st} (r : Rst K T M H st) {p : Addr} (h : H p = none) : some p ∉ M := fun z => by
  obtain ⟨x, e⟩ := r.there z
  rw [h] at e; cases e
/-- a step that keeps M -/
theorem Ext.same {M : List (Option Addr)} {H H' : Hp} (keep : ∀ a o, H a = some o → some a ∉ M → isD o = false → H' a = some o) (keepK : ∀ a kv, Rd H a (.dK kv) → some a ∉ M → Rd H' a (.dK kv)) (keepT : ∀ a kv, Rd H a (.dT kv) → some a ∉ M → Rd H' a (.dT kv))
    (dom : ∀ a, H' a = none → H a = none) : Ext M M H H' := ⟨Nat.le_refl _, fun _ _ h => .inl h, fun i a h e => by
  have := (List.getElem?_eq_some_iff.mp e).1
  omega, keep, keepK, keepT, dom⟩
theorem Ext.but {M : List (Option Addr)} {H H' : Hp} {p : Addr} (hp : H p = none ∨ some p ∈ M) (hs : H' p ≠ none) (hb : ∀ b, b ≠ p → H' b = H b) : Ext M M H H' := by
  have ne : ∀ {a}, H a ≠ none → some a ∉ M → a ≠ p := fun {a} k m z => by
    subst z
    exact hp.elim k m
  refine .same (fun a o e m _ => by rw [hb a (ne (by rw [e]; exact fun z => by cases z) m)]; exact e) (fun a kv r m => ?_) (fun a kv r m => ?_) (fun a e => ?_)
  · unfold Rd
    rw [hb a (ne (Rd.ne_none r) m)]
    exact r
  · unfold Rd
    rw [hb a (ne (Rd.ne_none r) m)]
    exact r
  · by_cases z : a = p
    · subst z; exact absurd e hs
    · rw [hb a z] at e; exact e
/-- a new object laid -/
theorem Ext.lay {M : List (Option Addr)} {H : Hp} {p : Addr} {o : HO} (h : H p = none) : Ext M M H (upd H p o) := .but (.inl h) (by rw [upd_same]; exact fun z => by cases z) fun b hb => upd_ne hb
/-- a changing object is written -/
theorem Ext.wr {M : List (Option Addr)} {H : Hp} {a : Addr} {o : HO} (h : some a ∈ M) : Ext M M H (L2.upd H a o) := .but (.inr h) (by rw [upd_same]; exact fun z => by cases z) fun b hb => upd_ne hb
/-! fewer addresses change -/
mutual
theorem RD.sub {K T M M' H} (s : ∀ a, some a ∈ M' → some a ∈ M) : ∀ {v : V} {x : D}, RD K T M H v x → RD K T M' H v x
  | _, _, .non => .non
  | _, _, .xn => .xn
  | _, _, .bl b => .bl b
  | _, _, .int i => .int i
  | _, _, .str h => .str h
  | _, _, .lst hm h r => .lst (fun z => hm (s _ z)) h (RDs.sub s r)
  | _, _, .scr h => .scr (h.imp (fun f => ⟨fun z => f.1 (s _ z), f.2⟩) id)
  | _, _, .tup h r => .tup (h.imp (fun f => ⟨fun z => f.1 (s _ z), f.2⟩) id) (RDs.sub s r)
  | _, _, .dK h r => .dK ⟨fun z => h.1 (s _ z), h.2⟩ (RKs.sub s r)
  | _, _, .dT h r => .dT ⟨fun z => h.1 (s _ z), h.2⟩ (RTs.sub s r)
  | _, _, .ins hm h r => .ins (fun z => hm (s _ z)) h (RFs.sub s r)
  | _, _, .fn a => .fn a
  | _, _, .exc hm h r => .exc (fun z => hm (s _ z)) h (RFs.sub s r)
theorem RDs.sub {K T M M' H} (s : ∀ a, some a ∈ M' → some a ∈ M) : ∀ {vs : List V} {ds : List D}, RDs K T M H vs ds → RDs K T M' H vs ds
  | _, _, .nil => .nil
  | _, _, .cons r t => .cons (RD.sub s r) (RDs.sub s t)
theorem RKs.sub {K T M M' H} (s : ∀ a, some a ∈ M' → some a ∈ M) : ∀ {vs : List (Key × V)} {ds : List (D × D)}, RKs K T M H vs ds → RKs K T M' H vs ds
  | _, _, .nil => .nil
  | _, _, .cons r t => .cons (RD.sub s r) (RKs.sub s t)
theorem RTs.sub {K T M M' H} (s : ∀ a, some a ∈ M' → some a ∈ M) : ∀ {vs : List (List Key × V)} {ds : List (D × D)}, RTs K T M H vs ds → RTs K T M' H vs ds
  | _, _, .cons r t => .cons (RD.sub s r) (RTs.sub s t)
theorem RFs.sub {K T M M' H} (s : ∀ a, some a ∈ M' → some a ∈ M) : ∀ {vs : List (Str × V)} {ds : List (Str × D)}, RFs K T M H vs ds → RFs K T M' H vs ds
  | _, _, .nil => .nil
  | _, _, .cons r t => .cons (RD.sub s r) (RFs.sub s t)
end
/-- an object that stands as it stood -/
theorem RO.move {K T M M' H H' m o} (r : RO K T M H m o) (h : ∀ a, m = some a → H' a = H a) (mv : ∀ v x, RD K T M H v x → RD K T M' H' v x) : RO K T M' H' m o := by
  have mvs : ∀ {vs : List V} {ds : List D}, RDs K T M H vs ds → RDs K T M' H' vs ds := by
    intro vs ds q
    induction vs generalizing ds with
    | nil => cases q; exact .nil
    | cons v vs ih => cases q with | cons r t => exact .cons (mv _ _ r) (ih t)
  have mvk : ∀ {vs : List (Key × V)} {ds : List (D × D)}, RKs K T M H vs ds → RKs K T M' H' vs ds := by
    intro vs ds q
    induction vs generalizing ds with
    | nil => cases q; exact .nil
    | cons v vs ih => cases q with | cons r t => exact .cons (mv _ _ r) (ih t)
  have mvt : ∀ {vs : List (List Key × V)} {ds : List (D × D)}, RTs K T M H vs ds → RTs K T M' H' vs ds := by
    intro vs ds q
    induction vs generalizing ds with
    | nil => cases q
    | cons v vs ih => cases q with | cons r t => exact .cons (mv _ _ r) (ih t)
  have mvf : ∀ {vs : List (Str × V)} {ds : List (Str × D)}, RFs K T M H vs ds → RFs K T M' H' vs ds := by
    intro vs ds q
    induction vs generalizing ds with
    | nil => cases q; exact .nil
    | cons v vs ih => cases q with | cons r t => exact .cons (mv _ _ r) (ih t)
  cases o with
  | lst ds => obtain ⟨a, xs, q, h', r⟩ := r; exact ⟨a, xs, q, (h a q).trans h', mvs r⟩
  | dic ds =>
    obtain ⟨a, q, ⟨kv, h', r⟩ | ⟨kv, h', r⟩⟩ := r
    · exact ⟨a, q, .inl ⟨kv, (h a q).trans h', mvk r⟩⟩
    · exact ⟨a, q, .inr ⟨kv, (h a q).trans h', mvt r⟩⟩
  | ins c fs => obtain ⟨a, dx, fv, q, h', r⟩ := r; exact ⟨a, dx, fv, q, (h a q).trans h', mvf r⟩
  | dead => exact fun a q => by obtain ⟨o, e⟩ := r a q; exact ⟨o, (h a q).trans e⟩
/-- the store behind a step that keeps all changing objects as they are -/
theorem Rst.ext {K T M H H' st} (r : Rst K T M H st) (e : Ext M M H H') (h : ∀ a, some a ∈ M → H' a = H a) : Rst K T M H' st := by
  refine ⟨r.nd, ?_⟩
  have key : ∀ {l : List (Option Addr)} {st : Stor}, (∀ m ∈ l, m ∈ M) → Paired (fun a o => RO K T M H a o) l st → Paired (fun a o' => RO K T M H' a o') l st := by
    intro l st hn q
    induction q with
    | nil => exact .nil
    | cons h' t ih => exact .cons (h'.move (fun a ea => h a (by rw [← ea]; exact hn _ List.mem_cons_self)) fun v x q => q.ext e) (ih fun a m => hn a (List.mem_cons_of_mem _ m))
  exact key (fun _ m => m) r.obj
theorem Rst.lay {K T M H st} (r : Rst K T M H st) {p : Addr} {o : HO} (h : H p = none) : Rst K T M (L2.upd H p o) st := r.ext (Ext.lay h) fun a m => upd_ne fun z => r.new h (z ▸ m)
/-- .. behind a new changing object -/
theorem Rst.push {K T M H st} (r : Rst K T M H st) {p : Addr} {o : HO} {ob : O} (h : H p = none) (new : Ext M (M ++ [some p]) H (L2.upd H p o) → RO K T (M ++ [some p]) (L2.upd H p o) (some p) ob) :
    Ext M (M ++ [some p]) H (L2.upd H p o) ∧ Rst K T (M ++ [some p]) (L2.upd H p o) (st ++ [ob]) := by
  have e0 : Ext M M H (L2.upd H p o) := Ext.lay h
  have e : Ext M (M ++ [some p]) H (L2.upd H p o) := ⟨by simp, fun i m hi => .inl (by rw [List.getElem?_append_left (List.getElem?_eq_some_iff.mp hi).1]; exact hi), fun i a hl hi => by
    rw [List.getElem?_append_right hl] at hi
    have : i - M.length = 0 := by
      have := (List.getElem?_eq_some_iff.mp hi).1
      simp at this
      omega
    rw [this] at hi
    have ea : p = a := by simpa using hi
    rw [← ea]
    exact h, e0.keep, e0.keepK, e0.keepT, e0.dom⟩
  have key : ∀ {l : List (Option Addr)} {st : Stor}, (∀ m ∈ l, m ∈ M) → Paired (fun a o => RO K T M H a o) l st → Paired (fun a o' => RO K T (M ++ [some p]) (L2.upd H p o) a o') l st := by
    intro l st hn q
    induction q with
    | nil => exact .nil
    | cons h' t ih => exact .cons (h'.move (fun a ea => upd_ne fun z => r.new h (by rw [← z, ← ea]; exact hn _ List.mem_cons_self)) fun v x q => q.ext e) (ih fun a m => hn a (List.mem_cons_of_mem _ m))
  refine ⟨e, ?_, Paired.app2 (key (fun _ m => m) r.obj) (.cons (new e) .nil)⟩
  have np := r.new h
  have one : ∀ (i : Nat) a, (M ++ [some p])[i]? = some (some a) → (M[i]? = some (some a)) ∨ (i = M.length ∧ a = p) := fun i a hi => by
    by_cases hl : i < M.length
    · rw [List.getElem?_append_left hl] at hi
      exact .inl hi
    · rw [List.getElem?_append_right (by omega)] at hi
      have := (List.getElem?_eq_some_iff.mp hi).1
      have z : i - M.length = 0 := by
        simp at this
        omega
      rw [z] at hi
      have ea : p = a := by simpa using hi
      exact .inr ⟨by omega, ea.symm⟩
  intro i j a hi hj
  rcases one i a hi with h1 | ⟨h1, h1'⟩
  · rcases one j a hj with h2 | ⟨h2, h2'⟩
    · exact r.nd i j a h1 h2
    · subst h2'
      exact absurd (List.mem_of_getElem? h1) np
  · rcases one j a hj with h2 | ⟨h2, h2'⟩
    · subst h1'
      exact absurd (List.mem_of_getElem? h2) np
    · omega
/-- .. behind a write -/
theorem Rst.wr {K T M H st} (r : Rst K T M H st) {i : Nat} {a : Addr} {o : HO} {ob : O} (h : M[i]? = some (some a)) (new : Ext M M H (L2.upd H a o) → RO K T M (L2.upd H a o) (some a) ob) :
    Ext M M H (L2.upd H a o) ∧ Rst K T M (L2.upd H a o) (st.set i ob) := by
  have hm : some a ∈ M := List.mem_of_getElem? h
  have e : Ext M M H (L2.upd H a o) := Ext.wr hm
  refine ⟨e, r.nd, ?_⟩
  have key : ∀ {l : List (Option Addr)} {st : Stor} {k i : Nat}, (∀ (j : Nat) m, l[j]? = some m → M[k + j]? = some m) → k + i = i + k → l[i]? = some (some a) → Paired (fun a o => RO K T M H a o) l st → M[k + i]? = some (some a) → Paired (fun c o' => RO K T M (L2.upd H a o) c o') l (st.set i ob) := by
    intro l st k i hsub _ hi q hk
    induction q generalizing i k with
    | nil => simp at hi
    | @cons b o' l' st' h' t ih =>
      have rest : ∀ {l : List (Option Addr)} {st : Stor}, (∀ m ∈ l, m ≠ some a) → Paired (fun a o => RO K T M H a o) l st → Paired (fun c o' => RO K T M (L2.upd H a o) c o') l st := by
        intro l st hn q
        induction q with
        | nil => exact .nil
        | cons h' t ih => exact .cons (h'.move (fun c ec => upd_ne fun z => hn _ List.mem_cons_self (by rw [ec, z])) fun v x q => q.ext e) (ih fun m hm => hn m (List.mem_cons_of_mem _ hm))
      cases i with
      | zero =>
        have eb : b = some a := by simpa using hi
        subst eb
        refine .cons (new e) (rest (fun m hm z => ?_) t)
        obtain ⟨j, hj⟩ := List.getElem?_of_mem hm
        subst z
        have q1 := hsub (j + 1) (some a) (by simpa using hj)
        have q2 := r.nd _ _ a hk q1
        omega
      | succ i =>
        have hi' : l'[i]? = some (some a) := by simpa using hi
        refine .cons (h'.move (fun c ec => upd_ne fun z => ?_) fun v x q => q.ext e) (ih (k := k + 1) (fun j m hj => by have := hsub (j + 1) m (by simpa using hj); rw [show k + 1 + j = k + (j + 1) by omega]; exact this) (by omega) hi' (by rw [show k + 1 + i = k + (i + 1) by omega]; exact hk))
        subst ec
        subst z
        have q1 := hsub 0 (some c) (by simp)
        have q2 := r.nd _ _ c q1 hk
        omega
  exact key (k := 0) (fun j m hj => by simpa using hj) (by omega) h r.obj (by simpa using h)
/-- the later ones change no more -/
theorem Rst.take {K T M H st} (r : Rst K T M H st) (n : Nat) : Rst K T (M.take n) H (st.take n) := by
  have sub : ∀ a, some a ∈ M.take n → some a ∈ M := fun a h => List.mem_of_mem_take h
  refine ⟨fun i j a hi hj => r.nd i j a ?_ ?_, ?_⟩
  · rw [List.getElem?_take] at hi
    split at hi
    · exact hi
    · cases hi
  · rw [List.getElem?_take] at hj
    split at hj
    · exact hj
    · cases hj
  · exact L2.Paired.mapP (Paired.take2 n r.obj) fun m o h => h.move (fun _ _ => rfl) fun v x q => q.sub sub
theorem Ext.take {M M' H H'} (e : Ext M M' H H') (n : Nat) (hn : n = M.length) : Ext M (M'.take n) H H' := by
  subst hn
  refine ⟨by rw [List.length_take]; have := e.len; omega, fun i m h => ?_, fun i a hl h => ?_, e.keep, e.keepK, e.keepT, e.dom⟩
  · have hl : i < M.length := (List.getElem?_eq_some_iff.mp h).1
    rw [List.getElem?_take_of_lt hl]
    exact e.old i m h
  · rw [List.getElem?_take] at h
    split at h
    · omega
    · cases h
/-- an object that changes no more: its address leaves -/
theorem Ext.hole {M : List (Option Addr)} {H : Hp} {i : Nat} : Ext M (M.set i none) H H := by
  refine ⟨by rw [List.length_set]; exact Nat.le_refl _, fun j m h => ?_, fun j a hl h => ?_, fun _ _ h _ _ => h, fun _ _ h _ => h, fun _ _ h _ => h, fun _ h => h⟩
  · by_cases e : i = j
    · subst e
      rw [List.getElem?_set_self (List.getElem?_eq_some_iff.mp h).1]
      exact .inr rfl
    · rw [List.getElem?_set_ne e]
      exact .inl h
  · have := (List.getElem?_eq_some_iff.mp h).1
    rw [List.length_set] at this
    omega
theorem mem_set_none {M : List (Option Addr)} {i : Nat} {a : Addr} (h : some a ∈ M.set i none) : some a ∈ M := by
  obtain ⟨j, hj⟩ := List.getElem?_of_mem h
  by_cases e : i = j
  · subst e
    have hl := (List.getElem?_eq_some_iff.mp hj).1
    rw [List.length_set] at hl
    rw [List.getElem?_set_self hl] at hj
    cases hj
  · rw [List.getElem?_set_ne e] at hj
    exact List.mem_of_getElem? hj
theorem Rst.hole {K T M H st} (r : Rst K T M H st) (i : Nat) : Rst K T (M.set i none) H (st.set i .dead) := by
  refine ⟨fun j k a hj hk => ?_, ?_⟩
  · have one : ∀ (j : Nat), (M.set i none)[j]? = some (some a) → M[j]? = some (some a) := fun j hj => by
      by_cases e : i = j
      · subst e
        have hl := (List.getElem?_eq_some_iff.mp hj).1
        rw [List.length_set] at hl
        rw [List.getElem?_set_self hl] at hj
        cases hj
      · rw [List.getElem?_set_ne e] at hj
        exact hj
    exact r.nd j k a (one j hj) (one k hk)
  · have mv : ∀ m o, RO K T M H m o → RO K T (M.set i none) H m o := fun m o h => h.move (fun _ _ => rfl) fun v x q => q.sub fun a h => mem_set_none h
    exact Paired.set2 (F := fun a o => RO K T (M.set i none) H a o) (x := none) (y := O.dead) (fun a z => by cases z) i (L2.Paired.mapP r.obj mv)
end MM
set_option maxRecDepth 100000
/-! M1: what an expression of the model's Python computes, by values: judgements, composition -/
namespace MM
open PySem PySem.Spec PyProof.Rows L2

def R.bind {α β : Type} (r : R α) (k : α → Stor → R β) : R β := match r with
  | .ok a st => k a st
  | .exc c fs st => .exc c fs st
  | .bad => .bad
@[simp] theorem R.bind_ok {α β : Type} (a : α) (st : Stor) (k : α → Stor → R β) : (R.ok a st).bind k = k a st := rfl
@[simp] theorem R.bind_exc {α β : Type} (c fs st) (k : α → Stor → R β) : (R.exc c fs st : R α).bind k = .exc c fs st := rfl
@[simp] theorem R.bind_bad {α β : Type} (k : α → Stor → R β) : (R.bad : R α).bind k = .bad := rfl

abbrev RelT (α β : Type) := List (Option Addr) → Hp → β → α → Prop
section
variable (K : PySem.W.Frag) (T : Nat → Addr)
def relU : RelT U V := fun M H v u => RU K T M H v u
def relB : RelT Bool Bool := fun _ _ b c => b = c
def relL : RelT (List U) (List V) := fun M H vs us => Paired (RU K T M H) vs us
def relO : RelT (Option Int) (Option Int) := fun _ _ a b => a = b
/-- an exception lies so -/
def GoX (W : WX) (M : List (Option Addr)) (σ : L2.St) (H : Hp) (c : Nat) (fs : List (Str × D)) (st' : Stor) : Prop :=
  ∀ M' H' d fv, Ext M M' H H' → Rst K T M' H' st' → H' d = some (.xd fv) → RFs K T M' H' fv fs → some d ∉ M' → W (.ref (T c)) (some d) σ H'
/-- what is to be shown where an outcome is r -/
def Go {α β : Type} (Rel : RelT α β) (W : WX) (M : List (Option Addr)) (σ : L2.St) (H : Hp) (r : R α) (Q : β → Hp → Prop) : Prop := match r with
  | .ok a st' => ∀ M' H' b, Ext M M' H H' → Rst K T M' H' st' → Rel M' H' b a → Q b H'
  | .exc c fs st' => GoX K T W M σ H c fs st'
  | .bad => False
/-- the reading of an expression that computes f -/
def Tg {α β : Type} (Rel : RelT α β) (W : WX) (f : EF α) : L2.St → Hp → (β → Hp → Prop) → Prop := fun σ H Q =>
  ∃ M ρ st, Rep K T M H σ ρ st ∧ Go K T Rel W M σ H (f ρ st) Q
end
abbrev ME (X : Cx) (T : Nat → Addr) (W : WX) (e : Expr) (f : EF U) : Prop := PE X e (Tg X.K T (relU X.K T) W f)
abbrev MT (X : Cx) (T : Nat → Addr) (W : WX) (e : Expr) (f : EF Bool) : Prop := PT X e (Tg X.K T relB W f)
abbrev MW (X : Cx) (T : Nat → Addr) (W : WX) (e : Expr) (f : EF Bool) : Prop := PW X e (Tg X.K T relB W f)
abbrev MA (X : Cx) (T : Nat → Addr) (W : WX) (es : List Expr) (f : EF (List U)) : Prop := PA X es (Tg X.K T (relL X.K T) W f)

section
variable {K : PySem.W.Frag} {T : Nat → Addr} {α β γ δ : Type} {Rel : RelT α β} {Rel' : RelT γ δ} {W : WX} {M M1 : List (Option Addr)} {σ : L2.St} {ρ : Slots} {H H1 : Hp} {st : Stor}
theorem Go.mono {r : R α} {Q Q' : β → Hp → Prop} (h : Go K T Rel W M σ H r Q) (k : ∀ b H', Q b H' → Q' b H') : Go K T Rel W M σ H r Q' := by
  cases r with
  | ok a st' => exact fun M' H' b e s r => k b H' (h M' H' b e s r)
  | exc c fs st' => exact h
  | bad => exact h
theorem Go.base {r : R α} {Q : β → Hp → Prop} (h : Go K T Rel W M σ H r Q) (e : Ext M M1 H H1) : Go K T Rel W M1 σ H1 r Q := by
  cases r with
  | ok a st' => exact fun M' H' b e' s r => h M' H' b (e.trans e') s r
  | exc c fs st' => exact fun M' H' d fv e' s => h M' H' d fv (e.trans e') s
  | bad => exact h
/-- one after another -/
theorem Go.bind {r : R α} {k : α → Stor → R γ} {Q : δ → Hp → Prop} (rep : Rep K T M H σ ρ st) (h : Go K T Rel' W M σ H (r.bind k) Q) :
    Go K T Rel W M σ H r (fun b H1 => ∃ M1 st1 a, Ext M M1 H H1 ∧ Rep K T M1 H1 σ ρ st1 ∧ Rel M1 H1 b a ∧ Go K T Rel' W M1 σ H1 (k a st1) Q) := by
  cases r with
  | ok a st' => exact fun M' H' b e s r => ⟨M', st', a, e, rep.ext e s, r, Go.base h e⟩
  | exc c fs st' => exact h
  | bad => exact h
/-- behind a value that is there -/
theorem Go.now {a : α} {Q : β → Hp → Prop} (s : Rst K T M H st) (h : Go K T Rel W M σ H (.ok a st) Q) {b : β} (r : Rel M H b a) : Q b H := h M H b Ext.refl s r
end
/-- a reading that is weaker is one too -/
theorem PE.imp {X : Cx} {e : Expr} {t t' : TE} (h : PE X e t) (w : ∀ σ H Q, t' σ H Q → t σ H Q) : PE X e t' := ⟨fun pins s σ H Q I q => h.run pins s σ H Q I (w σ H Q q)⟩
theorem PT.imp {X : Cx} {e : Expr} {t t' : TT} (h : PT X e t) (w : ∀ σ H Q, t' σ H Q → t σ H Q) : PT X e t' := ⟨fun pins s σ H Q I q => h.run pins s σ H Q I (w σ H Q q)⟩
theorem PW.imp {X : Cx} {e : Expr} {t t' : TT} (h : PW X e t) (w : ∀ σ H Q, t' σ H Q → t σ H Q) : PW X e t' := ⟨fun wh pins s σ H Q I q => h.run wh pins s σ H Q I (w σ H Q q)⟩
theorem PA.imp {X : Cx} {es : List Expr} {t t' : TA} (h : PA X es t) (w : ∀ σ H Q, t' σ H Q → t σ H Q) : PA X es t' := ⟨fun p pins s σ H Q I q => h.run p pins s σ H Q I (w σ H Q q)⟩

/-! ### reading a value -/
def rd (st : Stor) : U → Option D
  | .d x => some x
  | .loc i => match st[i]? with
    | some (.lst ds) => some (.list ds)
    | some (.dic kvs) => some (.dict kvs)
    | some (.ins c fs) => some (.ins c fs)
    | _ => none
@[simp] theorem rd_d (st : Stor) (x : D) : rd st (.d x) = some x := rfl
/-- x is to be read at v now -/
def RV (K : PySem.W.Frag) (T : Nat → Addr) (M : List (Option Addr)) (H : Hp) (v : V) : D → Prop
  | .list ds => ∃ a xs, v = .ref a ∧ H a = some (.lst xs) ∧ RDs K T M H xs ds
  | .scr ns => ∃ a, v = .ref a ∧ SqL K H a (ns.map V.int)
  | .tuple ds => ∃ a xs, v = .ref a ∧ (Fz M H a (.tup xs) ∨ KT K a xs) ∧ RDs K T M H xs ds
  | .dict ds => ∃ a, v = .ref a ∧ ((∃ kv, Rd H a (.dK kv) ∧ RKs K T M H kv ds) ∨ ∃ kv, Rd H a (.dT kv) ∧ RTs K T M H kv ds)
  | .ins c fs => ∃ a dx fv, v = .ref a ∧ H a = some (.ins (T c) dx fv) ∧ RFs K T M H fv fs
  | x => RD K T M H v x
theorem RD.rv {K T M H} : ∀ {v : V} {x : D}, RD K T M H v x → RV K T M H v x
  | _, _, .non => .non
  | _, _, .xn => .xn
  | _, _, .bl b => .bl b
  | _, _, .int i => .int i
  | _, _, .str h => .str h
  | _, _, .lst _ h r => ⟨_, _, rfl, h, r⟩
  | _, _, .scr h => ⟨_, rfl, sql_of h⟩
  | _, _, .tup h r => ⟨_, _, rfl, h, r⟩
  | _, _, .dK h r => ⟨_, rfl, .inl ⟨_, h.2, r⟩⟩
  | _, _, .dT h r => ⟨_, rfl, .inr ⟨_, h.2, r⟩⟩
  | _, _, .ins hm h r => ⟨_, _, _, rfl, h, r⟩
  | _, _, .fn a => .fn a
  | _, _, .exc hm h r => .exc hm h r
theorem RU.rv {K T M H} {st : Stor} {v : V} {u : U} {x : D} (r : RU K T M H v u) (s : Rst K T M H st) (h : rd st u = some x) : RV K T M H v x := by
  cases r with
  | d r => cases h; exact r.rv
  | @loc a i hi =>
    have h' : (match st[i]? with
      | some (O.lst ds) => some (D.list ds)
      | some (O.dic kvs) => some (D.dict kvs)
      | some (O.ins c fs) => some (D.ins c fs)
      | _ => none) = some x := h
    cases e : st[i]? with
    | none => rw [e] at h'; cases h'
    | some o =>
      rw [e] at h'
      obtain ⟨b, hb, ro⟩ := s.get e
      rw [hi] at hb
      cases hb
      cases o with
      | lst ds => cases h'; obtain ⟨_, xs, q, h1, h2⟩ := ro; cases q; exact ⟨_, xs, rfl, h1, h2⟩
      | dic ds =>
        cases h'
        obtain ⟨_, q, ⟨kv, h1, h2⟩ | ⟨kv, h1, h2⟩⟩ := ro
        · cases q; exact ⟨_, rfl, .inl ⟨kv, .inl h1, h2⟩⟩
        · cases q; exact ⟨_, rfl, .inr ⟨kv, .inl h1, h2⟩⟩
      | ins c fs => cases h'; obtain ⟨_, dx, fv, q, h1, h2⟩ := ro; cases q; exact ⟨_, dx, fv, rfl, h1, h2⟩
      | dead => cases h'
  | @hole v i hi =>
    have h' : (match st[i]? with
      | some (O.lst ds) => some (D.list ds)
      | some (O.dic kvs) => some (D.dict kvs)
      | some (O.ins c fs) => some (D.ins c fs)
      | _ => none) = some x := h
    cases e : st[i]? with
    | none => rw [e] at h'; cases h'
    | some o =>
      rw [e] at h'
      obtain ⟨b, hb, ro⟩ := s.get e
      rw [hi] at hb
      cases hb
      cases o with
      | lst ds => obtain ⟨_, xs, q, _⟩ := ro; cases q
      | dic ds => obtain ⟨_, q, _⟩ := ro; cases q
      | ins c fs => obtain ⟨_, dx, fv, q, _⟩ := ro; cases q
      | dead => cases h'

/-! ### names, constants -/
section
variable {X : Cx} {T : Nat → Addr} {W : WX} {pos : Pos}
def eV (i : Nat) : EF U := fun ρ st => match ρ[i]? with
  | some (some u) => .ok u st
  | _ => .bad
def eC (x : D) : EF U := fun _ st => .ok (.d x) st
theorem m_var {i : Nat} {x : Str} (h : PE X (.Name x pos) (tVar i)) : ME X T W (.Name x pos) (eV i) := by
  refine PE.imp h fun σ H Q ⟨M, ρ, st, rep, go⟩ => ?_
  have go' : Go X.K T (relU X.K T) W M σ H (match ρ[i]? with
    | some (some u) => .ok u st
    | _ => .bad) Q := go
  cases e : ρ[i]? with
  | none => rw [e] at go'; exact go'.elim
  | some o =>
    cases o with
    | none => rw [e] at go'; exact go'.elim
    | some u =>
      rw [e] at go'
      obtain ⟨v, h1, h2⟩ := rep.get e
      exact ⟨v, h1, Go.now rep.sto go' h2⟩
theorem m_const {e : Expr} {v : V} {x : D} (h : PE X e (tC v)) (r : ∀ M H, RD X.K T M H v x) : ME X T W e (eC x) := by
  refine PE.imp h fun σ H Q ⟨M, ρ, st, rep, go⟩ => ?_
  exact Go.now (b := v) rep.sto go (RU.d (r M H))
theorem m_int {i j} : ME X T W (.Constant (.int i) j pos) (eC (.int i)) := m_const pe_int fun _ _ => .int i
theorem m_bl {b j} : ME X T W (.Constant (.bool b) j pos) (eC (.bool b)) := m_const pe_bl fun _ _ => .bl b
theorem m_non {j} : ME X T W (.Constant .none j pos) (eC .none) := m_const pe_non fun _ _ => .non
theorem m_str {x j} (h : PyData.strOk x = true := by decide +kernel) : ME X T W (.Constant (.str x) j pos) (eC (.str x)) := m_const pe_str fun _ _ => .str h

/-! ### two parts by values -/
def eBin (g : U → U → Stor → R U) (fa fb : EF U) : EF U := fun ρ st => (fa ρ st).bind fun u st1 => (fb ρ st1).bind fun w st2 => g u w st2
def eUn (g : U → Stor → R U) (fa : EF U) : EF U := fun ρ st => (fa ρ st).bind g
/-- r asks no more than g says -/
def Op2 (X : Cx) (T : Nat → Addr) (W : WX) (r : R2) (g : U → U → Stor → R U) : Prop :=
  ∀ M σ H st x y u w Q, Rst X.K T M H st → RU X.K T M H x u → RU X.K T M H y w → Go X.K T (relU X.K T) W M σ H (g u w st) Q → r x y H Q
def Op1 (X : Cx) (T : Nat → Addr) (W : WX) (r : V → Hp → VK → Prop) (g : U → Stor → R U) : Prop :=
  ∀ M σ H st x u Q, Rst X.K T M H st → RU X.K T M H x u → Go X.K T (relU X.K T) W M σ H (g u st) Q → r x H Q
variable {a b : Expr} {fa fb : EF U}
theorem tOp_of {r : R2} {g : U → U → Stor → R U} (o : Op2 X T W r g) {σ : L2.St} {H : Hp} {Q : VK} (h : Tg X.K T (relU X.K T) W (eBin g fa fb) σ H Q) :
    tOp r (Tg X.K T (relU X.K T) W fa) (Tg X.K T (relU X.K T) W fb) σ H Q := by
  obtain ⟨M, ρ, st, rep, go⟩ := h
  refine ⟨M, ρ, st, rep, (Go.bind (Rel := relU X.K T) rep go).mono fun x H1 ⟨M1, st1, u, e1, rep1, ru, go1⟩ => ?_⟩
  refine ⟨M1, ρ, st1, rep1, (Go.bind (Rel := relU X.K T) rep1 go1).mono fun y H2 ⟨M2, st2, w, e2, rep2, rw, go2⟩ => ?_⟩
  exact o M2 σ H2 st2 x y u w Q rep2.sto (RU.ext e2 ru) rw go2
theorem m_bin {op : Operator} {r : R2} {g : U → U → Stor → R U} (ho : OpR X (binaryOp op) r) (o : Op2 X T W r g) (ha : ME X T W a fa) (hb : ME X T W b fb) : ME X T W (.BinOp a op b pos) (eBin g fa fb) :=
  PE.imp (pe_op ho ha hb) fun _ _ _ h => tOp_of o h
theorem m_cmp {op : CmpOp} {r : R2} {g : U → U → Stor → R U} (ho : OpR X (compareOp op) r) (o : Op2 X T W r g) (ha : ME X T W a fa) (hb : ME X T W b fb) (hm : behindInMarks op b = false) : ME X T W (.Compare a [op] [b] pos) (eBin g fa fb) :=
  PE.imp (pe_cmpR ho ha hb hm) fun _ _ _ h => tOp_of o h
theorem m_un {op : UnaryOp} {r : V → Hp → VK → Prop} {g : U → Stor → R U} (ho : UnR X (unaryOp op) r) (o : Op1 X T W r g) (ha : ME X T W a fa) : ME X T W (.UnaryOp op a pos) (eUn g fa) := by
  refine PE.imp (pe_un ho ha) fun σ H Q ⟨M, ρ, st, rep, go⟩ => ?_
  refine ⟨M, ρ, st, rep, (Go.bind (Rel := relU X.K T) rep go).mono fun x H1 ⟨M1, st1, u, e1, rep1, ru, go1⟩ => ?_⟩
  exact o M1 σ H1 st1 x u Q rep1.sto ru go1

/-! ### pure operations: data to data -/
def g2 (f : D → D → Option D) : U → U → Stor → R U := fun u w st => match rd st u, rd st w with
  | some x, some y => match f x y with
    | some z => .ok (.d z) st
    | none => .bad
  | _, _ => .bad
def g1 (f : D → Option D) : U → Stor → R U := fun u st => match rd st u with
  | some x => match f x with
    | some z => .ok (.d z) st
    | none => .bad
  | _ => .bad
@[simp] theorem g2_d (f : D → D → Option D) (x y : D) (st : Stor) : g2 f (.d x) (.d y) st = (match f x y with | some z => .ok (.d z) st | none => .bad) := rfl
@[simp] theorem g1_d (f : D → Option D) (x : D) (st : Stor) : g1 f (.d x) st = (match f x with | some z => .ok (.d z) st | none => .bad) := rfl
/-- what a pure operation must bring: a frozen result; the store as it was -/
def Out (K : PySem.W.Frag) (T : Nat → Addr) (M : List (Option Addr)) (H : Hp) (st : Stor) (z : D) (Q : VK) : Prop := ∀ H' v, Ext M M H H' → Rst K T M H' st → RD K T M H' v z → Q v H'
def P2 (X : Cx) (T : Nat → Addr) (r : R2) (f : D → D → Option D) : Prop :=
  ∀ M H st x y dx dy z Q, Rst X.K T M H st → RV X.K T M H x dx → RV X.K T M H y dy → f dx dy = some z → Out X.K T M H st z Q → r x y H Q
def P1 (X : Cx) (T : Nat → Addr) (r : V → Hp → VK → Prop) (f : D → Option D) : Prop :=
  ∀ M H st x dx z Q, Rst X.K T M H st → RV X.K T M H x dx → f dx = some z → Out X.K T M H st z Q → r x H Q
theorem P2.op {r : R2} {f : D → D → Option D} (p : P2 X T r f) : Op2 X T W r (g2 f) := by
  intro M σ H st x y u w Q s ru rw go
  unfold g2 at go
  cases e1 : rd st u with
  | none => rw [e1] at go; exact go.elim
  | some dx =>
    cases e2 : rd st w with
    | none => rw [e1, e2] at go; exact go.elim
    | some dy =>
      rw [e1, e2] at go
      simp only at go
      cases e3 : f dx dy with
      | none => rw [e3] at go; exact go.elim
      | some z =>
        rw [e3] at go
        exact p M H st x y dx dy z Q s (ru.rv s e1) (rw.rv s e2) e3 fun H' v e s' r => go M H' v e s' (.d r)
theorem P1.op {r : V → Hp → VK → Prop} {f : D → Option D} (p : P1 X T r f) : Op1 X T W r (g1 f) := by
  intro M σ H st x u Q s ru go
  unfold g1 at go
  cases e1 : rd st u with
  | none => rw [e1] at go; exact go.elim
  | some dx =>
    rw [e1] at go
    simp only at go
    cases e3 : f dx with
    | none => rw [e3] at go; exact go.elim
    | some z =>
      rw [e3] at go
      exact p M H st x dx z Q s (ru.rv s e1) e3 fun H' v e s' r => go M H' v e s' (.d r)
/-- a result without a new object -/
theorem Out.now {K T M H st z Q} (s : Rst K T M H st) (o : Out K T M H st z Q) {v : V} (r : RD K T M H v z) : Q v H := o H v Ext.refl s r
/-- a new list, a new tuple -/
theorem Out.lst {K T M H st ds Q} (s : Rst K T M H st) (o : Out K T M H st (.list ds) Q) {xs : List V} (r : RDs K T M H xs ds) : ∀ p, H p = none → Q (.ref p) (L2.upd H p (.lst xs)) := fun p hp =>
  o _ _ (Ext.lay hp) (s.lay hp) (.lst (s.new hp) upd_same (r.ext (Ext.lay hp)))
theorem Out.tup {K T M H st ds Q} (s : Rst K T M H st) (o : Out K T M H st (.tuple ds) Q) {xs : List V} (r : RDs K T M H xs ds) : ∀ p, H p = none → Q (.ref p) (L2.upd H p (.tup xs)) := fun p hp =>
  o _ _ (Ext.lay hp) (s.lay hp) (.tup (.inl ⟨s.new hp, .inl upd_same⟩) (r.ext (Ext.lay hp)))
end
end MM
set_option maxRecDepth 100000
/-! M2: operators by values -/
namespace MM
open PySem PySem.Spec PyProof.Rows L2

/-! ### plain data: equal or not -/
mutual
def sh : Nat → D → Bool
  | _, .none => true
  | _, .bool _ => true
  | _, .int _ => true
  | _, .str _ => true
  | 0, .list _ => false
  | 0, .tuple _ => false
  | n + 1, .list xs => shs n xs
  | n + 1, .tuple xs => shs n xs
  | _, .dict _ => false
  | _, .ins _ _ => false
  | _, .fn _ => false
  | _, .exc _ _ _ _ => false
  | _, .scr _ => false
def shs : Nat → List D → Bool
  | _, [] => true
  | n, x :: xs => sh n x && shs n xs
end
mutual
def D.py : D → PyData
  | .none => .none
  | .bool b => .bool b
  | .int i => .int i
  | .str s => .str s
  | .list xs => .list (pys xs)
  | .tuple xs => .tuple (pys xs)
  | .dict _ => .dict []
  | .ins _ _ => .dict []
  | .fn _ => .dict []
  | .exc _ _ _ _ => .dict []
  | .scr _ => .dict []
def pys : List D → List PyData
  | [] => []
  | x :: xs => x.py :: pys xs
end
theorem pys_map : ∀ xs : List D, pys xs = xs.map D.py
  | [] => by rw [pys, List.map_nil]
  | x :: xs => by rw [pys, List.map_cons, pys_map xs]
mutual
/-- x == y -/
def D.eqv : D → D → Bool
  | .none, .none => true
  | .bool a, .bool b => a == b
  | .bool a, .int j => (if a then 1 else 0) == j
  | .int i, .bool b => i == (if b then 1 else 0)
  | .int i, .int j => i == j
  | .str x, .str y => x == y
  | .list xs, .list ys => eqvs xs ys
  | .tuple xs, .tuple ys => eqvs xs ys
  | _, _ => false
def eqvs : List D → List D → Bool
  | [], [] => true
  | x :: xs, y :: ys => x.eqv y && eqvs xs ys
  | _, _ => false
end
mutual
theorem eqv_py : ∀ (n m : Nat) (x y : D), sh n x = true → sh m y = true → PyData.eqv x.py y.py = x.eqv y := by
  intro n m x y hx hy
  cases x <;> cases y <;> first
    | (simp [D.py, PyData.eqv, D.eqv]; done)
    | (exfalso; simp [sh] at hx; done)
    | (exfalso; simp [sh] at hy; done)
    | skip
  · cases n with
    | zero => simp [sh] at hx
    | succ n => cases m with
      | zero => simp [sh] at hy
      | succ m =>
        rw [sh] at hx hy
        rw [D.py, D.py, PyData.eqv, D.eqv]
        exact eqvs_py n m _ _ hx hy
  · cases n with
    | zero => simp [sh] at hx
    | succ n => cases m with
      | zero => simp [sh] at hy
      | succ m =>
        rw [sh] at hx hy
        rw [D.py, D.py, PyData.eqv, D.eqv]
        exact eqvs_py n m _ _ hx hy
theorem eqvs_py : ∀ (n m : Nat) (xs ys : List D), shs n xs = true → shs m ys = true → PyData.eqvAll (pys xs) (pys ys) = eqvs xs ys
  | _, _, [], [], _, _ => by simp [pys, PyData.eqvAll, eqvs]
  | _, _, [], y :: ys, _, _ => by simp [pys, PyData.eqvAll, eqvs]
  | _, _, x :: xs, [], _, _ => by simp [pys, PyData.eqvAll, eqvs]
  | n, m, x :: xs, y :: ys, hx, hy => by
    rw [shs, Bool.and_eq_true] at hx hy
    rw [pys, pys, PyData.eqvAll, eqvs, eqv_py n m x y hx.1 hy.1, eqvs_py n m xs ys hx.2 hy.2]
end

/-! ### data as the library reads it -/
section
variable {K : PySem.W.Frag} {T : Nat → Addr} {M : List (Option Addr)} {H : Hp}
mutual
theorem RD.dp : ∀ {n : Nat} {v : V} {x : D}, RD K T M H v x → sh n x = true → Dp K H v x.py ∧ x.py.canLay0 = true
  | _, _, _, .non, _ => ⟨by rw [D.py]; exact .non, by rw [D.py]; rfl⟩
  | _, _, _, .bl b, _ => ⟨by rw [D.py]; exact .bl b, by rw [D.py]; rfl⟩
  | _, _, _, .int i, _ => ⟨by rw [D.py]; exact .int i, by rw [D.py]; rfl⟩
  | _, _, _, .str (x := x) h, _ => ⟨by rw [D.py]; exact .str x, by rw [D.py]; simpa [PyData.canLay0] using h⟩
  | 0, _, _, .lst _ _ _, z => by simp [sh] at z
  | n + 1, _, _, .lst _ h r, z => by
    rw [sh] at z
    have q := RDs.dp r z
    exact ⟨by rw [D.py]; exact .lst (.inl (.inl h)) q.1, by rw [D.py]; simpa [PyData.canLay0] using q.2⟩
  | _, _, _, .scr _, z => by simp [sh] at z
  | 0, _, _, .tup _ _, z => by simp [sh] at z
  | n + 1, _, _, .tup h r, z => by
    rw [sh] at z
    have q := RDs.dp r z
    exact ⟨by rw [D.py]; exact .tup (sqt_of h) q.1, by rw [D.py]; simpa [PyData.canLay0] using q.2⟩
  | _, _, _, .dK _ _, z => by simp [sh] at z
  | _, _, _, .dT _ _, z => by simp [sh] at z
  | _, _, _, .ins _ _ _, z => by simp [sh] at z
  | _, _, _, .fn _, z => by simp [sh] at z
  | _, _, _, .exc _ _ _, z => by simp [sh] at z
theorem RDs.dp : ∀ {n : Nat} {vs : List V} {ds : List D}, RDs K T M H vs ds → shs n ds = true → DpAll K H vs (pys ds) ∧ PyData.canLayAll0 (pys ds) = true
  | _, _, _, .nil, _ => ⟨by rw [pys]; exact .nil, by rw [pys]; rfl⟩
  | _, _, _, .cons r t, z => by
    rw [shs, Bool.and_eq_true] at z
    have q := RD.dp r z.1
    have q' := RDs.dp t z.2
    exact ⟨by rw [pys]; exact .cons q.1 q'.1, by rw [pys, PyData.canLayAll0, q.2, q'.2]; rfl⟩
end
theorem RV.dp {n : Nat} {v : V} {x : D} (r : RV K T M H v x) (z : sh n x = true) : Dp K H v x.py ∧ x.py.canLay0 = true := by
  cases x with
  | list ds =>
    obtain ⟨a, xs, rfl, h, r⟩ := r
    cases n with
    | zero => simp [sh] at z
    | succ n =>
      rw [sh] at z
      have q := RDs.dp r z
      exact ⟨by rw [D.py]; exact .lst (.inl (.inl h)) q.1, by rw [D.py]; simpa [PyData.canLay0] using q.2⟩
  | tuple ds =>
    obtain ⟨a, xs, rfl, h, r⟩ := r
    cases n with
    | zero => simp [sh] at z
    | succ n =>
      rw [sh] at z
      have q := RDs.dp r z
      exact ⟨by rw [D.py]; exact .tup (sqt_of h) q.1, by rw [D.py]; simpa [PyData.canLay0] using q.2⟩
  | dict _ => simp [sh] at z
  | ins _ _ => simp [sh] at z
  | fn _ => simp [sh] at z
  | exc _ _ _ _ => simp [sh] at z
  | scr _ => simp [sh] at z
  | none => exact RD.dp (n := n) r z
  | bool b => exact RD.dp (n := n) r z
  | int i => exact RD.dp (n := n) r z
  | str s => exact RD.dp (n := n) r z
end
mutual
theorem sh_depth : ∀ (n : Nat) (x : D), sh n x = true → x.py.depth ≤ n
  | _, .none, _ => by simp [D.py, PyData.depth]
  | _, .bool _, _ => by simp [D.py, PyData.depth]
  | _, .int _, _ => by simp [D.py, PyData.depth]
  | _, .str _, _ => by simp [D.py, PyData.depth]
  | 0, .list _, z => by simp [sh] at z
  | n + 1, .list xs, z => by
    rw [sh] at z
    have := shs_depth n xs z
    rw [D.py, PyData.depth]
    omega
  | 0, .tuple _, z => by simp [sh] at z
  | n + 1, .tuple xs, z => by
    rw [sh] at z
    have := shs_depth n xs z
    rw [D.py, PyData.depth]
    omega
  | _, .dict _, z => by simp [sh] at z
  | _, .ins _ _, z => by simp [sh] at z
  | _, .fn _, z => by simp [sh] at z
  | _, .exc _ _ _ _, z => by simp [sh] at z
  | _, .scr _, z => by simp [sh] at z
theorem shs_depth : ∀ (n : Nat) (xs : List D), shs n xs = true → PyData.depthAll (pys xs) ≤ n
  | _, [], _ => by simp [pys, PyData.depthAll]
  | n, x :: xs, z => by
    rw [shs, Bool.and_eq_true] at z
    have h1 := sh_depth n x z.1
    have h2 := shs_depth n xs z.2
    rw [pys, PyData.depthAll]
    omega
end
theorem shaped_of {n : Nat} {x : D} (h : x.py.canLay0 = true) (z : sh n x = true) (hn : n ≤ 64) : SeqAt.shaped x.py = true := by
  have := sh_depth n x z
  show (x.py.canLay0 && decide (x.py.depth ≤ 64)) = true
  rw [h, decide_eq_true (by omega)]
  rfl

/-! ### the operations on data -/
def dEq : D → D → Option D := fun x y => if sh 60 x && sh 60 y then some (.bool (x.eqv y)) else none
def dNe : D → D → Option D := fun x y => if sh 60 x && sh 60 y then some (.bool (!x.eqv y)) else none
def fits (n : Nat) : Bool := decide (n ≤ 16777216)
theorem fits_le {n : Nat} (h : fits n = true) : n ≤ sizeLine := by
  have := of_decide_eq_true h
  rw [sizeLine_eq]
  omega
def cMul (i j : Int) : Bool := (decide (-(2 ^ 64) < i) && decide (i < 2 ^ 64)) || (decide (-(2 ^ 64) < j) && decide (j < 2 ^ 64))
def dAdd : D → D → Option D
  | .int i, .int j => some (.int (i + j))
  | .str x, .str y => if fits (x.length + y.length) then some (.str (x ++ y)) else none
  | .list xs, .list ys => if fits (xs.length + ys.length) then some (.list (xs ++ ys)) else none
  | .tuple xs, .tuple ys => if fits (xs.length + ys.length) then some (.tuple (xs ++ ys)) else none
  | _, _ => none
def dSub : D → D → Option D
  | .int i, .int j => some (.int (i - j))
  | _, _ => none
def dMul : D → D → Option D
  | .int i, .int j => if cMul i j then some (.int (i * j)) else none
  | .list xs, .int k => if decide (-(2 ^ 63) ≤ k) && decide (k < 2 ^ 63) && fits (xs.length * k.toNat) then some (.list (List.replicate k.toNat xs).flatten) else none
  | .tuple xs, .int k => if decide (2 ≤ k) && decide (k ≤ 1000) && decide (xs.length ≤ 1000) && !xs.isEmpty then some (.tuple (List.replicate k.toNat xs).flatten) else none
  | _, _ => none
def dDiv : D → D → Option D
  | .int i, .int j => if decide (0 < j) && decide (j < 1073741824) then some (.int (i / j)) else none
  | _, _ => none
def dMod : D → D → Option D
  | .int i, .int j => if decide (0 < j) then some (.int (i % j)) else none
  | _, _ => none
def dPow : D → D → Option D
  | .int i, .int j => if decide (0 ≤ j) && decide (j ≤ 1000000) && decide (i.natAbs < 2 ^ 64) then some (.int (i ^ j.toNat)) else none
  | _, _ => none
def dNeg : D → Option D
  | .int i => some (.int (-i))
  | _ => none
def dCmp (p : Int → Int → Bool) : D → D → Option D
  | .int i, .int j => some (.bool (p i j))
  | _, _ => none
def D.isN : D → Bool
  | .none => true
  | _ => false
def dIs : D → D → Option D
  | x, .none => some (.bool x.isN)
  | _, _ => none
def dNis : D → D → Option D
  | x, .none => some (.bool (!x.isN))
  | _, _ => none
/-- one text within another -/
def strIn (x y : Str) : Bool := !(Builtin.Str.occurrences y x 0 y.length 1).isEmpty
def dIn : D → D → Option D
  | x, .list ys => if sh 60 x && shs 60 ys then some (.bool (ys.any fun y => y.eqv x)) else none
  | x, .tuple ys => if sh 60 x && shs 60 ys then some (.bool (ys.any fun y => y.eqv x)) else none
  | .str x, .str y => some (.bool (strIn x y))
  | _, _ => none
def dNin : D → D → Option D
  | x, .list ys => if sh 60 x && shs 60 ys then some (.bool (!ys.any fun y => y.eqv x)) else none
  | x, .tuple ys => if sh 60 x && shs 60 ys then some (.bool (!ys.any fun y => y.eqv x)) else none
  | .str x, .str y => some (.bool (!strIn x y))
  | _, _ => none

/-! ### they are what the model does -/
section
variable {X : Cx} {T : Nat → Addr}
def rCatL (K : PySem.W.Frag) : R2 := fun x y H Q => ∃ l b xs zs, x = .ref l ∧ y = .ref b ∧ H l = some (.lst xs) ∧ H b = some (.lst zs) ∧ xs.length + zs.length ≤ sizeLine ∧ ∀ p, H p = none → Q (.ref p) (L2.upd H p (.lst (xs ++ zs)))
def rAddM (K : PySem.W.Frag) : R2 := fun x y H Q => rI0 (fun i j => .int (i + j)) x y H Q ∨ ((∃ i j, x = .str i ∧ y = .str j ∧ i.length + j.length ≤ sizeLine ∧ Q (.str (i ++ j)) H) ∨ (rCat x y H Q ∨ rCatA K x y H Q))
theorem op_addM : OpR X (binaryOp .Add) (rAddM X.K) := op_add.or (op_add_str.or (op_cat.or op_catA))
theorem RV.int {K : PySem.W.Frag} {T M H v i} (r : RV K T M H v (.int i)) : v = .int i := by
  have r' : RD K T M H v (.int i) := r
  cases r'
  rfl
theorem RV.bool {K : PySem.W.Frag} {T M H v i} (r : RV K T M H v (.bool i)) : v = .bl i := by
  have r' : RD K T M H v (.bool i) := r
  cases r'
  rfl
theorem RV.non {K : PySem.W.Frag} {T M H v} (r : RV K T M H v .none) : v = .non := by
  have r' : RD K T M H v .none := r
  cases r'
  rfl
theorem RV.str {K : PySem.W.Frag} {T M H v x} (r : RV K T M H v (.str x)) : v = .str x ∧ PyData.strOk x = true := by
  have r' : RD K T M H v (.str x) := r
  cases r' with
  | str h => exact ⟨rfl, h⟩
theorem strOk_app {x y : Str} (hx : PyData.strOk x = true) (hy : PyData.strOk y = true) : PyData.strOk (x ++ y) = true := by
  obtain ⟨x⟩ := x
  obtain ⟨y⟩ := y
  have hx' : x.all (· < 0x110000) = true := hx
  have hy' : y.all (· < 0x110000) = true := hy
  show (x ++ y).all (· < 0x110000) = true
  rw [Array.all_append, hx', hy']
  rfl
theorem if_some {α : Type} {b : Bool} {x z : α} (h : (if b = true then some x else none) = some z) : b = true ∧ x = z := by
  cases b with
  | true => exact ⟨rfl, by simpa using h⟩
  | false => simp at h
theorem p_add : P2 X T (rAddM X.K) dAdd := by
  intro M H st x y dx dy z Q s rx ry hf o
  unfold dAdd at hf
  split at hf
  · cases hf
    exact .inl ⟨_, _, rx.int, ry.int, o.now s (.int _)⟩
  · obtain ⟨hz, rfl⟩ := if_some hf
    obtain ⟨ex, hx⟩ := rx.str
    obtain ⟨ey, hy⟩ := ry.str
    exact .inr (.inl ⟨_, _, ex, ey, fits_le hz, o.now s (.str (strOk_app hx hy))⟩)
  · obtain ⟨hz, rfl⟩ := if_some hf
    obtain ⟨a, xs, rfl, h1, r1⟩ := rx
    obtain ⟨b, ys, rfl, h2, r2⟩ := ry
    exact .inr (.inr (.inl ⟨a, b, xs, ys, rfl, rfl, h1, h2, by rw [r1.length, r2.length]; exact fits_le hz, o.lst s (r1.app r2)⟩))
  · obtain ⟨hz, rfl⟩ := if_some hf
    obtain ⟨a, xs, rfl, h1, r1⟩ := rx
    obtain ⟨b, ys, rfl, h2, r2⟩ := ry
    refine .inr (.inr (.inr ⟨a, b, xs, ys, rfl, rfl, sqt_of h1, sqt_of h2, by rw [r1.length, r2.length]; exact fits_le hz, fun e => ?_, fun _ e => ?_, fun _ _ => o.tup s (r1.app r2)⟩))
    · subst e
      cases r1
      exact o.now s (.tup h2 r2)
    · subst e
      cases r2
      rw [List.append_nil] at o
      exact o.now s (.tup h1 r1)
  · cases hf
theorem p_int {r : R2} {f : D → D → Option D} (h : ∀ x y z H Q, f x y = some z → (∃ i j k, x = .int i ∧ y = .int j ∧ z = .int k ∧ (Q (.int k) H → r (.int i) (.int j) H Q)) ∨ ∃ i j b, x = .int i ∧ y = .int j ∧ z = .bool b ∧ (Q (.bl b) H → r (.int i) (.int j) H Q)) : P2 X T r f := by
  intro M H st x y dx dy z Q s rx ry hf o
  rcases h dx dy z H Q hf with ⟨i, j, k, rfl, rfl, rfl, g⟩ | ⟨i, j, k, rfl, rfl, rfl, g⟩
  · rw [rx.int, ry.int]
    exact g (o.now s (.int _))
  · rw [rx.int, ry.int]
    exact g (o.now s (.bl _))
theorem p_sub : P2 X T (rI0 fun i j => .int (i - j)) dSub := p_int fun x y z H Q h => by
  unfold dSub at h
  split at h <;> cases h
  exact .inl ⟨_, _, _, rfl, rfl, rfl, fun q => ⟨_, _, rfl, rfl, q⟩⟩
def rMulM (K : PySem.W.Frag) : R2 := fun x y H Q => rI CMul (fun i j => .int (i * j)) x y H Q ∨ (rRep x y H Q ∨ rRepT K x y H Q)
theorem op_mulM : OpR X (binaryOp .Mult) (rMulM X.K) := op_mul.or (op_rep.or op_repT)
theorem RDs.rep {K T M H} {xs : List V} {ds : List D} (r : RDs K T M H xs ds) : ∀ n : Nat, RDs K T M H (List.replicate n xs).flatten (List.replicate n ds).flatten
  | 0 => by simpa using RDs.nil
  | n + 1 => by
    rw [List.replicate_succ, List.replicate_succ, List.flatten_cons, List.flatten_cons]
    exact r.app (RDs.rep r n)
theorem p_mul : P2 X T (rMulM X.K) dMul := by
  intro M H st x y dx dy z Q s rx ry hf o
  unfold dMul at hf
  split at hf
  · obtain ⟨hz, rfl⟩ := if_some hf
    refine .inl ⟨_, _, rx.int, ry.int, ?_, o.now s (.int _)⟩
    unfold cMul at hz
    simp only [Bool.or_eq_true, Bool.and_eq_true, decide_eq_true_eq] at hz
    exact hz
  · obtain ⟨hz, rfl⟩ := if_some hf
    simp only [Bool.and_eq_true, decide_eq_true_eq] at hz
    obtain ⟨a, xs, rfl, h1, r1⟩ := rx
    exact .inr (.inl ⟨a, _, xs, rfl, ry.int, h1, hz.1.1, hz.1.2, by rw [r1.length]; exact fits_le hz.2, o.lst s (r1.rep _)⟩)
  · obtain ⟨hz, rfl⟩ := if_some hf
    simp only [Bool.and_eq_true, decide_eq_true_eq, Bool.not_eq_true'] at hz
    obtain ⟨a, xs, rfl, h1, r1⟩ := rx
    refine .inr (.inr ⟨a, _, xs, rfl, ry.int, sqt_of h1, fun e => ?_, hz.1.1.1, hz.1.1.2, by rw [r1.length]; exact hz.1.2, o.tup s (r1.rep _)⟩)
    subst e
    cases r1
    simp at hz
  · cases hf
theorem p_div : P2 X T (rI CDiv fun i j => .int (i / j)) dDiv := p_int fun x y z H Q h => by
  unfold dDiv at h
  split at h
  · obtain ⟨hz, rfl⟩ := if_some h
    simp only [Bool.and_eq_true, decide_eq_true_eq] at hz
    exact .inl ⟨_, _, _, rfl, rfl, rfl, fun q => ⟨_, _, rfl, rfl, hz, q⟩⟩
  · cases h
theorem p_mod : P2 X T (rI (fun _ j => 0 < j) fun i j => .int (i % j)) dMod := p_int fun x y z H Q h => by
  unfold dMod at h
  split at h
  · obtain ⟨hz, rfl⟩ := if_some h
    exact .inl ⟨_, _, _, rfl, rfl, rfl, fun q => ⟨_, _, rfl, rfl, of_decide_eq_true hz, q⟩⟩
  · cases h
theorem p_pow : P2 X T (rI CPow fun i j => .int (i ^ j.toNat)) dPow := p_int fun x y z H Q h => by
  unfold dPow at h
  split at h
  · obtain ⟨hz, rfl⟩ := if_some h
    simp only [Bool.and_eq_true, decide_eq_true_eq] at hz
    exact .inl ⟨_, _, _, rfl, rfl, rfl, fun q => ⟨_, _, rfl, rfl, ⟨hz.1.1, hz.1.2, hz.2⟩, q⟩⟩
  · cases h
theorem p_cmp (p : Int → Int → Bool) : P2 X T (rI0 fun i j => .bl (p i j)) (dCmp p) := p_int fun x y z H Q h => by
  unfold dCmp at h
  split at h <;> cases h
  exact .inr ⟨_, _, _, rfl, rfl, rfl, fun q => ⟨_, _, rfl, rfl, q⟩⟩
theorem p_neg : P1 X T (rU fun i => .int (-i)) dNeg := by
  intro M H st x dx z Q s rx hf o
  unfold dNeg at hf
  split at hf <;> cases hf
  exact ⟨_, rx.int, o.now s (.int _)⟩
theorem RV.isnon {K : PySem.W.Frag} {T M H v x} (r : RV K T M H v x) : decide (v = .non) = x.isN := by
  cases x with
  | none => rw [RV.non r]; rfl
  | bool b => rw [RV.bool r]; rfl
  | int i => rw [RV.int r]; rfl
  | str s => rw [(RV.str r).1]; rfl
  | list ds => obtain ⟨a, xs, rfl, _⟩ := r; rfl
  | tuple ds => obtain ⟨a, xs, rfl, _⟩ := r; rfl
  | dict ds => obtain ⟨a, rfl, _⟩ := r; rfl
  | ins c fs => obtain ⟨a, dx, fv, rfl, _⟩ := r; rfl
  | fn a =>
    have r' : RD K T M H v (.fn a) := r
    cases r'
    rfl
  | exc a d c fs =>
    have r' : RD K T M H v (.exc a d c fs) := r
    cases r' <;> rfl
  | scr ns => obtain ⟨a, rfl, _⟩ := r; rfl
theorem p_is : P2 X T (fun x y H Q => y = .non ∧ Q (.bl (decide (x = .non))) H) dIs := by
  intro M H st x y dx dy z Q s rx ry hf o
  unfold dIs at hf
  split at hf
  · cases hf
    exact ⟨ry.non, by rw [rx.isnon]; exact o.now s (.bl _)⟩
  · cases hf
theorem p_nis : P2 X T (fun x y H Q => y = .non ∧ Q (.bl (!decide (x = .non))) H) dNis := by
  intro M H st x y dx dy z Q s rx ry hf o
  unfold dNis at hf
  split at hf
  · cases hf
    exact ⟨ry.non, by rw [rx.isnon]; exact o.now s (.bl _)⟩
  · cases hf
theorem p_eq : P2 X T (rEqD X.K) dEq := by
  intro M H st x y dx dy z Q s rx ry hf o
  obtain ⟨hz, rfl⟩ := if_some hf
  rw [Bool.and_eq_true] at hz
  have qx := rx.dp hz.1
  have qy := ry.dp hz.2
  exact ⟨_, _, qx.1, qy.1, shaped_of qx.2 hz.1 (by decide), shaped_of qy.2 hz.2 (by decide), by rw [eqv_py 60 60 _ _ hz.1 hz.2]; exact o.now s (.bl _)⟩
theorem p_ne : P2 X T (rNeD X.K) dNe := by
  intro M H st x y dx dy z Q s rx ry hf o
  obtain ⟨hz, rfl⟩ := if_some hf
  rw [Bool.and_eq_true] at hz
  have qx := rx.dp hz.1
  have qy := ry.dp hz.2
  exact ⟨_, _, qx.1, qy.1, shaped_of qx.2 hz.1 (by decide), shaped_of qy.2 hz.2 (by decide), by rw [eqv_py 60 60 _ _ hz.1 hz.2]; exact o.now s (.bl _)⟩
/-- in, for a list, a tuple, a text -/
def rInM (K : PySem.W.Frag) (neg : Bool) : R2 := fun x y H Q =>
  (∃ d ds, Dp K H x d ∧ (Dp K H y (.list ds) ∨ Dp K H y (.tuple ds)) ∧ d.canLay0 = true ∧ PyData.canLayAll0 ds = true ∧ d.depth ≤ 64 ∧ Q (.bl (if neg then !ds.any fun z => PyData.eqv z d else ds.any fun z => PyData.eqv z d)) H) ∨
  ∃ i j, x = .str i ∧ y = .str j ∧ Q (.bl (if neg then !strIn i j else strIn i j)) H
theorem op_inM (hu : X.A.units + 66 < cLine) : OpR X (compareOp .In) (rInM X.K false) := by
  intro pins s σ H x y v u Q I rx ry h
  rcases h with ⟨d, ds, hd, he, ld, le, dd, q⟩ | ⟨i, j, rfl, rfl, q⟩
  · obtain ⟨as, r1⟩ := Dp.reads I d x v hd rx
    have hroom : X.A.units + 1 + min (PyData.depthAll ds) d.depth < cLine := by
      have : min (PyData.depthAll ds) d.depth ≤ d.depth := Nat.min_le_right _ _
      omega
    rcases he with he | he
    · obtain ⟨bs, r2⟩ := Dp.reads I (.list ds) y u he ry
      exact SeqAt.in_list_reads r2 r1 le ld hroom ⟨.bl _, H, I, rfl, q⟩
    · obtain ⟨bs, r2⟩ := Dp.reads I (.tuple ds) y u he ry
      exact SeqAt.in_tuple_reads r2 r1 le ld hroom ⟨.bl _, H, I, rfl, q⟩
  · exact op_in_str pins s σ H _ _ v u Q I rx ry ⟨i, j, rfl, rfl, q⟩
theorem op_ninM (hu : X.A.units + 66 < cLine) : OpR X (compareOp .NotIn) (rInM X.K true) := by
  intro pins s σ H x y v u Q I rx ry h
  rcases h with ⟨d, ds, hd, he, ld, le, dd, q⟩ | ⟨i, j, rfl, rfl, q⟩
  · obtain ⟨as, r1⟩ := Dp.reads I d x v hd rx
    have hroom : X.A.units + 1 + min (PyData.depthAll ds) d.depth < cLine := by
      have : min (PyData.depthAll ds) d.depth ≤ d.depth := Nat.min_le_right _ _
      omega
    rcases he with he | he
    · obtain ⟨bs, r2⟩ := Dp.reads I (.list ds) y u he ry
      exact SeqAt.notIn_list_reads r2 r1 le ld hroom ⟨.bl _, H, I, rfl, q⟩
    · obtain ⟨bs, r2⟩ := Dp.reads I (.tuple ds) y u he ry
      exact SeqAt.notIn_tuple_reads r2 r1 le ld hroom ⟨.bl _, H, I, rfl, q⟩
  · exact op_notIn_str pins s σ H _ _ v u Q I rx ry ⟨i, j, rfl, rfl, q⟩
theorem any_py {x : D} (hx : sh 60 x = true) : ∀ ys : List D, shs 60 ys = true → (pys ys).any (fun z => PyData.eqv z x.py) = ys.any fun y => y.eqv x
  | [], _ => by rw [pys]; rfl
  | y :: ys, h => by
    rw [shs, Bool.and_eq_true] at h
    rw [pys, List.any_cons, List.any_cons, eqv_py 60 60 y x h.1 hx, any_py hx ys h.2]
theorem p_in_ {neg : Bool} {f : D → D → Option D} (hf : ∀ x y z, f x y = some z → (∃ ys, (y = .list ys ∨ y = .tuple ys) ∧ sh 60 x = true ∧ shs 60 ys = true ∧ z = .bool (if neg then !ys.any fun y => y.eqv x else ys.any fun y => y.eqv x)) ∨
    ∃ a b, x = .str a ∧ y = .str b ∧ z = .bool (if neg then !strIn a b else strIn a b)) : P2 X T (rInM X.K neg) f := by
  intro M H st x y dx dy z Q s rx ry h o
  rcases hf dx dy z h with ⟨ys, hy, h1, h2, rfl⟩ | ⟨a, b, rfl, rfl, rfl⟩
  · have qx := rx.dp h1
    refine .inl ⟨dx.py, pys ys, qx.1, ?_, qx.2, ?_, Nat.le_trans (sh_depth 60 dx h1) (by decide), ?_⟩
    · rcases hy with rfl | rfl
      · have qy := RV.dp (n := 61) ry (by rw [sh]; exact h2)
        rw [D.py] at qy
        exact .inl qy.1
      · have qy := RV.dp (n := 61) ry (by rw [sh]; exact h2)
        rw [D.py] at qy
        exact .inr qy.1
    · rcases hy with rfl | rfl
      · have qy := RV.dp (n := 61) ry (by rw [sh]; exact h2)
        rw [D.py] at qy
        simpa [PyData.canLay0] using qy.2
      · have qy := RV.dp (n := 61) ry (by rw [sh]; exact h2)
        rw [D.py] at qy
        simpa [PyData.canLay0] using qy.2
    · rw [any_py h1 ys h2]
      exact o.now s (.bl _)
  · exact .inr ⟨a, b, rx.str.1, ry.str.1, o.now s (.bl _)⟩
theorem p_in : P2 X T (rInM X.K false) dIn := p_in_ fun x y z h => by
  unfold dIn at h
  split at h
  · obtain ⟨hz, rfl⟩ := if_some h
    rw [Bool.and_eq_true] at hz
    exact .inl ⟨_, .inl rfl, hz.1, hz.2, rfl⟩
  · obtain ⟨hz, rfl⟩ := if_some h
    rw [Bool.and_eq_true] at hz
    exact .inl ⟨_, .inr rfl, hz.1, hz.2, rfl⟩
  · cases h
    exact .inr ⟨_, _, rfl, rfl, rfl⟩
  · cases h
theorem p_nin : P2 X T (rInM X.K true) dNin := p_in_ fun x y z h => by
  unfold dNin at h
  split at h
  · obtain ⟨hz, rfl⟩ := if_some h
    rw [Bool.and_eq_true] at hz
    exact .inl ⟨_, .inl rfl, hz.1, hz.2, rfl⟩
  · obtain ⟨hz, rfl⟩ := if_some h
    rw [Bool.and_eq_true] at hz
    exact .inl ⟨_, .inr rfl, hz.1, hz.2, rfl⟩
  · cases h
    exact .inr ⟨_, _, rfl, rfl, rfl⟩
  · cases h
end
end MM
set_option maxRecDepth 100000
/-! M3: tests, and, or, if, arguments, displays, subscripts, slices, attributes -/
namespace MM
open PySem PySem.Spec PyProof.Rows L2
section
variable {K : PySem.W.Frag} {T : Nat → Addr} {α β γ δ : Type} {Rel : RelT α β} {Rel' : RelT γ δ} {W : WX} {M : List (Option Addr)} {σ : L2.St} {ρ : Slots} {H : Hp} {st : Stor}
theorem Go.then {f : EF α} {k : α → Stor → R γ} {Q : δ → Hp → Prop} (rep : Rep K T M H σ ρ st) (h : Go K T Rel' W M σ H ((f ρ st).bind k) Q) :
    Tg K T Rel W f σ H (fun b H1 => ∃ M1 st1 a, Ext M M1 H H1 ∧ Rep K T M1 H1 σ ρ st1 ∧ Rel M1 H1 b a ∧ Go K T Rel' W M1 σ H1 (k a st1) Q) := ⟨M, ρ, st, rep, Go.bind rep h⟩
theorem Go.end {f : EF α} {Q : β → Hp → Prop} (rep : Rep K T M H σ ρ st) (h : Go K T Rel W M σ H (f ρ st) Q) : Tg K T Rel W f σ H Q := ⟨M, ρ, st, rep, h⟩
end
/-! ### truth -/
def D.tru : D → Option Bool
  | .none => some false
  | .bool b => some b
  | .int i => some (i != 0)
  | .str s => if fits s.length then some ((s.length : Int) != 0) else Option.none
  | .list xs => some (!xs.isEmpty)
  | .tuple xs => some (!xs.isEmpty)
  | _ => Option.none
theorem RDs.isEmpty {K T M H} {xs : List V} {ds : List D} (r : RDs K T M H xs ds) : xs.isEmpty = ds.isEmpty := by cases r <;> rfl
theorem RV.tru {K T M H} {v : V} {x : D} {b : Bool} (r : RV K T M H v x) (h : x.tru = some b) : TruV K v H b := by
  cases x with
  | none => rw [RV.non r]; cases h; rfl
  | bool b => rw [RV.bool r]; cases h; rfl
  | int i => rw [RV.int r]; cases h; rfl
  | str s =>
    rw [(RV.str r).1]
    obtain ⟨hz, rfl⟩ := if_some h
    exact ⟨fits_le hz, rfl⟩
  | list ds =>
    obtain ⟨a, xs, rfl, h1, r1⟩ := r
    cases h
    exact .inl ⟨xs, .inl (.inl h1), by rw [r1.isEmpty]⟩
  | tuple ds =>
    obtain ⟨a, xs, rfl, h1, r1⟩ := r
    cases h
    exact .inr (.inl ⟨xs, sqt_of h1, by rw [r1.isEmpty]⟩)
  | dict ds => cases h
  | ins c fs => cases h
  | fn a => cases h
  | exc _ _ _ _ => cases h
  | scr ns => cases h
def uTru (u : U) (st : Stor) : R Bool := match rd st u with
  | some x => match x.tru with
    | some b => .ok b st
    | none => .bad
  | none => .bad
@[simp] theorem uTru_bool (b : Bool) (st : Stor) : uTru (.d (.bool b)) st = .ok b st := rfl
def eTru (f : EF U) : EF Bool := fun ρ st => (f ρ st).bind uTru
def uB (u : U) (st : Stor) : R Bool := match u with
  | .d (.bool b) => .ok b st
  | _ => .bad
@[simp] theorem uB_bool (b : Bool) (st : Stor) : uB (.d (.bool b)) st = .ok b st := rfl
def asB (f : EF U) : EF Bool := fun ρ st => (f ρ st).bind uB
section
variable {X : Cx} {T : Nat → Addr} {W : WX} {pos : Pos} {a b c : Expr} {rest : List Expr} {fa fb fc : EF U} {ga gb gc : EF Bool}
theorem uTru_go {M σ H st u Q} {v : V} (s : Rst X.K T M H st) (r : RU X.K T M H v u) (go : Go X.K T relB W M σ H (uTru u st) Q) : ∃ k, TruV X.K v H k ∧ Q k H := by
  unfold uTru at go
  cases e : rd st u with
  | none => rw [e] at go; exact go.elim
  | some x =>
    rw [e] at go
    simp only at go
    cases e2 : x.tru with
    | none => rw [e2] at go; exact go.elim
    | some k =>
      rw [e2] at go
      exact ⟨k, (r.rv s e).tru e2, Go.now s go rfl⟩
theorem uB_go {M σ H st u Q} {v : V} (s : Rst X.K T M H st) (r : RU X.K T M H v u) (go : Go X.K T relB W M σ H (uB u st) Q) : ∃ k, v = .bl k ∧ Q k H := by
  cases r with
  | loc h => exact go.elim
  | hole h => exact go.elim
  | @d v x r =>
    cases x with
    | bool k =>
      cases r
      exact ⟨k, rfl, Go.now s go rfl⟩
    | _ => exact go.elim
theorem m_truth (ha : ME X T W a fa) (he : ∀ whole, isTrue a X.env whole = (do let v ← whole; standAt a.pos; holding [v] (truthy v)) := by intro _; rfl) : MT X T W a (eTru fa) := by
  refine PT.imp (pt_truth ha he) fun σ H Q ⟨M, ρ, st, rep, go⟩ => ?_
  exact ⟨M, ρ, st, rep, (Go.bind (Rel := relU X.K T) rep go).mono fun x H1 ⟨M1, st1, u, e1, rep1, ru, go1⟩ => uTru_go rep1.sto ru go1⟩
theorem asB_of {f : EF U} {σ : L2.St} {H : Hp} {Q : Bool → Hp → Prop} (h : Tg X.K T relB W (asB f) σ H Q) : Tg X.K T (relU X.K T) W f σ H (fun x H1 => ∃ k, x = .bl k ∧ Q k H1) := by
  obtain ⟨M, ρ, st, rep, go⟩ := h
  exact ⟨M, ρ, st, rep, (Go.bind (Rel := relU X.K T) rep go).mono fun x H1 ⟨M1, st1, u, e1, rep1, ru, go1⟩ => uB_go rep1.sto ru go1⟩
theorem m_cmpT {op : CmpOp} {r : R2} {g : U → U → Stor → R U} (ho : OpR X (compareOp op) r) (o : Op2 X T W r g) (ha : ME X T W a fa) (hb : ME X T W b fb) (hm : behindInMarks op b = false) : MT X T W (.Compare a [op] [b] pos) (asB (eBin g fa fb)) :=
  PT.imp (pt_cmpR ho ha hb hm) fun _ _ _ h => tOp_of o (asB_of h)
/-- a chain of two comparisons of data -/
def eChain (g g' : U → U → Stor → R U) (fa fb fc : EF U) : EF U := fun ρ st => (fa ρ st).bind fun u st1 => (fb ρ st1).bind fun w st2 => (g u w st2).bind fun z st3 => (uB z st3).bind fun k st4 =>
  if k = true then (fc ρ st4).bind fun y st5 => g' w y st5 else .ok (.d (.bool false)) st4
/-- r asks no more than g says, whatever follows -/
theorem chain_of {r r' : R2} {g g' : U → U → Stor → R U} (o : Op2 X T W r g) (o' : Op2 X T W r' g') {σ : L2.St} {H : Hp} {Q : VK} (h : Tg X.K T (relU X.K T) W (eChain g g' fa fb fc) σ H Q) :
    tChain r r' (Tg X.K T (relU X.K T) W fa) (Tg X.K T (relU X.K T) W fb) (Tg X.K T (relU X.K T) W fc) σ H Q := by
  obtain ⟨M, ρ, st, rep, go⟩ := h
  refine ⟨M, ρ, st, rep, (Go.bind (Rel := relU X.K T) rep go).mono fun x H1 ⟨M1, st1, u, e1, rep1, ru, go1⟩ => ?_⟩
  refine ⟨M1, ρ, st1, rep1, (Go.bind (Rel := relU X.K T) rep1 go1).mono fun y H2 ⟨M2, st2, w, e2, rep2, rw, go2⟩ => ?_⟩
  refine o M2 σ H2 st2 x y u w _ rep2.sto (RU.ext e2 ru) rw ((Go.bind (Rel := relU X.K T) rep2 go2).mono fun z H3 ⟨M3, st3, zu, e3, rep3, rz, go3⟩ => ?_)
  obtain ⟨k, rfl, hk⟩ := uB_go (W := W) (σ := σ) rep3.sto rz (Go.bind (Rel := relB) rep3 go3)
  refine ⟨k, rfl, ?_⟩
  obtain ⟨M4, st4, k', e4, rep4, rk, go4⟩ := hk
  have rk' : k = k' := rk
  subst rk'
  cases k with
  | false => exact Go.now (b := V.bl false) rep4.sto go4 (RU.d (.bl false))
  | true =>
    have go4' : Go X.K T (relU X.K T) W M4 σ H3 ((fc ρ st4).bind fun y st5 => g' w y st5) Q := go4
    refine ⟨M4, ρ, st4, rep4, (Go.bind (Rel := relU X.K T) rep4 go4').mono fun y' H5 ⟨M5, st5, uy, e5, rep5, ry, go5⟩ => ?_⟩
    exact o' M5 σ H5 st5 y y' w uy Q rep5.sto (RU.ext e5 (RU.ext e4 (RU.ext e3 rw))) ry go5
theorem m_chain {op op' : CmpOp} {r r' : R2} {g g' : U → U → Stor → R U} (ho : OpR X (compareOp op) r) (ho' : OpR X (compareOp op') r') (o : Op2 X T W r g) (o' : Op2 X T W r' g') (ha : ME X T W a fa) (hb : ME X T W b fb) (hc : ME X T W c fc)
    (hm : lastMarks [op, op'] [b, c] = false := by with_unfolding_all rfl) : ME X T W (.Compare a [op, op'] [b, c] pos) (eChain g g' fa fb fc) :=
  PE.imp (pe_chain ho ho' ha hb hc hm) fun _ _ _ h => chain_of o o' h
theorem m_chainT {op op' : CmpOp} {r r' : R2} {g g' : U → U → Stor → R U} (ho : OpR X (compareOp op) r) (ho' : OpR X (compareOp op') r') (o : Op2 X T W r g) (o' : Op2 X T W r' g') (ha : ME X T W a fa) (hb : ME X T W b fb) (hc : ME X T W c fc)
    (hm : lastMarks [op, op'] [b, c] = false := by with_unfolding_all rfl) : MT X T W (.Compare a [op, op'] [b, c] pos) (asB (eChain g g' fa fb fc)) :=
  PT.imp (pt_chain ho ho' ha hb hc hm) fun _ _ _ h => chain_of o o' (asB_of h)

/-! ### not, and, or, if: tests -/
def eNotT (f : EF Bool) : EF Bool := fun ρ st => (f ρ st).bind fun k st1 => .ok (!k) st1
def eAndT (f g : EF Bool) : EF Bool := fun ρ st => (f ρ st).bind fun k st1 => if k = true then g ρ st1 else .ok false st1
def eOrT (f g : EF Bool) : EF Bool := fun ρ st => (f ρ st).bind fun k st1 => if k = true then .ok true st1 else g ρ st1
theorem m_notT (ha : MT X T W a ga) : MT X T W (.UnaryOp .Not a pos) (eNotT ga) := by
  refine PT.imp (pt_not ha) fun σ H Q ⟨M, ρ, st, rep, go⟩ => ?_
  refine ⟨M, ρ, st, rep, (Go.bind (Rel := relB) rep go).mono fun k H1 ⟨M1, st1, k', e1, rep1, rk, go1⟩ => ?_⟩
  have rk' : k = k' := rk
  subst rk'
  exact Go.now rep1.sto go1 rfl
theorem m_wand1 (ha : MT X T W a ga) : MW X T W (.BoolOp .And [a] pos) ga := pw_and1 ha
theorem m_wor1 (ha : MT X T W a ga) : MW X T W (.BoolOp .Or [a] pos) ga := pw_or1 ha
theorem m_wand (ha : MT X T W a ga) (hb : MW X T W (.BoolOp .And (b :: rest) pos) gb) : MW X T W (.BoolOp .And (a :: b :: rest) pos) (eAndT ga gb) := by
  refine PW.imp (pw_and ha hb) fun σ H Q ⟨M, ρ, st, rep, go⟩ => ?_
  refine ⟨M, ρ, st, rep, (Go.bind (Rel := relB) rep go).mono fun k H1 ⟨M1, st1, k', e1, rep1, rk, go1⟩ => ?_⟩
  have rk' : k = k' := rk
  subst rk'
  cases k with
  | true => exact ⟨M1, ρ, st1, rep1, go1⟩
  | false => exact Go.now rep1.sto go1 rfl
theorem m_wor (ha : MT X T W a ga) (hb : MW X T W (.BoolOp .Or (b :: rest) pos) gb) : MW X T W (.BoolOp .Or (a :: b :: rest) pos) (eOrT ga gb) := by
  refine PW.imp (pw_or ha hb) fun σ H Q ⟨M, ρ, st, rep, go⟩ => ?_
  refine ⟨M, ρ, st, rep, (Go.bind (Rel := relB) rep go).mono fun k H1 ⟨M1, st1, k', e1, rep1, rk, go1⟩ => ?_⟩
  have rk' : k = k' := rk
  subst rk'
  cases k with
  | false => exact ⟨M1, ρ, st1, rep1, go1⟩
  | true => exact Go.now rep1.sto go1 rfl
theorem m_pw {ga : EF Bool} (h : MW X T W a ga) : MT X T W a ga := PW.pt h
/-! ### .. values -/
def eNotV (f : EF U) : EF U := fun ρ st => (f ρ st).bind fun u st1 => (uTru u st1).bind fun k st2 => .ok (.d (.bool (!k))) st2
def eAndV (f g : EF U) : EF U := fun ρ st => (f ρ st).bind fun u st1 => (uTru u st1).bind fun k st2 => if k = true then g ρ st2 else .ok u st2
def eOrV (f g : EF U) : EF U := fun ρ st => (f ρ st).bind fun u st1 => (uTru u st1).bind fun k st2 => if k = true then .ok u st2 else g ρ st2
theorem m_not (ha : ME X T W a fa) : ME X T W (.UnaryOp .Not a pos) (eNotV fa) := by
  refine PE.imp (pe_notT ha) fun σ H Q ⟨M, ρ, st, rep, go⟩ => ?_
  refine ⟨M, ρ, st, rep, (Go.bind (Rel := relU X.K T) rep go).mono fun x H1 ⟨M1, st1, u, e1, rep1, ru, go1⟩ => ?_⟩
  obtain ⟨k, hk, M2, st2, k', e2, rep2, rk, go2⟩ := uTru_go (W := W) rep1.sto ru (Go.bind (Rel := relB) rep1 go1)
  have rk' : k = k' := rk
  subst rk'
  exact ⟨k, hk, Go.now rep2.sto go2 (RU.d (.bl _))⟩
theorem m_one {op} (ha : ME X T W a fa) : ME X T W (.BoolOp op [a] pos) fa := pe_one ha
theorem m_and (ha : ME X T W a fa) (hb : ME X T W (.BoolOp .And (b :: rest) pos) fb) : ME X T W (.BoolOp .And (a :: b :: rest) pos) (eAndV fa fb) := by
  refine PE.imp (pe_andT ha hb) fun σ H Q ⟨M, ρ, st, rep, go⟩ => ?_
  refine ⟨M, ρ, st, rep, (Go.bind (Rel := relU X.K T) rep go).mono fun x H1 ⟨M1, st1, u, e1, rep1, ru, go1⟩ => ?_⟩
  obtain ⟨k, hk, M2, st2, k', e2, rep2, rk, go2⟩ := uTru_go (W := W) rep1.sto ru (Go.bind (Rel := relB) rep1 go1)
  have rk' : k = k' := rk
  subst rk'
  refine ⟨k, hk, ?_⟩
  cases k with
  | true => exact ⟨M2, ρ, st2, rep2, go2⟩
  | false => exact Go.now rep2.sto go2 (ru.ext e2)
theorem m_or (ha : ME X T W a fa) (hb : ME X T W (.BoolOp .Or (b :: rest) pos) fb) : ME X T W (.BoolOp .Or (a :: b :: rest) pos) (eOrV fa fb) := by
  refine PE.imp (pe_orT ha hb) fun σ H Q ⟨M, ρ, st, rep, go⟩ => ?_
  refine ⟨M, ρ, st, rep, (Go.bind (Rel := relU X.K T) rep go).mono fun x H1 ⟨M1, st1, u, e1, rep1, ru, go1⟩ => ?_⟩
  obtain ⟨k, hk, M2, st2, k', e2, rep2, rk, go2⟩ := uTru_go (W := W) rep1.sto ru (Go.bind (Rel := relB) rep1 go1)
  have rk' : k = k' := rk
  subst rk'
  refine ⟨k, hk, ?_⟩
  cases k with
  | false => exact ⟨M2, ρ, st2, rep2, go2⟩
  | true => exact Go.now rep2.sto go2 (ru.ext e2)
def eIf (g : EF Bool) (fa fb : EF U) : EF U := fun ρ st => (g ρ st).bind fun k st1 => if k = true then fa ρ st1 else fb ρ st1
theorem m_if (hc : MT X T W c gc) (ha : ME X T W a fa) (hb : ME X T W b fb) : ME X T W (.IfExp c a b pos) (eIf gc fa fb) := by
  refine PE.imp (pe_ifExp hc ha hb) fun σ H Q ⟨M, ρ, st, rep, go⟩ => ?_
  refine ⟨M, ρ, st, rep, (Go.bind (Rel := relB) rep go).mono fun k H1 ⟨M1, st1, k', e1, rep1, rk, go1⟩ => ?_⟩
  have rk' : k = k' := rk
  subst rk'
  cases k with
  | true => exact ⟨M1, ρ, st1, rep1, go1⟩
  | false => exact ⟨M1, ρ, st1, rep1, go1⟩
end

/-! ### arguments, displays -/
def eNil : EF (List U) := fun _ st => .ok [] st
def eCons (f : EF U) (g : EF (List U)) : EF (List U) := fun ρ st => (f ρ st).bind fun u st1 => (g ρ st1).bind fun us st2 => .ok (u :: us) st2
def ofU : U → Option D
  | .d x => some x
  | .loc _ => none
def ofUs : List U → Option (List D)
  | [] => some []
  | u :: us => match u, ofUs us with
    | .d x, some ds => some (x :: ds)
    | _, _ => none
@[simp] theorem ofUs_nil : ofUs [] = some [] := rfl
@[simp] theorem ofUs_d (x : D) (us : List U) : ofUs (.d x :: us) = (ofUs us).map (x :: ·) := by
  show (match U.d x, ofUs us with
    | .d x, some ds => some (x :: ds)
    | _, _ => none) = _
  cases ofUs us <;> rfl
theorem RU.all {K T M H} : ∀ {vs : List V} {us : List U} {ds : List D}, Paired (RU K T M H) vs us → ofUs us = some ds → RDs K T M H vs ds
  | _, _, _, .nil, h => by cases h; exact .nil
  | _, _, _, .cons (b := u) (l₂ := us) r t, h => by
    cases u with
    | loc i => simp [ofUs] at h
    | d x =>
      rw [ofUs_d] at h
      cases e : ofUs us with
      | none => rw [e] at h; cases h
      | some es =>
        rw [e] at h
        cases h
        cases r with
        | d r => exact .cons r (RU.all t e)

section
variable {X : Cx} {T : Nat → Addr} {W : WX} {pos : Pos} {a b c e : Expr} {es : List Expr} {fa fb fc : EF U} {fs : EF (List U)}
theorem m_nil : MA X T W [] eNil := PA.imp pa_nil fun σ H Q ⟨M, ρ, st, rep, go⟩ => Go.now (b := ([] : List V)) rep.sto go .nil
theorem m_arg (ha : MA X T W es fs) (he : ME X T W e fa) (hs : starEach (e :: es) X.env = (false, eval e X.env) :: starEach es X.env := by rfl) : MA X T W (e :: es) (eCons fa fs) := by
  refine PA.imp (pa_cons he ha hs) fun σ H Q ⟨M, ρ, st, rep, go⟩ => ?_
  refine ⟨M, ρ, st, rep, (Go.bind (Rel := relU X.K T) rep go).mono fun x H1 ⟨M1, st1, u, e1, rep1, ru, go1⟩ => ?_⟩
  refine ⟨M1, ρ, st1, rep1, (Go.bind (Rel := relL X.K T) rep1 go1).mono fun xs H2 ⟨M2, st2, us, e2, rep2, rus, go2⟩ => ?_⟩
  exact Go.now rep2.sto go2 (.cons (RU.ext e2 ru) rus)
/-- a value of arguments -/
def eArgs (fs : EF (List U)) (k : List U → Stor → R U) : EF U := fun ρ st => (fs ρ st).bind k
def kTup : List U → Stor → R U := fun us st => match ofUs us with
  | some ds => if fits ds.length then .ok (.d (.tuple ds)) st else .bad
  | none => .bad
def kLst : List U → Stor → R U := fun us st => match ofUs us with
  | some ds => if fits ds.length then .ok (.d (.list ds)) st else .bad
  | none => .bad
/-- a list that is to change -/
def kLstN : List U → Stor → R U := fun us st => match ofUs us with
  | some ds => if fits ds.length then .ok (.loc st.length) (st ++ [.lst ds]) else .bad
  | none => .bad
theorem m_tup {x1} (h : MA X T W es fs) : ME X T W (.Tuple es x1 pos) (eArgs fs kTup) := by
  refine PE.imp (pe_tup h) fun σ H Q ⟨M, ρ, st, rep, go⟩ => ?_
  refine ⟨M, ρ, st, rep, (Go.bind (Rel := relL X.K T) rep go).mono fun xs H1 ⟨M1, st1, us, e1, rep1, rus, go1⟩ => ?_⟩
  unfold kTup at go1
  cases q : ofUs us with
  | none => rw [q] at go1; exact go1.elim
  | some ds =>
    rw [q] at go1
    have r := RU.all rus q
    by_cases hz : fits ds.length = true
    · simp only [hz, if_true] at go1
      refine ⟨by rw [r.length]; exact fits_le hz, fun p hp => ?_⟩
      exact go1 M1 _ (.ref p) (Ext.lay hp) (rep1.sto.lay hp) (.d (.tup (.inl ⟨rep1.sto.new hp, .inl upd_same⟩) (r.ext (Ext.lay hp))))
    · simp only [hz, if_false] at go1
      exact go1.elim
theorem m_lst (h : MA X T W es fs) : ME X T W (.List es pos) (eArgs fs kLst) := by
  refine PE.imp (pe_lst h) fun σ H Q ⟨M, ρ, st, rep, go⟩ => ?_
  refine ⟨M, ρ, st, rep, (Go.bind (Rel := relL X.K T) rep go).mono fun xs H1 ⟨M1, st1, us, e1, rep1, rus, go1⟩ => ?_⟩
  unfold kLst at go1
  cases q : ofUs us with
  | none => rw [q] at go1; exact go1.elim
  | some ds =>
    rw [q] at go1
    have r := RU.all rus q
    by_cases hz : fits ds.length = true
    · simp only [hz, if_true] at go1
      refine ⟨by rw [r.length]; exact fits_le hz, fun p hp => ?_⟩
      exact go1 M1 _ (.ref p) (Ext.lay hp) (rep1.sto.lay hp) (.d (.lst (rep1.sto.new hp) upd_same (r.ext (Ext.lay hp))))
    · simp only [hz, if_false] at go1
      exact go1.elim
/-- a new changing list -/
theorem newL {K T M H st W σ Q} (s : Rst K T M H st) {ds : List D} {xs : List V} (r : RDs K T M H xs ds) (go : Go K T (relU K T) W M σ H (.ok (.loc st.length) (st ++ [.lst ds])) Q) {p : Addr} (hp : H p = none) : Q (.ref p) (L2.upd H p (.lst xs)) := by
  obtain ⟨e, s'⟩ := s.push (o := .lst xs) (ob := .lst ds) hp fun e => ⟨p, xs, rfl, upd_same, r.ext e⟩
  refine go (M ++ [some p]) _ (.ref p) e s' (.loc ?_)
  rw [← s.len]
  simp
theorem m_lstN (h : MA X T W es fs) : ME X T W (.List es pos) (eArgs fs kLstN) := by
  refine PE.imp (pe_lst h) fun σ H Q ⟨M, ρ, st, rep, go⟩ => ?_
  refine ⟨M, ρ, st, rep, (Go.bind (Rel := relL X.K T) rep go).mono fun xs H1 ⟨M1, st1, us, e1, rep1, rus, go1⟩ => ?_⟩
  unfold kLstN at go1
  cases q : ofUs us with
  | none => rw [q] at go1; exact go1.elim
  | some ds =>
    rw [q] at go1
    have r := RU.all rus q
    by_cases hz : fits ds.length = true
    · simp only [hz, if_true] at go1
      exact ⟨by rw [r.length]; exact fits_le hz, fun p hp => newL rep1.sto r go1 hp⟩
    · simp only [hz, if_false] at go1
      exact go1.elim
end

/-! ### a[i] -/
def dIx : D → D → Option D
  | .list xs, .int i => atI xs i
  | .tuple xs, .int i => atI xs i
  | .scr ns, .int i => (atI ns i).map .int
  | .str s, .int i => if fits s.length then (atI s.cps.toList i).map fun c => .str ⟨#[c]⟩ else none
  | _, _ => none
theorem atI_some {α : Type} {xs : List α} {i : Int} {v : α} (h : atI xs i = some v) : ∃ j, ixN xs.length i = some j ∧ xs[j]? = some v := by
  unfold atI at h
  cases e : ixN xs.length i with
  | none => rw [e] at h; cases h
  | some j => rw [e] at h; exact ⟨j, rfl, h⟩
theorem RDs.at {K T M H} {vs : List V} {ds : List D} {i : Int} {d : D} (r : RDs K T M H vs ds) (h : atI ds i = some d) : ∃ v, atI vs i = some v ∧ RD K T M H v d := by
  obtain ⟨j, h1, h2⟩ := atI_some h
  obtain ⟨v, h3, h4⟩ := r.get h2
  exact ⟨v, by unfold atI; rw [r.length, h1]; exact h3, h4⟩
section
variable {X : Cx} {T : Nat → Addr} {W : WX} {pos : Pos} {a b c e : Expr} {es : List Expr} {fa fb fc : EF U} {fs : EF (List U)}
theorem p_ix : P2 X T (rIx X.K) dIx := by
  intro M H st x y dx dy z Q s rx ry hf o
  unfold dIx at hf
  split at hf
  · obtain ⟨a, xs, rfl, h1, r1⟩ := rx
    obtain ⟨v, h2, h3⟩ := r1.at hf
    exact .inl ⟨a, xs, _, v, rfl, ry.int, .inl (.inl h1), h2, o.now s h3⟩
  · obtain ⟨a, xs, rfl, h1, r1⟩ := rx
    obtain ⟨v, h2, h3⟩ := r1.at hf
    exact .inr (.inl ⟨a, xs, _, v, rfl, ry.int, sqt_of h1, h2, o.now s h3⟩)
  · obtain ⟨a, rfl, h1⟩ := rx
    rename_i ns i
    cases e : atI ns i with
    | none => rw [e] at hf; cases hf
    | some n =>
      rw [e] at hf
      cases hf
      refine .inl ⟨a, _, _, V.int n, rfl, ry.int, h1, ?_, o.now s (.int n)⟩
      obtain ⟨j, h2, h3⟩ := atI_some e
      unfold atI
      rw [List.length_map, h2]
      show (ns.map V.int)[j]? = _
      rw [List.getElem?_map, h3]
      rfl
  · rename_i z i
    by_cases hz : fits z.length = true
    · simp only [hz, if_true] at hf
      cases e : atI z.cps.toList i with
      | none => rw [e] at hf; cases hf
      | some n =>
        rw [e] at hf
        cases hf
        refine .inr (.inr ⟨_, _, n, rx.str.1, ry.int, fits_le hz, e, o.now s (.str ?_)⟩)
        have hk := rx.str.2
        obtain ⟨j, h2, h3⟩ := atI_some e
        have hk' : z.cps.all (· < 0x110000) = true := hk
        rw [Array.all_eq_true'] at hk'
        have hm : n ∈ z.cps := by
          have := List.mem_of_getElem? h3
          simpa using this
        have := hk' n hm
        show (#[n] : Array Nat).all (· < 0x110000) = true
        simpa using this
    · simp only [hz] at hf
      cases hf
  · cases hf
theorem m_ix (ha : ME X T W a fa) (hb : ME X T W b fb) (hs : PlainIx b := by exact fun _ _ => rfl) : ME X T W (.Subscript a b pos) (eBin (g2 dIx) fa fb) :=
  PE.imp (pe_ix ix_seq ha hb hs) fun _ _ _ h => tOp_of p_ix.op h

/-! ### a[i:j] -/
abbrev MO (X : Cx) (T : Nat → Addr) (W : WX) (e : Option Expr) (f : EF (Option Int)) : Prop := PO X e (Tg X.K T relO W f)
def eNoPart : EF (Option Int) := fun _ st => .ok none st
def ePart (f : EF U) : EF (Option Int) := fun ρ st => (f ρ st).bind fun u st1 => match u with
  | .d (.int i) => .ok (some i) st1
  | _ => .bad
theorem PO.imp {e : Option Expr} {t t' : TO} (h : PO X e t) (w : ∀ σ H Q, t' σ H Q → t σ H Q) : PO X e t' := ⟨fun pins s σ H Q I q => h.run pins s σ H Q I (w σ H Q q)⟩
theorem m_nopart : MO X T W none eNoPart := PO.imp po_none fun σ H Q ⟨M, ρ, st, rep, go⟩ => Go.now rep.sto go rfl
theorem m_part (he : ME X T W e fa) : MO X T W (some e) (ePart fa) := by
  refine PO.imp (po_some he) fun σ H Q ⟨M, ρ, st, rep, go⟩ => ?_
  refine ⟨M, ρ, st, rep, (Go.bind (Rel := relU X.K T) rep go).mono fun x H1 ⟨M1, st1, u, e1, rep1, ru, go1⟩ => ?_⟩
  cases ru with
  | loc h => exact go1.elim
  | hole h => exact go1.elim
  | @d v x r =>
    cases x with
    | int i =>
      cases r
      exact ⟨i, rfl, Go.now rep1.sto go1 rfl⟩
    | _ => exact go1.elim
/-- the cut of a list -/
def cut {α : Type} (xs : List α) (lo hi : Option Int) : List α := (xs.drop (HT.sIx xs.length 0 lo)).take (HT.sIx xs.length xs.length hi - HT.sIx xs.length 0 lo)
theorem RDs.cut {K T M H} {vs : List V} {ds : List D} (lo hi : Option Int) (r : RDs K T M H vs ds) : RDs K T M H (cutV vs lo hi) (MM.cut ds lo hi) := by
  unfold cutV MM.cut
  rw [r.length]
  exact (r.drop _).take _
def strCut (s : Str) (lo hi : Option Int) : Str := ⟨(cut s.cps.toList lo hi).toArray⟩
def dSl : D → Option Int → Option Int → Option D
  | .list xs, lo, hi => some (.list (cut xs lo hi))
  | .tuple xs, lo, hi => some (.tuple (cut xs lo hi))
  | .str s, lo, hi => if fits s.length then some (.str (strCut s lo hi)) else none
  | _, _, _ => none
end
end MM
set_option maxRecDepth 100000
/-! M4: slices, fields, statements, loops, comprehensions -/
namespace MM
open PySem PySem.Spec PyProof.Rows L2
/-! ### slices -/
theorem cut_whole {α : Type} (xs : List α) {lo hi : Option Int} (h : HT.sIx xs.length 0 lo = 0 ∧ HT.sIx xs.length xs.length hi = xs.length) : cut xs lo hi = xs := by
  unfold cut
  rw [h.1, h.2]
  simp
theorem strOk_cut {z : Str} (lo hi : Option Int) (h : PyData.strOk z = true) : PyData.strOk (cutS z lo hi) = true := by
  have hk' : z.cps.all (· < 0x110000) = true := h
  rw [Array.all_eq_true'] at hk'
  show (((z.cps.toList.drop _).take _).toArray).all (· < 0x110000) = true
  rw [Array.all_eq_true']
  intro n hn
  have h1 := List.mem_of_mem_drop (List.mem_of_mem_take (by simpa using hn))
  exact hk' n (by simpa using h1)
def gSl : U → Option Int → Option Int → Stor → R U := fun u lo hi st => match rd st u with
  | some (.list xs) => .ok (.d (.list (cut xs lo hi))) st
  | some (.tuple xs) => .ok (.d (.tuple (cut xs lo hi))) st
  | some (.str s) => if fits s.length then .ok (.d (.str (cutS s lo hi))) st else .bad
  | _ => .bad
def eSl (fa : EF U) (fl fh : EF (Option Int)) : EF U := fun ρ st => (fa ρ st).bind fun u st1 => (fl ρ st1).bind fun lo st2 => (fh ρ st2).bind fun hi st3 => gSl u lo hi st3
def rSlM (K : PySem.W.Frag) : V → Option Int → Option Int → Hp → VK → Prop := fun x lo hi H Q => rSlL K x lo hi H Q ∨ (rSlA K x lo hi H Q ∨ rSlS x lo hi H Q)
section
variable {X : Cx} {T : Nat → Addr} {W : WX} {pos p2 : Pos} {a b c e : Expr} {lo hi : Option Expr} {es : List Expr} {fa fb fc : EF U} {fl fh : EF (Option Int)}
theorem sl_M : SlR X (rSlM X.K) := sl_list.or (sl_tupA.or sl_str)
theorem sl_go {M σ H st u lo hi Q} {v : V} (s : Rst X.K T M H st) (r : RU X.K T M H v u) (go : Go X.K T (relU X.K T) W M σ H (gSl u lo hi st) Q) : rSlM X.K v lo hi H Q := by
  unfold gSl at go
  cases e : rd st u with
  | none => rw [e] at go; exact go.elim
  | some x =>
    rw [e] at go
    have rv := r.rv s e
    cases x with
    | list ds =>
      obtain ⟨a, xs, rfl, h1, r1⟩ := rv
      exact .inl ⟨a, xs, rfl, .inl (.inl h1), fun p hp => go M _ (.ref p) (Ext.lay hp) (s.lay hp) (.d (.lst (s.new hp) upd_same ((r1.cut lo hi).ext (Ext.lay hp))))⟩
    | tuple ds =>
      obtain ⟨a, xs, rfl, h1, r1⟩ := rv
      refine .inr (.inl ⟨a, xs, rfl, sqt_of h1, fun hw => ?_, fun _ p hp => go M _ (.ref p) (Ext.lay hp) (s.lay hp) (.d (.tup (.inl ⟨s.new hp, .inl upd_same⟩) ((r1.cut lo hi).ext (Ext.lay hp))))⟩)
      rw [r1.length] at hw
      have ec := cut_whole ds hw
      simp only [ec] at go
      exact Go.now s go (.d (.tup h1 r1))
    | str z =>
      obtain ⟨rfl, hk⟩ := rv.str
      by_cases hz : fits z.length = true
      · simp only [hz, if_true] at go
        exact .inr (.inr ⟨z, rfl, fits_le hz, Go.now s go (.d (.str (strOk_cut lo hi hk)))⟩)
      · simp only [hz] at go
        exact go.elim
    | _ => exact go.elim
theorem m_sl (he : ME X T W e fa) (hl : MO X T W lo fl) (hu : MO X T W hi fh) : ME X T W (.Subscript e (.Slice lo hi none p2) pos) (eSl fa fl fh) := by
  refine PE.imp (pe_slice sl_M he hl hu) fun σ H Q ⟨M, ρ, st, rep, go⟩ => ?_
  refine ⟨M, ρ, st, rep, (Go.bind (Rel := relU X.K T) rep go).mono fun x H1 ⟨M1, st1, u, e1, rep1, ru, go1⟩ => ?_⟩
  refine ⟨M1, ρ, st1, rep1, (Go.bind (Rel := relO) rep1 go1).mono fun l H2 ⟨M2, st2, l', e2, rep2, rl, go2⟩ => ?_⟩
  have rl' : l = l' := rl
  subst rl'
  refine ⟨M2, ρ, st2, rep2, (Go.bind (Rel := relO) rep2 go2).mono fun h H3 ⟨M3, st3, h', e3, rep3, rh, go3⟩ => ?_⟩
  have rh' : h = h' := rh
  subst rh'
  exact sl_go rep3.sto (RU.ext e3 (RU.ext e2 ru)) go3
end

/-! ### fields -/
def gFld (c : Nat) (f : Str) : U → Stor → R U := fun u st => match rd st u with
  | some (.ins c' fs) => if c' == c then (match fs.lookup f with
    | some d => .ok (.d d) st
    | none => .bad) else .bad
  | _ => .bad
def putD (f : Str) (v : D) : List (Str × D) → List (Str × D)
  | [] => [(f, v)]
  | (g, w) :: r => if g = f then (g, v) :: r else (g, w) :: putD f v r
theorem RFs.lookup {K T M H f d} : ∀ {fv : List (Str × V)} {fs : List (Str × D)}, RFs K T M H fv fs → fs.lookup f = some d → ∃ v, fv.lookup f = some v ∧ RD K T M H v d
  | _, _, .nil, h => by cases h
  | _, _, .cons (n := n) r t, h => by
    rw [List.lookup_cons] at h ⊢
    cases e : f == n with
    | true => rw [e] at h; cases h; exact ⟨_, rfl, r⟩
    | false => rw [e] at h; exact RFs.lookup t h
theorem RFs.length {K T M H} : ∀ {fv : List (Str × V)} {fs : List (Str × D)}, RFs K T M H fv fs → fv.length = fs.length
  | _, _, .nil => rfl
  | _, _, .cons _ t => by rw [List.length_cons, List.length_cons, RFs.length t]
theorem RFs.lookup_none {K T M H f} : ∀ {fv : List (Str × V)} {fs : List (Str × D)}, RFs K T M H fv fs → fs.lookup f = none → fv.lookup f = none
  | _, _, .nil, _ => rfl
  | _, _, .cons (n := n) r t, h => by
    rw [List.lookup_cons] at h ⊢
    cases e : f == n with
    | true => rw [e] at h; cases h
    | false => rw [e] at h; exact RFs.lookup_none t h
theorem RFs.put {K T M H f v d} (h : RD K T M H v d) : ∀ {fv : List (Str × V)} {fs : List (Str × D)}, RFs K T M H fv fs → RFs K T M H (putF f v fv) (putD f d fs)
  | _, _, .nil => .cons h .nil
  | _, _, .cons (n := n) (v := w) (d := x) (fv := fv) (fs := fs) r t => by
    show RFs K T M H (if n = f then (n, v) :: fv else (n, w) :: putF f v fv) (if n = f then (n, d) :: fs else (n, x) :: putD f d fs)
    by_cases e : n = f
    · rw [if_pos e, if_pos e]
      exact .cons h t
    · rw [if_neg e, if_neg e]
      exact .cons r (RFs.put h t)
section
variable {X : Cx} {T : Nat → Addr} {W : WX} {pos p2 : Pos} {e : Expr} {f : Str} {c : Nat} {fa : EF U}
theorem m_fld (hc : Cls X.K (T c)) (hn : NoAttr X.K (T c) f) (he : ME X T W e fa) (hb : attributeBase e f X.env (eval e X.env) = eval e X.env := by rfl) : ME X T W (.Attribute e f pos) (eUn (gFld c f) fa) := by
  refine PE.imp (pe_fld he hb) fun σ H Q ⟨M, ρ, st, rep, go⟩ => ?_
  refine ⟨M, ρ, st, rep, (Go.bind (Rel := relU X.K T) rep go).mono fun x H1 ⟨M1, st1, u, e1, rep1, ru, go1⟩ => ?_⟩
  unfold gFld at go1
  cases e2 : rd st1 u with
  | none => rw [e2] at go1; exact go1.elim
  | some y =>
    rw [e2] at go1
    have rv := ru.rv rep1.sto e2
    cases y with
    | ins c' fs =>
      by_cases h : (c' == c) = true
      · simp only [h, if_true] at go1
        have ec : c' = c := by simpa using h
        subst ec
        obtain ⟨a, dx, fv, rfl, ha, rf⟩ := rv
        cases e3 : fs.lookup f with
        | none => rw [e3] at go1; exact go1.elim
        | some d =>
          rw [e3] at go1
          obtain ⟨v, hv, rd'⟩ := rf.lookup e3
          exact ⟨a, _, dx, fv, v, rfl, ha, hc, hn, hv, Go.now rep1.sto go1 (.d rd')⟩
      · simp only [h] at go1
        exact go1.elim
    | _ => exact go1.elim
end

/-! ### statements -/
section
variable (K : PySem.W.Frag) (T : Nat → Addr)
def GoS (W : WX) (M : List (Option Addr)) (H : Hp) (r : RS) (D : Ends) : Prop := match r with
  | .nx ρ' st' => ∀ M' H' σ', Ext M M' H H' → Rep K T M' H' σ' ρ' st' → D.nx σ' H'
  | .bk ρ' st' => ∀ M' H' σ', Ext M M' H H' → Rep K T M' H' σ' ρ' st' → D.bk σ' H'
  | .ct ρ' st' => ∀ M' H' σ', Ext M M' H H' → Rep K T M' H' σ' ρ' st' → D.ct σ' H'
  | .rt u st' => ∀ M' H' v, Ext M M' H H' → Rst K T M' H' st' → RU K T M' H' v u → D.rt v H'
  | .exc c fs ρ' st' => ∀ M' H' σ' d fv, Ext M M' H H' → Rep K T M' H' σ' ρ' st' → H' d = some (.xd fv) → RFs K T M' H' fv fs → some d ∉ M' → W (.ref (T c)) (some d) σ' H'
  | .bad => False
def TSg (W : WX) (g : SF) : TS := fun D σ H => ∃ M ρ st, Rep K T M H σ ρ st ∧ GoS K T W M H (g ρ st) D
end
/-- an expression within a statement -/
def R.stm {α : Type} (r : R α) (ρ : Slots) (k : α → Stor → RS) : RS := match r with
  | .ok a st => k a st
  | .exc c fs st => .exc c fs ρ st
  | .bad => .bad
@[simp] theorem R.stm_ok {α : Type} (a : α) (st : Stor) (ρ : Slots) (k : α → Stor → RS) : (R.ok a st).stm ρ k = k a st := rfl
@[simp] theorem R.stm_exc {α : Type} (c fs st) (ρ : Slots) (k : α → Stor → RS) : (R.exc c fs st : R α).stm ρ k = .exc c fs ρ st := rfl
@[simp] theorem R.stm_bad {α : Type} (ρ : Slots) (k : α → Stor → RS) : (R.bad : R α).stm ρ k = .bad := rfl
abbrev MS (X : Cx) (T : Nat → Addr) (W : WX) (s : Stmt) (g : SF) : Prop := PS X s (TSg X.K T W g)
abbrev MSs (X : Cx) (T : Nat → Addr) (W : WX) (ss : List Stmt) (g : SF) : Prop := PSs X ss (TSg X.K T W g)
theorem PS.imp {X : Cx} {e : Stmt} {t t' : TS} (h : PS X e t) (w : ∀ D σ H, t' D σ H → t D σ H) : PS X e t' := ⟨fun pins s σ H D I q => h.run pins s σ H D I (w D σ H q)⟩
theorem PSs.imp {X : Cx} {e : List Stmt} {t t' : TS} (h : PSs X e t) (w : ∀ D σ H, t' D σ H → t D σ H) : PSs X e t' := ⟨fun pins s σ H D I q => h.run pins s σ H D I (w D σ H q)⟩
section
variable {K : PySem.W.Frag} {T : Nat → Addr} {α β : Type} {Rel : RelT α β} {W : WX} {M M1 : List (Option Addr)} {σ : L2.St} {ρ : Slots} {H H1 : Hp} {st : Stor}
theorem GoS.base {r : RS} {D : Ends} (h : GoS K T W M H r D) (e : Ext M M1 H H1) : GoS K T W M1 H1 r D := by
  cases r with
  | nx ρ' st' => exact fun M' H' σ' e' => h M' H' σ' (e.trans e')
  | bk ρ' st' => exact fun M' H' σ' e' => h M' H' σ' (e.trans e')
  | ct ρ' st' => exact fun M' H' σ' e' => h M' H' σ' (e.trans e')
  | rt u st' => exact fun M' H' v e' => h M' H' v (e.trans e')
  | exc c fs ρ' st' => exact fun M' H' σ' d fv e' => h M' H' σ' d fv (e.trans e')
  | bad => exact h
theorem GoS.bind {r : R α} {k : α → Stor → RS} {D : Ends} (rep : Rep K T M H σ ρ st) (h : GoS K T W M H (r.stm ρ k) D) :
    Go K T Rel W M σ H r (fun b H1 => ∃ M1 st1 a, Ext M M1 H H1 ∧ Rep K T M1 H1 σ ρ st1 ∧ Rel M1 H1 b a ∧ GoS K T W M1 H1 (k a st1) D) := by
  cases r with
  | ok a st' => exact fun M' H' b e s r => ⟨M', st', a, e, rep.ext e s, r, GoS.base h e⟩
  | exc c fs st' => exact fun M' H' d fv e s => h M' H' σ d fv e (rep.ext e s)
  | bad => exact h
theorem GoS.then {f : EF α} {k : α → Stor → RS} {D : Ends} (rep : Rep K T M H σ ρ st) (h : GoS K T W M H ((f ρ st).stm ρ k) D) :
    Tg K T Rel W f σ H (fun b H1 => ∃ M1 st1 a, Ext M M1 H H1 ∧ Rep K T M1 H1 σ ρ st1 ∧ Rel M1 H1 b a ∧ GoS K T W M1 H1 (k a st1) D) := ⟨M, ρ, st, rep, GoS.bind rep h⟩
end
def sNil : SF := fun ρ st => .nx ρ st
def RS.andThen (r : RS) (k : Slots → Stor → RS) : RS := match r with
  | .nx ρ st => k ρ st
  | r => r
@[simp] theorem RS.andThen_nx (ρ st k) : (RS.nx ρ st).andThen k = k ρ st := rfl
@[simp] theorem RS.andThen_rt (u st k) : (RS.rt u st).andThen k = .rt u st := rfl
@[simp] theorem RS.andThen_bk (ρ st k) : (RS.bk ρ st).andThen k = .bk ρ st := rfl
@[simp] theorem RS.andThen_ct (ρ st k) : (RS.ct ρ st).andThen k = .ct ρ st := rfl
@[simp] theorem RS.andThen_exc (c fs ρ st k) : (RS.exc c fs ρ st).andThen k = .exc c fs ρ st := rfl
@[simp] theorem RS.andThen_bad (k) : RS.bad.andThen k = .bad := rfl
def sSeq (g1 g2 : SF) : SF := fun ρ st => (g1 ρ st).andThen g2
section
variable {X : Cx} {T : Nat → Addr} {W : WX} {pos pos' : Pos} {s : Stmt} {ss as bs : List Stmt} {a b c e o value : Expr} {g g1 g2 : SF} {fa fb fo fv : EF U} {gc : EF Bool}
theorem ms_nil : MSs X T W [] sNil := PSs.imp pss_nil fun D σ H ⟨M, ρ, st, rep, go⟩ => go M H σ Ext.refl rep
theorem ms_one (h : MS X T W s g) : MSs X T W [s] g := pss_one h
theorem seq_of {g1 g2 : SF} {D : Ends} {σ : L2.St} {H : Hp} {K : PySem.W.Frag} (h : TSg K T W (sSeq g1 g2) D σ H) : tSeq (TSg K T W g1) (TSg K T W g2) D σ H := by
  obtain ⟨M, ρ, st, rep, go⟩ := h
  refine ⟨M, ρ, st, rep, ?_⟩
  have go' : GoS K T W M H ((g1 ρ st).andThen g2) D := go
  cases e : g1 ρ st with
  | nx ρ' st' => rw [e] at go'; exact fun M' H' σ' e' rep' => ⟨M', ρ', st', rep', GoS.base go' e'⟩
  | rt u st' => rw [e] at go'; exact go'
  | bk ρ' st' => rw [e] at go'; exact go'
  | ct ρ' st' => rw [e] at go'; exact go'
  | exc c fs ρ' st' => rw [e] at go'; exact go'
  | bad => rw [e] at go'; exact go'
theorem ms_cons (h1 : MS X T W s g1) (h2 : MSs X T W ss g2) : MSs X T W (s :: ss) (sSeq g1 g2) := PSs.imp (pss_cons h1 h2) fun _ _ _ h => seq_of h
theorem ms_pass : MS X T W (.Pass pos) sNil := PS.imp ps_pass fun D σ H ⟨M, ρ, st, rep, go⟩ => go M H σ Ext.refl rep
def sBk : SF := fun ρ st => .bk ρ st
def sCt : SF := fun ρ st => .ct ρ st
theorem ms_break : MS X T W (.Break pos) sBk := PS.imp ps_break fun D σ H ⟨M, ρ, st, rep, go⟩ => go M H σ Ext.refl rep
theorem ms_cont : MS X T W (.Continue pos) sCt := PS.imp ps_continue fun D σ H ⟨M, ρ, st, rep, go⟩ => go M H σ Ext.refl rep
def sEx (f : EF U) : SF := fun ρ st => (f ρ st).stm ρ fun _ st1 => .nx ρ st1
theorem ms_ex (he : ME X T W e fa) (hs : swapsWith e none pos.line X.env = pure false := by rfl) : MS X T W (.Expr e pos) (sEx fa) := by
  refine PS.imp (ps_expr he hs) fun D σ H ⟨M, ρ, st, rep, go⟩ => ?_
  exact ⟨M, ρ, st, rep, (GoS.bind (Rel := relU X.K T) rep go).mono fun v H1 ⟨M1, st1, u, e1, rep1, ru, go1⟩ => go1 M1 H1 σ Ext.refl rep1⟩
def sRet (f : EF U) : SF := fun ρ st => (f ρ st).stm ρ fun u st1 => .rt u st1
theorem ms_ret (he : ME X T W e fa) : MS X T W (.Return (some e) pos) (sRet fa) := by
  refine PS.imp (ps_ret he) fun D σ H ⟨M, ρ, st, rep, go⟩ => ?_
  exact ⟨M, ρ, st, rep, (GoS.bind (Rel := relU X.K T) rep go).mono fun v H1 ⟨M1, st1, u, e1, rep1, ru, go1⟩ => go1 M1 H1 v Ext.refl rep1.sto ru⟩
def sRetN : SF := fun _ st => .rt (.d .none) st
theorem ms_retN : MS X T W (.Return none pos) sRetN := PS.imp ps_retN fun D σ H ⟨M, ρ, st, rep, go⟩ => go M H _ Ext.refl rep.sto (.d .non)
def sIf (c : EF Bool) (g1 g2 : SF) : SF := fun ρ st => (c ρ st).stm ρ fun b st1 => if b = true then g1 ρ st1 else g2 ρ st1
theorem ms_if (hc : MT X T W c gc) (ha : MSs X T W as g1) (hb : MSs X T W bs g2) : MS X T W (.If c as bs pos) (sIf gc g1 g2) := by
  refine PS.imp (ps_if hc ha hb) fun D σ H ⟨M, ρ, st, rep, go⟩ => ?_
  refine ⟨M, ρ, st, rep, (GoS.bind (Rel := relB) rep go).mono fun k H1 ⟨M1, st1, k', e1, rep1, rk, go1⟩ => ?_⟩
  have rk' : k = k' := rk
  subst rk'
  cases k with
  | true => exact ⟨M1, ρ, st1, rep1, go1⟩
  | false => exact ⟨M1, ρ, st1, rep1, go1⟩
/-- name = e -/
def sSet (i : Nat) (f : EF U) : SF := fun ρ st => (f ρ st).stm ρ fun u st1 => .nx (ρ.set i (some u)) st1
theorem ms_set {i : Nat} {x : Str} (hN : X.N.Nodup) (hi : X.N[i]? = some x) (hx : Loc X.env.scope x) (he : ME X T W e fa) (hs : swapsWith e (some (.Name x pos')) pos.line X.env = pure false := by rfl) (hf : X.fn x = true ∨ X.env.scope.names.lookup x = some .local := by first | exact .inl rfl | exact .inr rfl | assumption) :
    MS X T W (.Assign [.Name x pos'] e pos) (sSet i fa) := by
  refine PS.imp (ps_set hN hi hx he hs hf) fun D σ H ⟨M, ρ, st, rep, go⟩ => ?_
  exact ⟨M, ρ, st, rep, (GoS.bind (Rel := relU X.K T) rep go).mono fun v H1 ⟨M1, st1, u, e1, rep1, ru, go1⟩ => go1 M1 H1 _ Ext.refl (rep1.set i ru)⟩
/-- e.f = value, of a changing instance -/
def sFldM (c : Nat) (f : Str) (fo fv : EF U) : SF := fun ρ st => (fv ρ st).stm ρ fun w st1 => (fo ρ st1).stm ρ fun u st2 => match u, w with
  | .loc i, .d x => match st2[i]? with
    | some (.ins c' fs) => if c' == c && decide (fs.length < 1000) then .nx ρ (st2.set i (.ins c (putD f x fs))) else .bad
    | _ => .bad
  | _, _ => .bad
theorem ms_fld {c : Nat} {f : Str} (hc : Cls X.K (T c)) (hn : NoAttr X.K (T c) f) (ho : ME X T W o fo) (hv : ME X T W value fv) (hs : swapsWith value (some (.Attribute o f pos')) pos.line X.env = pure false := by rfl) : MS X T W (.Assign [.Attribute o f pos'] value pos) (sFldM c f fo fv) := by
  refine PS.imp (ps_fld ho hv hs) fun D σ H ⟨M, ρ, st, rep, go⟩ => ?_
  refine ⟨M, ρ, st, rep, (GoS.bind (Rel := relU X.K T) rep go).mono fun y H1 ⟨M1, st1, w, e1, rep1, rw, go1⟩ => ?_⟩
  refine ⟨M1, ρ, st1, rep1, (GoS.bind (Rel := relU X.K T) rep1 go1).mono fun x H2 ⟨M2, st2, u, e2, rep2, ru, go2⟩ => ?_⟩
  cases u with
  | d z => exact go2.elim
  | loc i =>
    cases w with
    | loc j => exact go2.elim
    | d z =>
      simp only at go2
      cases e3 : st2[i]? with
      | none => rw [e3] at go2; exact go2.elim
      | some ob =>
        rw [e3] at go2
        cases ob with
        | ins c' fs =>
          simp only at go2
          by_cases h : (c' == c && decide (fs.length < 1000)) = true
          · simp only [h, if_true] at go2
            rw [Bool.and_eq_true] at h
            have ec : c' = c := by simpa using h.1
            subst ec
            obtain ⟨m, hm, a, dx, fv, rfl, ha, rf⟩ := rep2.sto.get e3
            cases ru with
            | hole hh => rw [hh] at hm; cases hm
            | @loc a' _ hh =>
              rw [hh] at hm
              cases hm
              refine ⟨_, _, dx, fv, rfl, ha, hc, hn, by rw [rf.length]; exact of_decide_eq_true h.2, ?_⟩
              obtain ⟨e4, s4⟩ := rep2.sto.wr (o := .ins (T c') dx (putF f y fv)) (ob := .ins c' (putD f z fs)) hh fun e4 => ⟨_, dx, _, rfl, upd_same, RFs.ext e4 (rf.put (by cases RU.ext e2 rw with | d r => exact r))⟩
              exact go2 M2 _ σ e4 (rep2.ext e4 s4)
          · simp only [h] at go2
            exact go2.elim
        | _ => exact go2.elim
end
end MM
set_option maxRecDepth 100000
/-! M5: targets, loops, comprehensions -/
namespace MM
open PySem PySem.Spec PyProof.Rows L2
/-! ### targets -/
abbrev TgF := D → Slots → Option Slots
def tName (i : Nat) : TgF := fun d ρ => some (ρ.set i (some (.d d)))
def tgs : List TgF → List D → Slots → Option Slots
  | [], [], ρ => some ρ
  | h :: hs, d :: ds, ρ => (h d ρ).bind fun ρ1 => tgs hs ds ρ1
  | _, _, _ => none
def tTupT (hs : List TgF) : TgF := fun d ρ => match d with
  | .tuple ds => tgs hs ds ρ
  | _ => none
/-- only the slots at vs may differ -/
def But (vs : List Nat) (σ σ' : L2.St) : Prop := σ'.length = σ.length ∧ ∀ j : Nat, j ∉ vs → σ'[j]? = σ[j]?
theorem But.refl {vs σ} : But vs σ σ := ⟨rfl, fun _ _ => rfl⟩
theorem But.trans {vs σ σ1 σ2} (a : But vs σ σ1) (b : But vs σ1 σ2) : But vs σ σ2 := ⟨b.1.trans a.1, fun j h => (b.2 j h).trans (a.2 j h)⟩
theorem But.set {vs : List Nat} {σ : L2.St} {i : Nat} {v : Option V} (h : i ∈ vs) : But vs σ (σ.set i v) := ⟨by rw [List.length_set], fun j hj => by
  have ne : i ≠ j := fun e => hj (by rw [← e]; exact h)
  rw [List.getElem?_set_ne ne]⟩
theorem wipe_get {σ : L2.St} : ∀ (vs : List Nat) (j : Nat), (wipe σ vs)[j]? = if j ∈ vs ∧ j < σ.length then some none else σ[j]?
  | [], j => by simp [wipe]
  | v :: vs, j => by
    unfold wipe
    rw [List.getElem?_set]
    by_cases e : v = j
    · subst e
      rw [if_pos rfl, wipe_length]
      by_cases hl : v < σ.length
      · rw [if_pos hl, if_pos ⟨List.mem_cons_self, hl⟩]
      · rw [if_neg hl, if_neg (fun z => hl z.2)]
        exact (List.getElem?_eq_none (by omega)).symm
    · rw [if_neg e, wipe_get vs j]
      by_cases hm : j ∈ vs ∧ j < σ.length
      · rw [if_pos hm, if_pos ⟨List.mem_cons_of_mem _ hm.1, hm.2⟩]
      · rw [if_neg hm, if_neg (fun z => hm ⟨(List.mem_cons.mp z.1).resolve_left (fun q => e q.symm), z.2⟩)]
theorem But.wipe {vs : List Nat} {σ σ' : L2.St} (b : But vs σ σ') : wipe σ' vs = wipe σ vs := by
  apply List.ext_getElem?
  intro j
  rw [wipe_get, wipe_get, b.1]
  by_cases h : j ∈ vs ∧ j < σ.length
  · rw [if_pos h, if_pos h]
  · rw [if_neg h, if_neg h]
    by_cases hm : j ∈ vs
    · have hl : ¬ j < σ.length := fun z => h ⟨hm, z⟩
      rw [List.getElem?_eq_none (by rw [b.1]; omega), List.getElem?_eq_none (by omega)]
    · exact b.2 j hm
theorem wipe_wipe {σ : L2.St} {vs : List Nat} : wipe (wipe σ vs) vs = wipe σ vs := But.wipe ⟨wipe_length σ vs, fun j hj => by rw [wipe_get, if_neg fun z => hj z.1]⟩
def mgT (K : PySem.W.Frag) (T : Nat → Addr) (vs : List Nat) (h : TgF) : TG := fun x σ H Q => ∃ M ρ st d ρ', Rep K T M H σ ρ st ∧ RD K T M H x d ∧ h d ρ = some ρ' ∧ ∀ σ', But vs σ σ' → Rep K T M H σ' ρ' st → Q σ' H
abbrev MG (X : Cx) (T : Nat → Addr) (vs : List Nat) (tg : Expr) (h : TgF) : Prop := PG X tg (mgT X.K T vs h)
def MGs (X : Cx) (T : Nat → Addr) (vs : List Nat) (tg : List Expr) (hs : List TgF) : Prop := PGs X tg fun xs σ H Q => ∃ M ρ st ds ρ', Rep X.K T M H σ ρ st ∧ RDs X.K T M H xs ds ∧ tgs hs ds ρ = some ρ' ∧ ∀ σ', But vs σ σ' → Rep X.K T M H σ' ρ' st → Q σ' H
theorem PG.imp {X : Cx} {e : Expr} {t t' : TG} (h : PG X e t) (w : ∀ v σ H Q, t' v σ H Q → t v σ H Q) : PG X e t' := ⟨fun pins s σ H v u Q I r q => h.run pins s σ H v u Q I r (w v σ H Q q)⟩
theorem PGs.imp {X : Cx} {e : List Expr} {t t' : TGs} (h : PGs X e t) (w : ∀ v σ H Q, t' v σ H Q → t v σ H Q) : PGs X e t' := ⟨fun pins s σ H v u Q I r q => h.run pins s σ H v u Q I r (w v σ H Q q)⟩
section
variable {X : Cx} {T : Nat → Addr} {vs : List Nat} {pos : Pos} {e : Expr} {es : List Expr} {h : TgF} {hs : List TgF}
theorem mg_name {i : Nat} {x : Str} (hN : X.N.Nodup) (hi : X.N[i]? = some x) (hx : Loc X.env.scope x) (hv : i ∈ vs := by decide) (hf : X.fn x = true ∨ X.env.scope.names.lookup x = some .local := by first | exact .inl rfl | exact .inr rfl | assumption) : MG X T vs (.Name x pos) (tName i) :=
  PG.imp (pg_name hN hi hx hf) fun v σ H Q ⟨M, ρ, st, d, ρ', rep, r, e, k⟩ => by
    cases e
    exact k _ (But.set hv) (rep.set i (.d r))
theorem mgs_nil : MGs X T vs [] [] := PGs.imp pgs_nil fun v σ H Q ⟨M, ρ, st, ds, ρ', rep, r, e, k⟩ => by
  cases r with
  | nil => cases e; exact ⟨rfl, k _ But.refl rep⟩
  | cons _ _ => cases e
theorem mgs_cons (h1 : MG X T vs e h) (h2 : MGs X T vs es hs) (ha : (assignEach (e :: es) X.env).map (·.2) = assign e X.env :: (assignEach es X.env).map (·.2) := by rfl) : MGs X T vs (e :: es) (h :: hs) :=
  PGs.imp (pgs_cons h1 h2 ha) fun v σ H Q ⟨M, ρ, st, ds, ρ', rep, r, e, k⟩ => by
    cases r with
    | nil => cases e
    | @cons x xs d ds r rr =>
      have e' : (h d ρ).bind (fun ρ1 => tgs hs ds ρ1) = some ρ' := e
      cases e1 : h d ρ with
      | none => rw [e1] at e'; cases e'
      | some ρ1 =>
        rw [e1] at e'
        exact ⟨x, xs, rfl, M, ρ, st, d, ρ1, rep, r, e1, fun σ1 b1 rep1 => ⟨M, ρ1, st, ds, ρ', rep1, rr, e', fun σ2 b2 rep2 => k σ2 (b1.trans b2) rep2⟩⟩
theorem tgs_len : ∀ {hs : List TgF} {ds : List D} {ρ ρ' : Slots}, tgs hs ds ρ = some ρ' → hs.length = ds.length
  | [], [], _, _, _ => rfl
  | h :: hs, d :: ds, ρ, ρ', e => by
    have e' : (h d ρ).bind (fun ρ1 => tgs hs ds ρ1) = some ρ' := e
    cases e1 : h d ρ with
    | none => rw [e1] at e'; cases e'
    | some ρ1 =>
      rw [e1] at e'
      rw [List.length_cons, List.length_cons, tgs_len e']
  | [], _ :: _, _, _, e => by cases e
  | _ :: _, [], _, _, e => by cases e
theorem mg_tup {k n : Nat} (hc : X.calm = true) (h : MGs X T vs es hs) (hl : hs.length = n := by rfl) (hn : (assignEach es X.env).length = n := by rfl) (hst : (assignEach es X.env).findIdx? (·.1) = none := by rfl) : MG X T vs (.Tuple es k pos) (tTupT hs) :=
  PG.imp (pg_tup hc h hn hst) fun v σ H Q ⟨M, ρ, st, d, ρ', rep, r, e, k⟩ => by
    cases d with
    | tuple ds =>
      cases r with
      | @tup a xs _ h1 r1 =>
        have e' : tgs hs ds ρ = some ρ' := e
        exact ⟨a, xs, rfl, sqt_of h1, by rw [r1.length, ← tgs_len e', hl], M, ρ, st, ds, ρ', rep, r1, e', k⟩
    | _ => cases e
end
/-- tg = e -/
def sAsg (h : TgF) (f : EF U) : SF := fun ρ st => (f ρ st).stm ρ fun u st1 => match u with
  | .d d => match h d ρ with
    | some ρ' => .nx ρ' st1
    | none => .bad
  | .loc _ => .bad
def setU : List Nat → List U → Slots → Option Slots
  | [], [], ρ => some ρ
  | i :: is, u :: us, ρ => setU is us (ρ.set i (some u))
  | _, _, _ => none
/-- a, b, .. = x, y, .. -/
def sPar (is : List Nat) (fs : EF (List U)) : SF := fun ρ st => (fs ρ st).stm ρ fun us st1 => match setU is us ρ with
  | some ρ' => .nx ρ' st1
  | none => .bad
section
variable {X : Cx} {T : Nat → Addr} {W : WX} {pos pt : Pos} {vs is : List Nat} {tg a b c e : Expr} {es ts : List Expr} {h : TgF} {fa : EF U} {fs : EF (List U)}
theorem ms_asg (he : ME X T W e fa) (hg : MG X T vs tg h) (hs : swapsWithSole [tg] e pos.line X.env = pure false := by rfl) (hw : swappedStores [tg] e X.env = pure none := by rfl)
    (h1 : (assignEach [tg] X.env).map (·.2) = [assign tg X.env] := by rfl) : MS X T W (.Assign [tg] e pos) (sAsg h fa) := by
  refine PS.imp (ps_asg he hg hs hw h1) fun D σ H ⟨M, ρ, st, rep, go⟩ => ?_
  refine ⟨M, ρ, st, rep, (GoS.bind (Rel := relU X.K T) rep go).mono fun x H1 ⟨M1, st1, u, e1, rep1, ru, go1⟩ => ?_⟩
  cases u with
  | loc i => exact go1.elim
  | d d =>
    have go1' : GoS X.K T W M1 H1 (match h d ρ with
      | some ρ' => .nx ρ' st1
      | none => .bad) D := go1
    cases e2 : h d ρ with
    | none => rw [e2] at go1'; exact go1'.elim
    | some ρ' =>
      rw [e2] at go1'
      cases ru with
      | d r => exact ⟨M1, ρ, st1, d, ρ', rep1, r, e2, fun σ' _ rep2 => go1' M1 H1 σ' Ext.refl rep2⟩
/-- several names at once, out of a new tuple -/
def MGu (X : Cx) (T : Nat → Addr) (tg : List Expr) (is : List Nat) : Prop := PGs X tg fun xs σ H Q => ∃ M ρ st us ρ', Rep X.K T M H σ ρ st ∧ Paired (RU X.K T M H) xs us ∧ setU is us ρ = some ρ' ∧ ∀ σ', Rep X.K T M H σ' ρ' st → Q σ' H
theorem mgu_nil : MGu X T [] [] := PGs.imp pgs_nil fun v σ H Q ⟨M, ρ, st, ds, ρ', rep, r, e, k⟩ => by
  cases r with
  | nil => cases e; exact ⟨rfl, k _ rep⟩
  | cons _ _ => cases e
theorem mgu_cons {i : Nat} {x : Str} (hN : X.N.Nodup) (hi : X.N[i]? = some x) (hx : Loc X.env.scope x) (h2 : MGu X T es is) (ha : (assignEach (.Name x pos :: es) X.env).map (·.2) = assign (.Name x pos) X.env :: (assignEach es X.env).map (·.2) := by rfl)
    (hf : X.fn x = true ∨ X.env.scope.names.lookup x = some .local := by first | exact .inl rfl | exact .inr rfl | assumption) : MGu X T (.Name x pos :: es) (i :: is) :=
  PGs.imp (pgs_cons (pg_name hN hi hx hf) h2 ha) fun v σ H Q ⟨M, ρ, st, ds, ρ', rep, r, e, k⟩ => by
    cases r with
    | nil => cases e
    | cons r rr => exact ⟨_, _, rfl, M, ρ.set i (some _), st, _, ρ', rep.set i r, rr, e, k⟩
theorem setU_len : ∀ {is : List Nat} {us : List U} {ρ ρ' : Slots}, setU is us ρ = some ρ' → is.length = us.length
  | [], [], _, _, _ => rfl
  | _ :: is, _ :: us, _, _, e => by
    have := setU_len (is := is) (us := us) e
    simp [this]
  | [], _ :: _, _, _, e => by cases e
  | _ :: _, [], _, _, e => by cases e
theorem ms_parN {k x1 n : Nat} {pt' : Pos} (hc : X.calm = true) (ha : MA X T W es fs) (hg : MGu X T ts is) (hl : is.length = n := by rfl) (hz : n ≤ 1000 := by decide) (hn : (assignEach ts X.env).length = n := by rfl) (hst : (assignEach ts X.env).findIdx? (·.1) = none := by rfl)
    (hs : swapsWithSole [.Tuple ts k pt] (.Tuple es x1 pt') pos.line X.env = pure false := by rfl) (hw : swappedStores [.Tuple ts k pt] (.Tuple es x1 pt') X.env = pure none := by rfl)
    (h1 : (assignEach [.Tuple ts k pt] X.env).map (·.2) = [assign (.Tuple ts k pt) X.env] := by rfl) : MS X T W (.Assign [.Tuple ts k pt] (.Tuple es x1 pt') pos) (sPar is fs) := by
  refine PS.imp (ps_asg (pe_tup ha) (pg_tup hc hg hn hst) hs hw h1) fun D σ H ⟨M, ρ, st, rep, go⟩ => ?_
  refine ⟨M, ρ, st, rep, (GoS.bind (Rel := relL X.K T) rep go).mono fun xs H1 ⟨M1, st1, us, e1, rep1, rus, go1⟩ => ?_⟩
  cases e2 : setU is us ρ with
  | none => rw [e2] at go1; exact go1.elim
  | some ρ' =>
    rw [e2] at go1
    have hlen : xs.length = n := by rw [Paired.len rus, ← setU_len e2, hl]
    refine ⟨by rw [hlen]; exact Nat.le_trans hz (by decide), fun p hp => ?_⟩
    have ex : Ext M1 M1 H1 (L2.upd H1 p (.tup xs)) := Ext.lay hp
    exact ⟨p, xs, rfl, .inl (.inl upd_same), hlen, M1, ρ, st1, us, ρ', rep1.ext ex (rep1.sto.lay hp), L2.Paired.mapP rus (fun _ _ r => r.ext ex), e2, fun σ' rep2 => go1 M1 _ σ' ex rep2⟩
theorem ms_par2 {i j : Nat} {x y : Str} {px py : Pos} {kt k2 pt2} (hc : X.calm = true) (hN : X.N.Nodup) (hi : X.N[i]? = some x) (hj : X.N[j]? = some y) (hij : i ≠ j)
    (hx : X.env.scope.names.lookup x = some .local) (hy : X.env.scope.names.lookup y = some .local) (ha : MA X T W [a, b] fs)
    (hw : swappedStores [.Tuple [.Name x px, .Name y py] kt pt] (.Tuple [a, b] k2 pt2) X.env = pure (some [x, y]) := by rfl)
    (hs : swapsWithSole [.Tuple [.Name x px, .Name y py] kt pt] (.Tuple [a, b] k2 pt2) pos.line X.env = pure false := by rfl) :
    MS X T W (.Assign [.Tuple [.Name x px, .Name y py] kt pt] (.Tuple [a, b] k2 pt2) pos) (sPar [i, j] fs) := by
  refine PS.imp (ps_par hc hN hi hj hij hx hy ha hw hs) fun D σ H ⟨M, ρ, st, rep, go⟩ => ?_
  refine ⟨M, ρ, st, rep, (GoS.bind (Rel := relL X.K T) rep go).mono fun xs H1 ⟨M1, st1, us, e1, rep1, rus, go1⟩ => ?_⟩
  cases e2 : setU [i, j] us ρ with
  | none => rw [e2] at go1; exact go1.elim
  | some ρ' =>
    rw [e2] at go1
    cases rus with
    | nil => cases e2
    | cons r rr =>
      cases rr with
      | nil => cases e2
      | cons r' rr =>
        cases rr with
        | cons _ _ => cases e2
        | nil =>
          cases e2
          exact ⟨_, _, rfl, go1 M1 H1 _ Ext.refl ((rep1.set i r).set j r')⟩
theorem ms_par3 {i j l : Nat} {x y z : Str} {px py pz : Pos} {kt k2 pt2} (hc : X.calm = true) (hN : X.N.Nodup) (hi : X.N[i]? = some x) (hj : X.N[j]? = some y) (hl : X.N[l]? = some z) (hij : i ≠ j) (hil : i ≠ l) (hjl : j ≠ l)
    (hx : X.env.scope.names.lookup x = some .local) (hy : X.env.scope.names.lookup y = some .local) (hz : X.env.scope.names.lookup z = some .local) (ha : MA X T W [a, b, c] fs)
    (hw : swappedStores [.Tuple [.Name x px, .Name y py, .Name z pz] kt pt] (.Tuple [a, b, c] k2 pt2) X.env = pure (some [x, y, z]) := by rfl)
    (hs : swapsWithSole [.Tuple [.Name x px, .Name y py, .Name z pz] kt pt] (.Tuple [a, b, c] k2 pt2) pos.line X.env = pure false := by rfl) :
    MS X T W (.Assign [.Tuple [.Name x px, .Name y py, .Name z pz] kt pt] (.Tuple [a, b, c] k2 pt2) pos) (sPar [i, j, l] fs) := by
  refine PS.imp (ps_par3 hc hN hi hj hl hij hil hjl hx hy hz ha hw hs) fun D σ H ⟨M, ρ, st, rep, go⟩ => ?_
  refine ⟨M, ρ, st, rep, (GoS.bind (Rel := relL X.K T) rep go).mono fun xs H1 ⟨M1, st1, us, e1, rep1, rus, go1⟩ => ?_⟩
  cases e2 : setU [i, j, l] us ρ with
  | none => rw [e2] at go1; exact go1.elim
  | some ρ' =>
    rw [e2] at go1
    cases rus with
    | nil => cases e2
    | cons r rr =>
      cases rr with
      | nil => cases e2
      | cons r' rr =>
        cases rr with
        | nil => cases e2
        | cons r'' rr =>
          cases rr with
          | cons _ _ => cases e2
          | nil =>
            cases e2
            exact ⟨_, _, _, rfl, go1 M1 H1 _ Ext.refl (((rep1.set i r).set j r').set l r'')⟩
end

/-! ### what is walked -/
def IterOk (K : PySem.W.Frag) (T : Nat → Addr) (J : It) (ds : List D) (M : List (Option Addr)) (H : Hp) : Prop := ∀ M1 H1 st1, Ext M M1 H H1 → Rst K T M1 H1 st1 →
  (∀ i, i < ds.length → J.go i H1) ∧ J.stop ds.length H1 ∧ ∀ i x H2, i < ds.length → J.yld i H1 x H2 → ∃ d, ds[i]? = some d ∧ RD K T M1 H2 x d ∧ Ext M1 M1 H1 H2 ∧ ∀ st, Rst K T M1 H1 st → Rst K T M1 H2 st
theorem IterOk.ext {K T J ds M M' H H'} (h : IterOk K T J ds M H) (e : Ext M M' H H') : IterOk K T J ds M' H' := fun M1 H1 st1 e1 s1 => h M1 H1 st1 (e.trans e1) s1
def relI (K : PySem.W.Frag) (T : Nat → Addr) : RelT (List D) It := fun M H J ds => IterOk K T J ds M H
abbrev MI (X : Cx) (T : Nat → Addr) (W : WX) (tg it : Expr) (f : EF (List D)) : Prop := PI X tg it (Tg X.K T (relI X.K T) W f)
theorem PI.imp {X : Cx} {tg e : Expr} {t t' : TI} (h : PI X tg e t) (w : ∀ σ H R, t' σ H R → t σ H R) : PI X tg e t' := ⟨fun pins s σ H R I q => h.run pins s σ H R I (w σ H R q)⟩

/-- a changing list that is walked: its place in the store, its items, which must stay -/
abbrev LV := Option (Nat × List D)
def lvOk : LV → Stor → Prop
  | none, _ => True
  | some (j, ds), st => st[j]? = some (.lst ds)
open Classical in
noncomputable def chk {α : Type} (lv : LV) (st : Stor) (b r : α) : α := match lv with
  | none => r
  | some (j, ds) => if st[j]? = some (O.lst ds) then r else b
@[simp] theorem chk_none {α : Type} (st : Stor) (b r : α) : chk none st b r = r := rfl
theorem chk_some {α : Type} {j : Nat} {ds : List D} {st : Stor} {b r : α} (h : st[j]? = some (.lst ds)) : chk (some (j, ds)) st b r = r := by
  unfold chk
  simp only [h, if_true]
theorem chk_ok {α : Type} {lv : LV} {st : Stor} {b r : α} (h : chk lv st b r ≠ b) : lvOk lv st ∧ chk lv st b r = r := by
  match lv, h with
  | none, _ => exact ⟨True.intro, rfl⟩
  | some (j, ds), h =>
    unfold chk at h ⊢
    by_cases q : st[j]? = some (O.lst ds)
    · simp only [q, if_true]
      exact ⟨q, trivial⟩
    · simp only [q, if_false] at h
      exact absurd rfl h
def IterL (K : PySem.W.Frag) (T : Nat → Addr) (J : It) (ds : List D) (lv : LV) (M : List (Option Addr)) (H : Hp) : Prop := ∀ M1 H1 st1, Ext M M1 H H1 → Rst K T M1 H1 st1 → lvOk lv st1 →
  (∀ i, i < ds.length → J.go i H1) ∧ J.stop ds.length H1 ∧ ∀ i x H2, i < ds.length → J.yld i H1 x H2 → ∃ d, ds[i]? = some d ∧ RD K T M1 H2 x d ∧ Ext M1 M1 H1 H2 ∧ ∀ st, Rst K T M1 H1 st → Rst K T M1 H2 st
def relV (K : PySem.W.Frag) (T : Nat → Addr) : RelT (List D × LV) It := fun M H J p => IterL K T J p.1 p.2 M H
abbrev MV (X : Cx) (T : Nat → Addr) (W : WX) (tg it : Expr) (f : EF (List D × LV)) : Prop := PI X tg it (Tg X.K T (relV X.K T) W f)
/-- what is walked changes never -/
def nl (f : EF (List D)) : EF (List D × LV) := fun ρ st => (f ρ st).bind fun ds st1 => .ok (ds, none) st1
theorem mv {X : Cx} {T : Nat → Addr} {W : WX} {tg it : Expr} {f : EF (List D)} (h : MI X T W tg it f) : MV X T W tg it (nl f) := by
  refine PI.imp h fun σ H R ⟨M, ρ, st, rep, go⟩ => ⟨M, ρ, st, rep, ?_⟩
  have go' : Go X.K T (relV X.K T) W M σ H ((f ρ st).bind fun ds st1 => .ok (ds, none) st1) R := go
  cases q : f ρ st with
  | ok ds st1 => rw [q] at go'; exact fun M' H' J e s r => go' M' H' J e s fun M1 H1 st1 e1 s1 _ => r M1 H1 st1 e1 s1
  | exc c fs st1 => rw [q] at go'; exact go'
  | bad => rw [q] at go'; exact go'.elim

/-! ### for -/
noncomputable def forL (h : TgF) (g : SF) (lv : LV) : List D → SF
  | [], ρ, st => chk lv st .bad (.nx ρ st)
  | d :: ds, ρ, st => chk lv st .bad (match h d ρ with
    | none => .bad
    | some ρ1 => match g ρ1 st with
      | .nx ρ2 st2 => forL h g lv ds ρ2 st2
      | .ct ρ2 st2 => forL h g lv ds ρ2 st2
      | .bk ρ2 st2 => .nx ρ2 st2
      | r => r)
theorem GoS.chk {K T W M H} {lv : LV} {st : Stor} {r : RS} {D : Ends} (h : GoS K T W M H (chk lv st .bad r) D) : lvOk lv st ∧ GoS K T W M H r D := by
  have q : MM.chk lv st RS.bad r ≠ .bad := fun z => by
    rw [z] at h
    exact h.elim
  obtain ⟨h1, h2⟩ := chk_ok q
  rw [h2] at h
  exact ⟨h1, h⟩
noncomputable def sFor (f : EF (List D × LV)) (h : TgF) (g : SF) : SF := fun ρ st => (f ρ st).stm ρ fun p st1 => forL h g p.2 p.1 ρ st1
section
variable {X : Cx} {T : Nat → Addr} {W : WX} {pos : Pos} {vs : List Nat} {tg it c : Expr} {body : List Stmt} {h : TgF} {f : EF (List D × LV)} {g : SF} {gc : EF Bool}
theorem ms_for (hp : PassesOwn (model X.prog X.w) X.A X.env X.xe) (hc : X.calm = true) (hi : MV X T W tg it f) (hg : MG X T vs tg h) (hb : MSs X T W body g) (hs : ∀ x, foldedSetIterable it X.env x = pure x := by intro _; rfl) : MS X T W (.For tg it body [] pos) (sFor f h g) := by
  refine PS.imp (ps_for hp hc hi hg hb hs) fun D σ H ⟨M, ρ, st, rep, go⟩ => ?_
  refine ⟨M, ρ, st, rep, (GoS.bind (Rel := relV X.K T) rep go).mono fun J H1 ⟨M1, st1, ⟨ds, lv⟩, e1, rep1, ok, go1⟩ => ?_⟩
  have ok : IterL X.K T J ds lv M1 H1 := ok
  have go1 : GoS X.K T W M1 H1 (forL h g lv ds ρ st1) D := go1
  refine ⟨fun i m σ' H' => m = ds.length - i ∧ i ≤ ds.length ∧ ∃ M' ρ' st', Ext M1 M' H1 H' ∧ Rep X.K T M' H' σ' ρ' st' ∧ GoS X.K T W M' H' (forL h g lv (ds.drop i) ρ' st') D, ⟨ds.length, by simp, Nat.zero_le _, M1, ρ, st1, Ext.refl, rep1, by simpa using go1⟩, ?_⟩
  rintro i m σ' H' ⟨rfl, hi, M', ρ', st', e', rep', go'⟩
  have live : lvOk lv st' := by
    by_cases hlt : i < ds.length
    · rw [List.drop_eq_getElem_cons hlt] at go'
      exact (GoS.chk go').1
    · rw [List.drop_eq_nil_of_le (by omega)] at go'
      exact (GoS.chk go').1
  obtain ⟨okg, oks, oky⟩ := ok M' H' st' e' rep'.sto live
  by_cases hlt : i < ds.length
  · rw [List.drop_eq_getElem_cons hlt] at go'
    have go' := (GoS.chk go').2
    refine .inr ⟨okg i hlt, fun σ2 H2 => ∃ M2 ρ2 st2, Ext M1 M2 H1 H2 ∧ Rep X.K T M2 H2 σ2 ρ2 st2 ∧ GoS X.K T W M2 H2 (forL h g lv (ds.drop (i + 1)) ρ2 st2) D, fun σ2 H2 n2 => ⟨ds.length - (i + 1), by omega, rfl, hlt, n2⟩, fun x H2 y => ?_⟩
    obtain ⟨d, hd, r, e2, s2⟩ := oky i x H2 hlt y
    have ed : ds[i] = d := by
      rw [List.getElem?_eq_getElem hlt] at hd
      exact Option.some.inj hd
    rw [ed] at go'
    have go'' : GoS X.K T W M' H' (match h d ρ' with
      | none => .bad
      | some ρ1 => match g ρ1 st' with
        | .nx ρ2 st2 => forL h g lv (ds.drop (i + 1)) ρ2 st2
        | .ct ρ2 st2 => forL h g lv (ds.drop (i + 1)) ρ2 st2
        | .bk ρ2 st2 => .nx ρ2 st2
        | r => r) D := go'
    cases e3 : h d ρ' with
    | none => rw [e3] at go''; exact go''.elim
    | some ρ1 =>
      rw [e3] at go''
      refine ⟨M', ρ', st', d, ρ1, rep'.ext e2 (s2 st' rep'.sto), r, e3, fun σ1 _ rep1' => ?_⟩
      refine ⟨M', ρ1, st', rep1', ?_⟩
      simp only at go''
      cases e4 : g ρ1 st' with
      | nx ρ2 st2 => rw [e4] at go''; exact fun M3 H3 σ3 e5 rep3 => ⟨M3, ρ2, st2, e'.trans (e2.trans e5), rep3, GoS.base go'' (e2.trans e5)⟩
      | ct ρ2 st2 => rw [e4] at go''; exact fun M3 H3 σ3 e5 rep3 => ⟨M3, ρ2, st2, e'.trans (e2.trans e5), rep3, GoS.base go'' (e2.trans e5)⟩
      | bk ρ2 st2 => rw [e4] at go''; exact fun M3 H3 σ3 e5 rep3 => go'' M3 H3 σ3 (e2.trans e5) rep3
      | rt u st2 => rw [e4] at go''; exact fun M3 H3 v e5 => go'' M3 H3 v (e2.trans e5)
      | exc c fs ρ2 st2 => rw [e4] at go''; exact fun M3 H3 σ3 dd fv e5 => go'' M3 H3 σ3 dd fv (e2.trans e5)
      | bad => rw [e4] at go''; exact go''
  · have e : i = ds.length := by omega
    subst e
    rw [List.drop_length] at go'
    exact .inl ⟨oks, (GoS.chk go').2 M' H' σ' Ext.refl rep'⟩

/-! ### while -/
def whileL (c : EF Bool) (g : SF) : Nat → SF
  | 0, _, _ => .bad
  | n + 1, ρ, st => (c ρ st).stm ρ fun b st1 => if b = true then (match g ρ st1 with
      | .nx ρ2 st2 => whileL c g n ρ2 st2
      | .ct ρ2 st2 => whileL c g n ρ2 st2
      | .bk ρ2 st2 => .nx ρ2 st2
      | r => r) else .nx ρ st1
open Classical in
noncomputable def sWhile (c : EF Bool) (g : SF) : SF := fun ρ st => if h : ∃ n, whileL c g n ρ st ≠ .bad then whileL c g (choose h) ρ st else .bad
theorem whileL_mono (c : EF Bool) (g : SF) : ∀ (n m : Nat) (ρ : Slots) (st : Stor), n ≤ m → whileL c g n ρ st ≠ .bad → whileL c g m ρ st = whileL c g n ρ st
  | 0, _, ρ, st, _, h => absurd rfl h
  | n + 1, 0, _, _, h, _ => by omega
  | n + 1, m + 1, ρ, st, hl, h => by
    unfold whileL at h ⊢
    cases e : c ρ st with
    | exc _ _ _ => rfl
    | bad => rfl
    | ok b st1 =>
      rw [e] at h
      simp only [R.stm_ok] at h ⊢
      cases b with
      | false => rfl
      | true =>
        simp only [if_true] at h ⊢
        cases e2 : g ρ st1 with
        | nx ρ2 st2 => rw [e2] at h; exact whileL_mono c g n m ρ2 st2 (by omega) h
        | ct ρ2 st2 => rw [e2] at h; exact whileL_mono c g n m ρ2 st2 (by omega) h
        | bk ρ2 st2 => rfl
        | rt u st2 => rfl
        | exc _ _ _ _ => rfl
        | bad => rfl
theorem sWhile_of {c : EF Bool} {g : SF} {n : Nat} {ρ : Slots} {st : Stor} {r : RS} (h : whileL c g n ρ st = r) (hr : r ≠ .bad) : sWhile c g ρ st = r := by
  have ex : ∃ n, whileL c g n ρ st ≠ .bad := ⟨n, by rw [h]; exact hr⟩
  unfold sWhile
  rw [dif_pos ex]
  have h1 := Classical.choose_spec ex
  rcases Nat.le_total n (Classical.choose ex) with hl | hl
  · rw [whileL_mono c g n _ ρ st hl (by rw [h]; exact hr)]
    exact h
  · rw [← whileL_mono c g _ n ρ st hl h1]
    exact h
theorem sWhile_cases (c : EF Bool) (g : SF) (ρ : Slots) (st : Stor) : sWhile c g ρ st = .bad ∨ ∃ n, whileL c g n ρ st = sWhile c g ρ st := by
  by_cases h : ∃ n, whileL c g n ρ st ≠ .bad
  · right
    refine ⟨Classical.choose h, ?_⟩
    unfold sWhile
    rw [dif_pos h]
  · left
    unfold sWhile
    rw [dif_neg h]
theorem ms_while (hp : PassesOwn (model X.prog X.w) X.A X.env X.xe) (hc : MT X T W c gc) (hb : MSs X T W body g) : MS X T W (.While c body [] pos) (sWhile gc g) := by
  refine PS.imp (ps_while hp hc hb) fun D σ H ⟨M, ρ, st, rep, go⟩ => ?_
  rcases sWhile_cases gc g ρ st with z | ⟨n, hn⟩
  · rw [z] at go; exact go.elim
  · rw [← hn] at go
    refine ⟨fun m σ' H' => ∃ M' ρ' st', Ext M M' H H' ∧ Rep X.K T M' H' σ' ρ' st' ∧ GoS X.K T W M' H' (whileL gc g m ρ' st') D, ⟨n, M, ρ, st, Ext.refl, rep, go⟩, ?_⟩
    rintro m σ' H' ⟨M', ρ', st', e', rep', go'⟩
    cases m with
    | zero => exact go'.elim
    | succ m =>
      refine ⟨M', ρ', st', rep', (GoS.bind (Rel := relB) rep' go').mono fun k H1 ⟨M1, st1, k', e1, rep1, rk, go1⟩ => ?_⟩
      have rk' : k = k' := rk
      subst rk'
      cases k with
      | false => exact go1 M1 H1 σ' Ext.refl rep1
      | true =>
        refine ⟨fun σ2 H2 => ∃ M2 ρ2 st2, Ext M M2 H H2 ∧ Rep X.K T M2 H2 σ2 ρ2 st2 ∧ GoS X.K T W M2 H2 (whileL gc g m ρ2 st2) D, fun σ2 H2 n2 => ⟨m, by omega, n2⟩, M1, ρ', st1, rep1, ?_⟩
        simp only [if_true] at go1
        cases e4 : g ρ' st1 with
        | nx ρ2 st2 => rw [e4] at go1; exact fun M3 H3 σ3 e5 rep3 => ⟨M3, ρ2, st2, e'.trans (e1.trans e5), rep3, GoS.base go1 e5⟩
        | ct ρ2 st2 => rw [e4] at go1; exact fun M3 H3 σ3 e5 rep3 => ⟨M3, ρ2, st2, e'.trans (e1.trans e5), rep3, GoS.base go1 e5⟩
        | bk ρ2 st2 => rw [e4] at go1; exact go1
        | rt u st2 => rw [e4] at go1; exact go1
        | exc c fs ρ2 st2 => rw [e4] at go1; exact go1
        | bad => rw [e4] at go1; exact go1
end
end MM
set_option maxRecDepth 100000
/-! M6: comprehensions, what is walked -/
namespace MM
open PySem PySem.Spec PyProof.Rows L2
/-- nothing is raised here -/
abbrev W0 : WX := fun _ _ _ _ => False
def R.nox {α : Type} (r : R α) : R α := match r with
  | .ok a st => .ok a st
  | _ => .bad
@[simp] theorem R.nox_ok {α : Type} (a : α) (st : Stor) : (R.ok a st).nox = .ok a st := rfl
theorem Go.nox {K T} {α β : Type} {Rel : RelT α β} {W W' : WX} {M σ H} {r : R α} {Q : β → Hp → Prop} (h : Go K T Rel W M σ H r.nox Q) : Go K T Rel W' M σ H r Q := by
  cases r with
  | ok a st => exact h
  | exc c fs st => exact h.elim
  | bad => exact h.elim
/-- the list at n, no longer than k -/
def lstAt (st : Stor) (n k : Nat) : Option (List D) := match st[n]? with
  | some (.lst acc) => if acc.length ≤ k then some acc else none
  | _ => none
theorem lstAt_some {st : Stor} {n k : Nat} {acc : List D} (h : lstAt st n k = some acc) : st[n]? = some (.lst acc) ∧ acc.length ≤ k := by
  unfold lstAt at h
  split at h
  · rename_i a e
    by_cases hk : a.length ≤ k
    · rw [if_pos hk] at h
      cases h
      exact ⟨e, hk⟩
    · rw [if_neg hk] at h
      cases h
  · cases h
/-- the turns of a comprehension from the k-th on, its list at n in the store; ρ: the slots, its own forgotten -/
noncomputable def compL (h : TgF) (c : EF Bool) (e : EF U) (ρ : Slots) (n : Nat) (lv : LV) : Nat → List D → Stor → R Unit
  | _, [], st => chk lv st .bad (.ok () st)
  | k, d :: ds, st => chk lv st .bad (match h d ρ with
    | none => .bad
    | some ρ1 => (c ρ1 st).nox.bind fun b st1 => if b = true then (e ρ1 st1).nox.bind fun u st2 => match u, lstAt st2 n k with
        | .d x, some acc => compL h c e ρ n lv (k + 1) ds (st2.set n (.lst (acc ++ [x])))
        | _, _ => .bad
      else match lstAt st1 n k with
        | some _ => compL h c e ρ n lv (k + 1) ds st1
        | none => .bad)
theorem chk_okR {lv : LV} {st : Stor} {r : R Unit} {st' : Stor} (h : chk lv st .bad r = .ok () st') : lvOk lv st ∧ r = .ok () st' := by
  have q : chk lv st .bad r ≠ R.bad := fun z => by
    rw [z] at h
    cases h
  obtain ⟨h1, h2⟩ := chk_ok q
  rw [h2] at h
  exact ⟨h1, h⟩
def wipeS (ρ : Slots) : List Nat → Slots
  | [] => ρ
  | v :: vs => (wipeS ρ vs).set v none
def finL (mk : Bool) (n : Nat) (st2 : Stor) : R U := if mk = true then .ok (.loc n) (st2.take (n + 1)) else match st2[n]? with
  | some (.lst acc) => .ok (.d (.list acc)) (st2.take n)
  | _ => .bad
/-- a comprehension; mk: its list is to change -/
noncomputable def eLc (mk : Bool) (vs : List Nat) (f : EF (List D × LV)) (h : TgF) (c : EF Bool) (e : EF U) : EF U := fun ρ st => (f ρ st).bind fun p st1 =>
  if fits p.1.length then (compL h c e (wipeS ρ vs) st1.length p.2 0 p.1 (st1 ++ [.lst []])).nox.bind fun _ st2 => finL mk st1.length st2 else .bad
theorem wipe_rep {K T M H st} {σ : L2.St} {ρ : Slots} (r : Rep K T M H σ ρ st) : ∀ vs, Rep K T M H (wipe σ vs) (wipeS ρ vs) st
  | [] => r
  | v :: vs => (wipe_rep r vs).forget v none
def blkX (X : Cx) (scope : Scope) (s : Shared) (H : Hp) (C : Addr) (cl : List (Str × Addr)) (fp : List Addr) : Cx := X.blk s H scope (compEnvC scope cl C X.env) fp
section
variable {X : Cx} {T : Nat → Addr} {W : WX} {pos : Pos} {vs : List Nat} {tg it elt : Expr} {ifs : List Expr} {scope : Scope} {own : List (Str × Nat)} {h : TgF} {f : EF (List D × LV)} {fc : EF Bool} {fe : EF U}
abbrev MTs (X : Cx) (T : Nat → Addr) (W : WX) (ifs : List Expr) (f : EF Bool) : Prop := PTs X ifs (Tg X.K T relB W f)
theorem PTs.imp {X : Cx} {e : List Expr} {t t' : TT} (h : PTs X e t) (w : ∀ σ H Q, t' σ H Q → t σ H Q) : PTs X e t' := ⟨fun pins s σ H Q I q => h.run pins s σ H Q I (w σ H Q q)⟩
def eYes : EF Bool := fun _ st => .ok true st
theorem mts_nil : MTs X T W [] eYes := PTs.imp pts_nil fun σ H Q ⟨M, ρ, st, rep, go⟩ => Go.now rep.sto go rfl
theorem mts_one {c : Expr} (hc : MT X T W c fc) : MTs X T W [c] fc := pts_one hc
theorem lc_of {mk : Bool} {K : PySem.W.Frag} {σ : L2.St} {H : Hp} {Q : VK} {gg : TG}
    (hgg : ∀ x σ H Q, (∃ M ρ st d ρ', Rep K T M H σ ρ st ∧ RD K T M H x d ∧ h d ρ = some ρ' ∧ ∀ σ', But vs σ σ' → Rep K T M H σ' ρ' st → Q σ' H) → gg x σ H Q)
    (hh : Tg K T (relU K T) W (eLc mk vs f h fc fe) σ H Q) : tLc (Tg K T (relV K T) W f) gg (Tg K T relB W0 fc) (Tg K T (relU K T) W0 fe) vs σ H Q := by
  obtain ⟨M, ρ, st, rep, go⟩ := hh
  refine ⟨M, ρ, st, rep, (Go.bind (Rel := relV K T) rep go).mono fun J H1 ⟨M1, st1, ⟨ds, lv⟩, e1, rep1, ok, go1⟩ => ?_⟩
  have ok : IterL K T J ds lv M1 H1 := ok
  intro L hL
  by_cases hz : fits ds.length = true
  case neg => simp only [hz] at go1; exact go1.elim
  simp only [hz, if_true] at go1
  have lenM : M1.length = st1.length := rep1.sto.len
  cases hR : compL h fc fe (wipeS ρ vs) st1.length lv 0 ds (st1 ++ [.lst []]) with
  | exc _ _ _ => rw [hR] at go1; exact go1.elim
  | bad => rw [hR] at go1; exact go1.elim
  | ok _ stF =>
  rw [hR] at go1
  have go2 : Go K T (relU K T) W M1 σ H1 (finL mk st1.length stF) Q := go1
  obtain ⟨e0, s0⟩ := rep1.sto.push (o := .lst []) (ob := .lst []) hL fun _ => ⟨L, [], rfl, upd_same, .nil⟩
  have repW := wipe_rep (rep1.ext e0 s0) vs
  -- the state at turn i
  let Pv : Nat → Hp → Prop := fun i H' => ∃ M' st' acc, Ext (M1 ++ [some L]) M' (L2.upd H1 L (.lst [])) H' ∧ Rep K T M' H' (wipe σ vs) (wipeS ρ vs) st' ∧ st'[st1.length]? = some (.lst acc) ∧ acc.length ≤ i ∧ compL h fc fe (wipeS ρ vs) st1.length lv i (ds.drop i) st' = .ok () stF
  -- where the list lies
  have at_ : ∀ {M' H' st' acc}, Ext (M1 ++ [some L]) M' (L2.upd H1 L (.lst [])) H' → Rst K T M' H' st' → st'[st1.length]? = some (.lst acc) → M'[st1.length]? = some (some L) ∧ ∃ xs, H' L = some (.lst xs) ∧ RDs K T M' H' xs acc := by
    intro M' H' st' acc ex s hs
    obtain ⟨m, hm, a, xs, rfl, ha, ra⟩ := s.get hs
    have hl : (M1 ++ [some L])[st1.length]? = some (some L) := by rw [← lenM]; simp
    rcases ex.old _ _ hl with q | q
    · rw [hm] at q
      cases q
      exact ⟨hm, xs, ha, ra⟩
    · rw [hm] at q
      cases q
  refine ⟨fun i m H' => m = ds.length - i ∧ i ≤ ds.length ∧ Pv i H', ⟨ds.length, by simp, Nat.zero_le _, M1 ++ [some L], st1 ++ [.lst []], [], Ext.refl, repW, by simp, Nat.le_refl _, by simpa using hR⟩, ?_⟩
  rintro i m H' ⟨rfl, hi, M', st', acc, e', rep', hacc, hlen, hcomp⟩
  have eM : Ext M1 M' H1 H' := e0.trans e'
  have live : lvOk lv st' := by
    by_cases hlt : i < ds.length
    · rw [List.drop_eq_getElem_cons hlt] at hcomp
      exact (chk_okR hcomp).1
    · rw [List.drop_eq_nil_of_le (by omega)] at hcomp
      exact (chk_okR hcomp).1
  obtain ⟨okg, oks, oky⟩ := ok M' H' st' eM rep'.sto live
  by_cases hlt : i < ds.length
  · rw [List.drop_eq_getElem_cons hlt] at hcomp
    have hcomp := (chk_okR hcomp).2
    refine .inr ⟨okg i hlt, fun H2 => Pv (i + 1) H2, fun H2 n2 => ⟨ds.length - (i + 1), by omega, rfl, hlt, n2⟩, fun x H2 y => ?_⟩
    obtain ⟨d, hd, r, e2, s2⟩ := oky i x H2 hlt y
    have ed : ds[i] = d := by
      rw [List.getElem?_eq_getElem hlt] at hd
      exact Option.some.inj hd
    rw [ed] at hcomp
    cases e3 : h d (wipeS ρ vs) with
    | none => rw [e3] at hcomp; cases hcomp
    | some ρ1 =>
    rw [e3] at hcomp
    simp only at hcomp
    have rep2 := rep'.ext e2 (s2 st' rep'.sto)
    refine hgg x _ H2 _ ⟨M', wipeS ρ vs, st', d, ρ1, rep2, r, e3, fun σ2 b2 rep3 => ⟨b2.wipe.trans wipe_wipe, ?_⟩⟩
    cases e4 : fc ρ1 st' with
    | exc _ _ _ => rw [e4] at hcomp; cases hcomp
    | bad => rw [e4] at hcomp; cases hcomp
    | ok b stb =>
    rw [e4] at hcomp
    simp only [R.nox_ok, R.bind_ok] at hcomp
    refine ⟨M', ρ1, st', rep3, ?_⟩
    rw [e4]
    intro M4 H4 b' e5 s4 hb
    have hb' : b' = b := hb
    subst hb'
    have e6 := e'.trans (e2.trans e5)
    cases b' with
    | false =>
      -- the list as it stood
      have hcomp' : (match lstAt stb st1.length i with
        | some _ => compL h fc fe (wipeS ρ vs) st1.length lv (i + 1) (ds.drop (i + 1)) stb
        | none => .bad) = .ok () stF := hcomp
      cases e7 : lstAt stb st1.length i with
      | none => rw [e7] at hcomp'; cases hcomp'
      | some acc' =>
        rw [e7] at hcomp'
        obtain ⟨h1, h2⟩ := lstAt_some e7
        exact ⟨M4, stb, acc', e6, rep'.ext (e2.trans e5) s4, h1, by omega, hcomp'⟩
    | true =>
      simp only [if_true] at hcomp
      cases e7 : fe ρ1 stb with
      | exc _ _ _ => rw [e7] at hcomp; cases hcomp
      | bad => rw [e7] at hcomp; cases hcomp
      | ok u ste =>
      rw [e7] at hcomp
      simp only [R.nox_ok, R.bind_ok] at hcomp
      cases u with
      | loc _ => cases hcomp
      | d z =>
      cases e8 : lstAt ste st1.length i with
      | none => rw [e8] at hcomp; cases hcomp
      | some acc' =>
      rw [e8] at hcomp
      simp only at hcomp
      obtain ⟨e8', hk⟩ := lstAt_some e8
      show (Tg K T (relU K T) W0 fe) σ2 H4 _
      refine ⟨M4, ρ1, stb, rep3.ext e5 s4, ?_⟩
      rw [e7]
      intro M5 H5 v e9 s5 rv
      have e10 := e6.trans e9
      obtain ⟨hM5, xs, hx, rx⟩ := at_ e10 s5 e8'
      cases rv with
      | d rv =>
      refine ⟨xs, hx, ?_, ?_⟩
      · rw [rx.length]
        have := fits_le hz
        omega
      · obtain ⟨e11, s11⟩ := s5.wr (o := .lst (xs ++ [v])) (ob := .lst (acc' ++ [z])) hM5 fun ex => ⟨L, xs ++ [v], rfl, upd_same, (rx.ext ex).app (.cons (rv.ext ex) .nil)⟩
        refine ⟨M5, _, acc' ++ [z], e10.trans e11, (rep'.ext ((e2.trans e5).trans e9) s5).ext e11 s11, ?_, ?_, hcomp⟩
        · rw [List.getElem?_set_self (List.getElem?_eq_some_iff.mp e8').1]
        · rw [List.length_append, List.length_singleton]
          omega
  · have e : i = ds.length := by omega
    subst e
    rw [List.drop_length] at hcomp
    have hc' : (R.ok () st' : R Unit) = .ok () stF := (chk_okR hcomp).2
    cases hc'
    refine .inl ⟨oks, ?_⟩
    obtain ⟨hM, xs, hx, rx⟩ := at_ e' rep'.sto hacc
    unfold finL at go2
    cases mk with
    | true =>
      simp only [if_true] at go2
      have hlt1 : M1.length + 1 ≤ M'.length := by
        have := (List.getElem?_eq_some_iff.mp hM).1
        omega
      have ex : Ext M1 (M'.take (M1.length + 1)) H1 H' := by
        have h1 : Ext (M1 ++ [some L]) (M'.take (M1.length + 1)) (L2.upd H1 L (.lst [])) H' := e'.take _ (by simp)
        exact e0.trans h1
      refine go2 _ H' (.ref L) ex (by rw [lenM]; exact rep'.sto.take _) (.loc ?_)
      rw [List.getElem?_take_of_lt (by omega)]
      exact hM
    | false =>
      simp only [hacc] at go2
      have ex : Ext M1 (M'.take M1.length) H1 H' := eM.take _ rfl
      refine go2 _ H' (.ref L) ex (by rw [lenM]; exact rep'.sto.take _) (.d (.lst (fun z => ?_) hx (rx.sub fun a h => List.mem_of_mem_take h)))
      obtain ⟨j, hj⟩ := List.getElem?_of_mem z
      have hjl : j < M1.length := by
        have := (List.getElem?_eq_some_iff.mp hj).1
        rw [List.length_take] at this
        omega
      rw [List.getElem?_take_of_lt hjl] at hj
      have := rep'.sto.nd j st1.length L hj hM
      omega

theorem m_lc (mk : Bool) (hc : X.calm = true) (hN : X.N.Nodup) (hi : MV X T W tg it f) (ok : BlkOk X.N X.env.scope scope own)
    (hg : ∀ (s : Shared) (H : Hp) (C : Addr) (cl : List (Str × Addr)) (fp : List Addr), MG (X.blk s H scope (compEnvC scope cl C X.env) fp) T vs tg h)
    (ht : ∀ (s : Shared) (H : Hp) (C : Addr) (cl : List (Str × Addr)) (fp : List Addr), MTs (X.blk s H scope (compEnvC scope cl C X.env) fp) T W0 ifs fc)
    (he : ∀ (s : Shared) (H : Hp) (C : Addr) (cl : List (Str × Addr)) (fp : List Addr), ME (X.blk s H scope (compEnvC scope cl C X.env) fp) T W0 elt fe)
    (hvs : own.map (·.2) = vs := by rfl) (hs : ∀ x, foldedSetIterable it X.env x = pure x := by intro _; rfl) :
    ME X T W (.ListComp elt [⟨tg, it, ifs, 0⟩] scope pos) (eLc mk vs f h fc fe) := by
  subst hvs
  exact PE.imp (pe_lc (g := mgT X.K T _ h) hc hN hi ok hg ht he hs) fun σ H Q hh => lc_of (fun _ _ _ _ q => q) hh
/-- name = [..] on one line, the name a local -/
theorem ms_setLc (mk : Bool) {i : Nat} {y : Str} {py spos : Pos} (hc : X.calm = true) (hN : X.N.Nodup) (hy : X.N[i]? = some y) (hyl : X.env.scope.names.lookup y = some .local)
    (hsw : swapsWith (.ListComp elt [⟨tg, it, ifs, 0⟩] scope pos) (some (.Name y py)) spos.line X.env = pure true) (hi : MV X T W tg it f) (ok : BlkOk X.N X.env.scope scope own)
    (hg : ∀ (s : Shared) (H : Hp) (C : Addr) (cl : List (Str × Addr)) (fp : List Addr), MG (X.blk s H scope (compEnvC scope cl C X.env) fp) T vs tg h)
    (ht : ∀ (s : Shared) (H : Hp) (C : Addr) (cl : List (Str × Addr)) (fp : List Addr), MTs (X.blk s H scope (compEnvC scope cl C X.env) fp) T W0 ifs fc)
    (he : ∀ (s : Shared) (H : Hp) (C : Addr) (cl : List (Str × Addr)) (fp : List Addr), ME (X.blk s H scope (compEnvC scope cl C X.env) fp) T W0 elt fe)
    (hvs : own.map (·.2) = vs := by rfl) (hs : ∀ x, foldedSetIterable it X.env x = pure x := by intro _; rfl) :
    MS X T W (.Assign [.Name y py] (.ListComp elt [⟨tg, it, ifs, 0⟩] scope pos) spos) (sSet i (eLc mk vs f h fc fe)) := by
  subst hvs
  refine PS.imp (ps_setLc (g := mgT X.K T _ h) (tt := Tg X.K T relB W0 fc) (te := Tg X.K T (relU X.K T) W0 fe) hc hN hy hyl hsw hi ok hg ht he hs) fun D σ H ⟨M, ρ, st, rep, go⟩ => ?_
  refine lc_of (mk := mk) (W := W) (fun _ _ _ _ q => q) ?_
  exact ⟨M, ρ, st, rep, (GoS.bind (Rel := relU X.K T) rep go).mono fun v H1 ⟨M1, st1, u, e1, rep1, ru, go1⟩ => go1 M1 H1 _ Ext.refl (rep1.set i ru)⟩
end
end MM
set_option maxRecDepth 100000
/-! M7: what is walked: lists, tuples, texts, ranges, enumerate -/
namespace MM
open PySem PySem.Spec PyProof.Rows L2
/-! ### enumerate of any value, at the library's level -/
set_option maxHeartbeats 1000000 in
theorem meets_enum1 {v : Value} {o : Obj} {H : Heap → Prop} (B : Begins v o H) :
    Meets (Builtin.«enumerate.__new__» ⟨[.type "enumerate", v], []⟩) (fun _ R s => H s.heap ∧
      R (.ok (.ret (.ref (s.heap.push o).objs.size))) { s with heap := (s.heap.push o).push { cls := .type "enumerate", data := .fields #[.none, .bool false, .ref s.heap.objs.size, rawInt 0, .none, .none] } }) :=
  .of_wp fun prog w A R s h => by
    obtain ⟨hp, g, d, tk, os⟩ := s; obtain ⟨h1, h⟩ := h
    have hsub := sub_enumerate
    have q1 : ∀ {A' : Around} {E : Value → Shared → Prop} {Q : Value → Shared → Prop}, Q (.ref hp.objs.size) ⟨hp.push o, g, d, tk, os⟩ → wpAny (model prog w) A' (pyIter v) Q E ⟨hp, g, d, tk, os⟩ :=
      fun q => B.iter prog w _ _ ⟨hp, g, d, tk, os⟩ _ h1 q
    wp_walk using q1
    refine wpAny_stack_any fun st => wpAny_pure ?_
    split
    · rename_i c _ _ _ _ _
      cases (c == Value.type "enumerate")
      · wp_walk using q1
        exact ⟨_, rfl, h⟩
      · wp_walk using q1
        exact ⟨_, rfl, h⟩
    · wp_walk using q1
      exact ⟨_, rfl, h⟩
theorem enum1_begins {prog : Program} {w : World} {A : Around} {E : Value → Shared → Prop} {s : Shared} {v : Value} {o : Obj} {H : Heap → Prop} {Q : Value → Shared → Prop} (B : Begins v o H) (h1 : H s.heap)
    (h : ∀ h', IsEnum h' (s.heap.objs.size + 1) s.heap.objs.size 0 .none → h'.get? s.heap.objs.size = some o → h'.objs.size = s.heap.objs.size + 2 →
      (∀ b o, s.heap.get? b = some o → h'.get? b = some o) → Q (.ref (s.heap.objs.size + 1)) { s with heap := h' }) :
    wpAny (model prog w) A (call (.type "enumerate") [v]) Q E s := by
  refine callType_new F.called_enumerate (by decide) (F.typeCall_enumerate_1 _) (F.newCall_enumerate_1 _) (fun obj => F.args_object_init_2 obj _) F.entry_enumerate_new
    (meets_enum1 B) ⟨h1, ?_⟩
  have hz : (s.heap.push o).objs.size = s.heap.objs.size + 1 := Heap.size_push ..
  show _ ∧ _
  rw [hz]
  have he : IsEnum ((s.heap.push o).push { cls := .type "enumerate", data := .fields #[.none, .bool false, .ref s.heap.objs.size, rawInt 0, .none, .none] }) (s.heap.objs.size + 1) s.heap.objs.size 0 .none := by
    have := Heap.get?_push_size (s.heap.push o) (o := { cls := .type "enumerate", data := .fields #[.none, .bool false, .ref s.heap.objs.size, rawInt 0, .none, .none] }) rfl
    rw [hz] at this; exact this
  refine ⟨⟨_, he, rfl⟩, h _ he (Heap.get?_push_of_some _ (Heap.get?_push_size _ B.free)) (by rw [Heap.size_push, hz]) fun b o x => Heap.get?_push_of_some _ (Heap.get?_push_of_some _ x)⟩

/-- the pairs (i, the i-th of xs), while G stands -/
def IteS (G : Hp → Prop) (xs : List V) : It :=
  ⟨fun i H => G H ∧ i < xs.length, fun i H v H' => ∃ T x, v = .ref T ∧ H T = none ∧ H' = L2.upd H T (.tup [.int (i : Nat), x]) ∧ xs[i]? = some x, fun i H => G H ∧ i = xs.length⟩
theorem turn_enumG {P : Program} {w : World} {K : PySem.W.Frag} {elts : List Expr} {kk : Nat} {tpos : Pos} (e it : Addr) (xs : List V) (G : Hp → Prop) (Sti : Nat → Heap → Prop)
    (hobj : ∀ i h, Sti i h → ∃ o, h.get? it = some o ∧ ∀ v, o.data ≠ .cell v)
    (hkeep : ∀ i h h', Sti i h → (∀ o, h.get? it = some o → h'.get? it = some o) → Sti i h')
    (hdr : ∀ (X : Cx), X.prog = P → X.w = w → X.K = K → X.calm = true → ∀ (pins : List (Addr × Obj)) (s : Shared) (σ : L2.St) (H : Hp), Inv X pins σ H s → G H → ∃ (fp : List Addr) (Pr : Nat → Value → Prop) (St' : Nat → Heap → Prop),
      Draws P w X.A.in1 it fp xs.length Pr St' ∧ (∀ i h, St' i h → Sti i h) ∧ (∀ i, Sti i s.heap → St' i s.heap) ∧ (∀ i v, Pr i v → ∃ x, xs[i]? = some x ∧ RelV x v) ∧ ∀ b ∈ fp, b = it ∨ ∃ o, s.heap.get? b = some o ∧ o.cls = .type "tuple") :
    Turn P w K (.Tuple elts kk tpos) (IteS G xs) [e, it] e (fun i h => (∃ old, IsEnum h e it ((i : Nat) : Int) old) ∧ Sti i h ∧ e ≠ it) where
  mem := by simp
  obj := fun i h st b hb => by
    obtain ⟨⟨old, he⟩, hi, _⟩ := st
    have e' : b = e ∨ b = it := by simpa using hb
    rcases e' with z | z
    · rw [z]; exact ⟨_, he, fun v q => nomatch q⟩
    · rw [z]; exact hobj i h hi
  keep := fun i h h' st k => let ⟨⟨old, he⟩, hi, hne⟩ := st; ⟨⟨old, k e (by simp) _ he⟩, hkeep i h h' hi fun o q => k it (by simp) o q, hne⟩
  item := by
    intro X hP hw hK hc i pins s σ H E I hf st hg
    obtain ⟨⟨old, he⟩, hit, hne⟩ := st
    obtain ⟨hG, hi⟩ := hg
    obtain ⟨fp, Pr, St', D, d1, d2, d3, d4⟩ := hdr X hP hw hK hc pins s σ H I hG
    subst hP hw hK
    have hel : e < s.heap.objs.size := Heap.lt_size he
    have hil : it < s.heap.objs.size := by obtain ⟨_, q, _⟩ := hobj i _ hit; exact Heap.lt_size q
    have hef : e ∉ fp := fun z => by
      rcases d4 e z with q | ⟨o, q1, q2⟩
      · exact hne q
      · have he' : s.heap.get? e = some _ := he
        rw [he'] at q1
        cases q1
        simp at q2
    refine wpAny_pyNext_enum_itemC D he (d2 i hit) hi hne hef fun u h' tk hP ho hit' hT hsz hk => ?_
    obtain ⟨x, hx, ru⟩ := d3 i u hP
    refine ⟨_, rfl, wpAny_letOwnedTupleGo_enum (s := { s with heap := h', toks := tk + 1 }) ho fun h'' he' sb => ?_⟩
    have hT2 : h''.get? s.heap.objs.size = some { cls := .type "tuple", data := .seq #[.int i tk, u] } := (sb.2 _ (Nat.ne_of_gt hel)).trans hT
    have new : ObjOk X.prog X.w (L2.upd H s.heap.objs.size (.tup [.int (i : Nat), x])) h'' s.heap.objs.size (.tup [.int (i : Nat), x]) :=
      ⟨by show 2 ≤ sizeLine; decide, [.int i tk, u], .cons ⟨_, rfl⟩ (.cons ru .nil), ⟨_, hT2, rfl, _, rfl⟩⟩
    have I1 : Inv X pins σ (L2.upd H s.heap.objs.size (.tup [.int (i : Nat), x])) { s with heap := h'', toks := tk + 1 } :=
      I.turnedNew (ch := [e, it]) (fun b ob hb q => (sb.2 b (fun z => hb (by simp [z]))).trans (hk b ob (fun z => hb (by simp [z])) (fun z => hb (by simp [z])) q)) hf (Nat.le_refl _) new
    refine ⟨.ref s.heap.objs.size, _, I1, rfl, ⟨_, x, rfl, I.hok.fresh (Nat.le_refl _), rfl, hx⟩, ⟨⟨u, ?_⟩, hkeep _ _ _ (d1 _ _ hit') fun o q => (sb.2 it (Ne.symm hne)).trans q, hne⟩, fun b hb => ?_⟩
    · have e1 : ((i + 1 : Nat) : Int) = (i : Int) + 1 := by omega
      rw [e1]; exact he'
    · have hb' : b < s.heap.objs.size := by
        have e' : b = e ∨ b = it := by simpa using hb
        rcases e' with z | z
        · rw [z]; exact hel
        · rw [z]; exact hil
      rw [upd_ne (Nat.ne_of_lt hb')]
      exact (hf b hb).1
  done := by
    intro X hP hw hK hc i pins s σ H E I hf st hg
    obtain ⟨⟨old, he⟩, hit, hne⟩ := st
    obtain ⟨hG, hi⟩ := hg
    obtain ⟨fp, Pr, St', D, d1, d2, d3, d4⟩ := hdr X hP hw hK hc pins s σ H I hG
    subst hP hw hK
    obtain ⟨f0, f1, f2, f3, f4, f5⟩ := hf it (by simp)
    subst hi
    exact wpAny_pyNext_enum_endD D he (d2 _ hit) fun h' eb => ⟨rfl, I.turned (t' := s.toks) (fun b o hb q => eb b o hb q) f0 f1 f3 f4 f5⟩
  self := fun A i s Q E st h => let ⟨⟨_, he⟩, _⟩ := st; wpAny_pyIter_enum he h

/-! ### a list, a tuple, a text: the items as data -/
def D.items : D → Option (List D)
  | .list xs => some xs
  | .tuple xs => some xs
  | .str s => some (s.cps.toList.map fun c => .str ⟨#[c]⟩)
  | .scr ns => some (ns.map .int)
  | _ => Option.none
/-- what is walked must be frozen -/
def kItems : U → Stor → R (List D) := fun u st => match u with
  | .d x => match x.items with
    | some ds => .ok ds st
    | none => .bad
  | .loc _ => .bad
def eItems (f : EF U) : EF (List D) := fun ρ st => (f ρ st).bind kItems
theorem strOk_get {z : Str} {i c : Nat} (h : PyData.strOk z = true) (e : z.cps[i]? = some c) : PyData.strOk ⟨#[c]⟩ = true := by
  have hk' : z.cps.all (· < 0x110000) = true := h
  rw [Array.all_eq_true'] at hk'
  have hm : c ∈ z.cps := Array.mem_of_getElem? e
  have := hk' c hm
  show (#[c] : Array Nat).all (· < 0x110000) = true
  simpa using this
theorem RDs.ints {K T M H} : ∀ (ns : List Int), RDs K T M H (ns.map V.int) (ns.map D.int)
  | [] => .nil
  | n :: ns => .cons (.int n) (RDs.ints ns)
section
variable {X : Cx} {T : Nat → Addr} {W : WX} {pos p tpos : Pos} {tg e a b c : Expr} {elts : List Expr} {kk : Nat} {fa fb fc : EF U} {fs : EF (List U)}
theorem iter_list {pins : List (Addr × Obj)} {s1 : Shared} {σ : L2.St} {H1 : Hp} {R : It → Hp → Prop} {E : Value → Shared → Prop} {a : Addr} {xs : List V} (I1 : Inv X pins σ H1 s1) (hq : SqL X.K H1 a xs) (q : R (Itl X.K a) H1) :
    wpAny (model X.prog X.w) X.A (pyIter (.ref a)) (PIE X pins σ tg R) E s1 := by
  obtain ⟨its, rv, p, hz⟩ := I1.list hq
  refine wpAny_pyIter_list p.isList ?_
  exact pi_one (tk := s1.toks) I1 _ (turn_list a _) ⟨_, Heap.get?_push_size _ rfl, rfl, rfl⟩ q
theorem iter_tup {pins : List (Addr × Obj)} {s1 : Shared} {σ : L2.St} {H1 : Hp} {R : It → Hp → Prop} {E : Value → Shared → Prop} {a : Addr} {xs : List V} (I1 : Inv X pins σ H1 s1) (hq : SqT X.K H1 a xs) (q : R (Itt X.K a) H1) :
    wpAny (model X.prog X.w) X.A (pyIter (.ref a)) (PIE X pins σ tg R) E s1 := by
  obtain ⟨its, rv, p, hz⟩ := I1.tuple hq
  refine wpAny_pyIter_tuple (show s1.heap.IsTuple a its.toArray from p) ?_
  exact pi_one (tk := s1.toks) I1 _ (turn_tuple a _) ⟨_, Heap.get?_push_size _ rfl, rfl, rfl⟩ q
theorem iter_str {pins : List (Addr × Obj)} {s1 : Shared} {σ : L2.St} {H1 : Hp} {R : It → Hp → Prop} {E : Value → Shared → Prop} {x : Str} {t : Tok} (I1 : Inv X pins σ H1 s1) (q : R (Its x) H1) :
    wpAny (model X.prog X.w) X.A (pyIter (.str x t)) (PIE X pins σ tg R) E s1 := by
  cases ha : x.cps.all (· < 128)
  · exact wpAny_pyIter_wide ha (pi_one (tk := s1.toks) I1 _ (turn_str _ x t "str_iterator" (.inr rfl)) ⟨_, Heap.get?_push_size _ rfl, rfl, rfl⟩ q)
  · exact wpAny_pyIter_ascii ha (pi_one (tk := s1.toks) I1 _ (turn_str _ x t "str_ascii_iterator" (.inl rfl)) ⟨_, Heap.get?_push_size _ rfl, rfl, rfl⟩ q)
/-- list, tuple or text, walked -/
def iAny (K : PySem.W.Frag) (te : TE) : TI := fun σ H R => te σ H fun x H1 => (∃ a, x = .ref a ∧ (∃ xs, SqL K H1 a xs) ∧ R (Itl K a) H1) ∨ ((∃ a, x = .ref a ∧ (∃ xs, SqT K H1 a xs) ∧ R (Itt K a) H1) ∨ ∃ z, x = .str z ∧ R (Its z) H1)
theorem pi_any {te : TE} (he : PE X e te) : PI X tg e (iAny X.K te) := by
  refine ⟨fun pins s σ H R I h => ?_⟩
  refine thn (he.run pins s σ H _ I h) fun v s1 ⟨x, H1, I1, r1, q1⟩ => ?_
  rcases q1 with ⟨a, rfl, ⟨xs, hq⟩, q⟩ | ⟨a, rfl, ⟨xs, hq⟩, q⟩ | ⟨z, rfl, q⟩
  · cases r1
    exact iter_list I1 hq q
  · cases r1
    exact iter_tup I1 hq q
  · obtain ⟨t, rfl⟩ := r1
    exact iter_str I1 q
theorem ok_list {K T M H a xs ds} (h : ∀ M1 H1, Ext M M1 H H1 → SqL K H1 a xs ∧ RDs K T M1 H1 xs ds) : IterOk K T (Itl K a) ds M H := fun M1 H1 st1 e s1 => by
  obtain ⟨q, r⟩ := h M1 H1 e
  refine ⟨fun i hi => ?_, ⟨xs, q, by rw [r.length]; exact Nat.le_refl _⟩, fun i x H2 hi y => ?_⟩
  · have hi' : i < xs.length := by rw [r.length]; exact hi
    exact ⟨xs, xs[i], q, by simp [hi']⟩
  · obtain ⟨rfl, y⟩ := y
    obtain ⟨d, hd, rd'⟩ := r.get' (y xs q)
    exact ⟨d, hd, rd', Ext.refl, fun _ s => s⟩
theorem ok_tup {K T M H a xs ds} (h : ∀ M1 H1, Ext M M1 H H1 → SqT K H1 a xs ∧ RDs K T M1 H1 xs ds) : IterOk K T (Itt K a) ds M H := fun M1 H1 st1 e s1 => by
  obtain ⟨q, r⟩ := h M1 H1 e
  refine ⟨fun i hi => ?_, ⟨xs, q, by rw [r.length]; exact Nat.le_refl _⟩, fun i x H2 hi y => ?_⟩
  · have hi' : i < xs.length := by rw [r.length]; exact hi
    exact ⟨xs, xs[i], q, by simp [hi']⟩
  · obtain ⟨rfl, y⟩ := y
    obtain ⟨d, hd, rd'⟩ := r.get' (y xs q)
    exact ⟨d, hd, rd', Ext.refl, fun _ s => s⟩
theorem ok_str {K T M H} {z : Str} (hk : PyData.strOk z = true) : IterOk K T (Its z) (z.cps.toList.map fun c => .str ⟨#[c]⟩) M H := fun M1 H1 st1 e s1 => by
  have hl : (z.cps.toList.map fun c => D.str ⟨#[c]⟩).length = z.cps.size := by simp
  refine ⟨fun i hi => by rw [hl] at hi; exact hi, by rw [hl]; exact Nat.le_refl _, fun i x H2 hi y => ?_⟩
  obtain ⟨rfl, c, hc, rfl⟩ := y
  refine ⟨.str ⟨#[c]⟩, ?_, .str (strOk_get hk hc), Ext.refl, fun _ s => s⟩
  rw [List.getElem?_map, Array.getElem?_toList, hc]
  rfl
theorem ok_range {K T M H} {lo : Int} {n : Nat} : IterOk K T (Itr lo n) ((List.range n).map fun (i : Nat) => .int (lo + i)) M H := fun M1 H1 st1 e s1 => by
  have hl : ((List.range n).map fun (i : Nat) => D.int (lo + i)).length = n := by simp
  refine ⟨fun i hi => by rw [hl] at hi; exact hi, by rw [hl]; exact Nat.le_refl _, fun i x H2 hi y => ?_⟩
  obtain ⟨rfl, rfl⟩ := y
  rw [hl] at hi
  exact ⟨.int (lo + i), by rw [List.getElem?_map, List.getElem?_range hi]; rfl, .int _, Ext.refl, fun _ s => s⟩
theorem ok_rangeC {K T M H} {lo c : Int} {n : Nat} : IterOk K T (Itc lo c n) ((List.range n).map fun (i : Nat) => .int (lo + i * c)) M H := fun M1 H1 st1 e s1 => by
  have hl : ((List.range n).map fun (i : Nat) => D.int (lo + i * c)).length = n := by simp
  refine ⟨fun i hi => by rw [hl] at hi; exact hi, by rw [hl]; exact Nat.le_refl _, fun i x H2 hi y => ?_⟩
  obtain ⟨rfl, rfl⟩ := y
  rw [hl] at hi
  exact ⟨.int (lo + i * c), by rw [List.getElem?_map, List.getElem?_range hi]; rfl, .int _, Ext.refl, fun _ s => s⟩
/-- the items of a frozen value stay -/
theorem items_seq {K T M H} {v : V} {x : D} (r : RD K T M H v x) {ds : List D} (h : x.items = some ds) :
    (∃ a xs, v = .ref a ∧ ∀ M1 H1, Ext M M1 H H1 → SqL K H1 a xs ∧ RDs K T M1 H1 xs ds) ∨ ((∃ a xs, v = .ref a ∧ ∀ M1 H1, Ext M M1 H H1 → SqT K H1 a xs ∧ RDs K T M1 H1 xs ds) ∨ ∃ z, v = .str z ∧ PyData.strOk z = true ∧ ds = z.cps.toList.map fun c => .str ⟨#[c]⟩) := by
  cases r with
  | lst hm ha rs =>
    cases h
    exact .inl ⟨_, _, rfl, fun M1 H1 e => ⟨.inl (.inl (e.keep _ _ ha hm rfl)), rs.ext e⟩⟩
  | scr hs =>
    cases h
    exact .inl ⟨_, _, rfl, fun M1 H1 e => ⟨sql_of (hs.imp (fun f => f.ext e rfl fun _ => rfl) id), RDs.ints _⟩⟩
  | tup ha rs =>
    cases h
    exact .inr (.inl ⟨_, _, rfl, fun M1 H1 e => ⟨sqt_of (ha.imp (fun f => f.ext e rfl fun _ => rfl) id), rs.ext e⟩⟩)
  | str hk =>
    cases h
    exact .inr (.inr ⟨_, rfl, hk, rfl⟩)
  | non => cases h
  | bl _ => cases h
  | int _ => cases h
  | dK _ _ => cases h
  | dT _ _ => cases h
  | ins _ _ _ => cases h
  | fn _ => cases h
  | xn => cases h
  | exc _ _ _ => cases h
theorem kItems_go {β : Type} {Rel : RelT (List D) β} {M σ H st u} {Q : β → Hp → Prop} {v : V} (r : RU X.K T M H v u) (go : Go X.K T Rel W M σ H (kItems u st) Q) : ∃ x ds, RD X.K T M H v x ∧ x.items = some ds ∧ Go X.K T Rel W M σ H (.ok ds st) Q := by
  cases u with
  | loc i => exact go.elim
  | d x =>
    cases r with
    | d r =>
      have go' : Go X.K T Rel W M σ H (match x.items with
        | some ds => .ok ds st
        | none => .bad) Q := go
      cases e : x.items with
      | none => rw [e] at go'; exact go'.elim
      | some ds => rw [e] at go'; exact ⟨x, ds, r, e, go'⟩
theorem mi_any (he : ME X T W e fa) : MI X T W tg e (eItems fa) := by
  refine PI.imp (pi_any he) fun σ H R ⟨M, ρ, st, rep, go⟩ => ?_
  refine ⟨M, ρ, st, rep, (Go.bind (Rel := relU X.K T) rep go).mono fun v H1 ⟨M1, st1, u, e1, rep1, ru, go1⟩ => ?_⟩
  obtain ⟨x, ds, r, hi, go2⟩ := kItems_go ru go1
  rcases items_seq r hi with ⟨a, xs, rfl, h⟩ | ⟨a, xs, rfl, h⟩ | ⟨z, rfl, hk, rfl⟩
  · exact .inl ⟨a, rfl, ⟨xs, (h M1 H1 Ext.refl).1⟩, Go.now rep1.sto go2 (ok_list h)⟩
  · exact .inr (.inl ⟨a, rfl, ⟨xs, (h M1 H1 Ext.refl).1⟩, Go.now rep1.sto go2 (ok_tup h)⟩)
  · exact .inr (.inr ⟨z, rfl, Go.now rep1.sto go2 (ok_str hk)⟩)
/-! ### range -/
def inR (i : Int) : Bool := decide (-(2 ^ 62) ≤ i) && decide (i < 2 ^ 62)
def kRange1 : List U → Stor → R (List D) := fun us st => match us with
  | [.d (.int j)] => if inR j then .ok ((List.range j.toNat).map fun (i : Nat) => .int (0 + i)) st else .bad
  | _ => .bad
def kRange2 : List U → Stor → R (List D) := fun us st => match us with
  | [.d (.int i), .d (.int j)] => if inR i && inR j then .ok ((List.range (j - i).toNat).map fun (k : Nat) => .int (i + k)) st else .bad
  | _ => .bad
/-- how many of i, i + c, .. lie ahead of j -/
def rgN (i j c : Int) : Nat := if 0 < c then ((j - i + c - 1) / c).toNat else ((i - j + (-c) - 1) / (-c)).toNat
def kRange3 : List U → Stor → R (List D) := fun us st => match us with
  | [.d (.int i), .d (.int j), .d (.int c)] => if inR i && inR j && (decide (c = 1) || decide (c = -1)) then .ok ((List.range (rgN i j c)).map fun (k : Nat) => .int (i + k * c)) st else .bad
  | _ => .bad
def eRange1 (fs : EF (List U)) : EF (List D) := fun ρ st => (fs ρ st).bind kRange1
def eRange2 (fs : EF (List U)) : EF (List D) := fun ρ st => (fs ρ st).bind kRange2
def eRange3 (fs : EF (List U)) : EF (List D) := fun ρ st => (fs ρ st).bind kRange3
theorem inR_ok {i : Int} (h : inR i = true) : -(2 ^ 62) ≤ i ∧ i < 2 ^ 62 := by
  unfold inR at h
  rw [Bool.and_eq_true] at h
  exact ⟨of_decide_eq_true h.1, of_decide_eq_true h.2⟩
theorem RU.int {K T M H v i} (r : RU K T M H v (.d (.int i))) : v = .int i := by
  cases r with
  | d r => cases r; rfl
theorem mi_range1 (hg : Gl X "range") (hm : X.mg "range" = none) (ha : MA X T W [a] fs) (hs : starEach [a] X.env = [(false, eval a X.env)] := by rfl) : MI X T W tg (.Call (.Name "range" p) [a] [] pos) (eRange1 fs) := by
  refine PI.imp (pi_range1 hg hm ha hs) fun σ H R ⟨M, ρ, st, rep, go⟩ => ?_
  refine ⟨M, ρ, st, rep, (Go.bind (Rel := relL X.K T) rep go).mono fun vs H1 ⟨M1, st1, us, e1, rep1, rus, go1⟩ => ?_⟩
  unfold kRange1 at go1
  split at go1
  · rename_i j
    by_cases hz : inR j = true
    · simp only [hz, if_true] at go1
      cases rus with
      | cons r rr =>
        cases rr
        have := r.int
        subst this
        have hb := inR_ok hz
        exact ⟨j, rfl, hb.1, hb.2, Go.now rep1.sto go1 ok_range⟩
    · simp only [hz] at go1
      exact go1.elim
  · exact go1.elim
theorem mi_range2 (hg : Gl X "range") (hm : X.mg "range" = none) (ha : MA X T W [a, b] fs) (hs : starEach [a, b] X.env = [(false, eval a X.env), (false, eval b X.env)] := by rfl) (hs2 : starEach [b] X.env = [(false, eval b X.env)] := by rfl) :
    MI X T W tg (.Call (.Name "range" p) [a, b] [] pos) (eRange2 fs) := by
  refine PI.imp (pi_range2 hg hm ha hs hs2) fun σ H R ⟨M, ρ, st, rep, go⟩ => ?_
  refine ⟨M, ρ, st, rep, (Go.bind (Rel := relL X.K T) rep go).mono fun vs H1 ⟨M1, st1, us, e1, rep1, rus, go1⟩ => ?_⟩
  unfold kRange2 at go1
  split at go1
  · rename_i i j
    by_cases hz : (inR i && inR j) = true
    · simp only [hz, if_true] at go1
      rw [Bool.and_eq_true] at hz
      cases rus with
      | cons r rr =>
        cases rr with
        | cons r' rr =>
          cases rr
          have := r.int
          subst this
          have := r'.int
          subst this
          have hb := inR_ok hz.1
          have hb' := inR_ok hz.2
          exact ⟨i, j, rfl, ⟨hb.1, hb.2, hb'.1, hb'.2⟩, Go.now rep1.sto go1 ok_range⟩
    · simp only [hz] at go1
      exact go1.elim
  · exact go1.elim
/-! ### enumerate -/
def eEnum (f : EF (List D)) : EF (List D) := fun ρ st => (f ρ st).bind fun ds st1 => .ok (ds.zipIdx.map fun p => .tuple [.int p.2, p.1]) st1
def iEnumA (K : PySem.W.Frag) (ta : TA) : TI := fun σ H R => ta σ H fun vs H1 => (∃ a xs, vs = [.ref a] ∧ SqL K H1 a xs ∧ R (Ite K a) H1) ∨ ((∃ a xs, vs = [.ref a] ∧ SqT K H1 a xs ∧ R (IteS (fun H => SqT K H a xs) xs) H1) ∨
  ∃ z, vs = [.str z] ∧ R (IteS (fun _ => True) (z.cps.toList.map fun c => .str ⟨#[c]⟩)) H1)
theorem draws_tup {a it : Addr} {xs : List V} (hne : a ≠ it) : ∀ (Y : Cx), Y.prog = X.prog → Y.w = X.w → Y.K = X.K → Y.calm = true → ∀ (pins : List (Addr × Obj)) (s : Shared) (σ : L2.St) (H : Hp), Inv Y pins σ H s → SqT X.K H a xs → ∃ (fp : List Addr) (Pr : Nat → Value → Prop) (St' : Nat → Heap → Prop),
      Draws X.prog X.w Y.A.in1 it fp xs.length Pr St' ∧ (∀ i h, St' i h → Heap.IsTupleIter h it a i) ∧ (∀ i, s.heap.IsTupleIter it a i → St' i s.heap) ∧ (∀ i v, Pr i v → ∃ x, xs[i]? = some x ∧ RelV x v) ∧ ∀ b ∈ fp, b = it ∨ ∃ o, s.heap.get? b = some o ∧ o.cls = .type "tuple" := by
  intro Y h1 h2 h3 hc pins s σ H I hG
  rw [← h3] at hG
  obtain ⟨its, rv, p, hz⟩ := I.tuple hG
  have hh : Y.A.in1.handled = none := I.ok.hd hc
  have D := Draws.tuple (prog := X.prog) (w := X.w) (A := Y.A.in1) hh it a hne its.toArray
  have hsz : its.toArray.size = xs.length := by rw [List.size_toArray]; exact rv.length.symm
  rw [hsz] at D
  refine ⟨_, _, _, D, fun i h q => q.1, fun i q => ⟨q, p⟩, fun i v hv => ?_, fun b hb => ?_⟩
  · have hv' : its[i]? = some v := by simpa using hv
    have hi : i < xs.length := by
      have := (List.getElem?_eq_some_iff.mp hv').1
      rw [rv.length]
      exact this
    obtain ⟨u, hu, ru⟩ := rv.get (List.getElem?_eq_getElem hi)
    rw [hv'] at hu
    cases hu
    exact ⟨xs[i], List.getElem?_eq_getElem hi, ru⟩
  · have e' : b = it ∨ b = a := by simpa using hb
    rcases e' with z | z
    · exact .inl z
    · obtain ⟨o, ho, hcl, _⟩ := p
      exact .inr ⟨o, by rw [z]; exact ho, hcl⟩
theorem draws_str {it : Addr} {z : Str} {t : Tok} : ∀ (Y : Cx), Y.prog = X.prog → Y.w = X.w → Y.K = X.K → Y.calm = true → ∀ (pins : List (Addr × Obj)) (s : Shared) (σ : L2.St) (H : Hp), Inv Y pins σ H s → True → ∃ (fp : List Addr) (Pr : Nat → Value → Prop) (St' : Nat → Heap → Prop),
      Draws X.prog X.w Y.A.in1 it fp (z.cps.toList.map fun c => V.str ⟨#[c]⟩).length Pr St' ∧ (∀ i h, St' i h → Heap.IsStrIter h it (strIterType z) z t i) ∧ (∀ i, s.heap.IsStrIter it (strIterType z) z t i → St' i s.heap) ∧ (∀ i v, Pr i v → ∃ x, (z.cps.toList.map fun c => V.str ⟨#[c]⟩)[i]? = some x ∧ RelV x v) ∧ ∀ b ∈ fp, b = it ∨ ∃ o, s.heap.get? b = some o ∧ o.cls = .type "tuple" := by
  intro Y h1 h2 h3 hc pins s σ H I _
  have hh : Y.A.in1.handled = none := I.ok.hd hc
  have D := Draws.text (prog := X.prog) (w := X.w) (A := Y.A.in1) hh it z t
  have hsz : (z.cps.toList.map fun c => V.str ⟨#[c]⟩).length = z.cps.size := by simp
  rw [hsz]
  refine ⟨_, _, _, D, fun i h q => q, fun i q => q, fun i v hv => ?_, fun b hb => .inl (by simpa using hb)⟩
  obtain ⟨c, u, hc', rfl⟩ := hv
  exact ⟨.str ⟨#[c]⟩, by rw [List.getElem?_map, Array.getElem?_toList, hc']; rfl, ⟨u, rfl⟩⟩
theorem pi_enumA {ta : TA} (hg : Gl X "enumerate") (hm : X.mg "enumerate" = none) (ha : PA X [e] ta) (hs : starEach [e] X.env = [(false, eval e X.env)] := by rfl) :
    PI X (.Tuple elts kk tpos) (.Call (.Name "enumerate" p) [e] [] pos) (iEnumA X.K ta) := by
  refine ⟨fun pins s σ H R I h => ?_⟩
  refine Call_ (ld_blt I hg hm boot_enumerate (PyProof.Rows.callWith_type1 (thn (ha.run pos pins s σ H _ I h) fun us s1 ⟨vs, H1, I1, r1, q1⟩ => ?_) hs rfl))
  have two : ∀ {b : Addr}, b = s1.heap.objs.size + 1 ∨ b = s1.heap.objs.size → FpOk X pins H1 b := fun {b} e' => by
    have hle : s1.heap.objs.size ≤ b := by
      rcases e' with z | z
      · rw [z]; exact Nat.le_add_right _ _
      · rw [z]; exact Nat.le_refl _
    exact I1.fpOk hle (I1.hok.fresh hle)
  rcases q1 with ⟨a, xs, ex, hq, q⟩ | ⟨a, xs, ex, hq, q⟩ | ⟨z, ex, q⟩
  · subst ex
    cases r1 with
    | cons r rr =>
      cases rr
      cases r
      obtain ⟨its, rv, p', hz⟩ := I1.list hq
      refine call_enumerate_list p'.isList fun h' he hit hsz hk => wpAny_pyIter_enum he ?_
      have I2 : Inv X pins σ H1 { s1 with heap := h' } := I1.kept (t' := s1.toks) hk
      exact ⟨s1.heap.objs.size + 1, [s1.heap.objs.size + 1, s1.heap.objs.size], _, _, H1, rfl, I2, turn_enum a (s1.heap.objs.size + 1) s1.heap.objs.size, ⟨⟨.none, he⟩, hit, Nat.succ_ne_self _⟩, fun b hb => two (by simpa using hb), q⟩
  · subst ex
    cases r1 with
    | cons r rr =>
      cases rr
      cases r
      obtain ⟨its, rv, p', hz⟩ := I1.tuple hq
      have hlt : a < s1.heap.objs.size := p'.lt
      refine enum1_begins (begins_tuple a its.toArray) (show s1.heap.IsTuple a its.toArray from p') fun h' he hit hsz hk => wpAny_pyIter_enum he ?_
      have I2 : Inv X pins σ H1 { s1 with heap := h' } := I1.kept (t' := s1.toks) hk
      refine ⟨s1.heap.objs.size + 1, [s1.heap.objs.size + 1, s1.heap.objs.size], _, _, H1, rfl, I2, turn_enumG (s1.heap.objs.size + 1) s1.heap.objs.size xs (fun H => SqT X.K H a xs) (fun i h => h.IsTupleIter s1.heap.objs.size a i) (fun i h st => ?_) (fun i h h' st k => st.at fun o e => k o e) (draws_tup (Nat.ne_of_lt hlt)), ⟨⟨.none, he⟩, ⟨_, hit, rfl, rfl⟩, Nat.succ_ne_self _⟩, fun b hb => two (by simpa using hb), q⟩
      obtain ⟨o, ho, _, hd⟩ := st
      exact ⟨o, ho, fun v z => by rw [hd] at z; cases z⟩
  · subst ex
    cases r1 with
    | cons r rr =>
      cases rr
      obtain ⟨t, rfl⟩ := r
      refine call_enumerate_str fun h' he hit hsz hk => wpAny_pyIter_enum he ?_
      have I2 : Inv X pins σ H1 { s1 with heap := h' } := I1.kept (t' := s1.toks) hk
      refine ⟨s1.heap.objs.size + 1, [s1.heap.objs.size + 1, s1.heap.objs.size], _, _, H1, rfl, I2, turn_enumG (s1.heap.objs.size + 1) s1.heap.objs.size _ (fun _ => True) (fun i h => h.IsStrIter s1.heap.objs.size (strIterType z) z t i) (fun i h st => ?_) (fun i h h' st k => ?_) (draws_str), ⟨⟨.none, he⟩, hit, Nat.succ_ne_self _⟩, fun b hb => two (by simpa using hb), q⟩
      · obtain ⟨o, ho, _, hd⟩ := st
        exact ⟨o, ho, fun v z => by rw [hd] at z; cases z⟩
      · obtain ⟨o, ho, r⟩ := st
        exact ⟨o, k o ho, r⟩
/-- the pairs of an enumeration -/
def prs (ds : List D) : List D := ds.zipIdx.map fun p => .tuple [.int p.2, p.1]
theorem prs_get {ds : List D} {i : Nat} {d : D} (h : ds[i]? = some d) : (prs ds)[i]? = some (.tuple [.int i, d]) := by
  unfold prs
  rw [List.getElem?_map, List.getElem?_zipIdx, h]
  simp
theorem prs_len (ds : List D) : (prs ds).length = ds.length := by simp [prs]
/-- a new pair -/
theorem pair_new {K T M H} {p : Addr} {x : V} {d : D} {i : Nat} (hp : H p = none) (hm : some p ∉ M) (r : RD K T M H x d) :
    RD K T M (L2.upd H p (.tup [.int (i : Nat), x])) (.ref p) (.tuple [.int i, d]) :=
  .tup (.inl ⟨hm, .inl upd_same⟩) (.cons (.int _) (.cons (r.ext (Ext.lay hp)) .nil))
theorem ok_enumL {K T M H a xs ds} (h : ∀ M1 H1, Ext M M1 H H1 → SqL K H1 a xs ∧ RDs K T M1 H1 xs ds) : IterOk K T (Ite K a) (prs ds) M H := fun M1 H1 st1 e s1 => by
  obtain ⟨q, r⟩ := h M1 H1 e
  rw [prs_len]
  refine ⟨fun i hi => ?_, ⟨xs, q, by rw [r.length]; exact Nat.le_refl _⟩, fun i v H2 hi y => ?_⟩
  · have hi' : i < xs.length := by rw [r.length]; exact hi
    exact ⟨xs, xs[i], q, by simp [hi']⟩
  · obtain ⟨p, x, rfl, hp, rfl, hx⟩ := y
    obtain ⟨d, hd, rd'⟩ := r.get' (hx xs q)
    exact ⟨.tuple [.int i, d], prs_get hd, pair_new hp (s1.new hp) rd', Ext.lay hp, fun st s => s.lay hp⟩
theorem ok_enumS {K T M H ds} {G : Hp → Prop} {xs : List V} (h : ∀ M1 H1, Ext M M1 H H1 → G H1 ∧ RDs K T M1 H1 xs ds) : IterOk K T (IteS G xs) (prs ds) M H := fun M1 H1 st1 e s1 => by
  obtain ⟨q, r⟩ := h M1 H1 e
  rw [prs_len]
  refine ⟨fun i hi => ⟨q, by rw [r.length]; exact hi⟩, ⟨q, r.length.symm⟩, fun i v H2 hi y => ?_⟩
  obtain ⟨p, x, rfl, hp, rfl, hx⟩ := y
  obtain ⟨d, hd, rd'⟩ := r.get' hx
  exact ⟨.tuple [.int i, d], prs_get hd, pair_new hp (s1.new hp) rd', Ext.lay hp, fun st s => s.lay hp⟩
def eEnumI (f : EF U) : EF (List D) := fun ρ st => (f ρ st).bind fun u st1 => (kItems u st1).bind fun ds st2 => .ok (prs ds) st2
theorem mi_enum (hg : Gl X "enumerate") (hm : X.mg "enumerate" = none) (he : ME X T W e fa) (hs : starEach [e] X.env = [(false, eval e X.env)] := by rfl) : MI X T W (.Tuple elts kk tpos) (.Call (.Name "enumerate" p) [e] [] pos) (eEnumI fa) := by
  refine PI.imp (pi_enumA hg hm (pa_cons he pa_nil hs) hs) fun σ H R ⟨M, ρ, st, rep, go⟩ => ?_
  refine ⟨M, ρ, st, rep, (Go.bind (Rel := relU X.K T) rep go).mono fun v H1 ⟨M1, st1, u, e1, rep1, ru, go1⟩ => ?_⟩
  have go1' : Go X.K T (relI X.K T) W M1 σ H1 ((kItems u st1).bind fun ds st2 => .ok (prs ds) st2) R := go1
  obtain ⟨x, ds, r, hi, go2⟩ := kItems_go (Rel := fun _ _ (b : List D) a => b = a) ru (Go.bind rep1 go1')
  obtain ⟨M2, st2, ds', e2, rep2, e3, go3⟩ := Go.now rep1.sto go2 (b := ds) rfl
  have e3' : ds = ds' := e3
  subst e3'
  rcases items_seq r hi with ⟨a, xs, rfl, h⟩ | ⟨a, xs, rfl, h⟩ | ⟨z, rfl, hk, rfl⟩
  · exact .inl ⟨a, xs, rfl, (h M1 H1 Ext.refl).1, Go.now rep2.sto go3 (ok_enumL fun M' H' e' => h M' H' (e2.trans e'))⟩
  · exact .inr (.inl ⟨a, xs, rfl, (h M1 H1 Ext.refl).1, Go.now rep2.sto go3 (ok_enumS fun M' H' e' => h M' H' (e2.trans e'))⟩)
  · refine .inr (.inr ⟨z, rfl, Go.now rep2.sto go3 (ok_enumS fun M' H' e' => ⟨trivial, ?_⟩)⟩)
    have key : ∀ l : List Nat, (∀ c ∈ l, PyData.strOk ⟨#[c]⟩ = true) → RDs X.K T M' H' (l.map fun c => V.str ⟨#[c]⟩) (l.map fun c => D.str ⟨#[c]⟩) := by
      intro l
      induction l with
      | nil => intro _; exact .nil
      | cons c l ih => intro hl; exact .cons (.str (hl c List.mem_cons_self)) (ih fun c' hc' => hl c' (List.mem_cons_of_mem _ hc'))
    refine key _ fun c hc => ?_
    have hc' : c ∈ z.cps := by simpa using hc
    obtain ⟨i, hi', rfl⟩ := Array.mem_iff_getElem.mp hc'
    exact strOk_get hk (Array.getElem?_eq_getElem hi')
end
end MM
set_option maxRecDepth 100000
/-! M8: defs, calls, methods, new instances -/
namespace MM
open PySem PySem.Spec PyProof.Rows L2
abbrev FM := List U → Stor → R U
/-- what a def promises that computes F -/
def spM (K : PySem.W.Frag) (T : Nat → Addr) (n : Nat) (F : FM) : Sp := fun vs H Q E => vs.length = n ∧ ∃ M us st, Rst K T M H st ∧ Paired (RU K T M H) vs us ∧ Go K T (relU K T) (fun c d _ H' => E c d H') M [] H (F us st) Q
/-- a def's end: what it made itself changes no more -/
def finU (n : Nat) (u : U) (st' : Stor) : R U := match u with
  | .d x => .ok (.d x) (st'.take n)
  | .loc i => if i < n then .ok (.loc i) (st'.take n) else match rd st' (.loc i) with
    | some x => .ok (.d x) (st'.take n)
    | none => .bad
@[simp] theorem finU_d (n : Nat) (x : D) (st' : Stor) : finU n (.d x) st' = .ok (.d x) (st'.take n) := rfl
def finS (n : Nat) (r : RS) : R U := match r with
  | .nx _ st' => .ok (.d .none) (st'.take n)
  | .rt u st' => finU n u st'
  | .exc c fs _ st' => .exc c fs (st'.take n)
  | _ => .bad
@[simp] theorem finS_nx (n ρ st) : finS n (.nx ρ st) = .ok (.d .none) (st.take n) := rfl
@[simp] theorem finS_rt (n u st) : finS n (.rt u st) = finU n u st := rfl
@[simp] theorem finS_exc (n c fs ρ st) : finS n (.exc c fs ρ st) = .exc c fs (st.take n) := rfl
def runF (N : Nat) (g : SF) : FM := fun us st => finS st.length (g (us.map some ++ List.replicate (N - us.length) none) st)
section
variable {K : PySem.W.Frag} {T : Nat → Addr} {W : WX} {M : List (Option Addr)} {σ : L2.St} {H : Hp} {st : Stor}
theorem mem_take_nd {M' : List (Option Addr)} {H' : Hp} {st' : Stor} (s : Rst K T M' H' st') {i n : Nat} {a : Addr} (hi : M'[i]? = some (some a)) (hn : n ≤ i) : some a ∉ M'.take n := fun z => by
  obtain ⟨j, hj⟩ := List.getElem?_of_mem z
  rw [List.getElem?_take] at hj
  split at hj
  · have := s.nd j i a hj hi
    omega
  · cases hj
theorem take_sub {M' : List (Option Addr)} {n : Nat} : ∀ a, some a ∈ M'.take n → some a ∈ M' := fun a h => List.mem_of_mem_take h
/-- a changing object of a def's own, changed no more -/
theorem freeze_rd {M' : List (Option Addr)} {H' : Hp} {st' : Stor} (s : Rst K T M' H' st') {i n : Nat} {v : V} {x : D} (r : RU K T M' H' v (.loc i)) (hn : n ≤ i) (h : rd st' (.loc i) = some x) : RD K T (M'.take n) H' v x := by
  have h' : (match st'[i]? with
    | some (O.lst ds) => some (D.list ds)
    | some (O.dic kvs) => some (D.dict kvs)
    | some (O.ins c fs) => some (D.ins c fs)
    | _ => none) = some x := h
  cases e : st'[i]? with
  | none => rw [e] at h'; cases h'
  | some o =>
    rw [e] at h'
    obtain ⟨m, hm, ro⟩ := s.get e
    cases r with
    | hole hh =>
      rw [hh] at hm
      cases hm
      cases o with
      | lst ds => obtain ⟨_, xs, q, _⟩ := ro; cases q
      | dic ds => obtain ⟨_, q, _⟩ := ro; cases q
      | ins c fs => obtain ⟨_, dx, fv, q, _⟩ := ro; cases q
      | dead => cases h'
    | @loc a _ hh =>
      rw [hh] at hm
      cases hm
      have nm : some a ∉ M'.take n := mem_take_nd s hh hn
      cases o with
      | lst ds => cases h'; obtain ⟨_, xs, q, h1, h2⟩ := ro; cases q; exact .lst nm h1 (h2.sub take_sub)
      | dic ds =>
        cases h'
        obtain ⟨_, q, ⟨kv, h1, h2⟩ | ⟨kv, h1, h2⟩⟩ := ro
        · cases q; exact .dK ⟨nm, .inl h1⟩ (h2.sub take_sub)
        · cases q; exact .dT ⟨nm, .inl h1⟩ (h2.sub take_sub)
      | ins c fs => cases h'; obtain ⟨_, dx, fv, q, h1, h2⟩ := ro; cases q; exact .ins nm h1 (h2.sub take_sub)
      | dead => cases h'
theorem finU_go {M' : List (Option Addr)} {H' : Hp} {st' : Stor} {n : Nat} {u : U} {v : V} {Q : VK} (hn : n = M.length) (e : Ext M M' H H') (s : Rst K T M' H' st') (r : RU K T M' H' v u) (go : Go K T (relU K T) W M σ H (finU n u st') Q) : Q v H' := by
  have e' := e.take n hn
  have s' := s.take n
  cases u with
  | d x =>
    cases r with
    | d r => exact go _ H' v e' s' (.d (r.sub take_sub))
  | loc i =>
    have go' : Go K T (relU K T) W M σ H (if i < n then .ok (.loc i) (st'.take n) else match rd st' (.loc i) with
      | some x => .ok (.d x) (st'.take n)
      | none => .bad) Q := go
    by_cases hi : i < n
    · rw [if_pos hi] at go'
      refine go' _ H' v e' s' ?_
      cases r with
      | loc h => exact .loc (by rw [List.getElem?_take_of_lt hi]; exact h)
      | hole h => exact .hole (by rw [List.getElem?_take_of_lt hi]; exact h)
    · rw [if_neg hi] at go'
      cases q : rd st' (.loc i) with
      | none => rw [q] at go'; exact go'.elim
      | some x =>
        rw [q] at go'
        exact go' _ H' v e' s' (.d (freeze_rd s r (by omega) q))
/-- from a def's promise to its body -/
theorem GoS_of {n : Nat} {r : RS} {D : Ends} {Q : VK} (hn : n = M.length) (hD : ∀ σ' H', Q .non H' → D.nx σ' H') (hQ : ∀ v H', Q v H' → D.rt v H') (go : Go K T (relU K T) W M σ H (finS n r) Q) (hW : ∀ c d σ' H', W c d σ H' → W c d σ' H') : GoS K T W M H r D := by
  cases r with
  | nx ρ' st' => exact fun M' H' σ' e rep => hD σ' H' (go _ H' .non (e.take n hn) (rep.sto.take n) (.d .non))
  | rt u st' => exact fun M' H' v e s r => hQ v H' (finU_go hn e s r go)
  | bk ρ st' => exact go.elim
  | ct ρ st' => exact go.elim
  | exc c fs ρ' st' => exact fun M' H' σ' d fv e rep hd rf nd => hW _ _ _ _ (go _ H' d fv (e.take n hn) (rep.sto.take n) hd (rf.sub take_sub) fun z => nd (take_sub _ z))
  | bad => exact go.elim
end
theorem start_rep {K : PySem.W.Frag} {T : Nat → Addr} {M : List (Option Addr)} {H : Hp} : ∀ {vs : List V} {us : List U} (n : Nat), Paired (RU K T M H) vs us → Paired (RS1 K T M H) (vs.map some ++ List.replicate n none) (us.map some ++ List.replicate n none)
  | _, _, n, .nil => by
    induction n with
    | zero => exact .nil
    | succ n ih => exact .cons (fun u' e => by cases e) ih
  | _, _, n, .cons r t => .cons (fun u' e => by cases e; exact ⟨_, rfl, r⟩) (start_rep n t)
section
variable {P : Program} {w : World} {K : PySem.W.Frag} {mg : Str → Option Value} {base : Heap} {T : Nat → Addr}
/-- THE RULE for a def -/
theorem fn_ok {x qual : Str} {st : Stmt} {f : Addr} {fd : FuncData} {N ps : List Str} {k : Nat} {g : SF} (F : Fun K x qual st f fd) (S : FnScope N ps (defScope st))
    (hb : ∀ (cdv : Value) (A : Around) (outer : List Env) (s : Shared) (H : Hp) (E : XK), Room k (A.deeper (envOfC qual (defScope st) s.heap.objs.size f cdv)) →
      MSs (cxOf (L2.CX P w) P w K mg base N qual (defScope st) f cdv A outer s H E) T (fun c d _ H' => E c d H') (defBody st) g) :
    FnOk P w K mg base (L2.CX P w) (k + 1) f fd ps (spM K T ps.length (runF N.length g)) := by
  refine F.okX S (fun vs H Q E h => h.1) fun cdv A outer s H vs Q E hr h => ?_
  obtain ⟨hl, M, us, st', hs, hv, go⟩ := h
  refine ⟨_, hb cdv A outer s H E hr, M, us.map some ++ List.replicate (N.length - us.length) none, st', ⟨?_, hs⟩, ?_⟩
  · unfold L2.start
    rw [← Paired.len hv]
    exact start_rep _ hv
  · exact GoS_of hs.len.symm (fun _ _ q => q) (fun _ _ q => q) go fun _ _ _ _ q => q
end

/-! ### calls -/
section
variable {X : Cx} {T : Nat → Addr} {W : WX} {k n : Nat} {f : Addr} {fd : FuncData} {ps : List Str} {F : FM} {x m : Str} {p pos apos : Pos} {e o : Expr} {es : List Expr} {fs : EF (List U)} {fo : EF U}
theorem sp_of {M σ H st} {us : List U} {vs : List V} {Q : VK} (hl : vs.length = n) (s : Rst X.K T M H st) (r : Paired (RU X.K T M H) vs us) (go : Go X.K T (relU X.K T) W M σ H (F us st) Q) : spM X.K T n F vs H Q (WE W σ) := by
  refine ⟨hl, M, us, st, s, r, ?_⟩
  cases q : F us st with
  | ok a st' => rw [q] at go; exact go
  | exc c fs st' => rw [q] at go; exact go
  | bad => rw [q] at go; exact go
def kLen (n : Nat) (F : FM) : List U → Stor → R U := fun us st => if us.length = n then F us st else .bad
theorem m_call (tk : Takes X W) (G : FnOk X.prog X.w X.K X.mg X.base (L2.CX X.prog X.w) k f fd ps (spM X.K T n F)) (hr : Room k X.A) (hg : Gl X x) (hm : X.mg x = some (.ref f)) (hk : PySem.W.keepIn X.K (.ref f) = true) (hb : Binds X.K fd ps [])
    (ha : MA X T W (e :: es) fs) (hdb : (x == ("__debug__" : Str)) = false := by decide) (he : starEach (e :: es) X.env = (false, eval e X.env) :: starEach es X.env := by rfl) (hpl : (backTo pos (starEach es X.env)).any (·.1) = false := by rfl) :
    ME X T W (.Call (.Name x p) (e :: es) [] pos) (eArgs fs (kLen n F)) := by
  refine PE.imp (pe_callS (E := WE W) G hr hg hm hk hb (fun σ => passAt tk σ) ha hdb he hpl) fun σ H Q ⟨M, ρ, st, rep, go⟩ => ?_
  refine ⟨M, ρ, st, rep, (Go.bind (Rel := relL X.K T) rep go).mono fun vs H1 ⟨M1, st1, us, e1, rep1, rus, go1⟩ => ?_⟩
  unfold kLen at go1
  by_cases h : us.length = n
  · rw [if_pos h] at go1
    exact sp_of (by rw [Paired.len rus]; exact h) rep1.sto rus go1
  · rw [if_neg h] at go1
    exact go1.elim
/-- f() -/
theorem pe_callS0 {E : L2.St → XK} {sp : Sp} {CX : CXT} (G : FnOk X.prog X.w X.K X.mg X.base CX k f fd ps sp) (hr : Room k X.A) (hg : Gl X x) (hm : X.mg x = some (.ref f)) (hk : PySem.W.keepIn X.K (.ref f) = true) (hb : Binds X.K fd ps []) (hx : ∀ σ, PassesAt CX X σ (E σ))
    (hdb : (x == ("__debug__" : Str)) = false := by decide) : PE X (.Call (.Name x p) [] [] pos) (tCallS sp E tNil) := by
  refine ⟨fun pins s σ H Q I h => ?_⟩
  refine wpAny_Call_Name_kw (ld_glob I hg hm ?_ hdb)
  exact PySem.W.callWith_K0 I.kIn hk (run_fnS (us := []) G hr hb (hx σ) I .nil h)
theorem m_call0 (tk : Takes X W) (G : FnOk X.prog X.w X.K X.mg X.base (L2.CX X.prog X.w) k f fd ps (spM X.K T 0 F)) (hr : Room k X.A) (hg : Gl X x) (hm : X.mg x = some (.ref f)) (hk : PySem.W.keepIn X.K (.ref f) = true) (hb : Binds X.K fd ps [])
    (hdb : (x == ("__debug__" : Str)) = false := by decide) : ME X T W (.Call (.Name x p) [] [] pos) (eArgs eNil F) := by
  refine PE.imp (pe_callS0 (E := WE W) G hr hg hm hk hb (fun σ => passAt tk σ) hdb) fun σ H Q ⟨M, ρ, st, rep, go⟩ => ?_
  exact sp_of (us := []) rfl rep.sto .nil go
/-- o.m(e, ..), what it raises wished for at the slots -/
def tMethS (C : Addr) (m : Str) (sp : Sp) (E : L2.St → XK) (ta : TE) (t : TA) : TE := fun σ H Q => ta σ H fun x H1 => ∃ a dx fs, x = .ref a ∧ H1 a = some (.ins C dx fs) ∧ fs.lookup m = none ∧ t σ H1 fun vs H2 => sp (x :: vs) H2 Q (E σ)
theorem pe_methS' {E : L2.St → XK} {sp : Sp} {CX : CXT} {C : Addr} {ta : TE} {t : TA} {pl : Sem Bool} (he : PE X o ta) (c : Cls X.K C) (hm : Meth X.K C m f) (G : FnOk X.prog X.w X.K X.mg X.base CX k f fd ps sp) (hr : Room k X.A) (hb : Binds X.K fd ps []) (hx : ∀ σ, PassesAt CX X σ (E σ)) (ha : PA X (e :: es) t)
    (hst : starEach (e :: es) X.env = (false, eval e X.env) :: starEach es X.env := by rfl) (hpl : (backTo pos (starEach es X.env)).any (·.1) = false := by rfl)
    (ht : eval (.Call (.Attribute o m apos) (e :: es) [] pos) X.env = (do
      let ov ← eval o X.env
      standAt apos.atName
      let (f, first) ← holding [ov] (getMethod ov m pl)
      callWith pos f first (backTo pos (starEach (e :: es) X.env)) (backToKw pos (keywordEach [] X.env))) := by rfl) :
    PE X (.Call (.Attribute o m apos) (e :: es) [] pos) (tMethS C m sp E ta t) := by
  refine ⟨fun pins s σ H Q I h => ?_⟩
  refine PySem.W.methodCall_KW (pl := pl) (thn (he.run pins s σ H _ I h) fun u s1 ⟨x, H1, I1, rx, a, dx, fs, ex, ea, l, q⟩ => ?_) ht
  subst ex
  obtain rfl : u = Value.ref a := rx
  refine getmeth_ok I1 ea c hm l ?_
  refine PySem.W.callWith_K (first := [.ref a]) (h₀ := X.base) I.ok.mod.kin hm.kp (thn (ha.run pos pins s1 σ H1 _ I1 q) fun us s2 ⟨vs, H2, I2, r, q2⟩ => ⟨I2.kIn, ?_⟩) hst hpl
  exact run_fnS (us := .ref a :: us) (vs := .ref a :: vs) G hr hb (hx σ) I2 (.cons rfl r) q2
theorem pe_methS0' {E : L2.St → XK} {sp : Sp} {CX : CXT} {C : Addr} {ta : TE} {pl : Sem Bool} (he : PE X o ta) (c : Cls X.K C) (hm : Meth X.K C m f) (G : FnOk X.prog X.w X.K X.mg X.base CX k f fd ps sp) (hr : Room k X.A) (hb : Binds X.K fd ps []) (hx : ∀ σ, PassesAt CX X σ (E σ))
    (ht : eval (.Call (.Attribute o m apos) [] [] pos) X.env = (do
      let ov ← eval o X.env
      standAt apos.atName
      let (f, first) ← holding [ov] (getMethod ov m pl)
      callWith pos f first (backTo pos (starEach [] X.env)) (backToKw pos (keywordEach [] X.env))) := by rfl) :
    PE X (.Call (.Attribute o m apos) [] [] pos) (tMethS C m sp E ta tNil) := by
  refine ⟨fun pins s σ H Q I h => ?_⟩
  refine PySem.W.methodCall_KW (pl := pl) (thn (he.run pins s σ H _ I h) fun u s1 ⟨x, H1, I1, rx, a, dx, fs, ex, ea, l, q⟩ => ?_) ht
  subst ex
  obtain rfl : u = Value.ref a := rx
  refine getmeth_ok I1 ea c hm l ?_
  exact PySem.W.callWith_K0 (first := [.ref a]) I1.kIn hm.kp (run_fnS (us := [.ref a]) (vs := [.ref a]) G hr hb (hx σ) I1 (.cons rfl .nil) q)
/-- is it an instance of class c without such an attribute? -/
def insOf (c : Nat) (m : Str) (st : Stor) (u : U) : Bool := match rd st u with
  | some (.ins c' fs) => c' == c && (fs.lookup m).isNone
  | _ => false
def eMeth (c : Nat) (m : Str) (n : Nat) (F : FM) (fo : EF U) (fs : EF (List U)) : EF U := fun ρ st => (fo ρ st).bind fun u st1 => if insOf c m st1 u then (fs ρ st1).bind fun us st2 => kLen n F (u :: us) st2 else .bad
theorem insOf_ok {c : Nat} {M H st u} {v : V} {K : PySem.W.Frag} (s : Rst K T M H st) (r : RU K T M H v u) (h : insOf c m st u = true) : ∃ a dx fs, v = .ref a ∧ H a = some (.ins (T c) dx fs) ∧ fs.lookup m = none := by
  unfold insOf at h
  cases e : rd st u with
  | none => rw [e] at h; cases h
  | some x =>
    rw [e] at h
    cases x with
    | ins c' fs =>
      simp only [Bool.and_eq_true] at h
      have ec : c' = c := by simpa using h.1
      subst ec
      obtain ⟨a, dx, fv, rfl, ha, rf⟩ := r.rv s e
      exact ⟨a, dx, fv, rfl, ha, rf.lookup_none (by simpa using h.2)⟩
    | _ => cases h
theorem m_meth {c : Nat} {pl : Sem Bool} (tk : Takes X W) (he : ME X T W o fo) (hc : Cls X.K (T c)) (hm : Meth X.K (T c) m f) (G : FnOk X.prog X.w X.K X.mg X.base (L2.CX X.prog X.w) k f fd ps (spM X.K T n F)) (hr : Room k X.A) (hb : Binds X.K fd ps []) (ha : MA X T W (e :: es) fs)
    (hst : starEach (e :: es) X.env = (false, eval e X.env) :: starEach es X.env := by rfl) (hpl : (backTo pos (starEach es X.env)).any (·.1) = false := by rfl)
    (ht : eval (.Call (.Attribute o m apos) (e :: es) [] pos) X.env = (do
      let ov ← eval o X.env
      standAt apos.atName
      let (f, first) ← holding [ov] (getMethod ov m pl)
      callWith pos f first (backTo pos (starEach (e :: es) X.env)) (backToKw pos (keywordEach [] X.env))) := by rfl) :
    ME X T W (.Call (.Attribute o m apos) (e :: es) [] pos) (eMeth c m n F fo fs) := by
  refine PE.imp (pe_methS' (pl := pl) (E := WE W) he hc hm G hr hb (fun σ => passAt tk σ) ha hst hpl ht) fun σ H Q ⟨M, ρ, st, rep, go⟩ => ?_
  refine ⟨M, ρ, st, rep, (Go.bind (Rel := relU X.K T) rep go).mono fun v H1 ⟨M1, st1, u, e1, rep1, ru, go1⟩ => ?_⟩
  by_cases h : insOf c m st1 u = true
  · simp only [h, if_true] at go1
    obtain ⟨a, dx, fv, rfl, h1, h2⟩ := insOf_ok rep1.sto ru h
    refine ⟨a, dx, fv, rfl, h1, h2, M1, ρ, st1, rep1, (Go.bind (Rel := relL X.K T) rep1 go1).mono fun vs H2 ⟨M2, st2, us, e2, rep2, rus, go2⟩ => ?_⟩
    unfold kLen at go2
    by_cases hl : (u :: us).length = n
    · rw [if_pos hl] at go2
      exact sp_of (by rw [← hl, List.length_cons, List.length_cons, Paired.len rus]) rep2.sto (.cons (RU.ext e2 ru) rus) go2
    · rw [if_neg hl] at go2
      exact go2.elim
  · simp only [h] at go1
    exact go1.elim
theorem m_meth0 {c : Nat} {pl : Sem Bool} (tk : Takes X W) (he : ME X T W o fo) (hc : Cls X.K (T c)) (hm : Meth X.K (T c) m f) (G : FnOk X.prog X.w X.K X.mg X.base (L2.CX X.prog X.w) k f fd ps (spM X.K T n F)) (hr : Room k X.A) (hb : Binds X.K fd ps [])
    (ht : eval (.Call (.Attribute o m apos) [] [] pos) X.env = (do
      let ov ← eval o X.env
      standAt apos.atName
      let (f, first) ← holding [ov] (getMethod ov m pl)
      callWith pos f first (backTo pos (starEach [] X.env)) (backToKw pos (keywordEach [] X.env))) := by rfl) :
    ME X T W (.Call (.Attribute o m apos) [] [] pos) (eMeth c m n F fo eNil) := by
  refine PE.imp (pe_methS0' (pl := pl) (E := WE W) he hc hm G hr hb (fun σ => passAt tk σ) ht) fun σ H Q ⟨M, ρ, st, rep, go⟩ => ?_
  refine ⟨M, ρ, st, rep, (Go.bind (Rel := relU X.K T) rep go).mono fun v H1 ⟨M1, st1, u, e1, rep1, ru, go1⟩ => ?_⟩
  by_cases h : insOf c m st1 u = true
  · simp only [h, if_true] at go1
    obtain ⟨a, dx, fv, rfl, h1, h2⟩ := insOf_ok rep1.sto ru h
    refine ⟨a, dx, fv, rfl, h1, h2, ?_⟩
    have go2 : Go X.K T (relU X.K T) W M1 σ H1 (kLen n F [u] st1) Q := go1
    unfold kLen at go2
    by_cases hl : [u].length = n
    · rw [if_pos hl] at go2
      exact sp_of (by rw [← hl]; rfl) rep1.sto (.cons ru .nil) go2
    · rw [if_neg hl] at go2
      exact go2.elim
  · simp only [h] at go1
    exact go1.elim
end
end MM
set_option maxRecDepth 100000
/-! M9: own exceptions whose __init__ says super().__init__(..) -/
namespace MM
open PySem PySem.Spec PyProof.Rows L2

section
open PySem.W PySem.Calls
variable {prog : Program} {w : World} {A : Around} {E : Value → Shared → Prop} {h : Heap} {g : Array GenState} {d : Drawn} {t : Nat} {os : OsState}
variable {nm q : Str} {C N : Addr} {bs bm : List Value} {hdct : Bool} {sn : List Str} {sub : List Value} {ab : Bool} {col : Option Bool} {dd : Option Addr} {k0 k1 k2 k3 k5 : Option Value}
/-- the bound ValueError.__init__, called -/
theorem call_mw {u e t0 : Addr} {rest : List Value} {Q : Value → Shared → Prop}
    (hC : h.get? C = some (excClassObj nm q C N bs bm hdct sn sub ab col dd k0 k1 k2 k3 k5 "ValueError.__new__")) (he : h.get? e = some (HandSPX.excO C t0)) (hu : h.get? u = some (kxs_mw "ValueError.__init__" e)) (hrest : rest.length ≤ sizeLine)
    (hq : ∀ h' t1, (∀ b o, b ≠ e → h.get? b = some o → h'.get? b = some o) → h'.get? e = some (HandSPX.excO C t1) → Q .none ⟨h', g, d, t, os⟩) :
    wpAny (model prog w) A (call (.ref u) rest) Q E ⟨h, g, d, t, os⟩ := by
  refine wpAny_call (codeAny_of_tree ?_)
  show wpAny _ A.in1 (callAny (.ref u) ⟨rest, []⟩) _ _ _
  simp only [callAny]
  refine wpAny_bind (wpAny_load hu ?_)
  simp only [kxs_mw, show (Value.type "method-wrapper" == Value.type "method" || Value.type "method-wrapper" == Value.type "builtin_function_or_method" || Value.type "method-wrapper" == Value.type "method-wrapper") = true by decide, if_true]
  refine W.KFB.if_so (by decide) ?_
  refine wpAny_bind (ESX.check_bound F.excBase_ValueError hC he rfl ?_)
  refine wpAny_bind (wpAny_pure (wpAny_pure ?_))
  refine ⟨Code.quiet_builtin _ (by decide +kernel), codeAny_builtin F.excBase_ValueError.initEntry ?_⟩
  rw [Around.under_plainId F.excBase_ValueError.init.plain _]
  wp_walk
  refine hq _ h.objs.size (fun b o hb ho => ?_) ?_
  · rw [Heap.get?_update_other _ _ (Ne.symm hb)]
    exact Heap.get?_push_of_some _ ho
  · rw [Heap.get?_update_self _ (Heap.get?_push_of_some _ he) rfl]
    rfl
end

/-- a def of a class's body with a super() in it: its __class__ cell is at cc -/
abbrev ssFn := @PySem.W.ksFn
/-- the context of such a def's body, which raises nothing -/
def cxS (P : Program) (w : World) (K : PySem.W.Frag) (mg : Str → Option Value) (base : Heap) (N : List Str) (qual : Str) (scope : Scope) (f : Addr) (cd : Value) (cc : Addr) (A : Around) (outer : List Env) (s : Shared) (H : Hp) : Cx where
  prog := P
  w := w
  K := K
  mg := mg
  base := base
  A := A.deeper (PySem.W.ksEnv qual scope s.heap.objs.size f cd cc)
  N := N
  s_0 := s
  H_0 := H
  env := PySem.W.ksEnv qual scope s.heap.objs.size f cd cc
  outer := outer
  stack := PySem.W.ksEnv qual scope s.heap.objs.size f cd cc :: outer
  ex := []
  calm := true
  fn := fun _ => false
  pn := []
  xe := fun _ _ => False
theorem lookup_nodup {α : Type} {x : Str} {u : α} : ∀ {l : List (Str × α)}, (l.map (·.1)).Nodup → (x, u) ∈ l → l.lookup x = some u
  | [], _, h => by cases h
  | (y, v) :: l, nd, h => by
    rw [List.map_cons, List.nodup_cons] at nd
    rw [List.lookup_cons]
    rcases List.mem_cons.mp h with e | h2
    · cases e
      simp
    · have ne : (x == y) = false := by
        apply beq_eq_false_iff_ne.mpr
        intro e
        subst e
        exact nd.1 (List.mem_map.mpr ⟨(x, u), h2, rfl⟩)
      rw [ne]
      exact lookup_nodup nd.2 h2
theorem zip_rev {ps : List Str} {us : List Value} {i : Nat} {y : Str} {u : Value} (nd : ps.Nodup) (hl : us.length = ps.length) (hp : ps[i]? = some y) (hu : us[i]? = some u) : (ps.zip us).reverse.lookup y = some u := by
  refine lookup_nodup ?_ (List.mem_reverse.mpr ?_)
  · rw [List.map_reverse, List.map_fst_zip (by omega)]
    exact List.pairwise_reverse.mpr (List.Pairwise.imp (fun h => Ne.symm h) nd)
  · refine List.mem_of_getElem? (i := i) ?_
    rw [List.getElem?_zip_eq_some]
    exact ⟨hp, hu⟩
structure SupScope (N ps : List Str) (sc : Scope) : Prop where
  kind : sc.kind = .function
  co : sc.isCoroutine = false
  gen : sc.isGenerator = false
  nd : N.Nodup
  pre : N.take ps.length = ps
  par : ∀ x ∈ ps, sc.names.lookup x = some .local
  cell : ∀ y ∈ sc.names, y.2 ≠ .cell
  free : ∀ y ∈ sc.names, y.2 = .free → y.1 = ("__class__" : Str)
  cls : sc.names.lookup ("__class__" : Str) = some NameKind.free
  sup : sc.names.lookup ("super" : Str) = some NameKind.globalImplicit
theorem inv_sup {P : Program} {w : World} {K : PySem.W.Frag} {mg : Str → Option Value} {base : Heap} {N ps : List Str} {qual : Str} {scope : Scope} {f cc : Addr} {cd : Value} {A : Around} {outer : List Env} {s : Shared} {h₀ : Heap} {H : Hp} {us : List Value} {vs : List V} {D : Addr}
    (S : SupScope N ps scope) (hd : A.handled = none) (e0 : Env0 P w K mg base A outer s H) (hl : vs.length = ps.length) (r : Vals vs us) {cl : Value} {cld : Option Addr} {csl : Array (Option Value)} (hcell : K.lookup cc = some ⟨cl, cld, .cell (some (.ref D)), csl⟩)
    (hns : h₀.Ns s.heap.objs.size (fun x => (ps.zip us).reverse.lookup x)) (hk : ∀ b o, s.heap.get? b = some o → h₀.get? b = some o) (n : Nat) :
    Inv (cxS P w K mg base N qual scope f cd cc A outer s H) [] (L2.start N vs) H { s with heap := h₀, toks := s.toks + n } := by
  have hpl : ps.length ≤ N.length := by have := congrArg List.length S.pre; rw [List.length_take] at this; omega
  have noA : ∀ b : Addr, b ∉ (cxS P w K mg base N qual scope f cd cc A outer s H).ex := fun b z => absurd (show b ∈ ([] : List Addr) from z) (by simp)
  have cl1 : ∀ {x : Str} {c : Addr}, List.lookup x [(("__class__" : Str), cc)] = some c → x = "__class__" ∧ c = cc := fun {x c} h => by
    rw [List.lookup_cons] at h
    cases e : x == ("__class__" : Str) with
    | true => rw [e] at h; cases h; exact ⟨by simpa using e, rfl⟩
    | false => rw [e] at h; cases h
  have KX : K.In s.heap := e0.mod.kin.keeps fun b o e => (e0.bs b o e).1
  have hcc := e0.mod.kin _ _ hcell
  have Hcc : H cc = none := (e0.bs _ _ hcc).2
  refine ⟨⟨e0.mod, S.kind, rfl, rfl, Nat.le_refl _, fun y z c h1 h2 => ?_, fun y hy => ?_, fun y c hf h => ?_, fun _ => hd, Around.frames_deeper e0.frames, .inr ⟨rfl, rfl⟩, fun b z => absurd z (noA b), e0.bs, e0.bsz, fun b _ _ => noA b, fun b z => absurd z (noA b), e0.funs, e0.frf⟩,
    rfl, e0.bare, Un.kept hk, ⟨_, hns, fun i y v h1 h2 h3 => ?_⟩, fun y c h => ?_, e0.hok.fresh (Nat.le_refl _), fun y c h => ?_, fun p hp => absurd (show p ∈ ([] : List (Addr × Obj)) from hp) (by simp), e0.hok.kept hk, ?_⟩
  · rw [(cl1 h1).1, (cl1 h2).1]
  · have hy : scope.names.lookup y = some .cell ∨ scope.names.lookup y = some .free := hy
    rcases hy with hy | hy
    · exact absurd rfl (S.cell _ (PySem.mem_of_lookup hy))
    · have := S.free _ (PySem.mem_of_lookup hy) rfl
      simp only at this
      subst this
      exact ⟨cc, rfl⟩
  · cases (show false = true from hf)
  · have hi : i < vs.length := by
      unfold L2.start at h2
      by_cases hi : i < vs.length
      · exact hi
      · rw [List.getElem?_append_right (by simpa using hi)] at h2
        rw [List.getElem?_replicate] at h2
        split at h2 <;> cases h2
    have ha : vs[i]? = some v := by
      unfold L2.start at h2
      rw [List.getElem?_append_left (by simpa using hi), List.getElem?_map] at h2
      cases e : vs[i]? with
      | none => rw [e] at h2; cases h2
      | some a => rw [e] at h2; cases h2; rfl
    obtain ⟨u, hu, rv⟩ := r.get ha
    have hp : ps[i]? = some y := by
      rw [← S.pre, List.getElem?_take_of_lt (by omega)]; exact h1
    have ndP : ps.Nodup := by rw [← S.pre]; exact S.nd.sublist (List.take_sublist _ _)
    refine ⟨u, rv, .inl ⟨S.par y (List.mem_of_getElem? hp), ?_⟩⟩
    have hlu : us.length = ps.length := by rw [← r.length]; exact hl
    exact zip_rev ndP hlu hp hu
  · obtain ⟨rfl, rfl⟩ := cl1 h
    exact ⟨_, _, hk _ _ (KX _ _ hcell), rfl⟩
  · obtain ⟨rfl, rfl⟩ := cl1 h
    exact Hcc
  · unfold L2.start
    show _ = N.length
    rw [List.length_append, List.length_map, List.length_replicate]
    omega

/-- what the written part says of an own error class and its __init__ -/
structure SupC (P : Program) (K : PySem.W.Frag) (mg : Str → Option Value) (C fI cc cda : Addr) (qual : Str) (st : Stmt) (fd : FuncData) : Prop where
  ox : OexC K C
  lk : ∃ (oc : Value) (od : Option Addr) (kV doc pm : Value) (an : Option Addr) (ct : Value) (osl : Array (Option Value)), fd = PySem.W.ksFn "__init__" qual (defArgs st) (defBody st) (defScope st) .none kV doc pm an (.ref cda) ct cc ∧ K.lookup fI = some ⟨oc, od, .func fd, osl⟩
  cd : PySem.W.codeIn K (.ref cda) qual = true
  co : ∃ (ccl : Value) (cdd : Option Addr) (vs : Array Value) (ccs : Array (Option Value)) (file : Str) (tf : Tok), K.lookup cda = some ⟨ccl, cdd, .fields vs, ccs⟩ ∧ vs[2]? = some (.str file tf) ∧ ((P.main.file : Str) == file) = true
  cell : ∃ (cl : Value) (cld : Option Addr) (csl : Array (Option Value)), K.lookup cc = some ⟨cl, cld, .cell (some (.ref C)), csl⟩
  cls : ∃ cdD, PySem.W.clsIn K C = some cdD
  sub : PySem.W.mroIn K C (.ref C) = some true
  sup : mg "super" = none
  opq : PySem.W.nsIn K PySem.cStatics "thirdparty.any" = some none
  ini : PySem.W.ks_superIn K C C "__init__" = some (some (.builtin "ValueError.__init__"))
  sVE : PySem.W.subIn K (.ref C) (.type "ValueError") = some true
  top : (P.main.scope.names.lookup ("super" : Str)).isSome = false
/-- THE RULE for such an __init__ -/
theorem fn_super {P : Program} {w : World} {K : PySem.W.Frag} {mg : Str → Option Value} {base : Heap} {CX : CXT} {k : Nat} {C fI cc cda : Addr} {qual : Str} {st : Stmt} {fd : FuncData} {N ps : List Str} {sp : Sp} {ar : Arg}
    {e0 : Expr} {es : List Expr} {rest : List Stmt} {p0 p1 apos pos pos' : Pos} {pl : Sem Bool} (c : SupC P K mg C fI cc cda qual st fd) (S : SupScope N ps (defScope st)) (len : ∀ vs H Q E, sp vs H Q E → vs.length = ps.length)
    (hb : defBody st = .Expr (.Call (.Attribute (.Call (.Name "super" p0) [] [] p1) "__init__" apos) (e0 :: es) [] pos) pos' :: rest)
    (hself : ((defArgs st).posonlyargs ++ (defArgs st).args).head? = some ar) (h0 : N[0]? = some ar.arg) (har : (defScope st).names.lookup ar.arg = some .local)
    (hev : ∀ env : Env, eval (.Call (.Attribute (.Call (.Name "super" p0) [] [] p1) "__init__" apos) (e0 :: es) [] pos) env = (do
      let ov ← attributeBase (.Call (.Name "super" p0) [] [] p1) "__init__" env (eval (.Call (.Name "super" p0) [] [] p1) env)
      standAt apos.atName
      let (f, first) ← holding [ov] (getMethod ov "__init__" pl)
      callWith pos f first (backTo pos (starEach (e0 :: es) env)) []))
    (hse : ∀ env : Env, starEach (e0 :: es) env = (false, eval e0 env) :: starEach es env) (hpl : ∀ env : Env, (backTo pos (starEach es env)).any (·.1) = false)
    (hsw : ∀ env : Env, env.scope.kind = .function → swapsWith (.Call (.Attribute (.Call (.Name "super" p0) [] [] p1) "__init__" apos) (e0 :: es) [] pos) none pos'.line env = pure false)
    (hbody : ∀ (A : Around) (outer : List Env) (s : Shared) (H : Hp) (vs : List V) (Q : VK) (E : XK), sp vs H Q E →
      ∃ a ta t, vs[0]? = some (.ref a) ∧ PA (cxS P w K mg base N qual (defScope st) fI (.ref cda) cc A outer s H) (e0 :: es) ta ∧ PSs (cxS P w K mg base N qual (defScope st) fI (.ref cda) cc A outer s H) rest t ∧
        H a = some (exo a C none) ∧ ta (L2.start N vs) H fun ws H1 => ws.length ≤ 1000 ∧ H1 = H ∧ t { nx := fun _ H' => Q .non H', rt := Q } (L2.start N vs) H1) :
    FnOk P w K mg base CX (k + 1) fI fd ps sp := by
  refine ⟨len, fun A outer s H args us vs Q E hr en hbind r hsp => ?_⟩
  have hl := len _ _ _ _ hsp
  have KX : K.In s.heap := en.mod.kin.keeps fun b o e => (en.bs b o e).1
  have lim : s.heap.NoLimit := en.mod.nolimit.keeps fun b o e => (en.bs b o e).1
  obtain ⟨oc, od, kV, doc, pm, an, ct, osl, rfl, lk⟩ := c.lk
  obtain ⟨ccl, cdd, cvs, ccs, file, tf, hco, hcv, hfile⟩ := c.co
  obtain ⟨cl, cld, csl, hcell⟩ := c.cell
  obtain ⟨cdD, hcls⟩ := c.cls
  have hpl' : ps.length ≤ N.length := by have := congrArg List.length S.pre; rw [List.length_take] at this; omega
  obtain ⟨a, ta, t, hv0, ha, ht, hea, hq⟩ := hbody A outer s H vs Q E hsp
  have hg0 : (ps.zip us).reverse.lookup ar.arg = some (.ref a) := by
    have hl' : us.length = ps.length := by rw [← r.length]; exact hl
    obtain ⟨u, hu, rv⟩ := r.get hv0
    obtain rfl : u = Value.ref a := rv
    have h0l : 0 < vs.length := by
      rcases vs with _ | _
      · cases hv0
      · exact Nat.succ_pos _
    have hp0 : ps[0]? = some ar.arg := by
      rw [← S.pre, List.getElem?_take_of_lt (by omega)]; exact h0
    have ndP : ps.Nodup := by rw [← S.pre]; exact S.nd.sublist (List.take_sublist _ _)
    exact zip_rev ndP hl' hp0 hu
  refine PySem.ks_codeAny_call_defAt (fd := PySem.W.ksFn "__init__" qual (defArgs st) (defBody st) (defScope st) .none kV doc pm an (.ref cda) ct cc) (body := defBody st) (binds := ps.zip us) hr.depth (KX _ _ lk) rfl lim (PySem.W.codeRec_of KX c.cd) rfl hbind S.cell
    (fun y hy => S.par _ (List.of_mem_zip (show (y.1, y.2) ∈ ps.zip us from hy)).1) (fun h₀ hns hk => ?_) S.co S.gen S.kind
  have I0 := inv_sup (qual := qual) (f := fI) (cd := .ref cda) (n := (ps.zip us).length) S hr.hd en hl r hcell hns hk
  have I := I0
  show _root_.PySem.wpAt (model P w) (A.deeper (PySem.W.ksEnv qual (defScope st) s.heap.objs.size fI (.ref cda) cc)) (.func (defBody st) (PySem.W.ksEnv qual (defScope st) s.heap.objs.size fI (.ref cda) cc)) (execs (defBody st) (PySem.W.ksEnv qual (defScope st) s.heap.objs.size fI (.ref cda) cc)) _ _ _
  refine ks_wpAt_mono (Q := SP (cxS P w K mg base N qual (defScope st) fI (.ref cda) cc A outer s H) [] { nx := fun _ H' => Q .non H', rt := Q }) (E := fun _ _ => False) ?_ (fun fl s' hs => ?_) (fun _ _ z => z.elim)
  · have hint := I0.quiet
    obtain ⟨t0, hoa⟩ := exo_at I0.hok hea
    obtain ⟨oD, hD1, hD2⟩ : ∃ oD, h₀.get? C = some oD ∧ oD.data = .cls cdD := by
      unfold PySem.W.clsIn at hcls
      split at hcls
      · rename_i c1 d1 cd' sl ho
        cases hcls
        exact ⟨_, I0.kIn _ _ ho, rfl⟩
      · cases hcls
    have KF := PySem.W.kxs_ValueError
    have X := I0.kIn
    obtain ⟨mb, b1, b2⟩ := en.mod.blt
    have up : ∀ b o, base.get? b = some o → h₀.get? b = some o := fun b o e => hk b o (en.bs b o e).1
    rw [hb]
    refine ks_wpAt_execs_cons (ks_wpAt_Expr_any (ks_wpAt_MethodCall ?_ (hev _)) hint (hsw _ S.kind))
    refine ks_wpAt_super_base (env := PySem.W.ksEnv qual (defScope st) s.heap.objs.size fI (.ref cda) cc) S.sup S.cls (by decide) rfl (hk _ _ (KX _ _ lk)) rfl hself rfl (hk _ _ (KX _ _ hco)) rfl hcv hfile c.top ?_
    refine PySem.W.ks_loadName_global S.kind S.sup (Calls.loadGlobal_builtin (env := PySem.W.ksEnv qual (defScope st) s.heap.objs.size fI (.ref cda) cc) (en.mod.glob.keeps up) c.sup (b1.keeps up) ((b2 _ (by decide +kernel)).trans (by kernel_rfl)) ⟨rfl, ?_⟩)
    refine wpAny_loadName_free S.kind S.cls rfl ⟨_, hk _ _ (KX _ _ hcell), rfl⟩ ?_
    refine wpAny_loadName_local S.kind har hns hg0 ?_
    refine PySem.ks_wpAny_isType_cls hD1 hD2 ⟨rfl, ?_⟩
    refine PySem.ks_wpAny_call_super hD1 hD2 hoa rfl (fun c e => by cases e) (PySem.W.looks_mroIn X c.sub) (fun h1 hso k1 => ?_)
    have I1 := I0.kept (t' := s.toks + (ps.zip us).length) k1
    have hoa1 := k1 _ _ hoa
    have hisI : PySem.W.Looks (model P w) h1 (isInstance (.ref a) (.type "ValueError")) true := PySem.W.Looks.andThen (PySem.W.InstAt.type (od := none) ⟨hoa1, rfl, rfl, trivial⟩) (PySem.W.looks_subIn I1.kIn c.sVE)
    have hsup := c.ini
    unfold PySem.W.ks_superIn at hsup
    rw [hcls] at hsup
    have hne : a ≠ C := PySem.W.ks_ne (odx := none) I1.kIn ⟨hoa1, rfl, rfl, trivial⟩ hcls
    refine PySem.W.kxs_getMethod KF hso (PySem.W.looks_opaque I1.kIn c.opq) (l₀ := cdD.mro) (fun A Q E s k q => wpAny_bind ((PySem.W.looks_clsIn I1.kIn hcls) A _ E s k (wpAny_pure q))) rfl I1.kIn hsup hisI hne (by decide) ?_
    have hou : (h1.push (PySem.W.kxs_mw "ValueError.__init__" a)).get? h1.objs.size = some (PySem.W.kxs_mw "ValueError.__init__" a) := Heap.get?_push_at rfl rfl
    have k2 : ∀ b o, h1.get? b = some o → (h1.push (PySem.W.kxs_mw "ValueError.__init__" a)).get? b = some o := fun b o e => Heap.get?_push_of_some _ e
    have I2 := I1.kept (t' := s.toks + (ps.zip us).length + 1) k2
    have I3 : Inv (cxS P w K mg base N qual (defScope st) fI (.ref cda) cc A outer s H) [(h1.objs.size, PySem.W.kxs_mw "ValueError.__init__" a)] (L2.start N vs) H _ := I2.pins_of fun p hp => by
      rw [List.mem_singleton] at hp
      subst hp
      exact ⟨hou, I1.hok.fresh (Nat.le_refl _), Nat.ne_of_gt I1.lt, I1.nofs (Nat.le_refl _), fun v z => by cases z⟩
    rw [hse]
    refine PySem.W.kxs_callWith (i := "ValueError.__init__") (x := a) (by show (false || (backTo pos (starEach es _)).any (·.1)) = false; rw [hpl]; rfl) ?_
    refine PySem.Calls.evalArgs_plain ?_
    have ha' := ha.run pos _ _ _ _ _ I3 hq
    rw [hse] at ha'
    refine thn ha' fun ws s2 ⟨vs2, H2, I4, r2, hlen, hH, hfin⟩ => ?_
    subst hH
    have pin := I4.pin _ (List.mem_append_right _ (List.mem_singleton.mpr rfl))
    refine ⟨pin.1, ?_⟩
    obtain ⟨nm, q, N', bs, bm, sn, sub, ab, col, dd, k0, k1', k2', k3, k5, hC, hbm⟩ := c.ox.cls
    obtain ⟨t2, hoa4⟩ := exo_at I4.hok hea
    have hlen' : ws.length ≤ sizeLine := by rw [← Paired.length r2, sizeLine_eq]; omega
    obtain ⟨hp4, g4, d4, t4, os4⟩ := s2
    refine call_mw (C := C) (e := a) (I4.kIn _ _ hC) hoa4 pin.1 hlen' fun h' t1 k5' hx => ?_
    have J := I4.write (t' := t4) (x := a) (e := a) (o := exo a C none) (by rw [hea]; exact True.intro) (.inl rfl) k5' ⟨_, hx⟩ (exo_ok hx)
    have eu : upd H2 a (exo a C none) = H2 := by
      funext b
      by_cases hb : b = a
      · rw [hb, upd_same, hea]
      · rw [upd_ne hb]
    rw [eu] at J
    exact wpAt_of_wpAny (ht.run [] _ _ _ _ (J.pins_of fun p hp => absurd hp (by simp)) hfin)
  · have fin : ∀ {σ' : L2.St} {H' : Hp} {v : V} {u : Value}, Inv (cxS P w K mg base N qual (defScope st) fI (.ref cda) cc A outer s H) [] σ' H' s' → RelV v u → Q v H' → CE outer P w H s Q u s' :=
      fun {σ' H' v u} J rv q => ⟨v, H', J.os, J.bare, J.base, J.hok, rv, q⟩
    cases fl with
    | ret u =>
      obtain ⟨v, σ', H', J, rv, q⟩ := hs
      exact fin J rv q
    | next =>
      obtain ⟨σ', H', J, q⟩ := hs
      exact fin (v := V.non) (u := Value.none) J rfl q
    | brk =>
      obtain ⟨_, _, _, q⟩ := hs
      exact False.elim q
    | cont =>
      obtain ⟨_, _, _, q⟩ := hs
      exact False.elim q
end MM
set_option maxRecDepth 100000
/-! M10: built-in functions and methods by values -/
namespace MM
open PySem PySem.Spec PyProof.Rows L2

def rds (st : Stor) : List U → Option (List D)
  | [] => some []
  | u :: us => match rd st u with
    | some x => match rds st us with
      | some xs => some (x :: xs)
      | none => none
    | none => none
@[simp] theorem rds_nil (st : Stor) : rds st [] = some [] := rfl
@[simp] theorem rds_d (st : Stor) (x : D) (us : List U) : rds st (.d x :: us) = (match rds st us with | some xs => some (x :: xs) | none => none) := rfl
def kB (f : List D → Option D) : List U → Stor → R U := fun us st => match rds st us with
  | some xs => match f xs with
    | some z => .ok (.d z) st
    | none => .bad
  | none => .bad
theorem rds_rv {K T M H} {st : Stor} (s : Rst K T M H st) : ∀ {vs : List V} {us : List U} {xs : List D}, Paired (RU K T M H) vs us → rds st us = some xs → Paired (RV K T M H) vs xs
  | _, _, _, .nil, e => by cases e; exact .nil
  | _, _, _, .cons (b := u) r t, e => by
    rw [rds] at e
    cases e1 : rd st u with
    | none => rw [e1] at e; cases e
    | some x =>
      rw [e1] at e
      simp only at e
      rename_i us
      cases e2 : rds st us with
      | none => rw [e2] at e; cases e
      | some xs =>
        rw [e2] at e
        cases e
        exact .cons (r.rv s e1) (rds_rv s t e2)
/-- r asks no more than f says -/
def PL (X : Cx) (T : Nat → Addr) (r : List V → Hp → VK → Prop) (f : List D → Option D) : Prop :=
  ∀ M H st vs xs z Q, Rst X.K T M H st → Paired (RV X.K T M H) vs xs → f xs = some z → Out X.K T M H st z Q → r vs H Q
section
variable {X : Cx} {T : Nat → Addr} {W : WX} {x : Str} {p pos apos : Pos} {e o : Expr} {es : List Expr} {fs : EF (List U)} {fa fo : EF U} {f : List D → Option D} {id Ty : String} {r : List V → Hp → VK → Prop}
theorem kB_ok (o : PL X T r f) {M : List (Option Addr)} {σ : L2.St} {H : Hp} {st : Stor} {us : List U} {vs : List V} {Q : VK} (s : Rst X.K T M H st) (ru : Paired (RU X.K T M H) vs us) (go : Go X.K T (relU X.K T) W M σ H (kB f us st) Q) : r vs H Q := by
  unfold kB at go
  cases e1 : rds st us with
  | none => rw [e1] at go; exact go.elim
  | some xs =>
    rw [e1] at go
    simp only at go
    cases e2 : f xs with
    | none => rw [e2] at go; exact go.elim
    | some z =>
      rw [e2] at go
      exact o M H st vs xs z Q s (rds_rv s ru e1) e2 fun H' v e' s' r' => go M H' v e' s' (.d r')
theorem tCB_of (o : PL X T r f) {σ : L2.St} {H : Hp} {Q : VK} (h : Tg X.K T (relU X.K T) W (eArgs fs (kB f)) σ H Q) : tCB r (Tg X.K T (relL X.K T) W fs) σ H Q := by
  obtain ⟨M, ρ, st, rep, go⟩ := h
  refine ⟨M, ρ, st, rep, (Go.bind (Rel := relL X.K T) rep go).mono fun vs H1 ⟨M1, st1, us, e1, rep1, rus, go1⟩ => ?_⟩
  exact kB_ok o rep1.sto rus go1
/-- f(e, ..), a built-in function -/
theorem m_b (hc : CallR X (.builtin id) r) (o : PL X T r f) (hg : Gl X x) (hm : X.mg x = none) (hv : bootBuiltins x = some (.builtin id)) (ha : MA X T W (e :: es) fs) (hn : x ≠ "__name__" := by decide) (hdb : (x == ("__debug__" : Str)) = false := by decide)
    (he : starEach (e :: es) X.env = (false, eval e X.env) :: starEach es X.env := by rfl) (hpl : (backTo pos (starEach es X.env)).any (·.1) = false := by rfl) : ME X T W (.Call (.Name x p) (e :: es) [] pos) (eArgs fs (kB f)) :=
  PE.imp (pe_callB hc hg hm hv ha hn hdb he hpl) fun _ _ _ h => tCB_of o h
/-- T(e, ..), a built-in type -/
theorem m_bT (hc : CallR X (.type Ty) r) (o : PL X T r f) (hg : Gl X x) (hm : X.mg x = none) (hv : bootBuiltins x = some (.type Ty)) (ha : MA X T W (e :: es) fs) (hn : x ≠ "__name__" := by decide) (hdb : (x == ("__debug__" : Str)) = false := by decide)
    (he : starEach (e :: es) X.env = (false, eval e X.env) :: starEach es X.env := by rfl) (hpl : (backTo pos (starEach es X.env)).any (·.1) = false := by rfl) : ME X T W (.Call (.Name x p) (e :: es) [] pos) (eArgs fs (kB f)) :=
  PE.imp (pe_callTy hc hg hm hv ha hn hdb he hpl) fun _ _ _ h => tCB_of o h
end
section
variable {X : Cx} {T : Nat → Addr} {W : WX}
theorem one_of {α β : Type} {F : α → β → Prop} {vs : List α} {x : β} (h : Paired F vs [x]) : ∃ v, vs = [v] ∧ F v x := by
  cases h with
  | cons r t => cases t; exact ⟨_, rfl, r⟩
theorem two_of {α β : Type} {F : α → β → Prop} {vs : List α} {x y : β} (h : Paired F vs [x, y]) : ∃ v w, vs = [v, w] ∧ F v x ∧ F w y := by
  cases h with
  | cons r t =>
    obtain ⟨w, rfl, q⟩ := one_of t
    exact ⟨_, _, rfl, r, q⟩
theorem rv_int {K T M H} {v : V} {i : Int} (h : RV K T M H v (.int i)) : v = .int i := by cases h; rfl
theorem rv_bl {K T M H} {v : V} {i : Bool} (h : RV K T M H v (.bool i)) : v = .bl i := by cases h; rfl
theorem rv_str {K T M H} {v : V} {s : Str} (h : RV K T M H v (.str s)) : v = .str s ∧ PyData.strOk s = true := by cases h; exact ⟨rfl, by assumption⟩
/-! abs, int, len, max, min of two -/
def bAbs : List D → Option D
  | [.int i] => some (.int (if i < 0 then -i else i))
  | _ => none
theorem l_abs : PL X T (fun xs H Q => ∃ i, xs = [.int i] ∧ Q (.int (if i < 0 then -i else i)) H) bAbs := by
  intro M H st vs xs z Q s r e o
  match xs, e with
  | [.int i], e =>
    obtain ⟨v, rfl, rv⟩ := one_of r
    cases rv_int rv
    cases e
    exact ⟨i, rfl, o.now s (.int _)⟩
def bInt : List D → Option D
  | [.int i] => some (.int i)
  | [.bool b] => some (.int (if b then 1 else 0))
  | _ => none
theorem l_int : PL X T (fun xs H Q => (∃ i, xs = [.int i] ∧ Q (.int i) H) ∨ ∃ k, xs = [.bl k] ∧ Q (.int (if k then 1 else 0)) H) bInt := by
  intro M H st vs xs z Q s r e o
  match xs, e with
  | [.int i], e =>
    obtain ⟨v, rfl, rv⟩ := one_of r
    cases rv_int rv
    cases e
    exact .inl ⟨i, rfl, o.now s (.int _)⟩
  | [.bool b], e =>
    obtain ⟨v, rfl, rv⟩ := one_of r
    cases rv_bl rv
    cases e
    exact .inr ⟨b, rfl, o.now s (.int _)⟩
def bMax2 : List D → Option D
  | [.int i, .int j] => some (.int (if j > i then j else i))
  | _ => none
def bMin2 : List D → Option D
  | [.int i, .int j] => some (.int (if j < i then j else i))
  | _ => none
theorem l_max2 : PL X T (fun xs H Q => ∃ i j, xs = [.int i, .int j] ∧ Q (.int (if j > i then j else i)) H) bMax2 := by
  intro M H st vs xs z Q s r e o
  match xs, e with
  | [.int i, .int j], e =>
    obtain ⟨v, w, rfl, r1, r2⟩ := two_of r
    cases rv_int r1
    cases rv_int r2
    cases e
    exact ⟨i, j, rfl, o.now s (.int _)⟩
theorem l_min2 : PL X T (fun xs H Q => ∃ i j, xs = [.int i, .int j] ∧ Q (.int (if j < i then j else i)) H) bMin2 := by
  intro M H st vs xs z Q s r e o
  match xs, e with
  | [.int i, .int j], e =>
    obtain ⟨v, w, rfl, r1, r2⟩ := two_of r
    cases rv_int r1
    cases rv_int r2
    cases e
    exact ⟨i, j, rfl, o.now s (.int _)⟩
def bLen : List D → Option D
  | [.list xs] => some (.int xs.length)
  | [.tuple xs] => some (.int xs.length)
  | [.scr xs] => some (.int xs.length)
  | [.str s] => if fits s.length then some (.int s.length) else none
  | _ => none
theorem call_len' : CallR X (.builtin "len") (fun xs H Q => (∃ p ys, xs = [.ref p] ∧ (SqL X.K H p ys ∨ SqT X.K H p ys) ∧ Q (.int ys.length) H) ∨ (∃ z, xs = [.str z] ∧ z.length ≤ sizeLine ∧ Q (.int z.length) H)) :=
  fun pins s σ H vs us Q I r h => h.elim (fun q => call_len_seq pins s σ H vs us Q I r q) (fun q => call_len_str pins s σ H vs us Q I r q)
theorem l_len : PL X T (fun xs H Q => (∃ p ys, xs = [.ref p] ∧ (SqL X.K H p ys ∨ SqT X.K H p ys) ∧ Q (.int ys.length) H) ∨ (∃ z, xs = [.str z] ∧ z.length ≤ sizeLine ∧ Q (.int z.length) H)) bLen := by
  intro M H st vs xs z Q s r e o
  match xs, e with
  | [.list ds], e =>
    obtain ⟨v, rfl, a, ys, rfl, h1, h2⟩ := one_of r
    cases e
    exact .inl ⟨a, ys, rfl, .inl (.inl (.inl h1)), by rw [h2.length]; exact o.now s (.int _)⟩
  | [.tuple ds], e =>
    obtain ⟨v, rfl, a, ys, rfl, h1, h2⟩ := one_of r
    cases e
    exact .inl ⟨a, ys, rfl, .inr (sqt_of h1), by rw [h2.length]; exact o.now s (.int _)⟩
  | [.scr ns], e =>
    obtain ⟨v, rfl, a, rfl, h1⟩ := one_of r
    cases e
    exact .inl ⟨a, _, rfl, .inl h1, by rw [List.length_map]; exact o.now s (.int _)⟩
  | [.str t], e =>
    obtain ⟨v, rfl, rv⟩ := one_of r
    cases (rv_str rv).1
    unfold bLen at e
    by_cases hf : fits t.length = true
    · simp only [hf, if_true] at e
      cases e
      exact .inr ⟨t, rfl, fits_le hf, o.now s (.int _)⟩
    · simp only [hf] at e
      cases e
/-! tuple(x), list(x) -/
def bTup : List D → Option D
  | [.list xs] => some (.tuple xs)
  | [.tuple xs] => some (.tuple xs)
  | _ => none
theorem l_tup : PL X T (fun xs H Q => ∃ p ys, xs = [.ref p] ∧ ((SqL X.K H p ys ∧ ∀ l, H l = none → Q (.ref l) (L2.upd H l (.tup ys))) ∨ (SqT X.K H p ys ∧ Q (.ref p) H))) bTup := by
  intro M H st vs xs z Q s r e o
  match xs, e with
  | [.list ds], e =>
    obtain ⟨v, rfl, a, ys, rfl, h1, h2⟩ := one_of r
    cases e
    exact ⟨a, ys, rfl, .inl ⟨.inl (.inl h1), Out.tup s o h2⟩⟩
  | [.tuple ds], e =>
    obtain ⟨v, rfl, a, ys, rfl, h1, h2⟩ := one_of r
    cases e
    exact ⟨a, ys, rfl, .inr ⟨sqt_of h1, o.now s (.tup h1 h2)⟩⟩
theorem rds_ints {K T M H} : ∀ (ns : List Int), RDs K T M H (ns.map V.int) (ns.map D.int)
  | [] => .nil
  | i :: ns => .cons (.int i) (rds_ints ns)
def bLst : List D → Option D
  | [.list xs] => some (.list xs)
  | [.tuple xs] => some (.list xs)
  | [.scr ns] => some (.list (ns.map .int))
  | _ => none
def kLstOf : List U → Stor → R U := fun us st => match rds st us with
  | some xs => match bLst xs with
    | some (.list ds) => .ok (.loc st.length) (st ++ [.lst ds])
    | _ => .bad
  | none => .bad
theorem l_lst : PL X T (fun xs H Q => ∃ p ys, xs = [.ref p] ∧ (SqL X.K H p ys ∨ SqT X.K H p ys) ∧ ∀ l, H l = none → Q (.ref l) (L2.upd H l (.lst ys))) bLst := by
  intro M H st vs xs z Q s r e o
  match xs, e with
  | [.list ds], e =>
    obtain ⟨v, rfl, a, ys, rfl, h1, h2⟩ := one_of r
    cases e
    exact ⟨a, ys, rfl, .inl (.inl (.inl h1)), Out.lst s o h2⟩
  | [.tuple ds], e =>
    obtain ⟨v, rfl, a, ys, rfl, h1, h2⟩ := one_of r
    cases e
    exact ⟨a, ys, rfl, .inr (sqt_of h1), Out.lst s o h2⟩
  | [.scr ns], e =>
    obtain ⟨v, rfl, a, rfl, h1⟩ := one_of r
    cases e
    exact ⟨a, _, rfl, .inl h1, Out.lst s o (rds_ints ns)⟩
/-! sum, max, min, all, any of a list -/
def dInts : List D → Option (List Int)
  | [] => some []
  | .int i :: r => match dInts r with
    | some ns => some (i :: ns)
    | none => none
  | _ :: _ => none
def dBools : List D → Option (List Bool)
  | [] => some []
  | .bool i :: r => match dBools r with
    | some ns => some (i :: ns)
    | none => none
  | _ :: _ => none
theorem dInts_v {K T M H} : ∀ {vs : List V} {ds : List D} {ns : List Int}, RDs K T M H vs ds → dInts ds = some ns → vs = ns.map V.int
  | _, _, _, .nil, e => by cases e; rfl
  | _, _, _, .cons (d := .int i) r t, e => by
    rename_i ds
    rw [dInts] at e
    cases e2 : dInts ds with
    | none => rw [e2] at e; cases e
    | some ns =>
      rw [e2] at e
      cases e
      cases r
      rw [dInts_v t e2]
      rfl
  | _, _, _, .cons (d := .none) _ _, e => by cases e
  | _, _, _, .cons (d := .bool _) _ _, e => by cases e
  | _, _, _, .cons (d := .str _) _ _, e => by cases e
  | _, _, _, .cons (d := .list _) _ _, e => by cases e
  | _, _, _, .cons (d := .tuple _) _ _, e => by cases e
  | _, _, _, .cons (d := .dict _) _ _, e => by cases e
  | _, _, _, .cons (d := .ins _ _) _ _, e => by cases e
  | _, _, _, .cons (d := .fn _) _ _, e => by cases e
  | _, _, _, .cons (d := .exc _ _ _ _) _ _, e => by cases e
  | _, _, _, .cons (d := .scr _) _ _, e => by cases e
theorem dBools_v {K T M H} : ∀ {vs : List V} {ds : List D} {ns : List Bool}, RDs K T M H vs ds → dBools ds = some ns → vs = ns.map V.bl
  | _, _, _, .nil, e => by cases e; rfl
  | _, _, _, .cons (d := .bool i) r t, e => by
    rename_i ds
    rw [dBools] at e
    cases e2 : dBools ds with
    | none => rw [e2] at e; cases e
    | some ns =>
      rw [e2] at e
      cases e
      cases r
      rw [dBools_v t e2]
      rfl
  | _, _, _, .cons (d := .none) _ _, e => by cases e
  | _, _, _, .cons (d := .int _) _ _, e => by cases e
  | _, _, _, .cons (d := .str _) _ _, e => by cases e
  | _, _, _, .cons (d := .list _) _ _, e => by cases e
  | _, _, _, .cons (d := .tuple _) _ _, e => by cases e
  | _, _, _, .cons (d := .dict _) _ _, e => by cases e
  | _, _, _, .cons (d := .ins _ _) _ _, e => by cases e
  | _, _, _, .cons (d := .fn _) _ _, e => by cases e
  | _, _, _, .cons (d := .exc _ _ _ _) _ _, e => by cases e
  | _, _, _, .cons (d := .scr _) _ _, e => by cases e
def maxI : List Int → Int
  | [] => 0
  | [i] => i
  | i :: r => if maxI r < i then i else maxI r
def minI : List Int → Int
  | [] => 0
  | [i] => i
  | i :: r => if i < minI r then i else minI r
theorem maxI_ub : ∀ (l : List Int) (y : Int), y ∈ l → y ≤ maxI l
  | [], _, h => by cases h
  | [i], y, h => by
    cases List.mem_singleton.mp h
    exact Int.le_refl _
  | i :: j :: r, y, h => by
    have ih := maxI_ub (j :: r)
    rw [show maxI (i :: j :: r) = if maxI (j :: r) < i then i else maxI (j :: r) from rfl]
    rcases List.mem_cons.mp h with e | h
    · subst e
      split <;> omega
    · have := ih y h
      split <;> omega
theorem maxI_mem : ∀ (l : List Int), l ≠ [] → maxI l ∈ l
  | [], h => absurd rfl h
  | [i], _ => by simp [maxI]
  | i :: j :: r, _ => by
    have ih := maxI_mem (j :: r) (by simp)
    rw [show maxI (i :: j :: r) = if maxI (j :: r) < i then i else maxI (j :: r) from rfl]
    split
    · exact List.mem_cons_self
    · exact List.mem_cons_of_mem _ ih
theorem minI_lb : ∀ (l : List Int) (y : Int), y ∈ l → minI l ≤ y
  | [], _, h => by cases h
  | [i], y, h => by
    cases List.mem_singleton.mp h
    exact Int.le_refl _
  | i :: j :: r, y, h => by
    have ih := minI_lb (j :: r)
    rw [show minI (i :: j :: r) = if i < minI (j :: r) then i else minI (j :: r) from rfl]
    rcases List.mem_cons.mp h with e | h
    · subst e
      split <;> omega
    · have := ih y h
      split <;> omega
theorem minI_mem : ∀ (l : List Int), l ≠ [] → minI l ∈ l
  | [], h => absurd rfl h
  | [i], _ => by simp [minI]
  | i :: j :: r, _ => by
    have ih := minI_mem (j :: r) (by simp)
    rw [show minI (i :: j :: r) = if i < minI (j :: r) then i else minI (j :: r) from rfl]
    split
    · exact List.mem_cons_self
    · exact List.mem_cons_of_mem _ ih
def bMax1 : List D → Option D
  | [.list xs] => match dInts xs with
    | some (i :: ns) => some (.int (maxI (i :: ns)))
    | _ => none
  | _ => none
def bMin1 : List D → Option D
  | [.list xs] => match dInts xs with
    | some (i :: ns) => some (.int (minI (i :: ns)))
    | _ => none
  | _ => none
def bSum : List D → Option D
  | [.list xs] => match dInts xs with
    | some ns => some (.int ns.sum)
    | _ => none
  | _ => none
def bAll : List D → Option D
  | [.list xs] => match dBools xs with
    | some bs => some (.bool (bs.all id))
    | _ => none
  | _ => none
def bAny : List D → Option D
  | [.list xs] => match dBools xs with
    | some bs => some (.bool (bs.any id))
    | _ => none
  | _ => none
theorem l_max1 : PL X T (rMax X.K) bMax1 := by
  intro M H st vs xs z Q s r e o
  match xs, e with
  | [.list ds], e =>
    obtain ⟨v, rfl, a, ys, rfl, h1, h2⟩ := one_of r
    unfold bMax1 at e
    cases e2 : dInts ds with
    | none => simp [e2] at e
    | some ns =>
      cases ns with
      | nil => simp [e2] at e
      | cons i ns =>
        simp only [e2] at e
        cases e
        have ev := dInts_v h2 e2
        subst ev
        refine ⟨a, i :: ns, rfl, .inl (.inl h1), by simp, fun m hm hu => ?_⟩
        have : m = maxI (i :: ns) := Int.le_antisymm (maxI_ub _ _ hm) (hu _ (maxI_mem _ (by simp)))
        subst this
        exact o.now s (.int _)
theorem l_min1 : PL X T (rMin X.K) bMin1 := by
  intro M H st vs xs z Q s r e o
  match xs, e with
  | [.list ds], e =>
    obtain ⟨v, rfl, a, ys, rfl, h1, h2⟩ := one_of r
    unfold bMin1 at e
    cases e2 : dInts ds with
    | none => simp [e2] at e
    | some ns =>
      cases ns with
      | nil => simp [e2] at e
      | cons i ns =>
        simp only [e2] at e
        cases e
        have ev := dInts_v h2 e2
        subst ev
        refine ⟨a, i :: ns, rfl, .inl (.inl h1), by simp, fun m hm hu => ?_⟩
        have : m = minI (i :: ns) := Int.le_antisymm (hu _ (minI_mem _ (by simp))) (minI_lb _ _ hm)
        subst this
        exact o.now s (.int _)
theorem l_sum : PL X T (rSum X.K) bSum := by
  intro M H st vs xs z Q s r e o
  match xs, e with
  | [.list ds], e =>
    obtain ⟨v, rfl, a, ys, rfl, h1, h2⟩ := one_of r
    unfold bSum at e
    cases e2 : dInts ds with
    | none => simp [e2] at e
    | some ns =>
      simp only [e2] at e
      cases e
      have ev := dInts_v h2 e2
      subst ev
      exact ⟨a, ns, rfl, .inl (.inl h1), o.now s (.int _)⟩
theorem l_all : PL X T (rAll X.K) bAll := by
  intro M H st vs xs z Q s r e o
  match xs, e with
  | [.list ds], e =>
    obtain ⟨v, rfl, a, ys, rfl, h1, h2⟩ := one_of r
    unfold bAll at e
    cases e2 : dBools ds with
    | none => simp [e2] at e
    | some ns =>
      simp only [e2] at e
      cases e
      have ev := dBools_v h2 e2
      subst ev
      exact ⟨a, ns, rfl, .inl (.inl h1), o.now s (.bl _)⟩
theorem l_any : PL X T (rAny X.K) bAny := by
  intro M H st vs xs z Q s r e o
  match xs, e with
  | [.list ds], e =>
    obtain ⟨v, rfl, a, ys, rfl, h1, h2⟩ := one_of r
    unfold bAny at e
    cases e2 : dBools ds with
    | none => simp [e2] at e
    | some ns =>
      simp only [e2] at e
      cases e
      have ev := dBools_v h2 e2
      subst ev
      exact ⟨a, ns, rfl, .inl (.inl h1), o.now s (.bl _)⟩
end
end MM
set_option maxRecDepth 100000
/-! M11: isinstance of built-in types, list(range), methods of a changing list, xs[i] = v -/
namespace MM
open PySem PySem.Spec PyProof.Rows L2

/-! ### isinstance -/
def tyN : D → Option String
  | .none => some "NoneType"
  | .bool _ => some "bool"
  | .int _ => some "int"
  | .str _ => some "str"
  | .list _ => some "list"
  | .scr _ => some "list"
  | .tuple _ => some "tuple"
  | _ => none
def isB (a b : String) : Bool := a == b || (a == "bool" && b == "int")
def tyOk (b : String) : Bool := ["NoneType", "bool", "int", "str", "list", "tuple"].all fun a => kitB a b == some (isB a b)
def bIsi (Ts : List String) : D → Option D := fun x => (tyN x).map fun a => .bool (Ts.any (isB a))
@[simp] theorem bIsi_non (Ts) : bIsi Ts .none = some (.bool (Ts.any (isB "NoneType"))) := rfl
@[simp] theorem bIsi_bl (Ts b) : bIsi Ts (.bool b) = some (.bool (Ts.any (isB "bool"))) := rfl
@[simp] theorem bIsi_int (Ts b) : bIsi Ts (.int b) = some (.bool (Ts.any (isB "int"))) := rfl
@[simp] theorem bIsi_str (Ts b) : bIsi Ts (.str b) = some (.bool (Ts.any (isB "str"))) := rfl
@[simp] theorem bIsi_list (Ts b) : bIsi Ts (.list b) = some (.bool (Ts.any (isB "list"))) := rfl
@[simp] theorem bIsi_scr (Ts b) : bIsi Ts (.scr b) = some (.bool (Ts.any (isB "list"))) := rfl
@[simp] theorem bIsi_tuple (Ts b) : bIsi Ts (.tuple b) = some (.bool (Ts.any (isB "tuple"))) := rfl
theorem tyN_mem {x : D} {a : String} (h : tyN x = some a) : a ∈ ["NoneType", "bool", "int", "str", "list", "tuple"] := by
  cases x <;> first | (cases h; decide) | cases h
theorem kit_at {K : PySem.W.Frag} {a b : String} (ha : a ∈ ["NoneType", "bool", "int", "str", "list", "tuple"]) (hb : tyOk b = true) : PySem.W.kitOne K (.type a) (.type b) = some (isB a b) := by
  have h := List.all_eq_true.mp hb a ha
  exact kit_ty (eq_of_beq h)
theorem kit_all {K : PySem.W.Frag} {a : String} (ha : a ∈ ["NoneType", "bool", "int", "str", "list", "tuple"]) : ∀ {Ts : List String}, Ts.all tyOk = true → PySem.W.kitAny K (.type a) (Ts.map Value.type) = some (Ts.any (isB a))
  | [], _ => rfl
  | b :: Ts, h => by
    rw [List.all_cons, Bool.and_eq_true] at h
    refine kitAny_cons (kit_at ha h.1) (fun e => ?_) (fun e => ?_)
    · rw [kit_all ha h.2, List.any_cons, e, Bool.false_or]
    · rw [List.any_cons, e, Bool.true_or]
theorem tyx_of {K T M H} {v : V} {x : D} {a : String} (r : RV K T M H v x) (h : tyN x = some a) : TyX K H v (.type a) := by
  cases x with
  | none => cases r; cases h; exact .base .non
  | bool b => cases r; cases h; exact .base (.bl _)
  | int b => cases r; cases h; exact .base (.int _)
  | str b => cases r; cases h; exact .base (.str _)
  | list ds => obtain ⟨p, xs, rfl, h1, _⟩ := r; cases h; exact .base (.lst h1)
  | scr ns =>
    obtain ⟨p, rfl, h1⟩ := r
    cases h
    rcases h1 with h1 | ⟨o, its, n, h1, hc, _⟩
    · rcases h1 with h1 | ⟨o, h1⟩
      · exact .base (.lst h1)
      · exact .base (.frz h1)
    · exact .kList h1 hc
  | tuple ds =>
    obtain ⟨p, xs, rfl, h1, _⟩ := r
    cases h
    rcases h1 with h1 | ⟨o, its, n, h1, hc, _⟩
    · rcases h1.2 with h1 | ⟨o, h1⟩
      · exact .base (.tup h1)
      · exact .fTuple h1
    · exact .kTuple h1 hc
  | dict _ => cases h
  | ins _ _ => cases h
  | fn _ => cases h
  | exc _ _ _ _ => cases h
section
variable {X : Cx} {T : Nat → Addr} {W : WX} {x : Str} {p p1 p2 pos apos : Pos} {e o : Expr} {es : List Expr} {fs : EF (List U)} {fa fb fo : EF U} {f : List D → Option D} {id Ty : String} {r : List V → Hp → VK → Prop}
def rdT (st : Stor) (u : U) : Option D := rd st u
/-- isinstance(e, T) -/
theorem m_isi {Tn : Str} {T1 : String} (hT : tyOk T1 = true) (hg : Gl X "isinstance") (hm : X.mg "isinstance" = none) (hv : bootBuiltins "isinstance" = some (.builtin "isinstance")) (hgT : Gl X Tn) (hmT : X.mg Tn = none) (hvT : bootBuiltins Tn = some (.type T1)) (he : ME X T W e fa)
    (hnT : Tn ≠ "__name__" := by decide) (hdT : (Tn == ("__debug__" : Str)) = false := by decide)
    (h1 : starEach [e, .Name Tn p1] X.env = (false, eval e X.env) :: starEach [.Name Tn p1] X.env := by rfl) (h2 : starEach [.Name Tn p1] X.env = (false, eval (.Name Tn p1) X.env) :: starEach [] X.env := by rfl) (hpl : (backTo pos (starEach [.Name Tn p1] X.env)).any (·.1) = false := by rfl) :
    ME X T W (.Call (.Name "isinstance" p) [e, .Name Tn p1] [] pos) (eUn (g1 (bIsi [T1])) fa) := by
  refine PE.imp (pe_callB call_isi hg hm hv (pa_cons he (pa_cons (pe_bltn (v := .ty T1) hgT hmT hvT rfl hnT hdT) pa_nil h2) h1) (by decide) (by decide) h1 hpl) fun σ H Q ⟨M, ρ, st, rep, go⟩ => ?_
  refine ⟨M, ρ, st, rep, (Go.bind (Rel := relU X.K T) rep go).mono fun v H1 ⟨M1, st1, u, e1, rep1, ru, go1⟩ => ?_⟩
  unfold g1 at go1
  cases q : rd st1 u with
  | none => rw [q] at go1; exact go1.elim
  | some d =>
    rw [q] at go1
    simp only [bIsi] at go1
    cases qt : tyN d with
    | none => rw [qt] at go1; exact go1.elim
    | some a =>
      rw [qt] at go1
      refine ⟨v, .ty T1, .type a, .type T1, isB a T1, rfl, .ty T1, tyx_of (ru.rv rep1.sto q) qt, kit_at (tyN_mem qt) hT, ?_⟩
      have : ([T1].any (isB a)) = isB a T1 := by simp
      simp only [Option.map, this] at go1
      exact Go.now rep1.sto go1 (.d (.bl _))
/-- names of types -/
def PTys (X : Cx) (es : List Expr) (Ts : List String) : Prop := PA X es (fun _ H Q => Q (Ts.map V.ty) H)
theorem ptys_nil : PTys X [] [] := pa_nil
theorem ptys_cons {Tn : Str} {T1 : String} {Ts : List String} (hgT : Gl X Tn) (hmT : X.mg Tn = none) (hvT : bootBuiltins Tn = some (.type T1)) (hr : PTys X es Ts)
    (hnT : Tn ≠ "__name__" := by decide) (hdT : (Tn == ("__debug__" : Str)) = false := by decide) (hs : starEach (.Name Tn p1 :: es) X.env = (false, eval (.Name Tn p1) X.env) :: starEach es X.env := by rfl) : PTys X (.Name Tn p1 :: es) (T1 :: Ts) :=
  PA.imp (pa_cons (pe_bltn (v := .ty T1) hgT hmT hvT rfl hnT hdT) hr hs) fun _ _ _ h => h
/-- isinstance(e, (T1, T2, ..)) -/
theorem m_isiT {Ts : List String} {x1} (hT : Ts.all tyOk = true) (hl : fits Ts.length = true) (hg : Gl X "isinstance") (hm : X.mg "isinstance" = none) (hv : bootBuiltins "isinstance" = some (.builtin "isinstance")) (ht : PTys X es Ts) (he : ME X T W e fa)
    (h1 : starEach [e, .Tuple es x1 p1] X.env = (false, eval e X.env) :: starEach [.Tuple es x1 p1] X.env := by rfl) (h2 : starEach [.Tuple es x1 p1] X.env = (false, eval (.Tuple es x1 p1) X.env) :: starEach [] X.env := by rfl) (hpl : (backTo pos (starEach [.Tuple es x1 p1] X.env)).any (·.1) = false := by rfl) :
    ME X T W (.Call (.Name "isinstance" p) [e, .Tuple es x1 p1] [] pos) (eUn (g1 (bIsi Ts)) fa) := by
  refine PE.imp (pe_callB call_isiT hg hm hv (pa_cons he (pa_cons (pe_tup ht) pa_nil h2) h1) (by decide) (by decide) h1 hpl) fun σ H Q ⟨M, ρ, st, rep, go⟩ => ?_
  refine ⟨M, ρ, st, rep, (Go.bind (Rel := relU X.K T) rep go).mono fun v H1 ⟨M1, st1, u, e1, rep1, ru, go1⟩ => ?_⟩
  unfold g1 at go1
  cases q : rd st1 u with
  | none => rw [q] at go1; exact go1.elim
  | some d =>
    rw [q] at go1
    simp only [bIsi] at go1
    cases qt : tyN d with
    | none => rw [qt] at go1; exact go1.elim
    | some a =>
      rw [qt] at go1
      simp only [Option.map] at go1
      refine ⟨by rw [List.length_map]; exact fits_le hl, fun tp hp => ?_⟩
      have ex := Ext.lay (M := M1) (o := .tup (Ts.map V.ty)) hp
      have s2 := rep1.sto.lay (o := .tup (Ts.map V.ty)) hp
      have cls : ∀ Ts : List String, Paired ClsV (Ts.map V.ty) (Ts.map Value.type) := by
        intro Ts
        induction Ts with
        | nil => exact .nil
        | cons b Ts ih => exact .cons (.ty b) ih
      exact ⟨v, tp, Ts.map V.ty, .type a, Ts.map .type, Ts.any (isB a), rfl, upd_same, cls Ts, tyx_of ((ru.ext ex).rv s2 q) qt, kit_all (tyN_mem qt) hT, go1 M1 _ _ ex s2 (.d (.bl _))⟩

/-! ### list(range(..)) -/
def rgD (a b : Int) : List D := (List.range (b - a).toNat).map fun i => D.int (a + (i : Nat))
theorem rgD_v {K T M H} (a b : Int) : RDs K T M H (rgV a b) (rgD a b) := by
  unfold rgV rgD
  generalize List.range (b - a).toNat = l
  induction l with
  | nil => exact .nil
  | cons i l ih => exact .cons (.int _) ih
def rgOk (a b : Int) : Bool := decide (-(2 ^ 62) ≤ a ∧ a < 2 ^ 62 ∧ -(2 ^ 62) ≤ b ∧ b < 2 ^ 62 ∧ (b - a).toNat ≤ 2 ^ 24)
def bRgL : D → D → Option D
  | .int a, .int b => if rgOk a b then some (.list (rgD a b)) else none
  | _, _ => none
def eLstRg (fa fb : EF U) : EF U := eBin (g2 bRgL) fa fb
theorem m_listRg2 {a b : Expr} (hc : X.calm = true) (hg : Gl X "list") (hm : X.mg "list" = none) (hgR : Gl X "range") (hmR : X.mg "range" = none) (ha : ME X T W a fa) (hb : ME X T W b fb)
    (na : starEach [a, b] X.env = (false, eval a X.env) :: starEach [b] X.env := by rfl) (nb : starEach [b] X.env = (false, eval b X.env) :: starEach [] X.env := by rfl) (hp : (backTo p2 (starEach [b] X.env)).any (·.1) = false := by rfl)
    (ne : starEach [.Call (.Name "range" p1) [a, b] [] p2] X.env = (false, eval (.Call (.Name "range" p1) [a, b] [] p2) X.env) :: starEach [] X.env := by rfl) :
    ME X T W (.Call (.Name "list" p) [.Call (.Name "range" p1) [a, b] [] p2] [] pos) (eLstRg fa fb) := by
  refine PE.imp (pe_listRg hc hg hm (prg_2 hgR hmR ha hb na nb hp) ne) fun σ H Q ⟨M, ρ, st, rep, go⟩ => ?_
  refine ⟨M, ρ, st, rep, (Go.bind (Rel := relU X.K T) rep go).mono fun x H1 ⟨M1, st1, u, e1, rep1, ru, go1⟩ => ?_⟩
  refine ⟨M1, ρ, st1, rep1, (Go.bind (Rel := relU X.K T) rep1 go1).mono fun y H2 ⟨M2, st2, w, e2, rep2, rw, go2⟩ => ?_⟩
  have ru' := RU.ext e2 ru
  unfold g2 at go2
  cases q1 : rd st2 u with
  | none => rw [q1] at go2; exact go2.elim
  | some d1 =>
    cases q2 : rd st2 w with
    | none => rw [q1, q2] at go2; exact go2.elim
    | some d2 =>
      rw [q1, q2] at go2
      simp only at go2
      cases d1 with
      | int i =>
        cases d2 with
        | int j =>
          cases rv_int (ru'.rv rep2.sto q1)
          cases rv_int (rw.rv rep2.sto q2)
          refine ⟨i, j, rfl, rfl, ?_⟩
          unfold bRgL at go2
          by_cases hr : rgOk i j = true
          · simp only [hr, if_true] at go2
            unfold rgOk at hr
            have hr' := of_decide_eq_true hr
            refine ⟨hr', fun q hq => ?_⟩
            exact go2 M2 _ (.ref q) (Ext.lay hq) (rep2.sto.lay hq) (.d (.lst (rep2.sto.new hq) upd_same ((rgD_v i j).ext (Ext.lay hq))))
          · simp only [hr] at go2
            exact go2.elim
        | _ => exact go2.elim
      | _ => exact go2.elim

/-! ### methods of a changing list -/
/-- o.m(..) of the list at .loc i -/
def eLM (k : List D → List U → Option (D × List D)) (fo : EF U) (fs : EF (List U)) : EF U := fun ρ st => (fo ρ st).bind fun u st1 => match u with
  | .loc i => match st1[i]? with
    | some (.lst _) => (fs ρ st1).bind fun us st2 => match st2[i]? with
      | some (.lst ds) => match k ds us with
        | some (z, ds') => .ok (.d z) (st2.set i (.lst ds'))
        | none => .bad
      | _ => .bad
    | _ => .bad
  | _ => .bad
/-- r asks no more than k says -/
def PLM (X : Cx) (T : Nat → Addr) (r : V → List V → Hp → VK → Prop) (k : List D → List U → Option (D × List D)) : Prop :=
  ∀ (M : List (Option Addr)) (H : Hp) (st : Stor) (i : Nat) (a : Addr) (vs : List V) (us : List U) (ds : List D) (xs : List V) (z : D) (ds' : List D) (Q : VK), Rst X.K T M H st → M[i]? = some (some a) → H a = some (.lst xs) → RDs X.K T M H xs ds → Paired (RU X.K T M H) vs us → k ds us = some (z, ds') →
    (∀ v xs', RD X.K T M H v z → RDs X.K T M H xs' ds' → Q v (L2.upd H a (.lst xs'))) → r (.ref a) vs H Q
theorem loc_lst {K T M H} {st : Stor} (s : Rst K T M H st) {i : Nat} {ds : List D} (h : st[i]? = some (.lst ds)) : ∃ a xs, M[i]? = some (some a) ∧ H a = some (.lst xs) ∧ RDs K T M H xs ds := by
  obtain ⟨m, hm, a, xs, rfl, h1, h2⟩ := s.get h
  exact ⟨a, xs, hm, h1, h2⟩
theorem ru_loc {K T M H} {v : V} {i : Nat} {a : Addr} (r : RU K T M H v (.loc i)) (h : M[i]? = some (some a)) : v = .ref a := by
  cases r with
  | loc h' => rw [h] at h'; cases h'; rfl
  | hole h' => rw [h] at h'; cases h'
theorem m_lm {name : Str} {k : List D → List U → Option (D × List D)} {r : V → List V → Hp → VK → Prop} (pl : PLM X T r k) (pa : PlainAttrs "list") (slot : Slot "list" name id) (hty : typeOf (.builtin id) = pure (.type "method_descriptor")) (hm : MtR X id r) (ho : ME X T W o fo) (ha : MA X T W (e :: es) fs)
    (hbase : attributeBase o name X.env (eval o X.env) = eval o X.env := by rfl)
    (hfew : ((backTo pos (starEach (e :: es) X.env)).all (fun x => !x.1) && (backToKw pos (keywordEach [] X.env)).all (fun x => x.1.isSome)
      && decide ((e :: es).length + ([] : List Keyword).length + (if ([] : List Keyword).isEmpty then 0 else 1) < 30)) = true := by rfl)
    (hline : (apos.endLine == pos.line) = true := by rfl) (hs : starEach (e :: es) X.env = (false, eval e X.env) :: starEach es X.env := by rfl) (hplain : (backTo pos (starEach es X.env)).any (·.1) = false := by rfl) :
    ME X T W (.Call (.Attribute o name apos) (e :: es) [] pos) (eLM k fo fs) := by
  refine PE.imp (pe_bm pa slot hty hm ho ha hbase hfew hline hs hplain) fun σ H Q ⟨M, ρ, st, rep, go⟩ => ?_
  refine ⟨M, ρ, st, rep, (Go.bind (Rel := relU X.K T) rep go).mono fun v H1 ⟨M1, st1, u, e1, rep1, ru, go1⟩ => ?_⟩
  cases u with
  | d _ => exact go1.elim
  | loc i =>
    simp only at go1
    cases q : st1[i]? with
    | none => simp only [q] at go1; exact go1.elim
    | some ob =>
      cases ob with
      | lst ds1 =>
        simp only [q] at go1
        obtain ⟨a, xs1, hi, ha1, _⟩ := loc_lst rep1.sto q
        cases ru_loc ru hi
        refine ⟨.inl ⟨rfl, _, .inl (.inl ha1)⟩, M1, ρ, st1, rep1, (Go.bind (Rel := relL X.K T) rep1 go1).mono fun vs H2 ⟨M2, st2, us, e2, rep2, rus, go2⟩ => ?_⟩
        cases q2 : st2[i]? with
        | none => simp only [q2] at go2; exact go2.elim
        | some ob2 =>
          cases ob2 with
          | lst ds2 =>
            simp only [q2] at go2
            cases q3 : k ds2 us with
            | none => simp only [q3] at go2; exact go2.elim
            | some zd =>
              obtain ⟨z, ds'⟩ := zd
              simp only [q3] at go2
              obtain ⟨a2, xs2, hi2, ha2, hr2⟩ := loc_lst rep2.sto q2
              have ea : a2 = a := by
                rcases e2.old i (some a) hi with w | w
                · rw [hi2] at w; cases w; rfl
                · rw [hi2] at w; cases w
              subst ea
              refine pl M2 H2 st2 i a2 vs us ds2 xs2 z ds' Q rep2.sto hi2 ha2 hr2 rus q3 fun v xs' rv rxs => ?_
              obtain ⟨ex, s3⟩ := rep2.sto.wr (o := .lst xs') (ob := .lst ds') hi2 fun ex => ⟨a2, xs', rfl, upd_same, rxs.ext ex⟩
              exact go2 M2 _ v ex s3 (.d (rv.ext ex))
          | _ => simp only [q2] at go2; exact go2.elim
      | _ => simp only [q] at go1; exact go1.elim
def kIns : List D → List U → Option (D × List D) := fun ds us => match us with
  | [.d (.int i), .d y] => if decide (0 ≤ i ∧ i < 2 ^ 63 ∧ ds.length < 16777216) then some (.none, ds.take i.toNat ++ [y] ++ ds.drop i.toNat) else none
  | _ => none
theorem lm_insert : PLM X T (fun x vs H Q => ∃ (l : Addr) (xs : List V) (i : Int) (y : V), x = .ref l ∧ vs = [.int i, y] ∧ H l = some (.lst xs) ∧ xs.length < sizeLine ∧ 0 ≤ i ∧ i < 2 ^ 63 ∧
    Q .non (L2.upd H l (.lst (xs.take i.toNat ++ [y] ++ xs.drop i.toNat)))) kIns := by
  intro M H st i a vs us ds xs z ds' Q s hi ha hr ru hk q
  match us, hk with
  | [.d (.int i), .d y], hk =>
    obtain ⟨v, w, rfl, r1, r2⟩ := two_of ru
    cases r1 with
    | d r1 =>
      cases r1
      cases r2 with
      | d r2 =>
        unfold kIns at hk
        by_cases hc : (0 ≤ i ∧ i < 2 ^ 63 ∧ ds.length < 16777216)
        · simp only [hc, decide_true, if_true] at hk
          cases hk
          refine ⟨a, xs, i, w, rfl, rfl, ha, by rw [hr.length, sizeLine_eq]; exact hc.2.2, hc.1, hc.2.1, q _ _ .non (((hr.take _).app (.cons r2 .nil)).app (hr.drop _))⟩
        · simp only [hc, decide_false] at hk
          cases hk
def kApp : List D → List U → Option (D × List D) := fun ds us => match us with
  | [.d y] => if decide (ds.length < 16777216) then some (.none, ds ++ [y]) else none
  | _ => none
theorem lm_append : PLM X T rAppend kApp := by
  intro M H st i a vs us ds xs z ds' Q s hi ha hr ru hk q
  match us, hk with
  | [.d y], hk =>
    obtain ⟨v, rfl, r1⟩ := one_of ru
    cases r1 with
    | d r1 =>
      unfold kApp at hk
      by_cases hc : ds.length < 16777216
      · simp only [hc, decide_true, if_true] at hk
        cases hk
        exact ⟨a, xs, v, rfl, rfl, ha, by rw [hr.length, sizeLine_eq]; exact hc, q _ _ .non (hr.app (.cons r1 .nil))⟩
      · simp only [hc, decide_false] at hk
        cases hk
theorem m_append (ho : ME X T W o fo) (ha : MA X T W [e] fs)
    (hbase : attributeBase o "append" X.env (eval o X.env) = eval o X.env := by rfl)
    (hfew : ((backTo pos (starEach [e] X.env)).all (fun x => !x.1) && (backToKw pos (keywordEach [] X.env)).all (fun x => x.1.isSome)
      && decide ([e].length + ([] : List Keyword).length + (if ([] : List Keyword).isEmpty then 0 else 1) < 30)) = true := by rfl)
    (hline : (apos.endLine == pos.line) = true := by rfl) (hs : starEach [e] X.env = (false, eval e X.env) :: starEach [] X.env := by rfl) :
    ME X T W (.Call (.Attribute o "append" apos) [e] [] pos) (eLM kApp fo fs) :=
  m_lm lm_append PySem.F.plainAttrs_list PySem.F.slot_list_append PySem.F.type_list_append mt_append ho ha hbase hfew hline hs rfl
theorem m_insert {e2 : Expr} (ho : ME X T W o fo) (ha : MA X T W [e, e2] fs)
    (hbase : attributeBase o "insert" X.env (eval o X.env) = eval o X.env := by rfl)
    (hfew : ((backTo pos (starEach [e, e2] X.env)).all (fun x => !x.1) && (backToKw pos (keywordEach [] X.env)).all (fun x => x.1.isSome)
      && decide ([e, e2].length + ([] : List Keyword).length + (if ([] : List Keyword).isEmpty then 0 else 1) < 30)) = true := by rfl)
    (hline : (apos.endLine == pos.line) = true := by rfl) (hs : starEach [e, e2] X.env = (false, eval e X.env) :: starEach [e2] X.env := by rfl) (hpl : (backTo pos (starEach [e2] X.env)).any (·.1) = false := by rfl) :
    ME X T W (.Call (.Attribute o "insert" apos) [e, e2] [] pos) (eLM kIns fo fs) :=
  m_lm lm_insert PySem.F.plainAttrs_list PySem.F.slot_list_insert PySem.F.type_list_insert mt_insert ho ha hbase hfew hline hs hpl

/-! ### xs[i] = v of a changing list -/
def sSub (fo fi fv : EF U) : SF := fun ρ st => (fv ρ st).stm ρ fun w st1 => (fo ρ st1).stm ρ fun u st2 => (fi ρ st2).stm ρ fun j st3 => match u, j, w with
  | .loc i, .d (.int n), .d y => match st3[i]? with
    | some (.lst ds) => match ixN ds.length n with
      | some k => .nx ρ (st3.set i (.lst (ds.set k y)))
      | none => .bad
    | _ => .bad
  | _, _, _ => .bad
theorem ms_sub {i value : Expr} {pos' : Pos} {fi fv : EF U} (ho : ME X T W o fo) (hi : ME X T W i fi) (hv : ME X T W value fv) (hs : swapsWithSole [.Subscript o i pos'] value pos.line X.env = pure false := by rfl) (hw : swappedStores [.Subscript o i pos'] value X.env = pure none := by rfl)
    (h1 : (assignEach [.Subscript o i pos'] X.env).map (·.2) = [assign (.Subscript o i pos') X.env] := by rfl)
    (ha : ∀ v, assign (.Subscript o i pos') X.env v = (do
      let ov ← holding [v] (eval o X.env)
      let iv ← holding [v, ov] (eval i X.env)
      standAt pos'
      holding [v, ov, iv] (setItem ov iv v)
      release [v, ov, iv] []) := by intro _; rfl) :
    MS X T W (.Assign [.Subscript o i pos'] value pos) (sSub fo fi fv) := by
  refine PS.imp (ps_asg hv (pg_sub ho hi set_list ha) hs hw h1) fun D σ H ⟨M, ρ, st, rep, go⟩ => ?_
  refine ⟨M, ρ, st, rep, (GoS.bind (Rel := relU X.K T) rep go).mono fun y H1 ⟨M1, st1, w, e1, rep1, rw, go1⟩ => ?_⟩
  refine ⟨M1, ρ, st1, rep1, (GoS.bind (Rel := relU X.K T) rep1 go1).mono fun x H2 ⟨M2, st2, u, e2, rep2, ru, go2⟩ => ?_⟩
  refine ⟨M2, ρ, st2, rep2, (GoS.bind (Rel := relU X.K T) rep2 go2).mono fun j H3 ⟨M3, st3, k, e3, rep3, rk, go3⟩ => ?_⟩
  have rw' := RU.ext e3 (RU.ext e2 rw)
  have ru' := RU.ext e3 ru
  cases u with
  | d _ => exact go3.elim
  | loc i =>
    cases k with
    | loc _ => exact go3.elim
    | d kd =>
      cases kd with
      | int n =>
        cases w with
        | loc _ => exact go3.elim
        | d yd =>
          simp only at go3
          cases q : st3[i]? with
          | none => simp only [q] at go3; exact go3.elim
          | some ob =>
            cases ob with
            | lst ds =>
              simp only [q] at go3
              obtain ⟨a, xs, hi3, ha3, hr⟩ := loc_lst rep3.sto q
              cases ru_loc ru' hi3
              cases q2 : ixN ds.length n with
              | none => simp only [q2] at go3; exact go3.elim
              | some m =>
                simp only [q2] at go3
                cases rk with
                | d rk =>
                  cases rk
                  cases rw' with
                  | d ry =>
                    refine ⟨a, xs, n, m, rfl, rfl, ha3, by rw [hr.length]; exact q2, ?_⟩
                    obtain ⟨ex, s3⟩ := rep3.sto.wr (o := .lst (xs.set m y)) (ob := .lst (ds.set m yd)) hi3 fun ex => ⟨a, _, rfl, upd_same, (RDs.set ry m hr).ext ex⟩
                    exact go3 M3 _ σ ex (rep3.ext ex s3)
            | _ => simp only [q] at go3; exact go3.elim
      | _ => cases w <;> exact go3.elim
end
end MM
set_option maxRecDepth 100000
/-! M12: exceptions: made, raised, caught -/
namespace MM
open PySem PySem.Spec PyProof.Rows L2

/-! ### an own error's __init__ that keeps its arguments -/
def spX (C : Addr) (names : List Str) : Sp := fun vs H Q E => vs.length = names.length + 1 ∧ ∃ a ws, vs = .ref a :: ws ∧ H a = some (exo a C none) ∧ ∀ dx, H dx = none → dx ≠ a → Q .non (L2.upd (L2.upd H dx (exd dx (names.zip ws).reverse)) a (exo a C (some dx)))
section
variable {P : Program} {w : World} {K : PySem.W.Frag} {mg : Str → Option Value} {base : Heap} {CX : CXT} {k : Nat} {C fI cc cda : Addr} {qual : Str} {st : Stmt} {fd : FuncData} {sp : Sp} {ar : Arg}
theorem init1 {v f : Str} {p0 p1 apos pos pos' q0 q1 q2 q3 q4 : Pos} {pl : Sem Bool} (c : SupC P K mg C fI cc cda qual st fd) (S : SupScope ["self", v] ["self", v] (defScope st))
    (hb : defBody st = [.Expr (.Call (.Attribute (.Call (.Name "super" p0) [] [] p1) "__init__" apos) [.Name v q0] [] pos) pos', .Assign [.Attribute (.Name "self" q1) f q2] (.Name v q3) q4])
    (hself : ((defArgs st).posonlyargs ++ (defArgs st).args).head? = some ar) (har0 : ar.arg = ("self" : Str)) (hno : PySem.W.findIn K (.ref C) f = some none)
    (hv1 : (v == ("__debug__" : Str)) = false) (hv2 : (v == ("__classdict__" : Str)) = false)
    (hev : ∀ env : Env, eval (.Call (.Attribute (.Call (.Name "super" p0) [] [] p1) "__init__" apos) [.Name v q0] [] pos) env = (do
      let ov ← attributeBase (.Call (.Name "super" p0) [] [] p1) "__init__" env (eval (.Call (.Name "super" p0) [] [] p1) env)
      standAt apos.atName
      let (f, first) ← holding [ov] (getMethod ov "__init__" pl)
      callWith pos f first (backTo pos (starEach [.Name v q0] env)) []))
    (hse : ∀ env : Env, starEach [.Name v q0] env = (false, eval (.Name v q0) env) :: starEach [] env) (hpl : ∀ env : Env, (backTo pos (starEach [] env)).any (·.1) = false)
    (hsw : ∀ env : Env, env.scope.kind = .function → swapsWith (.Call (.Attribute (.Call (.Name "super" p0) [] [] p1) "__init__" apos) [.Name v q0] [] pos) none pos'.line env = pure false)
    (hsw2 : ∀ env : Env, swapsWith (.Name v q3) (some (.Attribute (.Name "self" q1) f q2)) q4.line env = pure false) :
    FnOk P w K mg base CX (k + 1) fI fd ["self", v] (spX C [f]) := by
  have hself0 : (["self", v] : List Str)[0]? = some ar.arg := by rw [har0]; rfl
  refine fn_super c S (fun vs H Q E h => h.1) hb hself hself0 (S.par _ (by rw [har0]; simp)) hev hse hpl hsw fun A outer s H vs Q E h => ?_
  obtain ⟨hl, a, ws, rfl, ha, hq⟩ := h
  match ws, hl with
  | [y], _ =>
    have vis : ∀ x ∈ (["self", v] : List Str), Vis (defScope st) x := fun x hx => .inl (S.par x hx)
    have P1 : ∀ q, PE (cxS P w K mg base ["self", v] qual (defScope st) fI (.ref cda) cc A outer s H) (.Name v q) (tVar 1) := fun q => pe_var rfl (vis v (by simp)) hv1 hv2
    have P0 : ∀ q, PE (cxS P w K mg base ["self", v] qual (defScope st) fI (.ref cda) cc A outer s H) (.Name "self" q) (tVar 0) := fun q => pe_var rfl (vis "self" (by simp)) (by decide) (by decide)
    refine ⟨a, _, _, rfl, pa_cons (P1 q0) pa_nil (hse _), pss_one (ps_ost (P0 q1) (P1 q3) (hsw2 _)), ha, ?_⟩
    refine ⟨y, rfl, by simp, rfl, ?_⟩
    refine ⟨y, rfl, .ref a, rfl, a, C, rfl, c.ox, hno, .inl ⟨ha, fun dx hd ne => hq dx hd ne⟩⟩
theorem init2 {v v2 f f2 : Str} {p0 p1 apos pos pos' q0 r0 q1 q2 q3 q4 r1 r2 r3 r4 : Pos} {pl : Sem Bool} (c : SupC P K mg C fI cc cda qual st fd) (S : SupScope ["self", v, v2] ["self", v, v2] (defScope st))
    (hb : defBody st = [.Expr (.Call (.Attribute (.Call (.Name "super" p0) [] [] p1) "__init__" apos) [.Name v q0, .Name v2 r0] [] pos) pos', .Assign [.Attribute (.Name "self" q1) f q2] (.Name v q3) q4, .Assign [.Attribute (.Name "self" r1) f2 r2] (.Name v2 r3) r4])
    (hself : ((defArgs st).posonlyargs ++ (defArgs st).args).head? = some ar) (har0 : ar.arg = ("self" : Str)) (hno : PySem.W.findIn K (.ref C) f = some none) (hno2 : PySem.W.findIn K (.ref C) f2 = some none)
    (hv1 : (v == ("__debug__" : Str)) = false) (hv2 : (v == ("__classdict__" : Str)) = false) (hw1 : (v2 == ("__debug__" : Str)) = false) (hw2 : (v2 == ("__classdict__" : Str)) = false)
    (hev : ∀ env : Env, eval (.Call (.Attribute (.Call (.Name "super" p0) [] [] p1) "__init__" apos) [.Name v q0, .Name v2 r0] [] pos) env = (do
      let ov ← attributeBase (.Call (.Name "super" p0) [] [] p1) "__init__" env (eval (.Call (.Name "super" p0) [] [] p1) env)
      standAt apos.atName
      let (f, first) ← holding [ov] (getMethod ov "__init__" pl)
      callWith pos f first (backTo pos (starEach [.Name v q0, .Name v2 r0] env)) []))
    (hse : ∀ env : Env, starEach [.Name v q0, .Name v2 r0] env = (false, eval (.Name v q0) env) :: starEach [.Name v2 r0] env) (hse2 : ∀ env : Env, starEach [.Name v2 r0] env = (false, eval (.Name v2 r0) env) :: starEach [] env)
    (hpl : ∀ env : Env, (backTo pos (starEach [.Name v2 r0] env)).any (·.1) = false)
    (hsw : ∀ env : Env, env.scope.kind = .function → swapsWith (.Call (.Attribute (.Call (.Name "super" p0) [] [] p1) "__init__" apos) [.Name v q0, .Name v2 r0] [] pos) none pos'.line env = pure false)
    (hsw2 : ∀ env : Env, swapsWith (.Name v q3) (some (.Attribute (.Name "self" q1) f q2)) q4.line env = pure false) (hsw3 : ∀ env : Env, swapsWith (.Name v2 r3) (some (.Attribute (.Name "self" r1) f2 r2)) r4.line env = pure false) :
    FnOk P w K mg base CX (k + 1) fI fd ["self", v, v2] (spX C [f, f2]) := by
  have hself0 : (["self", v, v2] : List Str)[0]? = some ar.arg := by rw [har0]; rfl
  refine fn_super c S (fun vs H Q E h => h.1) hb hself hself0 (S.par _ (by rw [har0]; simp)) hev hse hpl hsw fun A outer s H vs Q E h => ?_
  obtain ⟨hl, a, ws, rfl, ha, hq⟩ := h
  match ws, hl with
  | [y, z], _ =>
    have vis : ∀ x ∈ (["self", v, v2] : List Str), Vis (defScope st) x := fun x hx => .inl (S.par x hx)
    have P2 : ∀ q, PE (cxS P w K mg base ["self", v, v2] qual (defScope st) fI (.ref cda) cc A outer s H) (.Name v2 q) (tVar 2) := fun q => pe_var rfl (vis v2 (by simp)) hw1 hw2
    have P1 : ∀ q, PE (cxS P w K mg base ["self", v, v2] qual (defScope st) fI (.ref cda) cc A outer s H) (.Name v q) (tVar 1) := fun q => pe_var rfl (vis v (by simp)) hv1 hv2
    have P0 : ∀ q, PE (cxS P w K mg base ["self", v, v2] qual (defScope st) fI (.ref cda) cc A outer s H) (.Name "self" q) (tVar 0) := fun q => pe_var rfl (vis "self" (by simp)) (by decide) (by decide)
    refine ⟨a, _, _, rfl, pa_cons (P1 q0) (pa_cons (P2 r0) pa_nil (hse2 _)) (hse _), pss_cons (ps_ost (P0 q1) (P1 q3) (hsw2 _)) (pss_one (ps_ost (P0 r1) (P2 r3) (hsw3 _))), ha, ?_⟩
    refine ⟨y, rfl, z, rfl, by simp, rfl, ?_⟩
    refine ⟨y, rfl, .ref a, rfl, a, C, rfl, c.ox, hno, .inl ⟨ha, fun dx hd ne => ?_⟩⟩
    refine ⟨z, rfl, .ref a, rfl, a, C, rfl, c.ox, hno2, .inr ⟨dx, [(f, y)], upd_same, by rw [upd_ne ne, upd_same], by simp, ?_⟩⟩
    have e : L2.upd (L2.upd (L2.upd H dx (exd dx [(f, y)])) a (exo a C (some dx))) dx (exd dx ((f2, z) :: [(f, y)])) = L2.upd (L2.upd H dx (exd dx [(f2, z), (f, y)])) a (exo a C (some dx)) := by
      funext b
      by_cases h1 : b = dx
      · subst h1
        rw [upd_same, upd_ne ne, upd_same]
      · rw [upd_ne h1]
        by_cases h2 : b = a
        · subst h2
          rw [upd_same, upd_same]
        · rw [upd_ne h2, upd_ne h2, upd_ne h1, upd_ne h1]
    have q := hq dx hd ne
    show Q .non (L2.upd (L2.upd (L2.upd H dx (exd dx [(f, y)])) a (exo a C (some dx))) dx (exd dx ((f2, z) :: [(f, y)])))
    rw [e]
    exact q
end

/-! ### raise C(e, ..) -/
/-- the numbers of the classes stand for classes, their instances' fields -/
def sRaise (c : Nat) (names : List Str) (fs : EF (List U)) : SF := fun ρ st => (fs ρ st).stm ρ fun us st1 => match ofUs us with
  | some ds => if ds.length = names.length then .exc c (names.zip ds).reverse ρ st1 else .bad
  | none => .bad
section
variable {X : Cx} {T : Nat → Addr} {W : WX} {x n : Str} {p p1 p2 pos pos' apos : Pos} {e o : Expr} {es : List Expr} {fs : EF (List U)} {fa : EF U}
theorem RFs.zip {K T M H} : ∀ {names : List Str} {vs : List V} {ds : List D}, RDs K T M H vs ds → RFs K T M H (names.zip vs) (names.zip ds)
  | [], _, _, _ => .nil
  | _ :: _, _, _, .nil => .nil
  | _ :: names, _, _, .cons r t => .cons r (RFs.zip t)
theorem RFs.app {K T M H} : ∀ {a b : List (Str × V)} {c d : List (Str × D)}, RFs K T M H a c → RFs K T M H b d → RFs K T M H (a ++ b) (c ++ d)
  | _, _, _, _, .nil, s => s
  | _, _, _, _, .cons r t, s => .cons r (RFs.app t s)
theorem RFs.rev {K T M H} : ∀ {a : List (Str × V)} {c : List (Str × D)}, RFs K T M H a c → RFs K T M H a.reverse c.reverse
  | _, _, .nil => .nil
  | _, _, .cons r t => by
    rw [List.reverse_cons, List.reverse_cons]
    exact RFs.app (RFs.rev t) (.cons r .nil)
theorem upd_del {H : Hp} {a dx : Addr} {o1 o2 o3 o4 : HO} (ha : H a = none) (ne : dx ≠ a) : L2.upd (L2.del (L2.upd (L2.upd (L2.upd H a o1) dx o2) a o3) a) dx o4 = L2.upd H dx o4 := by
  funext b
  by_cases h1 : b = dx
  · rw [h1, upd_same, upd_same]
  · rw [upd_ne h1, upd_ne h1]
    by_cases h2 : b = a
    · rw [h2, del_same, ha]
    · rw [del_ne h2, upd_ne h2, upd_ne h1, upd_ne h2]
theorem ms_raise {c : Nat} {names : List Str} {fI : Addr} {k : Nat} {fd : FuncData} {ps : List Str} (hc : X.calm = true) (tk : Takes X W) (ox : OexC X.K (T c)) (iC : PySem.W.findIn X.K (.ref (T c)) "__init__" = some (some (.ref fI))) (tI : PySem.W.typeIn X.K (.ref fI) = some (.type "function"))
    (F1 : FnOk X.prog X.w X.K X.mg X.base (L2.CX X.prog X.w) k fI fd ps (spX (T c) names)) (hr : Room (k + 1) X.A) (hb : Binds X.K fd ps []) (hg : Gl X x) (hm : X.mg x = some (.ref (T c))) (hz : names.length ≤ 1000) (ha : MA X T W (e :: es) fs)
    (hdb : (x == ("__debug__" : Str)) = false := by decide) (he : starEach (e :: es) X.env = (false, eval e X.env) :: starEach es X.env := by rfl) (hpl : (backTo pos (starEach es X.env)).any (·.1) = false := by rfl) :
    MS X T W (.Raise (some (.Call (.Name x p) (e :: es) [] pos)) none pos') (sRaise c names fs) := by
  refine PS.imp (ps_raise hc tk (pmk_oex ox iC tI F1 hr hb .nil passL hg hm ha hdb he hpl)) fun D σ H ⟨M, ρ, st, rep, go⟩ => ?_
  refine ⟨M, ρ, st, rep, (GoS.bind (Rel := relL X.K T) rep go).mono fun vs H1 ⟨M1, st1, us, e1, rep1, rus, go1⟩ => ?_⟩
  cases q : ofUs us with
  | none => simp only [q] at go1; exact go1.elim
  | some ds =>
    simp only [q] at go1
    have r := RU.all rus q
    by_cases hl : ds.length = names.length
    · simp only [hl, if_true] at go1
      have hvl : vs.length = names.length := by rw [r.length]; exact hl
      refine ⟨by omega, fun a hna => ⟨by simp [hvl], a, vs ++ [], rfl, upd_same, fun dx hd ne => ?_⟩⟩
      rw [List.append_nil]
      have hd1 : H1 dx = none := by rw [upd_ne ne] at hd; exact hd
      refine ⟨rfl, dx, _, upd_same, by rw [upd_ne ne, upd_same], hd1, ?_⟩
      rw [upd_del hna ne]
      have ex := Ext.lay (M := M1) (o := .xd (names.zip vs).reverse) hd1
      have s2 := rep1.sto.lay (o := .xd (names.zip vs).reverse) hd1
      exact go1 M1 _ σ dx _ ex (rep1.ext ex s2) upd_same (RFs.rev (RFs.zip (r.ext ex))) (rep1.sto.new hd1)
    · simp only [hl, if_false] at go1
      exact go1.elim

/-! ### try: .., except C as n: .. -/
def RS.wipe (i : Nat) : RS → RS
  | .nx ρ st => .nx (ρ.set i none) st
  | .bk ρ st => .bk (ρ.set i none) st
  | .ct ρ st => .ct (ρ.set i none) st
  | .rt u st => .rt u st
  | _ => .bad
@[simp] theorem RS.wipe_nx (i ρ st) : (RS.nx ρ st).wipe i = .nx (ρ.set i none) st := rfl
@[simp] theorem RS.wipe_rt (i u st) : (RS.rt u st).wipe i = .rt u st := rfl
/-- what does not hang on the addresses -/
noncomputable def indep (f : Addr → Addr → RS) : RS := by
  classical
  exact if ∀ a d, f a d = f 0 0 then f 0 0 else .bad
theorem indep_eq {f : Addr → Addr → RS} {r : RS} (h : ∀ a d, f a d = r) : indep f = r := by
  unfold indep
  rw [if_pos (fun a d => (h a d).trans (h 0 0).symm)]
  exact h 0 0
theorem indep_at {f : Addr → Addr → RS} (h : indep f ≠ .bad) (a d : Addr) : f a d = indep f := by
  unfold indep at h ⊢
  by_cases q : ∀ a d, f a d = f 0 0
  · rw [if_pos q]
    exact q a d
  · rw [if_neg q] at h
    exact absurd rfl h
noncomputable def sTryAs (i : Nat) (test : Nat → Option Bool) (gb : SF) (gs : Addr → Addr → Nat → SF) : SF := fun ρ st => match gb ρ st with
  | .exc c fs ρ' st' => match test c with
    | some true => indep fun a d => (gs a d c (ρ'.set i (some (.d (.exc a d c fs)))) st').wipe i
    | some false => .exc c fs ρ' st'
    | none => .bad
  | r => r
theorem sTryAs_nx {i test gb gs ρ st ρ' st'} (h : gb ρ st = .nx ρ' st') : sTryAs i test gb gs ρ st = .nx ρ' st' := by unfold sTryAs; rw [h]
theorem sTryAs_rt {i test gb gs ρ st u st'} (h : gb ρ st = .rt u st') : sTryAs i test gb gs ρ st = .rt u st' := by unfold sTryAs; rw [h]
theorem sTryAs_exc {i test gb gs ρ st c fs ρ' st'} {r : RS} (h : gb ρ st = .exc c fs ρ' st') (ht : test c = some true) (hs : ∀ a d, (gs a d c (ρ'.set i (some (.d (.exc a d c fs)))) st').wipe i = r) : sTryAs i test gb gs ρ st = r := by
  unfold sTryAs
  rw [h]
  simp only [ht]
  exact indep_eq hs
theorem wipe_go {K T M H} {W : WX} {r : RS} {i : Nat} {D : Ends} (h : GoS K T W M H (r.wipe i) D) : GoS K T W0 M H r { nx := fun σ' H' => D.nx (σ'.set i none) H', rt := D.rt, bk := fun σ' H' => D.bk (σ'.set i none) H', ct := fun σ' H' => D.ct (σ'.set i none) H' } := by
  cases r with
  | nx ρ st => exact fun M' H' σ' e rep => h M' H' _ e (rep.forget i none)
  | bk ρ st => exact fun M' H' σ' e rep => h M' H' _ e (rep.forget i none)
  | ct ρ st => exact fun M' H' σ' e rep => h M' H' _ e (rep.forget i none)
  | rt u st => exact fun M' H' v e s r => h M' H' v e s r
  | exc c fs ρ st => exact h.elim
  | bad => exact h.elim
theorem ms_try_as {i : Nat} {cv : Value} {test : Nat → Option Bool} {body suite : List Stmt} {b₀ : Stmt} {np : Pos} {gb : SF} {gs : Addr → Addr → Nat → SF} (hs : X.stack = X.env :: X.outer) (hf : X.env.frame = some X.env.locals) (hN : X.N.Nodup) (hi : X.N[i]? = some n) (hln : X.env.kindOf n = some .local) (hc : Names X x cv) (tk : Takes X W)
    (ht : ∀ c b, test c = some b → PySem.W.exmOne X.K (.ref (T c)) cv = some b)
    (hb : ∀ (W : WX) (pn : List (Addr × Obj)) (xe : Value → Shared → Prop), Takes (X.tr pn xe) W → PassesOwn (model X.prog X.w) X.A X.env xe → MSs (X.tr pn xe) T W body gb)
    (hsu : ∀ (a : Addr) (oe : Obj) (c : Nat) (d : Addr) (pn : List (Addr × Obj)), test c = some true → Zc (.ref (T c)) (some d) oe → (∃ vs, oe.data = .fields vs) → MSs (X.suite a ((a, oe) :: pn)) T W0 (b₀ :: suite) (gs a d c)) :
    MS X T W (.Try body [.ExceptHandler (some (.Name x np)) (some n) (b₀ :: suite) pos'] [] [] pos) (sTryAs i test gb gs) := by
  refine PS.imp (ps_try_as (tb := fun W' => TSg X.K T W' gb) (ts := fun a cls d D σ H => ∃ c d', cls = .ref (T c) ∧ d = some d' ∧ test c = some true ∧ TSg X.K T W0 (gs a d' c) D σ H) (Wout := W) hs hf hN hi hln hc tk hb (fun a oe cls d pn hz hv => ⟨fun pins s σ H D I h => ?_⟩)) fun D σ H ⟨M, ρ, st, rep, go⟩ => ?_
  · obtain ⟨c, d', rfl, rfl, ht', h⟩ := h
    exact (hsu a oe c d' pn ht' hz hv).run pins s σ H D I h
  · refine ⟨M, ρ, st, rep, ?_⟩
    unfold sTryAs at go
    cases q : gb ρ st with
    | exc c fs ρ' st' =>
      rw [q] at go
      simp only at go
      intro M' H' σ' d fv e' rep' hd rf hm
      cases q2 : test c with
      | none => rw [q2] at go; exact go.elim
      | some b =>
        rw [q2] at go
        refine ⟨b, ht c b q2, fun hbt a na => ?_, fun hbf => ?_⟩
        · subst hbt
          simp only at go
          have hnb : indep (fun a d => (gs a d c (ρ'.set i (some (.d (.exc a d c fs)))) st').wipe i) ≠ .bad := fun z => by
            rw [z] at go
            exact go.elim
          rw [← indep_at hnb a d] at go
          exact ⟨c, d, rfl, rfl, q2, M', _, st', rep'.set i (.d (.exc hm hd rf)), wipe_go (GoS.base go e')⟩
        · subst hbf
          exact go M' H' σ' d fv e' rep' hd rf hm
    | nx ρ' st' => rw [q] at go; exact go
    | bk ρ' st' => rw [q] at go; exact go
    | ct ρ' st' => rw [q] at go; exact go
    | rt u st' => rw [q] at go; exact go
    | bad => rw [q] at go; exact go.elim
/-- e.f of the caught exception -/
def eXf (a d : Addr) (c : Nat) (f : Str) (fa : EF U) : EF U := fun ρ st => (fa ρ st).bind fun u st1 => match u with
  | .d (.exc a' d' c' fs) => if a' = a ∧ d' = d ∧ c' = c then match fs.lookup f with
      | some z => .ok (.d z) st1
      | none => .bad
    else .bad
  | _ => .bad
theorem m_xf {a d : Addr} {c : Nat} {oe : Obj} {pn : List (Addr × Obj)} {f : Str} (hX : XfC X.K (T c)) (hno : PySem.W.findIn X.K (.ref (T c)) f = some none) (hz : Zc (.ref (T c)) (some d) oe) (hf : ∃ vs, oe.data = .fields vs)
    (he : ME (X.suite a ((a, oe) :: pn)) T W e fa) (hb : attributeBase e f X.env (eval e X.env) = eval e X.env := by rfl) : ME (X.suite a ((a, oe) :: pn)) T W (.Attribute e f pos) (eXf a d c f fa) := by
  refine PE.imp (pe_xf hX hno hz hf he hb) fun σ H Q ⟨M, ρ, st, rep, go⟩ => ?_
  refine ⟨M, ρ, st, rep, (Go.bind (Rel := relU X.K T) rep go).mono fun v H1 ⟨M1, st1, u, e1, rep1, ru, go1⟩ => ?_⟩
  cases u with
  | loc _ => exact go1.elim
  | d y =>
    cases y with
    | exc a' d' c' fs =>
      simp only at go1
      by_cases hh : a' = a ∧ d' = d ∧ c' = c
      · obtain ⟨rfl, rfl, rfl⟩ := hh
        simp only [and_self, if_true] at go1
        cases ru with
        | d ru =>
          cases ru with
          | xn => exact go1.elim
          | @exc _ _ _ fv _ hm hd rf =>
            cases q : fs.lookup f with
            | none => simp only [q] at go1; exact go1.elim
            | some z =>
              simp only [q] at go1
              obtain ⟨w, hw, rw⟩ := rf.lookup q
              exact ⟨rfl, rfl, d', fv, w, rfl, hd, hw, Go.now rep1.sto go1 (.d rw)⟩
      · simp only [hh, if_false] at go1
        exact go1.elim
    | _ => exact go1.elim
end
end MM
set_option maxRecDepth 100000
/-! M13: where no repr is under way; repr; the law's end -/
namespace MM
open PySem PySem.Spec PyProof.Rows L2

/-- a def's promise where no repr is under way -/
structure FnG (P : Program) (w : World) (K : PySem.W.Frag) (mg : Str → Option Value) (base : Heap) (CX : CXT) (k : Nat) (f : Addr) (fd : FuncData) (ps : List Str) (sp : Sp) : Prop where
  len : ∀ vs H Q E, sp vs H Q E → vs.length = ps.length
  run : ∀ (A : Around) (outer : List Env) (s : Shared) (H : Hp) (args : Args) (us : List Value) (vs : List V) (Q : VK) (E : XK), A.guards = some [] → Room k A → Env0 P w K mg base A outer s H → BindsTo s fd args (ps.zip us) → Vals vs us → sp vs H Q E →
    codeAny (model P w) A (.call (.ref f) args) (CR CX outer P w H s Q E) s
theorem FnG.of {P w K mg base CX k f fd ps sp} (h : FnOk P w K mg base CX k f fd ps sp) : FnG P w K mg base CX k f fd ps sp := ⟨h.len, fun A outer s H args us vs Q E _ => h.run A outer s H args us vs Q E⟩
section
variable {P : Program} {w : World} {K : PySem.W.Frag} {mg : Str → Option Value} {base : Heap} {T : Nat → Addr}
theorem fn_okG {x qual : Str} {st : Stmt} {f : Addr} {fd : FuncData} {N ps : List Str} {k : Nat} {g : SF} (F : Fun K x qual st f fd) (S : FnScope N ps (defScope st))
    (hb : ∀ (cdv : Value) (A : Around) (outer : List Env) (s : Shared) (H : Hp) (E : XK), A.guards = some [] → Room k (A.deeper (envOfC qual (defScope st) s.heap.objs.size f cdv)) →
      MSs (cxOf (L2.CX P w) P w K mg base N qual (defScope st) f cdv A outer s H E) T (fun c d _ H' => E c d H') (defBody st) g) :
    FnG P w K mg base (L2.CX P w) (k + 1) f fd ps (spM K T ps.length (runF N.length g)) := by
  obtain ⟨oc, od, kV, doc, pm, an, cdv, ct, osl, rfl, lk, hcd⟩ := F.ex
  refine ⟨fun vs H Q E h => h.1, fun A outer s H args us vs Q E hG hr e0 hbnd r hsp => ?_⟩
  obtain ⟨hl, M, uu, st', hs, hv, go⟩ := hsp
  have KX : K.In s.heap := e0.mod.kin.keeps fun b o e => (e0.bs b o e).1
  have lim : s.heap.NoLimit := e0.mod.nolimit.keeps fun b o e => (e0.bs b o e).1
  have hkind : ∀ y ∈ ps.zip us, (defScope st).names.lookup y.1 = some .local ∨ ((defScope st).names.lookup y.1 = some .cell ∧ ((cellsFrom (s.heap.objs.size + 1) (defScope st).names []).lookup y.1).isSome = true) := fun ⟨n, v⟩ hy => by
    rcases S.par n (List.of_mem_zip hy).1 with q | q
    · exact .inl q
    · exact .inr ⟨q, PySem.W.cellsFrom_some _ _ _ (.inl q)⟩
  refine codeAny_call_function hr.depth (KX _ _ lk) rfl S.co S.gen rfl (PySem.W.codeRec_of KX hcd) (hbnd _ _ _ _ ?_)
  refine wpAny_newFunctionEnv_cells S.kind hkind fun env he s1 x => ?_
  subst he
  refine ⟨lim.keeps x.toInCall.keep, codeAny_func ?_⟩
  have hm := hb cdv A outer s H E hG (hr.deeper _)
  have I : Inv (cxOf (L2.CX P w) P w K mg base N qual (defScope st) f cdv A outer s H E) [] (L2.start N vs) H s1 := inv_start S hr.hd e0 hl r x
  have q0 : TSg K T (fun c d _ H' => E c d H') g { nx := fun _ H' => Q .non H', rt := Q } (L2.start N vs) H := by
    refine ⟨M, uu.map some ++ List.replicate (N.length - uu.length) none, st', ⟨?_, hs⟩, ?_⟩
    · unfold L2.start
      rw [← Paired.len hv]
      exact start_rep _ hv
    · exact GoS_of hs.len.symm (fun _ _ q => q) (fun _ _ q => q) go fun _ _ _ _ q => q
  refine wpAny_mono (hm.run [] s1 (L2.start N vs) H _ I q0) (fun fl s' hs => ?_) fun e s' hs => hs
  have fin : ∀ {σ' : L2.St} {H' : Hp} {v : V} {u : Value}, Inv (cxOf (L2.CX P w) P w K mg base N qual (defScope st) f cdv A outer s H E) [] σ' H' s' → RelV v u → Q v H' → CE outer P w H s Q u s' :=
    fun {σ' H' v u} J rv q => ⟨v, H', J.os, J.bare, J.base, J.hok, rv, q⟩
  cases fl with
  | ret u =>
    obtain ⟨v, σ', H', J, rv, q⟩ := hs
    exact fin J rv q
  | next =>
    obtain ⟨σ', H', J, q⟩ := hs
    exact fin (v := V.non) (u := Value.none) J rfl q
  | brk =>
    obtain ⟨_, _, _, q⟩ := hs
    exact False.elim q
  | cont =>
    obtain ⟨_, _, _, q⟩ := hs
    exact False.elim q
end

/-! ### repr of data -/
def reprD (x : D) : Option Str := if sh 60 x = true ∧ x.py.showable = true ∧ x.py.hasDict = false ∧ x.py.shown.length ≤ 16777216 ∧ PyData.strOk x.py.shown = true then some x.py.shown else none
def bRepr : D → Option D := fun x => (reprD x).map .str
section
variable {X : Cx} {T : Nat → Addr} {W : WX} {e : Expr} {fa : EF U} {p pos : Pos}
def rRepr (X : Cx) (T : Nat → Addr) : List V → Hp → VK → Prop := fun xs H Q => ∃ v M x z, xs = [v] ∧ RV X.K T M H v x ∧ reprD x = some z ∧ Q (.str z) H
theorem cr_repr (hG : X.A.guards = some []) (hu : X.A.units + 66 < cLine) : CallR X (.builtin "repr") (rRepr X T) := by
  intro pins s σ H xs us Q I r h
  obtain ⟨v, M, x, z, rfl, rv, hz, q⟩ := h
  obtain ⟨u, rfl, ru⟩ := vals1 r
  unfold reprD at hz
  split at hz
  · rename_i hh
    obtain ⟨h1, h2, h3, h4, h5⟩ := hh
    cases hz
    obtain ⟨dp, cl⟩ := rv.dp h1
    obtain ⟨as, rd⟩ := Dp.reads I _ _ _ dp ru
    have hd := sh_depth 60 x h1
    have h4' : x.py.shown.length ≤ sizeLine := by rw [sizeLine_eq]; exact h4
    have fin : ∀ h' u tk, (∀ b o, s.heap.get? b = some o → h'.get? b = some o) → EP X pins σ Q (.str x.py.shown u) { s with heap := h', toks := tk } := fun h' u tk hk => ⟨.str x.py.shown, H, I.kept (t' := tk) hk, ⟨u, rfl⟩, q⟩
    cases hx : u with
    | ref a =>
      rw [hx] at rd
      exact repr_of_reads' rd h2 (PySem.PyData.noDict_hsm h3) hG (by omega) (fun _ _ e => e) fin h4'
    | none =>
      rw [hx] at rd
      generalize x.py = d at *
      cases rd
      exact PySem.P.repr_of_none (fin _ _ _ fun _ _ e => e)
    | bool b =>
      rw [hx] at rd
      generalize x.py = d at *
      cases rd
      cases b
      · exact PySem.P.repr_of_bool (fin _ _ _ fun _ _ e => e)
      · exact PySem.P.repr_of_bool (fin _ _ _ fun _ _ e => e)
    | int i t =>
      rw [hx] at rd
      generalize x.py = d at *
      cases rd
      exact PySem.P.repr_of_int (of_decide_eq_true h2) (fin _ _ _ fun _ _ e => e)
    | str y t =>
      rw [hx] at rd
      generalize x.py = d at *
      cases rd
      exact PySem.P.repr_of_str (fin _ _ _ fun _ _ e => e) h4'
    | _ => rw [hx] at rd; cases rd
  · cases hz
theorem m_repr (hG : X.A.guards = some []) (hu : X.A.units + 66 < cLine) (hg : Gl X "repr") (hm : X.mg "repr" = none) (hv : bootBuiltins "repr" = some (.builtin "repr")) (ha : ME X T W e fa)
    (he : starEach [e] X.env = (false, eval e X.env) :: starEach [] X.env := by rfl) : ME X T W (.Call (.Name "repr" p) [e] [] pos) (eUn (g1 bRepr) fa) := by
  refine PE.imp (pe_callB (cr_repr (T := T) hG hu) hg hm hv (pa_cons ha pa_nil he) (by decide) (by decide) he rfl) fun σ H Q ⟨M, ρ, st, rep, go⟩ => ?_
  refine ⟨M, ρ, st, rep, (Go.bind (Rel := relU X.K T) rep go).mono fun v H1 ⟨M1, st1, u, e1, rep1, ru, go1⟩ => ?_⟩
  unfold g1 at go1
  cases q : rd st1 u with
  | none => rw [q] at go1; exact go1.elim
  | some d =>
    rw [q] at go1
    simp only [bRepr] at go1
    cases qt : reprD d with
    | none => rw [qt] at go1; exact go1.elim
    | some z =>
      rw [qt] at go1
      simp only [Option.map] at go1
      have hz : PyData.strOk z = true := by
        unfold reprD at qt
        split at qt
        · rename_i hh
          cases qt
          exact hh.2.2.2.2
        · cases qt
      exact ⟨v, M1, d, z, rfl, ru.rv rep1.sto q, qt, Go.now rep1.sto go1 (.d (.str hz))⟩
end

/-! ### the law's end -/
theorem sc_rv {K : PySem.W.Frag} {T : Nat → Addr} {H : Hp} {a : Addr} {ns : List Int} (h : SqL K H a (ns.map V.int)) : RD K T [] H (.ref a) (.scr ns) := .scr (h.imp (fun f => ⟨by simp, f⟩) id)
/-- the law's promise at a script -/
theorem law_sp {K : PySem.W.Frag} {T : Nat → Addr} {H : Hp} {a : Addr} {ns : List Int} {F : FM} {st : Stor} (hF : F [.d (.scr ns)] [] = .ok (.d (.bool true)) st) (hS : SqL K H a (ns.map V.int)) : spM K T 1 F [.ref a] H (fun v _ => v = .bl true) (fun _ _ _ => False) := by
  refine ⟨rfl, [], [.d (.scr ns)], [], ⟨fun i j b h => by simp at h, .nil⟩, .cons (.d (sc_rv hS)) .nil, ?_⟩
  rw [hF]
  intro M' H' b e s r
  cases r with
  | d r => cases r; rfl
theorem law_callG {P : Program} {w : World} {K : PySem.W.Frag} {mg mb : Str → Option Value} {CX : CXT} {k : Nat} {fa a : Addr} {fd : FuncData} {x : Str} {sp : Sp} {s₁ : Shared} {vs : List Value} {ns : List Int}
    (KX : K.In s₁.heap) (hns : s₁.heap.Ns mainGlobals mg) (hb : s₁.heap.Ns builtinsNs mb) (hbb : ∀ x : Str, x ≠ "__name__" → mb x = bootBuiltins x) (hlim : s₁.heap.NoLimit) (hg : s₁.gens = #[])
    (ha : s₁.heap.get? a = some { cls := .type "list", data := .seq vs.toArray }) (hi : IntsAre vs ns) (hl : ns.length ≤ sizeLine) (hr : Room k callerA)
    (F : ∀ base : Heap, K.In base → base.Ns mainGlobals mg → FnG P w K mg base CX k fa fd [x] sp) (hbind : ∀ (s : Shared) (u : Value), BindsTo s fd ⟨[u], []⟩ [(x, u)])
    (hsp : ∀ H : Hp, Only H → SqL K H a (ns.map V.int) → sp [.ref a] H (fun v _ => v = .bl true) fun _ _ _ => False)
    (hCX : ∀ H e s', CX [] H s₁ (fun _ _ _ => False) e s' → False) :
    codeAny (model P w) callerA (.call (.ref fa) ⟨[.ref a], []⟩) (fun r s' => r = .ok (.ret (.bool true)) ∧ OldK s₁.heap s'.heap ∧ s'.os = s₁.os ∧ AllBare s'.gens) s₁ := by
  have rv := vals_ints hi
  have lenV := hi.length
  have core : ∀ H : Hp, Only H → SqL K H a (ns.map V.int) → HOk P w H s₁.heap → (∀ b, H b ≠ none → b = a) → (H a ≠ none → K.lookup a = none) →
      codeAny (model P w) callerA (.call (.ref fa) ⟨[.ref a], []⟩) (fun r s' => r = .ok (.ret (.bool true)) ∧ OldK s₁.heap s'.heap ∧ s'.os = s₁.os ∧ AllBare s'.gens) s₁ := by
    intro H hO hS hok hA hK
    have only : ∀ {b : Addr} {u : HO}, H b = some u → b = a := fun {b u} q => hA b (by rw [q]; simp)
    have noA : ∀ {b : Addr} {o : Obj}, s₁.heap.get? b = some o → (∀ vs n, o.data ≠ .seq vs n) → H b = none := fun {b o} e d => by
      cases q : H b with
      | none => rfl
      | some u =>
        have e' := only q
        subst e'
        rw [ha] at e; cases e
        exact absurd rfl (d _ _)
    have nsK : ∀ {b : Addr} {m : Str → Option Value}, s₁.heap.Ns b m → (hidT s₁.heap H).Ns b m := fun {b m} ⟨o, es, ep, e, d, r⟩ => ⟨o, es, ep, hidT_get e (noA e fun vs n z => by rw [d] at z; cases z), d, r⟩
    have hKb : K.In (hidT s₁.heap H) := fun b o e => hidT_get (KX b o e) (by
      cases q : H b with
      | none => rfl
      | some u =>
        have e' := only q
        subst e'
        rw [hK (by rw [q]; simp)] at e; cases e)
    have hM : Mod K mg (hidT s₁.heap H) := ⟨hKb, nsK hns, ⟨mb, nsK hb, hbb⟩, let ⟨mc, h1, h2⟩ := hlim; ⟨mc, nsK h1, h2⟩⟩
    have e0 : Env0 P w K mg (hidT s₁.heap H) callerA [] s₁ H := ⟨rfl, hM, fun b o e => of_hidT e, Nat.le_of_eq (hidT_size _ _), trivial, fun b hb => absurd (show b ∈ ([] : List Addr) from hb) (by simp), hok, .of_eq hg⟩
    refine codeAny_mono ((F _ hKb (nsK hns)).run callerA [] s₁ H ⟨[.ref a], []⟩ [.ref a] [.ref a] _ _ rfl hr e0 (hbind s₁ (.ref a)) (.cons rfl .nil) (hsp H hO hS)) fun r s' h => ?_
    cases r with
    | error e => exact (hCX H e s' h).elim
    | ok fl =>
      cases fl with
      | next => exact False.elim h
      | brk => exact False.elim h
      | cont => exact False.elim h
      | ret u =>
        obtain ⟨v, H', os, bare, un, hok', r', q⟩ := h
        cases q
        obtain rfl : u = Value.bool true := r'
        refine ⟨rfl, OldK.of_keep fun b o e => ?_, os, bare⟩
        cases q : H b with
        | none => exact un.keep b o e q (by intro z; exact absurd (show b ∈ ([] : List Addr) from z) (by simp)) (by simp)
        | some u =>
          rcases hO b with z | ⟨ob, xs, z⟩
          · rw [q] at z; cases z
          · obtain ⟨e1, _⟩ := hok b _ z
            obtain ⟨e2, _⟩ := hok' b _ (un.frzs b ob _ z)
            rw [e] at e1; cases e1
            exact e2
  cases hk : K.lookup a with
  | some o =>
    have e := KX a o hk
    rw [ha] at e
    cases e
    exact core (fun _ => none) (fun _ => .inl rfl) (.inr ⟨_, vs.toArray, _, hk, rfl, rfl, rfl, by rw [List.size_toArray, lenV]; exact hl, by simpa using rv⟩) (fun b u z => by have z' : (none : Option HO) = some u := z; cases z') (fun b z => absurd rfl z) fun z => absurd rfl z
  | none =>
    refine core (fun b => if b = a then some (.frz { cls := .type "list", data := .seq vs.toArray } (.lst (ns.map V.int))) else none) (fun b => ?_) (.inl (.inr ⟨{ cls := .type "list", data := .seq vs.toArray }, if_pos rfl⟩)) (fun b u z => ?_) (fun b z => ?_) fun _ => hk
    · by_cases hb : b = a
      · exact .inr ⟨_, _, if_pos hb⟩
      · exact .inl (if_neg hb)
    · by_cases hb : b = a
      · have z' := (if_pos hb).symm.trans z
        cases z'
        subst hb
        exact ⟨ha, by rw [List.length_map]; exact hl, vs, _, rv, ha⟩
      · have z' := (if_neg hb).symm.trans z
        cases z'
    · by_cases hb : b = a
      · exact hb
      · exact absurd (if_neg hb) z
/-- what the head leaves to be shown of a law whose def computes Fl -/
theorem walkM {l : PySem.W.OpenLaw} {k : Nat} {q : Program} {loose : List Str} {XP : (Str → Option Value) → Heap → Prop} {YP : World → Heap → Prop} {d : DefRec} {K : Params → PySem.W.Frag} {x : Str} {Fl : FM}
    (hn : l.most = some 63) (hdf : d.params.defaults = []) (hr : Room k callerA)
    (hY : ∀ (w : World) (h : Heap), YP w h → (K w.params).In h)
    (F : ∀ (w : World) (mg : Str → Option Value) (fa : Addr) (h : Heap), (K w.params).In h → h.Ns mainGlobals mg → mg d.name = some (.ref fa) →
      ∃ (fd : FuncData) (T : Nat → Addr), (∀ (s : Shared) (u : Value), BindsTo s fd ⟨[u], []⟩ [(x, u)]) ∧
        ∀ base : Heap, (K w.params).In base → base.Ns mainGlobals mg → FnG l.prog w (K w.params) mg base (L2.CX l.prog w) k fa fd [x] (spM (K w.params) T 1 Fl))
    (hF : ∀ ns : List Int, ns.length ≤ 63 → ∃ st, Fl [.d (.scr ns)] [] = .ok (.d (.bool true)) st) :
    PySem.W.WalkO q loose XP YP l.row.toRowW d [] (fun f vs => PySem.call f vs) := by
  refine Att.attach_call hn hdf fun w s₀ s₁ mg mb fa o pm cd doc a vs ns G Y ho hd hcd hmg hobj hints hlen hg => ?_
  have KX := hY w _ Y
  obtain ⟨fd, T, hb, hF'⟩ := F w mg fa _ KX G.T.g hmg
  obtain ⟨st, hst⟩ := hF ns hlen
  refine law_callG KX G.T.g G.T.b G.T.builtins G.T.nolimit hg hobj hints (Nat.le_trans hlen (by decide)) hr hF' hb (fun H hO hS => law_sp hst hS) fun H e s' z => ?_
  obtain ⟨_, _, _, _, _, _, _, _, _, _, _, _, z⟩ := z
  exact z
end MM
set_option maxRecDepth 100000
/-! M14: a changing list walked; a changing list that is to change no more -/
namespace MM
open PySem PySem.Spec PyProof.Rows L2
section
variable {X : Cx} {T : Nat → Addr} {W : WX} {e tg : Expr} {fa : EF U} {ss : List Stmt} {g : SF}
def kLive : U → Stor → R (List D × LV) := fun u st => match u with
  | .loc j => match st[j]? with
    | some (.lst ds) => .ok (ds, some (j, ds)) st
    | _ => .bad
  | _ => .bad
def eLive (f : EF U) : EF (List D × LV) := fun ρ st => (f ρ st).bind kLive
theorem mv_loc (he : ME X T W e fa) : MV X T W tg e (eLive fa) := by
  refine PI.imp (pi_any he) fun σ H R ⟨M, ρ, st, rep, go⟩ => ?_
  refine ⟨M, ρ, st, rep, (Go.bind (Rel := relU X.K T) rep go).mono fun v H1 ⟨M1, st1, u, e1, rep1, ru, go1⟩ => ?_⟩
  unfold kLive at go1
  cases u with
  | d _ => exact go1.elim
  | loc j =>
    simp only at go1
    cases q : st1[j]? with
    | none => simp only [q] at go1; exact go1.elim
    | some ob =>
      cases ob with
      | lst ds =>
        simp only [q] at go1
        obtain ⟨a, xs, hj, ha, _⟩ := loc_lst rep1.sto q
        cases ru_loc ru hj
        refine .inl ⟨a, rfl, ⟨xs, .inl (.inl ha)⟩, Go.now rep1.sto go1 (a := (ds, some (j, ds))) ?_⟩
        intro M2 H2 st2 e2 s2 lv
        have lv : st2[j]? = some (.lst ds) := lv
        obtain ⟨a', xs', hj', ha', r⟩ := loc_lst s2 lv
        have ea : a' = a := by
          rcases e2.old j (some a) hj with w | w
          · rw [hj'] at w; cases w; rfl
          · rw [hj'] at w; cases w
        subst ea
        have q : SqL X.K H2 a' xs' := .inl (.inl ha')
        refine ⟨fun i hi => ?_, ⟨xs', q, by rw [r.length]; exact Nat.le_refl _⟩, fun i x H3 hi y => ?_⟩
        · have hi' : i < xs'.length := by rw [r.length]; exact hi
          exact ⟨xs', xs'[i], q, by simp [hi']⟩
        · obtain ⟨rfl, y⟩ := y
          obtain ⟨d, hd, rd'⟩ := r.get' (y xs' q)
          exact ⟨d, hd, rd', Ext.refl, fun _ s => s⟩
      | _ => simp only [q] at go1; exact go1.elim
/-- from here on the list that slot i names changes no more -/
def sFrz (i : Nat) (g : SF) : SF := fun ρ st => match ρ[i]? with
  | some (some (.loc j)) => match st[j]? with
    | some (.lst ds) => g (ρ.set i (some (.d (.list ds)))) (st.set j .dead)
    | _ => .bad
  | _ => .bad
theorem mss_frz (i : Nat) (h : MSs X T W ss g) : MSs X T W ss (sFrz i g) := by
  refine PSs.imp h fun D σ H ⟨M, ρ, st, rep, go⟩ => ?_
  unfold sFrz at go
  cases q : ρ[i]? with
  | none => simp only [q] at go; exact go.elim
  | some o =>
    cases o with
    | none => simp only [q] at go; exact go.elim
    | some u =>
      cases u with
      | d _ => simp only [q] at go; exact go.elim
      | loc j =>
        simp only [q] at go
        cases q2 : st[j]? with
        | none => simp only [q2] at go; exact go.elim
        | some ob =>
          cases ob with
          | lst ds =>
            simp only [q2] at go
            obtain ⟨a, xs, hj, ha, r⟩ := loc_lst rep.sto q2
            obtain ⟨v, hv, ru⟩ := rep.get q
            cases ru_loc ru hj
            have hm : some a ∉ M.set j none := fun z => by
              obtain ⟨k, hk⟩ := List.getElem?_of_mem z
              rw [List.getElem?_set] at hk
              split at hk
              · split at hk <;> cases hk
              · rename_i ne
                exact ne (rep.sto.nd j k a hj hk)
            have rep1 := rep.ext Ext.hole (rep.sto.hole j)
            have rep2 := rep1.set i (RU.d (RD.lst hm ha (r.ext Ext.hole)))
            have es : σ.set i (some (.ref a)) = σ := by
              apply List.ext_getElem?
              intro k
              by_cases ek : i = k
              · subst ek
                rw [List.getElem?_set_self (List.getElem?_eq_some_iff.mp hv).1, hv]
              · rw [List.getElem?_set_ne ek]
            rw [es] at rep2
            exact ⟨_, _, _, rep2, GoS.base go Ext.hole⟩
          | _ => simp only [q2] at go; exact go.elim
end
theorem r64 {k : Nat} {A : Around} (r : Room k A) : A.units + 64 < cLine := by
  have := r.un
  omega
theorem r66 {k : Nat} {A : Around} (r : Room k A) : A.units + 66 < cLine := by
  have := r.un
  omega
section
variable {P : Program} {w : World} {K : PySem.W.Frag} {mg : Str → Option Value} {base : Heap} {T : Nat → Addr}
theorem def_ok {x qual : Str} {st : Stmt} {f : Addr} {fd : FuncData} {N ps : List Str} {k n m : Nat} {g : SF} {Fm : FM} (F : Fun K x qual st f fd) (S : FnScope N ps (defScope st)) (hm : ps.length = m) (hn : N.length = n) (hF : Fm = runF n g)
    (hb : ∀ (cdv : Value) (A : Around) (outer : List Env) (s : Shared) (H : Hp) (E : XK), Room k (A.deeper (envOfC qual (defScope st) s.heap.objs.size f cdv)) →
      MSs (cxOf (L2.CX P w) P w K mg base N qual (defScope st) f cdv A outer s H E) T (fun c d _ H' => E c d H') (defBody st) g) :
    FnOk P w K mg base (L2.CX P w) (k + 1) f fd ps (spM K T m Fm) := by
  subst hm hn hF
  exact fn_ok F S hb
theorem def_okG {x qual : Str} {st : Stmt} {f : Addr} {fd : FuncData} {N ps : List Str} {k n m : Nat} {g : SF} {Fm : FM} (F : Fun K x qual st f fd) (S : FnScope N ps (defScope st)) (hm : ps.length = m) (hn : N.length = n) (hF : Fm = runF n g)
    (hb : ∀ (cdv : Value) (A : Around) (outer : List Env) (s : Shared) (H : Hp) (E : XK), A.guards = some [] → Room k (A.deeper (envOfC qual (defScope st) s.heap.objs.size f cdv)) →
      MSs (cxOf (L2.CX P w) P w K mg base N qual (defScope st) f cdv A outer s H E) T (fun c d _ H' => E c d H') (defBody st) g) :
    FnG P w K mg base (L2.CX P w) (k + 1) f fd ps (spM K T m Fm) := by
  subst hm hn hF
  exact fn_okG F S hb
end
theorem exm_at {K : PySem.W.Frag} {S C : Addr} {b : Bool} (h1 : PySem.W.subIn K (.ref C) (.type "BaseException") = some true) (h2 : PySem.W.isClsIn K C = true) (h3 : PySem.W.typeIn K (.ref C) = some (.type "type"))
    (h4 : PySem.W.subIn K (.ref S) (.ref C) = some b) : PySem.W.exmOne K (.ref S) (.ref C) = some b := by
  have h5 : (PySem.W.clsIn K C).isSome = true := h2
  unfold PySem.W.exmOne PySem.W.kitCls
  simp [h1, h5, h3, h4]
end MM
set_option maxRecDepth 100000
/-! M15: evaluation: what simp is to know -/
namespace MM
open PySem
theorem rd_lst {st : Stor} {i : Nat} {ds : List D} (h : st[i]? = some (.lst ds)) : rd st (.loc i) = some (.list ds) := by
  unfold rd
  simp only [h]
theorem atI_nat {α : Type} (xs : List α) (n : Nat) : L2.atI xs (n : Int) = xs[n]? := by
  unfold L2.atI L2.ixN
  rw [if_pos (by omega)]
  by_cases h : (n : Int) < xs.length
  · rw [if_pos h]
    simp
  · rw [if_neg h, List.getElem?_eq_none (by omega)]
    rfl
theorem atI_lit {α : Type} (xs : List α) (n : Nat) : L2.atI xs (no_index (OfNat.ofNat n : Int)) = xs[(OfNat.ofNat n : Nat)]? := atI_nat xs n
theorem ixN_nat (m n : Nat) : L2.ixN m (n : Int) = if n < m then some n else none := by
  unfold L2.ixN
  rw [if_pos (by omega)]
  by_cases h : n < m
  · rw [if_pos (by omega), if_pos h]
    simp
  · rw [if_neg (by omega), if_neg h]
theorem ixN_lit (m n : Nat) : L2.ixN m (no_index (OfNat.ofNat n : Int)) = if (OfNat.ofNat n : Nat) < m then some (OfNat.ofNat n : Nat) else none := ixN_nat m n
theorem atI_pos {α : Type} (xs : List α) {i : Int} (h0 : 0 ≤ i) : L2.atI xs i = xs[i.toNat]? := by
  have := atI_nat xs i.toNat
  rwa [Int.toNat_of_nonneg h0] at this
theorem rd_set {st : Stor} {i : Nat} {ds : List D} (h : i < st.length) : rd (st.set i (.lst ds)) (.loc i) = some (.list ds) := rd_lst (by rw [List.getElem?_set_self h])
/-! by values -/
theorem g2_rd {f : D → D → Option D} {u w : U} {st : Stor} {x y : D} (h1 : rd st u = some x) (h2 : rd st w = some y) : g2 f u w st = (match f x y with | some z => .ok (.d z) st | none => .bad) := by
  unfold g2
  first | (simp only [h1, h2]; done) | (simp only [h1, h2]; cases f x y <;> rfl)
theorem g1_rd {f : D → Option D} {u : U} {st : Stor} {x : D} (h1 : rd st u = some x) : g1 f u st = (match f x with | some z => .ok (.d z) st | none => .bad) := by
  unfold g1
  first | (simp only [h1]; done) | (simp only [h1]; cases f x <;> rfl)
/-! ### loops by an invariant -/
theorem forL_inv {h : TgF} {g : SF} : ∀ {ds : List D} {ρ : Slots} {st : Stor} (P : Nat → Slots → Stor → Prop),
    (∀ k d ρ st, ds[k]? = some d → P k ρ st → ∃ ρ1 ρ2 st2, h d ρ = some ρ1 ∧ (g ρ1 st = .nx ρ2 st2 ∨ g ρ1 st = .ct ρ2 st2) ∧ P (k + 1) ρ2 st2) → P 0 ρ st →
    ∃ ρ' st', forL h g none ds ρ st = .nx ρ' st' ∧ P ds.length ρ' st'
  | [], ρ, st, P, _, h0 => ⟨ρ, st, rfl, h0⟩
  | d :: ds, ρ, st, P, step, h0 => by
    obtain ⟨ρ1, ρ2, st2, e1, e2, p1⟩ := step 0 d ρ st rfl h0
    obtain ⟨ρ', st', e3, p'⟩ := forL_inv (h := h) (g := g) (ds := ds) (ρ := ρ2) (st := st2) (fun k ρ st => P (k + 1) ρ st) (fun k d ρ st hk p => step (k + 1) d ρ st (by simpa using hk) p) p1
    refine ⟨ρ', st', ?_, p'⟩
    rw [← e3]
    show (match h d ρ with
      | none => RS.bad
      | some ρ1 => match g ρ1 st with
        | .nx ρ2 st2 => forL h g none ds ρ2 st2
        | .ct ρ2 st2 => forL h g none ds ρ2 st2
        | .bk ρ2 st2 => .nx ρ2 st2
        | r => r) = _
    rw [e1]
    rcases e2 with e2 | e2 <;> simp only [e2]
theorem lstAt_of {st : Stor} {n k : Nat} {acc : List D} (h : st[n]? = some (.lst acc)) (hk : acc.length ≤ k) : lstAt st n k = some acc := by
  unfold lstAt
  simp only [h, hk, if_true]
theorem compL_inv {h : TgF} {c : EF Bool} {e : EF U} {ρ : Slots} {n : Nat} {lv : LV} : ∀ {ds : List D} {st : Stor} {acc : List D} (k : Nat) (P : Nat → List D → Stor → Prop), (∀ k acc st, P k acc st → lvOk lv st ∧ st[n]? = some (.lst acc)) →
    (∀ j d acc st, ds[j]? = some d → P (k + j) acc st → ∃ ρ1 b st1, h d ρ = some ρ1 ∧ c ρ1 st = .ok b st1 ∧
      (b = true → ∃ x st2, e ρ1 st1 = .ok (.d x) st2 ∧ st2[n]? = some (.lst acc) ∧ P (k + j + 1) (acc ++ [x]) (st2.set n (.lst (acc ++ [x])))) ∧
      (b = false → P (k + j + 1) acc st1)) → P k acc st → acc.length ≤ k →
    ∃ acc' st', compL h c e ρ n lv k ds st = .ok () st' ∧ P (k + ds.length) acc' st' ∧ acc'.length ≤ k + ds.length
  | [], st, acc, k, P, hl, _, h0, hk => by
    refine ⟨acc, st, ?_, h0, hk⟩
    show chk lv st R.bad (R.ok () st) = _
    match lv, hl with
    | none, _ => rfl
    | some (j, ds), hl => exact chk_some (hl _ _ _ h0).1
  | d :: ds, st, acc, k, P, hl, step, h0, hk => by
    obtain ⟨ρ1, b, st1, e1, e2, hT, hF⟩ := step 0 d acc st rfl h0
    have hc : ∀ r : R Unit, chk lv st .bad r = r := fun r => by
      match lv, hl with
      | none, _ => rfl
      | some (j, ds), hl => exact chk_some (hl _ _ _ h0).1
    have st' : ∀ j d acc st, ds[j]? = some d → P (k + 1 + j) acc st → ∃ ρ1 b st1, h d ρ = some ρ1 ∧ c ρ1 st = .ok b st1 ∧
      (b = true → ∃ x st2, e ρ1 st1 = .ok (.d x) st2 ∧ st2[n]? = some (.lst acc) ∧ P (k + 1 + j + 1) (acc ++ [x]) (st2.set n (.lst (acc ++ [x])))) ∧
      (b = false → P (k + 1 + j + 1) acc st1) := fun j d acc st hj p => by
      have := step (j + 1) d acc st (by simpa using hj) (by rw [show k + (j + 1) = k + 1 + j by omega]; exact p)
      rw [show k + (j + 1) = k + 1 + j by omega] at this
      exact this
    cases b with
    | true =>
      obtain ⟨x, st2, e3, e4, p2⟩ := hT rfl
      obtain ⟨acc', stF, e5, p5, l5⟩ := compL_inv (ds := ds) (k + 1) P hl st' p2 (by rw [List.length_append, List.length_singleton]; omega)
      refine ⟨acc', stF, ?_, by rw [List.length_cons, show k + (ds.length + 1) = k + 1 + ds.length by omega]; exact p5, by rw [List.length_cons]; omega⟩
      rw [compL, hc, e1]
      simp only [e2, R.nox_ok, R.bind_ok, if_true, e3, lstAt_of e4 hk]
      exact e5
    | false =>
      have p2 := hF rfl
      obtain ⟨acc', stF, e5, p5, l5⟩ := compL_inv (ds := ds) (k + 1) P hl st' p2 (by omega)
      refine ⟨acc', stF, ?_, by rw [List.length_cons, show k + (ds.length + 1) = k + 1 + ds.length by omega]; exact p5, by rw [List.length_cons]; omega⟩
      rw [compL, hc, e1]
      simp only [e2, R.nox_ok, R.bind_ok, Bool.false_eq_true, if_false, lstAt_of (hl _ _ _ p2).2 hk]
      exact e5
/-- a comprehension that touches nothing -/
theorem comp_pure {vs : List Nat} {f : EF (List D × LV)} {h : TgF} {c : EF Bool} {e : EF U} {ρ : Slots} {st : Stor} {ds : List D} {lv : LV} (p : D → Bool) (q : D → D) (hf : f ρ st = .ok (ds, lv) st) (hz : ds.length ≤ 16777216) (hlv : ∀ acc, lvOk lv (st ++ [.lst acc]))
    (hs : ∀ d ∈ ds, ∃ ρ1, h d (wipeS ρ vs) = some ρ1 ∧ ∀ acc, c ρ1 (st ++ [.lst acc]) = .ok (p d) (st ++ [.lst acc]) ∧ (p d = true → e ρ1 (st ++ [.lst acc]) = .ok (.d (q d)) (st ++ [.lst acc]))) :
    eLc false vs f h c e ρ st = .ok (.d (.list ((ds.filter p).map q))) st := by
  unfold eLc
  rw [hf]
  simp only [R.bind_ok]
  rw [if_pos (show fits ds.length = true from decide_eq_true hz)]
  obtain ⟨acc', st', e1, ⟨rfl, rfl⟩, _⟩ := compL_inv (h := h) (c := c) (e := e) (ρ := wipeS ρ vs) (n := st.length) (lv := lv) (ds := ds) (st := st ++ [.lst []]) (acc := []) 0 (fun k acc st' => st' = st ++ [.lst acc] ∧ acc = ((ds.take k).filter p).map q)
    (fun k acc st' z => by
      obtain ⟨rfl, _⟩ := z
      exact ⟨hlv acc, by simp⟩)
    (fun j d acc st' hj z => by
      obtain ⟨rfl, rfl⟩ := z
      obtain ⟨ρ1, e1, e2⟩ := hs d (List.mem_of_getElem? hj)
      have hd : ds.take (0 + j + 1) = ds.take (0 + j) ++ [d] := by
        rw [List.take_add_one, show 0 + j = j by omega, hj]
        rfl
      refine ⟨ρ1, p d, _, e1, (e2 _).1, fun hp => ⟨q d, _, (e2 _).2 hp, by simp, ?_, ?_⟩, fun hp => ⟨rfl, ?_⟩⟩
      · simp
      · rw [hd, List.filter_append, List.map_append]
        simp [hp]
      · rw [hd, List.filter_append, List.map_append]
        simp [hp])
    ⟨rfl, by simp⟩ (by simp)
  rw [e1]
  simp [finL]
theorem dNe_bb (a b : Bool) : dNe (.bool a) (.bool b) = some (.bool (!(a == b))) := by simp [dNe, sh, D.eqv]
theorem dEq_bb (a b : Bool) : dEq (.bool a) (.bool b) = some (.bool (a == b)) := by simp [dEq, sh, D.eqv]
theorem dNe_ii (a b : Int) : dNe (.int a) (.int b) = some (.bool (!(a == b))) := by simp [dNe, sh, D.eqv]
theorem dEq_ii (a b : Int) : dEq (.int a) (.int b) = some (.bool (a == b)) := by simp [dEq, sh, D.eqv]
theorem dEq_nn : dEq (.list []) (.list []) = some (.bool true) := by simp [dEq, sh, shs, D.eqv, eqvs]
theorem dEq_tt (a b c d : Int) : dEq (.tuple [.int a, .int b]) (.tuple [.int c, .int d]) = some (.bool (a == c && b == d)) := by simp [dEq, sh, shs, D.eqv, eqvs]
theorem fits_le' {n : Nat} (h : n ≤ 16777216) : fits n = true := decide_eq_true h
theorem kLst_nil (st : Stor) : kLst [] st = .ok (.d (.list [])) st := by
  unfold kLst
  rw [show ofUs [] = some [] from rfl]
  exact if_pos (fits_le' (Nat.zero_le _))
end MM
set_option maxRecDepth 100000
/-! M16: evaluation statement by statement -/
namespace MM
open PySem
section
variable {c : EF Bool} {f : EF U} {fs : EF (List U)} {g1 g2 g : SF} {ρ ρ1 : Slots} {st st1 : Stor} {r : RS} {u : U} {i : Nat}
theorem sIf_t (h : c ρ st = .ok true st1) (hr : g1 ρ st1 = r) : sIf c g1 g2 ρ st = r := by
  unfold sIf
  rw [h]
  exact hr
theorem sIf_f (h : c ρ st = .ok false st1) (hr : g2 ρ st1 = r) : sIf c g1 g2 ρ st = r := by
  unfold sIf
  rw [h]
  exact hr
/-- a test that is false and nothing else -/
theorem sIf_n (h : c ρ st = .ok false st1) : sIf c g1 sNil ρ st = .nx ρ st1 := sIf_f h rfl
theorem sSeq_n (h : g1 ρ st = .nx ρ1 st1) (hr : g2 ρ1 st1 = r) : sSeq g1 g2 ρ st = r := by
  unfold sSeq
  rw [h]
  exact hr
theorem sSeq_r (h : g1 ρ st = .rt u st1) : sSeq g1 g2 ρ st = .rt u st1 := by
  unfold sSeq
  rw [h]
  rfl
theorem sRet_o (h : f ρ st = .ok u st1) : sRet f ρ st = .rt u st1 := by
  unfold sRet
  rw [h]
  rfl
theorem sSet_o (h : f ρ st = .ok u st1) : sSet i f ρ st = .nx (ρ.set i (some u)) st1 := by
  unfold sSet
  rw [h]
  rfl
theorem run_rt {n : Nat} {us : List U} {x : D} (h : g (us.map some ++ List.replicate (n - us.length) none) st = .rt (.d x) st1) : runF n g us st = .ok (.d x) (st1.take st.length) := by
  unfold runF
  rw [h]
  rfl
theorem run_same {n : Nat} {us : List U} {x : D} (h : g (us.map some ++ List.replicate (n - us.length) none) st = .rt (.d x) st) : runF n g us st = .ok (.d x) st := by
  rw [run_rt h, List.take_length]
theorem bin_o {h : U → U → Stor → R U} {fa fb : EF U} {a b : U} {st2 : Stor} {q : R U} (ha : fa ρ st = .ok a st1) (hb : fb ρ st1 = .ok b st2) (hq : h a b st2 = q) : eBin h fa fb ρ st = q := by
  unfold eBin
  rw [ha]
  simp only [R.bind_ok]
  rw [hb]
  exact hq
theorem asB_o {b : Bool} (h : f ρ st = .ok (.d (.bool b)) st1) : asB f ρ st = .ok b st1 := by
  unfold asB
  rw [h]
  rfl
theorem g2_o {k : D → D → Option D} {x y z : D} (h : k x y = some z) : MM.g2 k (.d x) (.d y) st = .ok (.d z) st := by
  unfold MM.g2
  simp only [rd_d, h]
theorem cons_o {fa : EF U} {a : U} {us : List U} {st2 : Stor} (ha : fa ρ st = .ok a st1) (hs : fs ρ st1 = .ok us st2) : eCons fa fs ρ st = .ok (a :: us) st2 := by
  unfold eCons
  rw [ha]
  simp only [R.bind_ok]
  rw [hs]
  rfl
theorem args_o {k : List U → Stor → R U} {us : List U} {q : R U} (hs : fs ρ st = .ok us st1) (hk : k us st1 = q) : eArgs fs k ρ st = q := by
  unfold eArgs
  rw [hs]
  exact hk
theorem len_o {n : Nat} {F : FM} {us : List U} {q : R U} (hl : us.length = n) (h : F us st = q) : kLen n F us st = q := by
  unfold kLen
  rw [if_pos hl]
  exact h
theorem tru_o {b : Bool} {x : D} (h : f ρ st = .ok (.d x) st1) (hb : x.tru = some b) : eTru f ρ st = .ok b st1 := by
  unfold eTru
  rw [h]
  simp only [R.bind_ok, uTru, rd_d, hb]
theorem notT_o {b : Bool} (h : c ρ st = .ok b st1) : eNotT c ρ st = .ok (!b) st1 := by
  unfold eNotT
  rw [h]
  rfl
theorem andT_t {c2 : EF Bool} {q : R Bool} (h : c ρ st = .ok true st1) (h2 : c2 ρ st1 = q) : eAndT c c2 ρ st = q := by
  unfold eAndT
  rw [h]
  exact h2
theorem andT_f {c2 : EF Bool} (h : c ρ st = .ok false st1) : eAndT c c2 ρ st = .ok false st1 := by
  unfold eAndT
  rw [h]
  rfl
theorem orT_t {c2 : EF Bool} (h : c ρ st = .ok true st1) : eOrT c c2 ρ st = .ok true st1 := by
  unfold eOrT
  rw [h]
  rfl
theorem orT_f {c2 : EF Bool} {q : R Bool} (h : c ρ st = .ok false st1) (h2 : c2 ρ st1 = q) : eOrT c c2 ρ st = q := by
  unfold eOrT
  rw [h]
  exact h2
theorem range1_o {us : List U} {ds : List D} {st2 : Stor} (h : fs ρ st = .ok us st1) (hk : kRange1 us st1 = .ok ds st2) : eRange1 fs ρ st = .ok ds st2 := by
  unfold eRange1
  rw [h]
  exact hk
theorem range2_o {us : List U} {ds : List D} {st2 : Stor} (h : fs ρ st = .ok us st1) (hk : kRange2 us st1 = .ok ds st2) : eRange2 fs ρ st = .ok ds st2 := by
  unfold eRange2
  rw [h]
  exact hk
theorem nl_o {k : EF (List D)} {ds : List D} (h : k ρ st = .ok ds st1) : nl k ρ st = .ok (ds, none) st1 := by
  unfold nl
  rw [h]
  rfl
theorem eV_o (h : ρ[i]? = some (some u)) : eV i ρ st = .ok u st := by
  unfold eV
  simp only [h]
theorem sFor_o {k : EF (List D × LV)} {h : TgF} {ds : List D} {lv : LV} (hf : k ρ st = .ok (ds, lv) st1) (hr : forL h g lv ds ρ st1 = r) : sFor k h g ρ st = r := by
  unfold sFor
  rw [hf]
  exact hr
theorem items_o {x : D} {ds : List D} (h : f ρ st = .ok (.d x) st1) (hi : x.items = some ds) : eItems f ρ st = .ok ds st1 := by
  unfold eItems
  rw [h]
  simp only [R.bind_ok, kItems, hi]
theorem tup_o {us : List U} {ds : List D} (h : ofUs us = some ds) (hl : ds.length ≤ 16777216) : kTup us st = .ok (.d (.tuple ds)) st := by
  unfold kTup
  rw [h]
  exact if_pos (fits_le' hl)
theorem lst_o {us : List U} {ds : List D} (h : ofUs us = some ds) (hl : ds.length ≤ 16777216) : kLst us st = .ok (.d (.list ds)) st := by
  unfold kLst
  rw [h]
  exact if_pos (fits_le' hl)
theorem lstN_o {us : List U} {ds : List D} (h : ofUs us = some ds) (hl : ds.length ≤ 16777216) : kLstN us st = .ok (.loc st.length) (st ++ [.lst ds]) := by
  unfold kLstN
  rw [h]
  exact if_pos (fits_le' hl)
theorem lm_o {k : List D → List U → Option (D × List D)} {fo : EF U} {j : Nat} {us : List U} {st2 : Stor} {d0 ds ds' : List D} {z : D} (ho : fo ρ st = .ok (.loc j) st1) (h1 : st1[j]? = some (.lst d0)) (ha : fs ρ st1 = .ok us st2) (h2 : st2[j]? = some (.lst ds)) (hk : k ds us = some (z, ds')) :
    eLM k fo fs ρ st = .ok (.d z) (st2.set j (.lst ds')) := by
  unfold eLM
  rw [ho]
  simp only [R.bind_ok, h1]
  rw [ha]
  simp only [R.bind_ok, h2, hk]
theorem sEx_o (h : f ρ st = .ok u st1) : sEx f ρ st = .nx ρ st1 := by
  unfold sEx
  rw [h]
  rfl
theorem kB_o {k : List D → Option D} {us : List U} {xs : List D} {z : D} (h : rds st us = some xs) (hk : k xs = some z) : kB k us st = .ok (.d z) st := by
  unfold kB
  simp only [h, hk]
theorem sPar_o {is : List Nat} {us : List U} (h : fs ρ st = .ok us st1) (hs : setU is us ρ = some ρ1) : sPar is fs ρ st = .nx ρ1 st1 := by
  unfold sPar
  rw [h]
  simp only [R.stm_ok, hs]
theorem rd_o {k : D → D → Option D} {a : U} {x y z : D} (h1 : rd st a = some x) (h : k x y = some z) : MM.g2 k a (.d y) st = .ok (.d z) st := by
  unfold MM.g2
  simp only [h1, rd_d, h]
end
end MM
set_option maxRecDepth 100000
/-! M17: evaluation of pure expressions, one rule a construct -/
namespace MM
open PySem
section
variable {ρ : Slots} {st : Stor} {fa fb fc : EF U} {x y z w : D} {i j : Int} {q : R U}
theorem cm_l {i j : Int} (h : -18446744073709551616 < i) (h2 : i < 18446744073709551616) : cMul i j = true := by
  unfold cMul
  rw [Bool.or_eq_true, Bool.and_eq_true]
  exact .inl ⟨decide_eq_true (by omega), decide_eq_true (by omega)⟩
theorem cm_r {i j : Int} (h : -18446744073709551616 < j) (h2 : j < 18446744073709551616) : cMul i j = true := by
  unfold cMul
  rw [Bool.or_eq_true, Bool.and_eq_true, Bool.and_eq_true]
  exact .inr ⟨decide_eq_true (by omega), decide_eq_true (by omega)⟩
theorem v1_o {k : List U → Stor → R U} (ha : fa ρ st = .ok (.d x) st) (hk : k [.d x] st = q) : eArgs (eCons fa eNil) k ρ st = q := args_o (cons_o ha rfl) hk
theorem v2_o {k : List U → Stor → R U} (ha : fa ρ st = .ok (.d x) st) (hb : fb ρ st = .ok (.d y) st) (hk : k [.d x, .d y] st = q) : eArgs (eCons fa (eCons fb eNil)) k ρ st = q := args_o (cons_o ha (cons_o hb rfl)) hk
theorem call1_o {F : FM} (ha : fa ρ st = .ok (.d x) st) (hk : F [.d x] st = q) : eArgs (eCons fa eNil) (kLen 1 F) ρ st = q := v1_o ha (len_o rfl hk)
theorem call2_o {F : FM} (ha : fa ρ st = .ok (.d x) st) (hb : fb ρ st = .ok (.d y) st) (hk : F [.d x, .d y] st = q) : eArgs (eCons fa (eCons fb eNil)) (kLen 2 F) ρ st = q := v2_o ha hb (len_o rfl hk)
theorem tup1_o (ha : fa ρ st = .ok (.d x) st) : eArgs (eCons fa eNil) kTup ρ st = .ok (.d (.tuple [x])) st := v1_o ha (tup_o rfl (by simp))
theorem tup2_o (ha : fa ρ st = .ok (.d x) st) (hb : fb ρ st = .ok (.d y) st) : eArgs (eCons fa (eCons fb eNil)) kTup ρ st = .ok (.d (.tuple [x, y])) st := v2_o ha hb (tup_o rfl (by simp))
theorem tup3_o (ha : fa ρ st = .ok (.d x) st) (hb : fb ρ st = .ok (.d y) st) (hc : fc ρ st = .ok (.d z) st) : eArgs (eCons fa (eCons fb (eCons fc eNil))) kTup ρ st = .ok (.d (.tuple [x, y, z])) st := args_o (cons_o ha (cons_o hb (cons_o hc rfl))) (tup_o rfl (by simp))
theorem mul_o (ha : fa ρ st = .ok (.d (.int i)) st) (hb : fb ρ st = .ok (.d (.int j)) st) (h : cMul i j = true) : eBin (g2 dMul) fa fb ρ st = .ok (.d (.int (i * j))) st := bin_o ha hb (g2_o (show (if cMul i j then some (D.int (i * j)) else none) = _ by rw [h]; rfl))
theorem add_o (ha : fa ρ st = .ok (.d (.int i)) st) (hb : fb ρ st = .ok (.d (.int j)) st) : eBin (g2 dAdd) fa fb ρ st = .ok (.d (.int (i + j))) st := bin_o ha hb (g2_o rfl)
theorem sub_o (ha : fa ρ st = .ok (.d (.int i)) st) (hb : fb ρ st = .ok (.d (.int j)) st) : eBin (g2 dSub) fa fb ρ st = .ok (.d (.int (i - j))) st := bin_o ha hb (g2_o rfl)
theorem neg_o (ha : fa ρ st = .ok (.d (.int i)) st) : eUn (g1 dNeg) fa ρ st = .ok (.d (.int (-i))) st := by
  unfold eUn
  rw [ha]
  rfl
theorem mod_o (ha : fa ρ st = .ok (.d (.int i)) st) (hb : fb ρ st = .ok (.d (.int j)) st) (h0 : 0 < j) (h1 : j < 1073741824) : eBin (g2 dMod) fa fb ρ st = .ok (.d (.int (i % j))) st := bin_o ha hb (g2_o (by
  have m1 : decide (0 < j) = true := decide_eq_true h0
  have m2 : decide (j < 1073741824) = true := decide_eq_true h1
  simp [dMod, m1, m2, h0, h1]))
theorem cmp_o {p : Int → Int → Bool} (ha : fa ρ st = .ok (.d (.int i)) st) (hb : fb ρ st = .ok (.d (.int j)) st) : eBin (g2 (dCmp p)) fa fb ρ st = .ok (.d (.bool (p i j))) st := bin_o ha hb (g2_o rfl)
theorem eqi_o (ha : fa ρ st = .ok (.d (.int i)) st) (hb : fb ρ st = .ok (.d (.int j)) st) : eBin (g2 dEq) fa fb ρ st = .ok (.d (.bool (i == j))) st := bin_o ha hb (g2_o (dEq_ii i j))
theorem ix_o {xs : List D} (ha : fa ρ st = .ok (.d (.tuple xs)) st) (hb : fb ρ st = .ok (.d (.int i)) st) (h : L2.atI xs i = some z) : eBin (g2 dIx) fa fb ρ st = .ok (.d z) st := bin_o ha hb (g2_o h)
theorem ixL_o {xs : List D} (ha : fa ρ st = .ok (.d (.list xs)) st) (hb : fb ρ st = .ok (.d (.int i)) st) (h : L2.atI xs i = some z) : eBin (g2 dIx) fa fb ρ st = .ok (.d z) st := bin_o ha hb (g2_o h)
theorem len1_o {xs : List D} (ha : fa ρ st = .ok (.d (.list xs)) st) : eArgs (eCons fa eNil) (kB bLen) ρ st = .ok (.d (.int xs.length)) st := v1_o ha (kB_o (xs := [.list xs]) rfl rfl)
theorem b1_o {k : List D → Option D} (ha : fa ρ st = .ok (.d x) st) (hk : k [x] = some z) : eArgs (eCons fa eNil) (kB k) ρ st = .ok (.d z) st := v1_o ha (kB_o rfl hk)
theorem un_o {k : D → Option D} (ha : fa ρ st = .ok (.d x) st) (hk : k x = some z) : eUn (g1 k) fa ρ st = .ok (.d z) st := by
  unfold eUn
  rw [ha]
  simp only [R.bind_ok, MM.g1, rd_d, hk]
/-- a test, or nothing -/
theorem sIf_rf {c : EF Bool} {g : SF} (h : c ρ st = .ok false st) : sIf c g sNil ρ st = .nx ρ st := sIf_n h
end
end MM
set_option maxRecDepth 100000
/-! M18: several except clauses, each with a name or without -/
namespace MM
open PySem PySem.Spec PyProof.Rows L2
abbrev ClS := Addr → Value → Option Addr → TS
/-- behind a clause with a name its slot is empty -/
def clr (D : Ends) : Option Nat → Ends
  | none => D
  | some i => { nx := fun τ G => D.nx (τ.set i none) G, rt := D.rt, bk := fun τ G => D.bk (τ.set i none) G, ct := fun τ G => D.ct (τ.set i none) G }
def putE (τ : L2.St) (ea : Addr) : Option Nat → L2.St
  | none => τ
  | some i => τ.set i (some (.ref ea))
/-- what the clauses want, one behind the other -/
def wAll (K : PySem.W.Frag) (Wo : WX) (D : Ends) : List (Value × Option Nat × ClS) → WX
  | [] => Wo
  | q :: r => fun cl dd τ G => ∃ t, PySem.W.exmOne K cl q.1 = some t ∧ (t = true → ∀ ea, G ea = none → q.2.2 ea cl dd (clr D q.2.1) (putE τ ea q.2.1) G) ∧ (t = false → wAll K Wo D r cl dd τ G)
inductive ClsOk (X : Cx) : List ExceptHandler → List (Value × Option Nat × ClS) → Prop
  | nil : ClsOk X [] []
  | bare {x : Str} {c : Value} {ts : ClS} {s0 : Stmt} {ss : List Stmt} {p q : Pos} {hs : List ExceptHandler} {l : List (Value × Option Nat × ClS)} : Names X x c →
      (∀ (ea : Addr) (oe : Obj) (cl : Value) (dd : Option Addr) (pn : List (Addr × Obj)), Zc cl dd oe → (∃ fs, oe.data = .fields fs) → PSs (X.suite ea ((ea, oe) :: pn)) (s0 :: ss) (ts ea cl dd)) → ClsOk X hs l →
      ClsOk X (.ExceptHandler (some (.Name x p)) none (s0 :: ss) q :: hs) ((c, none, ts) :: l)
  | named {x n : Str} {i : Nat} {c : Value} {ts : ClS} {s0 : Stmt} {ss : List Stmt} {p q : Pos} {hs : List ExceptHandler} {l : List (Value × Option Nat × ClS)} : X.N[i]? = some n → X.env.kindOf n = some .local → Names X x c →
      (∀ (ea : Addr) (oe : Obj) (cl : Value) (dd : Option Addr) (pn : List (Addr × Obj)), Zc cl dd oe → (∃ fs, oe.data = .fields fs) → PSs (X.suite ea ((ea, oe) :: pn)) (s0 :: ss) (ts ea cl dd)) → ClsOk X hs l →
      ClsOk X (.ExceptHandler (some (.Name x p)) (some n) (s0 :: ss) q :: hs) ((c, some i, ts) :: l)
section
variable {X : Cx} {body : List Stmt} {h0 : ExceptHandler} {hs : List ExceptHandler} {l : List (Value × Option Nat × ClS)} {pos : Pos} {tb : WX → TS} {Wo : WX}
theorem ps_try_all (hst : X.stack = X.env :: X.outer) (hfm : X.env.frame = some X.env.locals) (hN : X.N.Nodup) (tk : Takes X Wo)
    (hb : ∀ (W : WX) (pn : List (Addr × Obj)) (xe : Value → Shared → Prop), Takes (X.tr pn xe) W → PassesOwn (model X.prog X.w) X.A X.env xe → PSs (X.tr pn xe) body (tb W))
    (hh : ClsOk X (h0 :: hs) l) : PS X (.Try body (h0 :: hs) [] [] pos) (fun D τ G => tb (wAll X.K Wo D l) D τ G) := by
  refine ⟨fun pins s τ G D I want => ?_⟩
  have iok := I.ok
  have frames : X.A.frames = some (X.env :: X.outer) := by rw [iok.frames, hst]
  refine wpAny_Try_except ?_
  have run := (hb (wAll X.K Wo D l) (X.pn ++ pins) (fun er s1 => wpAny (model X.prog X.w) X.A (noteFrame er X.env) (fun _ s2 => wpAny (model X.prog X.w) X.A (setFlight er none) (fun _ s3 =>
    wpAny (model X.prog X.w) X.A (handleBy er X.env (h0 :: hs)) (SP X pins D) X.xe s3) X.xe s2) X.xe s1) (fun u sx caught => ?_) PassesOwn.looking).run [] s τ G D (I.toTry _) want
  · refine wpAny_mono run (fun fl s1 hsp => ?_) (fun er s1 he => he)
    cases fl with
    | next => obtain ⟨τ', G', J', q⟩ := hsp; exact wpAny_execs_nil ⟨τ', G', J'.ofTry iok, q⟩
    | brk => obtain ⟨τ', G', J', q⟩ := hsp; exact ⟨τ', G', J'.ofTry iok, q⟩
    | cont => obtain ⟨τ', G', J', q⟩ := hsp; exact ⟨τ', G', J'.ofTry iok, q⟩
    | ret u => obtain ⟨v, τ', G', J', rv, q⟩ := hsp; exact ⟨v, τ', G', J'.ofTry iok, rv, q⟩
  · obtain ⟨ea, bb, s9, pins9, τ9, G9, cl, dd, rfl, J9, nob, upw, sky, nea, eos, ega, want9⟩ := caught
    have J : Inv X pins τ9 G9 s9 := J9.ofTry iok
    have sky1 : Sky bb (X.env :: X.outer) ea (Zc cl dd) X.env.locals sx.heap := by rw [← hst]; exact sky
    show wpAny (model X.prog X.w) X.A (noteFrame (.ref ea) X.env) _ _ _
    refine Sky.land Zc.steady frames hfm sky1 fun g3 land3 up3 => ?_
    have J3 : Inv X pins τ9 G9 { sx with heap := g3 } := J.landed nob land3.1 (upw.trans up3) eos ega
    obtain ⟨o3, f3, at3, zc3, da3⟩ := land3.there
    have off : ea ∉ frs (X.env :: X.outer) := fun hm => by
      obtain ⟨_, o', e', no⟩ := land3.2.2.1.mem hm
      rw [at3] at e'; cases e'
      exact no _ da3
    have offL : ea ≠ X.env.locals := fun z => off (List.mem_filterMap.mpr ⟨X.env, List.mem_cons_self, by rw [hfm, z]⟩)
    have offF : ea ∉ X.fs := fun hm => by
      obtain ⟨e, he, q⟩ := List.mem_filterMap.mp hm
      exact off (List.mem_filterMap.mpr ⟨e, List.mem_cons_of_mem _ he, q⟩)
    have S3 := J3.suite at3 da3 nea offL offF
    have LT : PySem.W.Looks (model X.prog X.w) g3 (typeOf (.ref ea)) cl := fun A Q E s k q => wpAny_typeOf_ref (k _ _ at3) (by rw [zc3.1]; exact q)
    have test : ∀ {x : Str} {c : Value} {np : Pos} (hc : Names X x c) {Q : Value → Shared → Prop} {E : Value → Shared → Prop}, Q c { sx with heap := g3 } → wpAny (model X.prog X.w) (X.A.mark (some (.ref ea))) (eval (.Name x np) X.env) Q E { sx with heap := g3 } := fun {x c np} hc {Q E} q => by
      obtain ⟨hg, hdbg, hm | ⟨hm, hv, hnn⟩⟩ := hc
      · exact ld_glob (X := X.suite ea ((ea, o3) :: (X.pn ++ pins))) S3 hg hm q hdbg
      · exact ld_blt (X := X.suite ea ((ea, o3) :: (X.pn ++ pins))) S3 hg hm hv q hnn hdbg
    have go : ∀ {hs' : List ExceptHandler} {l' : List (Value × Option Nat × ClS)}, ClsOk X hs' l' → wAll X.K Wo D l' cl dd τ9 G9 →
        wpAny (model X.prog X.w) X.A (handleBy (.ref ea) X.env hs') (SP X pins D) X.xe { sx with heap := g3 } := by
      intro hs' l' hk
      induction hk with
      | nil =>
        intro w
        refine wpAny_handleBy_nil ?_
        obtain ⟨_, _, _, oe, vs, T, oT, _, he, _, hd, h1, _⟩ := id land3
        unfold PySem.passOn
        refine wpAny_bind (wpAny_field he hd h1 ?_)
        rw [if_neg (show ¬ ((Value.ref T == Value.none) = true) from by simp)]
        have out : wpAny (model X.prog X.w) X.A (setFlight (.ref ea) X.env.frame) (fun _ s4 => wpAny (model X.prog X.w) X.A (throw (.ref ea) : Sem Flow) (SP X pins D) X.xe s4) X.xe { sx with heap := g3 } := by
          rw [hfm]
          exact HandSPX.setFlight_upZ land3 fun g4 hh4 up4 => wpAny_throw (tk _ _ ⟨ea, bb, s9, pins, τ9, G9, cl, dd, rfl, J, nob, (upw.trans up3).trans up4, .inr (.inr (by rw [hst]; exact hh4)), nea, eos, ega, w⟩)
        first
          | exact wpAny_bind (wpAny_pure (wpAny_bind out))
          | exact wpAny_bind out
      | @bare x c ts s0 ss p q hs2 l2 hc hsu r ih =>
        intro ⟨t, ht, yes, no⟩
        refine wpAny_handleBy_cons (codeAny_handlers_test ?_) (by intro q; cases q)
        refine test hc ((PySem.W.exm_one (M := model X.prog X.w) J3.kIn LT ht).here ?_)
        cases t with
        | false => exact ih (no rfl)
        | true =>
          refine codeAny_handlers_suite (HandSPX.lands_againZ land3 fun g4 land4 up4 => ?_)
          have J4 : Inv X pins τ9 G9 { sx with heap := g4 } := J.landed nob land4.1 ((upw.trans up3).trans up4) eos ega
          obtain ⟨o4, f4, at4, zc4, da4⟩ := land4.there
          have S4 := J4.suite at4 da4 nea offL offF
          refine wpAny_mono ((hsu ea o4 cl dd (X.pn ++ pins) zc4 ⟨_, da4⟩).run [] _ _ G9 _ S4 (yes rfl ea nea)) (fun fl s6 hsp => ?_) (fun _ _ z => False.elim z)
          cases fl with
          | next => obtain ⟨τ6, G6, S6, q6⟩ := hsp; exact ⟨_, _, S6.unsuite iok, q6⟩
          | brk => obtain ⟨τ6, G6, S6, q6⟩ := hsp; exact ⟨_, _, S6.unsuite iok, q6⟩
          | cont => obtain ⟨τ6, G6, S6, q6⟩ := hsp; exact ⟨_, _, S6.unsuite iok, q6⟩
          | ret u => obtain ⟨v6, τ6, G6, S6, r6, q6⟩ := hsp; exact ⟨_, _, _, S6.unsuite iok, r6, q6⟩
      | @named x n i c ts s0 ss p q hs2 l2 hi hln hc hsu r ih =>
        intro ⟨t, ht, yes, no⟩
        refine wpAny_handleBy_cons (codeAny_handlers_test ?_) (by intro q; cases q)
        refine test hc ((PySem.W.exm_one (M := model X.prog X.w) J3.kIn LT ht).here ?_)
        cases t with
        | false => exact ih (no rfl)
        | true =>
          refine codeAny_handlers_suite_as (HandSPX.lands_againZ land3 fun g4 land4 up4 => ?_)
          have J4 : Inv X pins τ9 G9 { sx with heap := g4 } := J.landed nob land4.1 ((upw.trans up3).trans up4) eos ega
          obtain ⟨o4, f4, at4, zc4, da4⟩ := land4.there
          have S4 := J4.suite at4 da4 nea offL offF
          refine store_ok (X := X.suite ea ((ea, o4) :: (X.pn ++ pins))) (v := .ref ea) S4 hN hi (.inl hln) rfl (fun s5 S5 => ?_) (.inr hln)
          refine wpAny_mono ((hsu ea o4 cl dd (X.pn ++ pins) zc4 ⟨_, da4⟩).run [] s5 _ G9 _ S5 (yes rfl ea nea)) (fun fl s6 hsp => ?_) (fun _ _ z => False.elim z)
          have ends : ∀ {τ6 : L2.St} {G6 : Hp} {Q : Shared → Prop}, Inv (X.suite ea ((ea, o4) :: (X.pn ++ pins))) [] τ6 G6 s6 → (∀ s7, Inv X pins (τ6.set i none) G6 s7 → Q s7) →
              wpAny (model X.prog X.w) X.A (do bindName X.env n .none; unbindBehindTheSuite X.env n q) (fun _ s7 => Q s7) X.xe s6 := fun {τ6 G6 Q} S6 hq => gone_ok (S6.unsuite iok) hN hi hln hq
          cases fl with
          | next => obtain ⟨τ6, G6, S6, q6⟩ := hsp; exact ends S6 fun s7 J7 => ⟨_, _, J7, q6⟩
          | brk => obtain ⟨τ6, G6, S6, q6⟩ := hsp; exact ends S6 fun s7 J7 => ⟨_, _, J7, q6⟩
          | cont => obtain ⟨τ6, G6, S6, q6⟩ := hsp; exact ends S6 fun s7 J7 => ⟨_, _, J7, q6⟩
          | ret u => obtain ⟨v6, τ6, G6, S6, r6, q6⟩ := hsp; exact ends S6 fun s7 J7 => ⟨_, _, _, J7, r6, q6⟩
    exact go hh want9
end
/-- the clauses, by values: the first whose test says yes -/
structure ClV where
  test : Nat → Option Bool
  slot : Option Nat
  run : Addr → Addr → Nat → SF
def putX (ρ : Slots) (x : D) : Option Nat → Slots
  | none => ρ
  | some i => ρ.set i (some (.d x))
def RS.wipeO : Option Nat → RS → RS
  | none, .exc _ _ _ _ => .bad
  | none, r => r
  | some i, r => r.wipe i
noncomputable def trL (c : Nat) (fs : List (Str × D)) (ρ : Slots) (st : Stor) : List ClV → RS
  | [] => .exc c fs ρ st
  | q :: r => match q.test c with
    | some true => indep fun a d => (q.run a d c (putX ρ (.exc a d c fs) q.slot) st).wipeO q.slot
    | some false => trL c fs ρ st r
    | none => .bad
noncomputable def sTryL (qs : List ClV) (gb : SF) : SF := fun ρ st => match gb ρ st with
  | .exc c fs ρ' st' => trL c fs ρ' st' qs
  | r => r
section
variable {X : Cx} {T : Nat → Addr} {W : WX} {body : List Stmt} {gb : SF} {pos : Pos}
/-- the clauses as they stand compute so -/
inductive HsOk (X : Cx) (T : Nat → Addr) : List ExceptHandler → List (Value × ClV) → Prop
  | nil : HsOk X T [] []
  | bare {x : Str} {c : Value} {te : Nat → Option Bool} {gs : Addr → Addr → Nat → SF} {s0 : Stmt} {ss : List Stmt} {p q : Pos} {hs : List ExceptHandler} {l : List (Value × ClV)} : Names X x c → (∀ k b, te k = some b → PySem.W.exmOne X.K (.ref (T k)) c = some b) →
      (∀ (a : Addr) (oe : Obj) (k : Nat) (d : Addr) (pn : List (Addr × Obj)), te k = some true → Zc (.ref (T k)) (some d) oe → (∃ vs, oe.data = .fields vs) → MSs (X.suite a ((a, oe) :: pn)) T W0 (s0 :: ss) (gs a d k)) → HsOk X T hs l →
      HsOk X T (.ExceptHandler (some (.Name x p)) none (s0 :: ss) q :: hs) ((c, ⟨te, none, gs⟩) :: l)
  | named {x n : Str} {i : Nat} {c : Value} {te : Nat → Option Bool} {gs : Addr → Addr → Nat → SF} {s0 : Stmt} {ss : List Stmt} {p q : Pos} {hs : List ExceptHandler} {l : List (Value × ClV)} : X.N[i]? = some n → X.env.kindOf n = some .local → Names X x c → (∀ k b, te k = some b → PySem.W.exmOne X.K (.ref (T k)) c = some b) →
      (∀ (a : Addr) (oe : Obj) (k : Nat) (d : Addr) (pn : List (Addr × Obj)), te k = some true → Zc (.ref (T k)) (some d) oe → (∃ vs, oe.data = .fields vs) → MSs (X.suite a ((a, oe) :: pn)) T W0 (s0 :: ss) (gs a d k)) → HsOk X T hs l →
      HsOk X T (.ExceptHandler (some (.Name x p)) (some n) (s0 :: ss) q :: hs) ((c, ⟨te, some i, gs⟩) :: l)
/-- a clause's reading -/
def clTS (X : Cx) (T : Nat → Addr) (q : ClV) : ClS := fun a cl dd D σ H => ∃ k d', cl = .ref (T k) ∧ dd = some d' ∧ q.test k = some true ∧ TSg X.K T W0 (q.run a d' k) D σ H
theorem cls_of {hs : List ExceptHandler} {l : List (Value × ClV)} (h : HsOk X T hs l) : ClsOk X hs (l.map fun q => (q.1, q.2.slot, clTS X T q.2)) := by
  induction h with
  | nil => exact .nil
  | bare hc ht hs r ih =>
    refine .bare hc (fun a oe cl dd pn hz hv => ⟨fun pins s σ H D I h => ?_⟩) ih
    obtain ⟨k, d', rfl, rfl, t, h⟩ := h
    exact (hs a oe k d' pn t hz hv).run pins s σ H D I h
  | named hi hl hc ht hs r ih =>
    refine .named hi hl hc (fun a oe cl dd pn hz hv => ⟨fun pins s σ H D I h => ?_⟩) ih
    obtain ⟨k, d', rfl, rfl, t, h⟩ := h
    exact (hs a oe k d' pn t hz hv).run pins s σ H D I h
theorem wipeO_go {K : PySem.W.Frag} {M : List (Option Addr)} {H : Hp} {r : RS} {i : Option Nat} {D : Ends} (h : GoS K T W M H (RS.wipeO i r) D) : GoS K T W0 M H r (clr D i) := by
  cases i with
  | some i => exact wipe_go h
  | none =>
    cases r with
    | nx ρ st => exact h
    | bk ρ st => exact h
    | ct ρ st => exact h
    | rt u st => exact h
    | exc c fs ρ st => exact h.elim
    | bad => exact h.elim
theorem put_rep {K : PySem.W.Frag} {M : List (Option Addr)} {H : Hp} {σ : L2.St} {ρ : Slots} {st : Stor} {a : Addr} {x : D} (rep : Rep K T M H σ ρ st) (r : RD K T M H (.ref a) x) : ∀ i, Rep K T M H (putE σ a i) (putX ρ x i) st
  | none => rep
  | some i => rep.set i (.d r)
theorem trL_go {M : List (Option Addr)} {H : Hp} {Z : Ends} {c : Nat} {fs : List (Str × D)} {M' : List (Option Addr)} {H' : Hp} {σ' : L2.St} {ρ' : Slots} {st' : Stor} {d : Addr} {fv : List (Str × V)} (e' : Ext M M' H H') (rep' : Rep X.K T M' H' σ' ρ' st') (hd : H' d = some (.xd fv)) (rf : RFs X.K T M' H' fv fs) (hm : some d ∉ M') :
    ∀ {hs : List ExceptHandler} {l : List (Value × ClV)}, HsOk X T hs l → GoS X.K T W M H (trL c fs ρ' st' (l.map (·.2))) Z → wAll X.K W Z (l.map fun q => (q.1, q.2.slot, clTS X T q.2)) (.ref (T c)) (some d) σ' H' := by
  intro hs l h
  induction h with
  | nil => exact fun go => go M' H' σ' d fv e' rep' hd rf hm
  | @bare x cv te gs s0 ss p q hs l hc ht hsu r ih =>
    intro go
    rw [List.map_cons, trL] at go
    simp only at go
    cases q2 : te c with
    | none => rw [q2] at go; exact go.elim
    | some b =>
      rw [q2] at go
      refine ⟨b, ht c b q2, fun hbt a na => ?_, fun hbf => ?_⟩
      · subst hbt
        simp only at go
        have hnb : indep (fun a d => RS.wipeO none (gs a d c (putX ρ' (.exc a d c fs) none) st')) ≠ .bad := fun z => by
          rw [z] at go
          exact go.elim
        rw [← indep_at hnb a d] at go
        exact ⟨c, d, rfl, rfl, q2, M', _, st', put_rep rep' (.exc hm hd rf) none, wipeO_go (GoS.base go e')⟩
      · subst hbf
        exact ih go
  | @named x n i cv te gs s0 ss p q hs l hi hl hc ht hsu r ih =>
    intro go
    rw [List.map_cons, trL] at go
    simp only at go
    cases q2 : te c with
    | none => rw [q2] at go; exact go.elim
    | some b =>
      rw [q2] at go
      refine ⟨b, ht c b q2, fun hbt a na => ?_, fun hbf => ?_⟩
      · subst hbt
        simp only at go
        have hnb : indep (fun a d => RS.wipeO (some i) (gs a d c (putX ρ' (.exc a d c fs) (some i)) st')) ≠ .bad := fun z => by
          rw [z] at go
          exact go.elim
        rw [← indep_at hnb a d] at go
        exact ⟨c, d, rfl, rfl, q2, M', _, st', put_rep rep' (.exc hm hd rf) (some i), wipeO_go (GoS.base go e')⟩
      · subst hbf
        exact ih go
theorem ms_try_all {h0 : ExceptHandler} {hs : List ExceptHandler} {l : List (Value × ClV)} (hst : X.stack = X.env :: X.outer) (hfm : X.env.frame = some X.env.locals) (hN : X.N.Nodup) (tk : Takes X W)
    (hb : ∀ (W : WX) (pn : List (Addr × Obj)) (xe : Value → Shared → Prop), Takes (X.tr pn xe) W → PassesOwn (model X.prog X.w) X.A X.env xe → MSs (X.tr pn xe) T W body gb) (hh : HsOk X T (h0 :: hs) l) :
    MS X T W (.Try body (h0 :: hs) [] [] pos) (sTryL (l.map (·.2)) gb) := by
  refine PS.imp (ps_try_all (tb := fun W' => TSg X.K T W' gb) hst hfm hN tk hb (cls_of hh)) fun D σ H ⟨M, ρ, st, rep, go⟩ => ?_
  refine ⟨M, ρ, st, rep, ?_⟩
  unfold sTryL at go
  cases q : gb ρ st with
  | exc c fs ρ' st' =>
    rw [q] at go
    exact fun M' H' σ' d fv e' rep' hd rf hm => trL_go e' rep' hd rf hm hh go
  | nx ρ' st' => rw [q] at go; exact go
  | bk ρ' st' => rw [q] at go; exact go
  | ct ρ' st' => rw [q] at go; exact go
  | rt u st' => rw [q] at go; exact go
  | bad => rw [q] at go; exact go.elim
end
end MM
set_option maxRecDepth 100000
/-! M19: own instances made; defs as values; constants of the text -/
namespace MM
open PySem PySem.Spec PyProof.Rows L2
section
variable {X : Cx} {CX : CXT} {k : Nat} {f C : Addr} {fd : FuncData} {ps : List Str} {sp : Sp} {E : L2.St → XK} {x : Str} {p pos : Pos} {e : Expr} {es : List Expr} {t : TA}
theorem run_makeS {pins : List (Addr × Obj)} {σ : L2.St} {H : Hp} {s : Shared} {Q : VK} {us : List Value} {vs : List V} (M : Mk X.K C f) (F : FnOk X.prog X.w X.K X.mg X.base CX k f fd ps sp) (hr : Room (k + 1) X.A) (hb : Binds X.K fd ps []) (hx : PassesAt CX X σ (E σ)) (I : Inv X pins σ H s) (r : Vals vs us)
    (h : ∀ x dx, H x = none → H dx = none → dx ≠ x → sp (.ref x :: vs) (L2.upd (L2.upd H dx (.own x)) x (.ins C dx [])) (fun v H2 => v = .non ∧ Q (.ref x) H2) (E σ)) :
    wpAny (model X.prog X.w) X.A (call (.ref C) us) (EP X pins σ Q) X.xe s := by
  have want := h (s.heap.objs.size + 1) s.heap.objs.size (I.hok.fresh (Nat.le_succ _)) (I.hok.fresh (Nat.le_refl _)) (Nat.ne_of_lt (Nat.lt_succ_self _))
  have J := Inv.made (C := C) I
  have r2 : Vals (V.ref (s.heap.objs.size + 1) :: vs) (Value.ref (s.heap.objs.size + 1) :: us) := .cons rfl r
  have many : (Value.ref (s.heap.objs.size + 1) :: us).length = ps.length := by rw [← r2.length]; exact F.len _ _ _ _ want
  have bnd := hb _ (Value.ref (s.heap.objs.size + 1) :: us) J.kIn (by rw [List.append_nil]; exact many)
  rw [List.append_nil] at bnd
  refine wpAny_call (make_map (f := f) I.kIn M.makes M.init (beq_iff_eq.mp M.fn) (codeAny_mono (F.run _ X.stack _ _ ⟨Value.ref (s.heap.objs.size + 1) :: us, []⟩ _ _ _ (E σ) (hr.make C us []) (J.env0.make C us []) bnd r2 want) fun out s' got => ?_))
  cases out with
  | error er => exact hx pins _ _ er s' J got
  | ok fl =>
    cases fl with
    | ret u =>
      obtain ⟨v, H', I3, rv, ev, q3⟩ := J.after got
      subst ev
      exact ⟨rv, ⟨V.ref (s.heap.objs.size + 1), H', I3, rfl, q3⟩⟩
    | next => exact False.elim got
    | brk => exact False.elim got
    | cont => exact False.elim got
def tMakeS (C : Addr) (sp : Sp) (E : L2.St → XK) (t : TA) : TE := fun σ H Q => t σ H fun vs H1 => ∀ x dx, H1 x = none → H1 dx = none → dx ≠ x →
  sp (.ref x :: vs) (L2.upd (L2.upd H1 dx (.own x)) x (.ins C dx [])) (fun v H2 => v = .non ∧ Q (.ref x) H2) (E σ)
theorem pe_makeS (M : Mk X.K C f) (F : FnOk X.prog X.w X.K X.mg X.base CX k f fd ps sp) (hr : Room (k + 1) X.A) (hg : Gl X x) (hm : X.mg x = some (.ref C)) (hb : Binds X.K fd ps []) (hx : ∀ σ, PassesAt CX X σ (E σ))
    (ha : PA X (e :: es) t) (hdb : (x == ("__debug__" : Str)) = false := by decide) (he : starEach (e :: es) X.env = (false, eval e X.env) :: starEach es X.env := by rfl) (hpl : (backTo pos (starEach es X.env)).any (·.1) = false := by rfl) :
    PE X (.Call (.Name x p) (e :: es) [] pos) (tMakeS C sp E t) := by
  refine ⟨fun pins s σ H Q I want => wpAny_Call_Name_kw (ld_glob I hg hm ?_ hdb)⟩
  refine PySem.W.callWith_K (h₀ := X.base) I.ok.mod.kin M.kp (thn (ha.run pos pins s σ H _ I want) fun us s1 ⟨vs, H1, I1, rv, q⟩ => ⟨I1.kIn, run_makeS M F hr hb (hx σ) I1 rv q⟩) he hpl
end
/-- C(e, ..): the new instance, frozen -/
def kMake (c : Nat) (n : Nat) (F : FM) : List U → Stor → R U := fun us st => if us.length + 1 = n then match F (.loc st.length :: us) (st ++ [.ins c []]) with
    | .ok (.d .none) st2 => match rd st2 (.loc st.length) with
      | some z => .ok (.d z) (st2.take st.length)
      | none => .bad
    | .exc k fs st2 => .exc k fs (st2.take st.length)
    | _ => .bad
  else .bad
section
variable {X : Cx} {T : Nat → Addr} {W : WX} {k n c : Nat} {f : Addr} {fd : FuncData} {ps : List Str} {F : FM} {x m : Str} {p pos apos : Pos} {e o : Expr} {es : List Expr} {fs : EF (List U)} {fa fo : EF U}
theorem m_make (tk : Takes X W) (M : Mk X.K (T c) f) (G : FnOk X.prog X.w X.K X.mg X.base (L2.CX X.prog X.w) k f fd ps (spM X.K T n F)) (hr : Room (k + 1) X.A) (hg : Gl X x) (hm : X.mg x = some (.ref (T c))) (hb : Binds X.K fd ps [])
    (ha : MA X T W (e :: es) fs) (hdb : (x == ("__debug__" : Str)) = false := by decide) (he : starEach (e :: es) X.env = (false, eval e X.env) :: starEach es X.env := by rfl) (hpl : (backTo pos (starEach es X.env)).any (·.1) = false := by rfl) :
    ME X T W (.Call (.Name x p) (e :: es) [] pos) (eArgs fs (kMake c n F)) := by
  refine PE.imp (pe_makeS (E := WE W) M G hr hg hm hb (fun σ => passAt tk σ) ha hdb he hpl) fun σ H Q ⟨M, ρ, st, rep, go⟩ => ?_
  refine ⟨M, ρ, st, rep, (Go.bind (Rel := relL X.K T) rep go).mono fun vs H1 ⟨M1, st1, us, e1, rep1, rus, go1⟩ x dx nx ndx ne => ?_⟩
  unfold kMake at go1
  by_cases hn : us.length + 1 = n
  · rw [if_pos hn] at go1
    have x1 := Ext.lay (M := M1) (o := .own x) ndx
    have s1 := rep1.sto.lay (o := .own x) ndx
    have nx1 : (L2.upd H1 dx (.own x)) x = none := by rw [upd_ne (Ne.symm ne)]; exact nx
    obtain ⟨x2, s2⟩ := s1.push (o := .ins (T c) dx []) (ob := .ins c []) nx1 fun _ => ⟨x, dx, [], rfl, upd_same, .nil⟩
    have xx := x1.trans x2
    have hM : M1.length = st1.length := rep1.sto.len
    have hx : (M1 ++ [some x])[st1.length]? = some (some x) := by rw [← hM]; simp
    have rus2 : Paired (RU X.K T (M1 ++ [some x]) (L2.upd (L2.upd H1 dx (.own x)) x (.ins (T c) dx []))) (.ref x :: vs) (.loc st1.length :: us) := .cons (.loc hx) (L2.Paired.mapP rus fun _ _ h => h.ext xx)
    have hlen : (V.ref x :: vs).length = n := by rw [List.length_cons, Paired.len rus]; exact hn
    have hsp : Go X.K T (relU X.K T) W (M1 ++ [some x]) σ (L2.upd (L2.upd H1 dx (.own x)) x (.ins (T c) dx [])) (F (.loc st1.length :: us) (st1 ++ [.ins c []])) (fun v H2 => v = .non ∧ Q (.ref x) H2) := by
      cases q : F (.loc st1.length :: us) (st1 ++ [.ins c []]) with
      | bad => rw [q] at go1; exact go1.elim
      | exc kk fs st2 =>
        rw [q] at go1
        exact fun M' H' d fv e' s' hd rf nd => go1 _ H' d fv ((xx.trans e').take _ hM.symm) (s'.take _) hd (rf.sub take_sub) fun z => nd (take_sub _ z)
      | ok u st2 =>
        rw [q] at go1
        cases u with
        | loc _ => exact go1.elim
        | d y =>
          cases y with
          | none =>
            simp only at go1
            cases qr : rd st2 (.loc st1.length) with
            | none => rw [qr] at go1; exact go1.elim
            | some z =>
              rw [qr] at go1
              intro M' H' b e' s' rb
              have hb' : b = .non := by
                cases rb with
                | d rb => cases rb; rfl
              refine ⟨hb', go1 _ H' _ ((xx.trans e').take _ hM.symm) (s'.take _) (.d (freeze_rd s' ?_ (Nat.le_refl _) qr))⟩
              rcases e'.old _ _ hx with w | w
              · exact .loc w
              · exact .hole w
          | _ => exact go1.elim
    exact sp_of hlen s2 rus2 hsp
  · rw [if_neg hn] at go1
    exact go1.elim
/-! ### a def as a value, called where it is held -/
theorem m_fnv {n : Nat} (hg : Gl X x) (hm : X.mg x = some (.ref (T n))) (hdb : (x == ("__debug__" : Str)) = false := by decide) : ME X T W (.Name x pos) (eC (.fn n)) := m_const (v := .ref (T n)) (pe_glob hg hm rfl hdb) fun _ _ => .fn n
/-- the defs that a name may hold -/
def Tab (X : Cx) (T : Nat → Addr) (k N : Nat) (ns : List Nat) (FT : Nat → FM) : Prop := ∀ n ∈ ns, ∃ fd ps, FnOk X.prog X.w X.K X.mg X.base (L2.CX X.prog X.w) k (T n) fd ps (spM X.K T N (FT n)) ∧ PySem.W.keepIn X.K (.ref (T n)) = true ∧ Binds X.K fd ps []
def eCallL (i N : Nat) (ns : List Nat) (FT : Nat → FM) (fs : EF (List U)) : EF U := fun ρ st => match ρ[i]? with
  | some (some (.d (.fn n))) => if n ∈ ns then (fs ρ st).bind (kLen N (FT n)) else .bad
  | _ => .bad
theorem m_callL {i N : Nat} {ns : List Nat} {FT : Nat → FM} (tk : Takes X W) (tab : Tab X T k N ns FT) (hr : Room k X.A) (hN : X.N[i]? = some x) (hv : Vis X.env.scope x) (ha : MA X T W (e :: es) fs)
    (hdb : (x == ("__debug__" : Str)) = false := by decide) (hcd : (x == ("__classdict__" : Str)) = false := by decide) (he : starEach (e :: es) X.env = (false, eval e X.env) :: starEach es X.env := by rfl) (hpl : (backTo pos (starEach es X.env)).any (·.1) = false := by rfl) :
    ME X T W (.Call (.Name x p) (e :: es) [] pos) (eCallL i N ns FT fs) := by
  refine ⟨fun pins s σ H Q I ⟨M, ρ, st, rep, go⟩ => ?_⟩
  unfold eCallL at go
  cases q : ρ[i]? with
  | none => simp only [q] at go; exact go.elim
  | some o =>
    cases o with
    | none => simp only [q] at go; exact go.elim
    | some u =>
      cases u with
      | loc _ => simp only [q] at go; exact go.elim
      | d y =>
        cases y with
        | fn n =>
          simp only [q] at go
          obtain ⟨v, hv1, ru⟩ := rep.get q
          have ev : v = .ref (T n) := by
            cases ru with
            | d r => cases r; rfl
          subst ev
          by_cases hin : n ∈ ns
          · rw [if_pos hin] at go
            obtain ⟨fd, ps, G, hk, hb⟩ := tab n hin
            refine wpAny_Call_Name_kw (thn ((pe_var (pos := p) hN hv hdb hcd).run pins s σ H (fun v H1 => v = .ref (T n) ∧ H1 = H) I ⟨_, hv1, rfl, rfl⟩) fun u s1 ⟨v, H1, I1, r1, q1⟩ => ?_)
            obtain ⟨rfl, rfl⟩ := q1
            cases r1
            refine PySem.W.callWith_K (h₀ := X.base) I.ok.mod.kin hk (thn (ha.run pos pins s1 σ _ _ I1 ⟨M, ρ, st, rep, Go.bind (Rel := relL X.K T) rep go⟩) fun us s2 ⟨vs, H2, I2, r, M1, st1, us1, e1, rep1, rus, go1⟩ => ⟨I2.kIn, ?_⟩) he hpl
            unfold kLen at go1
            by_cases hl : us1.length = N
            · rw [if_pos hl] at go1
              exact run_fnS G hr hb (passAt tk σ) I2 r (sp_of (by rw [Paired.len rus]; exact hl) rep1.sto rus go1)
            · rw [if_neg hl] at go1
              exact go1.elim
          · rw [if_neg hin] at go
            exact go.elim
        | _ => simp only [q] at go; exact go.elim
end
end MM
set_option maxRecDepth 100000
/-! M20: == and != of own instances, their len -/
namespace MM
open PySem PySem.Spec PyProof.Rows L2
section
open PySem.W
variable {prog : Program} {w : World} {A : Around} {E : Value → Shared → Prop} {s : Shared} {K : Frag} {x C f : Addr} {ox : Obj} {od : Option Obj} {b tb : Value}
theorem chk_slot {id owner n : String} {rest : List Value} {Q : Unit → Shared → Prop} (hk : builtinKind id = some .slot) (hs : splitId id = some (owner, n)) (ha : argsOk id ⟨.ref x :: rest, []⟩) (X : K.In s.heap) (I : InstAt s.heap x ox C od)
    (hob : subIn K (.ref C) (.type owner) = some true) (hq : Q () s) : wpAny (model prog w) A (checkBuiltinCall id ⟨.ref x :: rest, []⟩) Q E s := by
  simp only [checkBuiltinCall, hk, hs]
  refine wpAny_bind ?_
  unfold isInstance
  refine wpAny_bind (I.type.here ?_)
  refine (looks_subIn X hob).here ?_
  simp only [Bool.not_true, Bool.false_eq_true, if_false]
  cases hsig : Manifest.signature? id with
  | none => exact wpAny_bind (wpAny_pure (wpAny_pure hq))
  | some sig =>
    simp only [argsOk, hsig] at ha
    have h2 : Bind.checkArgs id sig ⟨.ref x :: rest, []⟩ = pure () := ha
    first
      | (show wpAny _ A (Bind.checkArgs id sig ⟨.ref x :: rest, []⟩) Q E _; rw [h2]; exact wpAny_pure hq)
      | (refine wpAny_bind (wpAny_pure ?_); show wpAny _ A (Bind.checkArgs id sig ⟨.ref x :: rest, []⟩) Q E _; rw [h2]; exact wpAny_pure hq)
theorem ne_entry {Q : Fin → Shared → Prop} (X : K.In s.heap) (I : InstAt s.heap x ox C od) (heq : findIn K (.ref C) "__eq__" = some (some (.ref f))) (hf : isFn K (.ref f) = true) (hu : A.units < cLine)
    (h : wpAny (model prog w) A (call (.ref f) [.ref x, b]) (fun v s' => ∃ r, v = .bool r ∧ Q (.done (.ret (.bool (!r)))) s') E s) : wpAny (model prog w) A (Builtin.«object.__ne__» ⟨[.ref x, b], []⟩) Q E s := by
  unfold Builtin.«object.__ne__»
  repeat (first
    | with_reducible refine wpAny_cRoomFor hu ?_
    | (refine wpAny_bind (m := callSpecialIfBound? (.ref x) (Str.ofString "__eq__") [b]) (ifBound_K X I heq hf (wpAny_mono h (fun r s' hr => by
          obtain ⟨b, rfl, hq⟩ := hr
          repeat (first | exact hq | exact wpAny_pure hq | exact wpAny_truthy_bool hq | (refine wpAny_bind (m := truthy (.bool _)) (wpAny_truthy_bool ?_)) | wp_step)) fun _ _ e => e)))
    | wp_step)
theorem ne_own {Q : Value → Shared → Prop} (hu : A.units + 1 < cLine) (X : K.In s.heap) (I : InstAt s.heap x ox C od) (hb : Looks (model prog w) s.heap (typeOf b) tb) (hn : notFirst K C tb = true) (hne : findIn K (.ref C) "__ne__" = some (some (.builtin "object.__ne__")))
    (heq : findIn K (.ref C) "__eq__" = some (some (.ref f))) (hf : isFn K (.ref f) = true) (hob : subIn K (.ref C) (.type "object") = some true)
    (h : wpAny (model prog w) A.in1 (call (.ref f) [.ref x, b]) (fun v s' => ∃ r, v = .bool r ∧ Q (.bool (!r)) s') E s) : wpAny (model prog w) A (richCompare .NotEq (.ref x) b) Q E s := by
  have one : wpAny (model prog w) A (tryCompare (.ref x) "__ne__" b) (fun r s' => ∃ v, r = some v ∧ Q v s') E s := by
    unfold tryCompare
    refine wpAny_bind ?_
    have go : ∀ Q', (∀ v s', Q v s' → (∃ r, v = .bool r) → Q' (some v) s') → wpAny (model prog w) A (callSpecialIfBound? (.ref x) "__ne__" [b]) Q' E s := fun Q' hQ => by
      simp only [callSpecialIfBound?, bindSpecialIfBound?]
      refine wpAny_holding (wpAny_bind (wpAny_bind (wpAny_bind (I.type.here ((looks_findIn X hne).here ?_)))))
      simp only [F.cmp_object.ne.bind]
      have fin : wpAny (model prog w) A (call (.builtin "object.__ne__") ([.ref x] ++ [b]) >>= fun v => pure (some v)) Q' E s := by
        refine wpAny_bind (wpAny_call (codeAny_call_builtin F.cmp_object.ne.plain F.cmpEntry_ne (chk_slot F.cmpKind_ne F.cmpSplit_ne (F.cmpArgs_ne _ _) X I hob (ne_entry (A := A.in1) X I heq hf (by
          have : A.in1.units = A.units + 1 := rfl
          omega) (wpAny_mono h (fun v s' hv => ?_) fun _ _ e => e)))))
        obtain ⟨r, rfl, hq⟩ := hv
        exact ⟨r, rfl, wpAny_pure (hQ _ _ hq ⟨_, rfl⟩)⟩
      refine wpAny_bind (wpAny_askSetting (wpAny_ite ?_))
      split
      · exact wpAny_bind (wpAny_pure (wpAny_pure fin))
      · exact wpAny_tryCatch (wpAny_bind (wpAny_pure (wpAny_pure fin)))
    refine go _ fun v s' q ⟨r, e⟩ => ?_
    subst e
    exact wpAny_pure ⟨_, rfl, q⟩
  unfold richCompare
  simp only [oneThing_ref]
  refine wpAny_holding (wpAny_bind (wpAny_cRoomFor (Nat.lt_of_succ_lt hu) (wpAny_bind (I.type.here (wpAny_bind (hb.here ?_))))))
  split
  · rename_i q
    have e : subIn K tb (.ref C) = some false := by
      rcases Bool.or_eq_true_iff.mp hn with e | e
      · rw [beq_iff_eq.mp e] at q; simp at q
      · exact beq_iff_eq.mp e
    refine wpAny_bind ((looks_subIn X e).here ?_)
    simp only [Bool.false_eq_true, if_false]
    refine wpAny_bind (wpAny_mono one (fun r s' z => ?_) fun _ _ e => e)
    obtain ⟨v, rfl, hq⟩ := z
    exact wpAny_pure hq
  · refine wpAny_bind (wpAny_pure ?_)
    simp only [Bool.false_eq_true, if_false]
    refine wpAny_bind (wpAny_mono one (fun r s' z => ?_) fun _ _ e => e)
    obtain ⟨v, rfl, hq⟩ := z
    exact wpAny_pure hq
end
/-! ### by values -/
/-- what a class must have for == of its instances -/
structure EqC (K : PySem.W.Frag) (C f : Addr) : Prop where
  eq : PySem.W.findIn K (.ref C) "__eq__" = some (some (.ref f))
  ne : PySem.W.findIn K (.ref C) "__ne__" = some (some (.builtin "object.__ne__"))
  fn : PySem.W.isFn K (.ref f) = true
  ob : PySem.W.subIn K (.ref C) (.type "object") = some true
  no : ∀ t ∈ ["NoneType", "bool", "int", "str", "list", "tuple"], PySem.W.subIn K (.type t) (.ref C) = some false
/-- what may stand to the right -/
def eqR (c : Nat) : Option D → Bool
  | some (.ins c' _) => c' == c
  | some x => (tyN x).isSome
  | none => false
def gOwn (c : Nat) (F : FM) (neg : Bool) : U → U → Stor → R U := fun u w st => match rd st u with
  | some (.ins c' _) => if c' == c && eqR c (rd st w) then match F [u, w] st with
      | .ok (.d (.bool b)) st' => .ok (.d (.bool (if neg then !b else b))) st'
      | _ => .bad
    else .bad
  | _ => .bad
section
variable {X : Cx} {T : Nat → Addr} {W : WX} {k c : Nat} {f : Addr} {fd : FuncData} {ps : List Str} {F : FM}
theorem run_own {A : Around} {sp : Sp} {pins : List (Addr × Obj)} {σ : L2.St} {H : Hp} {s : Shared} {Q : VK} {us : List Value} {vs : List V} (G : FnOk X.prog X.w X.K X.mg X.base (L2.CX X.prog X.w) k f fd ps sp) (hr : Room k A) (hfr : A.frames = X.A.frames) (hb : Binds X.K fd ps []) (I : Inv X pins σ H s) (r : Vals vs us)
    (h : sp vs H Q E0) : wpAny (model X.prog X.w) A (call (.ref f) us) (EP X pins σ Q) X.xe s := by
  have many : us.length = ps.length := by rw [← r.length]; exact G.len _ _ _ _ h
  have bnd := hb s us I.kIn (by rw [List.append_nil]; exact many)
  rw [List.append_nil] at bnd
  have e0 : Env0 X.prog X.w X.K X.mg X.base A X.stack s H := by
    have e := I.env0
    exact ⟨by rw [hfr]; exact e.frames, e.mod, e.bs, e.bsz, e.funs, e.frf, e.hok, e.bare⟩
  refine wpAny_call (codeAny_mono (G.run A X.stack s H ⟨us, []⟩ us vs Q E0 hr e0 bnd r h) fun out s' got => ?_)
  cases out with
  | error er => exact passL pins σ H s er s' I got
  | ok fl =>
    cases fl with
    | ret u => exact I.after got
    | next => exact False.elim got
    | brk => exact False.elim got
    | cont => exact False.elim got
/-- what the own == is asked -/
def rOwn (X : Cx) (T : Nat → Addr) (c : Nat) (F : FM) (neg : Bool) : R2 := fun x y H Q => ∃ M st u w, Rst X.K T M H st ∧ RU X.K T M H x u ∧ RU X.K T M H y w ∧ (∃ fs, rd st u = some (.ins c fs)) ∧ eqR c (rd st w) = true ∧
  Go X.K T (relU X.K T) (fun _ _ _ _ => False) M [] H (F [u, w] st) (fun v H' => ∃ b, v = .bl b ∧ Q (.bl (if neg then !b else b)) H')
theorem right_ty {x : V} {u : Value} {M : List (Option Addr)} {st : Stor} {w : U} {pins : List (Addr × Obj)} {σ : L2.St} {H : Hp} {s : Shared} {f : Addr} (hC : EqC X.K (T c) f) (I : Inv X pins σ H s) (rx : RelV x u) (sr : Rst X.K T M H st) (ru : RU X.K T M H x w) (h : eqR c (rd st w) = true) :
    ∃ tb, PySem.W.Looks (model X.prog X.w) s.heap (typeOf u) tb ∧ PySem.W.notFirst X.K (T c) tb = true := by
  unfold eqR at h
  cases q : rd st w with
  | none => rw [q] at h; cases h
  | some y =>
    rw [q] at h
    by_cases hi : ∃ c' fs, y = .ins c' fs
    · obtain ⟨c', fs, rfl⟩ := hi
      have ec : c' = c := by simpa using h
      subst ec
      obtain ⟨a, dx, fv, rfl, ha, _⟩ := ru.rv sr q
      cases rx
      obtain ⟨mA, J, _⟩ := ins_get I.hok ha
      obtain ⟨od, J, _⟩ := J.look
      exact ⟨_, J.type, by simp [PySem.W.notFirst]⟩
    · have h' : (tyN y).isSome = true := by
        cases y with
        | ins c' fs => exact absurd ⟨_, _, rfl⟩ hi
        | _ => exact h
      obtain ⟨a, ha⟩ := Option.isSome_iff_exists.mp h'
      obtain ⟨P, Z, p, _⟩ := kit_of I rx (tyx_of (ru.rv sr q) ha)
      refine ⟨_, Z.ty _ _ I.kIn p, ?_⟩
      unfold PySem.W.notFirst
      rw [hC.no a (tyN_mem ha)]
      simp
theorem op_own {n : Nat} (neg : Bool) (hC : EqC X.K (T c) f) (G : FnOk X.prog X.w X.K X.mg X.base (L2.CX X.prog X.w) k f fd ps (spM X.K T 2 F)) (hr : Room (k + 1) X.A) (hb : Binds X.K fd ps []) :
    OpR X (compareOp (if neg then .NotEq else .Eq)) (rOwn X T c F neg) := by
  intro pins s σ H x y v u Q I rx ry ⟨M, st, u1, w1, sr, ru, rw1, ⟨fs, hu1⟩, hw1, go⟩
  obtain ⟨a, dx, fv, rfl, ha, _⟩ := ru.rv sr hu1
  obtain ⟨tb, lk, nf⟩ := right_ty hC I ry sr rw1 hw1
  cases rx
  obtain ⟨mA, J, _⟩ := ins_get I.hok ha
  obtain ⟨od, J, _⟩ := J.look
  obtain ⟨m, hF⟩ := I.fr
  have r2 : Vals [V.ref a, y] [Value.ref a, u] := .cons rfl (.cons ry .nil)
  have hsp : spM X.K T 2 F [.ref a, y] H (fun v H' => ∃ b, v = .bl b ∧ Q (.bl (if neg then !b else b)) H') E0 := by
    refine ⟨rfl, M, [u1, w1], st, sr, .cons ru (.cons rw1 .nil), ?_⟩
    cases q : F [u1, w1] st with
    | ok a st' => rw [q] at go; exact go
    | exc c fs st' => rw [q] at go; exact fun M' H' d fv e s h1 h2 h3 => (go M' H' d fv e s h1 h2 h3).elim
    | bad => rw [q] at go; exact go
  cases neg with
  | false =>
    show wpAny (model X.prog X.w) X.A (richCompare .Eq (.ref a) u) (EP X pins σ Q) X.xe s
    refine PySem.W.cmp_K (op := .Eq) (tb := tb) (hr.mono (Nat.le_succ _)).units0 hF I.ok.mod.kin J lk nf hC.eq hC.fn ?_
    refine wpAny_mono (run_own G (hr.mono (Nat.le_succ _)) rfl hb I r2 hsp) (fun r s' got => ?_) fun _ _ z => z
    obtain ⟨z, H', I', rz, b, ez, q⟩ := got
    subst ez
    cases rz
    exact ⟨.bl b, H', I', rfl, q⟩
  | true =>
    show wpAny (model X.prog X.w) X.A (richCompare .NotEq (.ref a) u) (EP X pins σ Q) X.xe s
    have un := hr.un
    refine ne_own (by omega) I.kIn J lk nf hC.ne hC.eq hC.fn hC.ob ?_
    refine wpAny_mono (run_own G hr.in1 rfl hb I r2 hsp) (fun r s' got => ?_) fun _ _ z => z
    obtain ⟨z, H', I', rz, b, ez, q⟩ := got
    subst ez
    cases rz
    exact ⟨b, rfl, .bl (!b), H', I', rfl, q⟩
theorem o_own (neg : Bool) : Op2 X T W (rOwn X T c F neg) (gOwn c F neg) := by
  intro M σ H st x y u w Q sr ru rw1 go
  unfold gOwn at go
  cases q : rd st u with
  | none => rw [q] at go; exact go.elim
  | some z =>
    cases z with
    | ins c' fs =>
      rw [q] at go
      simp only at go
      by_cases hh : (c' == c && eqR c (rd st w)) = true
      · rw [if_pos hh] at go
        rw [Bool.and_eq_true] at hh
        have ec : c' = c := by simpa using hh.1
        subst ec
        refine ⟨M, st, u, w, sr, ru, rw1, ⟨fs, q⟩, hh.2, ?_⟩
        cases qf : F [u, w] st with
        | ok a st' =>
          rw [qf] at go
          cases a with
          | loc _ => exact go.elim
          | d y =>
            cases y with
            | bool b =>
              intro M' H' v e' s' rv
              cases rv with
              | d rv =>
                cases rv
                exact ⟨b, rfl, go M' H' _ e' s' (.d (.bl _))⟩
            | _ => exact go.elim
        | exc c fs st' => rw [qf] at go; exact go.elim
        | bad => rw [qf] at go; exact go.elim
      · rw [if_neg hh] at go
        exact go.elim
    | _ => rw [q] at go; exact go.elim
end
end MM
set_option maxRecDepth 100000
/-! M21: len of own instances, isinstance of an own class, constants, op= -/
namespace MM
open PySem PySem.Spec PyProof.Rows L2
section
variable {X : Cx} {T : Nat → Addr} {W : WX} {k c : Nat} {f : Addr} {fd : FuncData} {ps : List Str} {F : FM}
/-- len(o) -/
def gLenO (c : Nat) (F : FM) : U → Stor → R U := fun u st => match rd st u with
  | some (.ins c' _) => if c' == c then match F [u] st with
      | .ok (.d (.int n)) st' => if decide (0 ≤ n) && decide (n < 2 ^ 63) then .ok (.d (.int n)) st' else .bad
      | _ => .bad
    else .bad
  | _ => .bad
structure LenC (K : PySem.W.Frag) (C f : Addr) : Prop where
  ln : PySem.W.findIn K (.ref C) "__len__" = some (some (.ref f))
  fn : PySem.W.isFn K (.ref f) = true
def rLenO (X : Cx) (T : Nat → Addr) (c : Nat) (F : FM) : List V → Hp → VK → Prop := fun xs H Q => ∃ x M st u, xs = [x] ∧ Rst X.K T M H st ∧ RU X.K T M H x u ∧ (∃ fs, rd st u = some (.ins c fs)) ∧
  Go X.K T (relU X.K T) (fun _ _ _ _ => False) M [] H (F [u] st) (fun v H' => ∃ n, v = .int n ∧ 0 ≤ n ∧ n < 2 ^ 63 ∧ Q (.int n) H')
theorem cr_lenO (hC : LenC X.K (T c) f) (G : FnOk X.prog X.w X.K X.mg X.base (L2.CX X.prog X.w) k f fd ps (spM X.K T 1 F)) (hr : Room (k + 1) X.A) (hb : Binds X.K fd ps []) : CallR X (.builtin "len") (rLenO X T c F) := by
  intro pins s σ H xs us Q I r ⟨x, M, st, u1, ex, sr, ru, ⟨fs, hu1⟩, go⟩
  subst ex
  obtain ⟨u, rfl, rx⟩ := vals1 r
  obtain ⟨a, dx, fv, rfl, ha, _⟩ := ru.rv sr hu1
  cases rx
  obtain ⟨mA, J, _⟩ := ins_get I.hok ha
  obtain ⟨od, J, _⟩ := J.look
  obtain ⟨m, hF⟩ := I.fr
  have hsp : spM X.K T 1 F [.ref a] H (fun v H' => ∃ n, v = .int n ∧ 0 ≤ n ∧ n < 2 ^ 63 ∧ Q (.int n) H') E0 := by
    refine ⟨rfl, M, [u1], st, sr, .cons ru .nil, ?_⟩
    cases q : F [u1] st with
    | ok a st' => rw [q] at go; exact go
    | exc c fs st' => rw [q] at go; exact fun M' H' d fv e s h1 h2 h3 => (go M' H' d fv e s h1 h2 h3).elim
    | bad => rw [q] at go; exact go
  refine PySem.W.len_K hF I.ok.mod.kin J hC.ln hC.fn (wpAny_mono (run_own G hr.in1 rfl hb I (show Vals [V.ref a] [Value.ref a] from .cons rfl .nil) hsp) (fun r s' got => ?_) fun _ _ z => z)
  obtain ⟨z, H', I', rz, n, ez, h0, h1, q⟩ := got
  subst ez
  obtain ⟨t, rfl⟩ := rz
  exact ⟨⟨h0, h1⟩, .int n, H', I'.tok _, ⟨_, rfl⟩, q⟩
theorem m_lenO {e : Expr} {fa : EF U} {p pos : Pos} (hC : LenC X.K (T c) f) (G : FnOk X.prog X.w X.K X.mg X.base (L2.CX X.prog X.w) k f fd ps (spM X.K T 1 F)) (hr : Room (k + 1) X.A) (hb : Binds X.K fd ps []) (hg : Gl X "len") (hm : X.mg "len" = none) (hv : bootBuiltins "len" = some (.builtin "len")) (he : ME X T W e fa)
    (h1 : starEach [e] X.env = (false, eval e X.env) :: starEach [] X.env := by rfl) (hpl : (backTo pos (starEach [] X.env)).any (·.1) = false := by rfl) :
    ME X T W (.Call (.Name "len" p) [e] [] pos) (eUn (gLenO c F) fa) := by
  refine PE.imp (pe_callB (cr_lenO hC G hr hb) hg hm hv (pa_cons he pa_nil h1) (by decide) (by decide) h1 hpl) fun σ H Q ⟨M, ρ, st, rep, go⟩ => ?_
  refine ⟨M, ρ, st, rep, (Go.bind (Rel := relU X.K T) rep go).mono fun v H1 ⟨M1, st1, u, e1, rep1, ru, go1⟩ => ?_⟩
  unfold gLenO at go1
  cases q : rd st1 u with
  | none => rw [q] at go1; exact go1.elim
  | some z =>
    cases z with
    | ins c' fs =>
      rw [q] at go1
      simp only at go1
      by_cases hh : (c' == c) = true
      · rw [if_pos hh] at go1
        have ec : c' = c := by simpa using hh
        subst ec
        refine ⟨v, M1, st1, u, rfl, rep1.sto, ru, ⟨fs, q⟩, ?_⟩
        cases qf : F [u] st1 with
        | ok a st' =>
          rw [qf] at go1
          cases a with
          | loc _ => exact go1.elim
          | d y =>
            cases y with
            | int n =>
              simp only at go1
              by_cases hb : (decide (0 ≤ n) && decide (n < 2 ^ 63)) = true
              · rw [if_pos hb] at go1
                rw [Bool.and_eq_true] at hb
                intro M' H' w e' s' rw1
                cases rw1 with
                | d rw1 =>
                  cases rw1
                  exact ⟨n, rfl, of_decide_eq_true hb.1, of_decide_eq_true hb.2, go1 M' H' _ e' s' (.d (.int _))⟩
              · rw [if_neg hb] at go1
                exact go1.elim
            | _ => exact go1.elim
        | exc c fs st' => rw [qf] at go1; exact go1.elim
        | bad => rw [qf] at go1; exact go1.elim
      · rw [if_neg hh] at go1
        exact go1.elim
    | _ => rw [q] at go1; exact go1.elim
end
/-! ### isinstance(e, C), C an own class -/
structure IsiC (K : PySem.W.Frag) (C : Addr) : Prop where
  cl : Cls K C
  yes : PySem.W.kitOne K (.ref C) (.ref C) = some true
  no : ∀ t ∈ ["NoneType", "bool", "int", "str", "list", "tuple"], PySem.W.kitOne K (.type t) (.ref C) = some false
  na : PySem.W.findIn K (.ref C) "__class__" = some (some (.builtin "object.__class__"))
  sp : PySem.W.specialIn K (.builtin "object.__class__") "__get__" = some (some (.builtin "getset_descriptor.__get__"))
  tk : PySem.W.takesIn K (.builtin "object.__class__") = some true
  mo : PySem.W.mroIn K C (.type "object") = some true
def bIsiC (c : Nat) : D → Option D
  | .ins c' _ => if c' == c then some (.bool true) else none
  | x => (tyN x).map fun _ => .bool false
section
variable {X : Cx} {T : Nat → Addr} {W : WX} {c i : Nat} {x : Str} {p p1 pos pos' : Pos} {e : Expr} {fa : EF U}
theorem m_isiC (hC : IsiC X.K (T c)) (hg : Gl X "isinstance") (hm : X.mg "isinstance" = none) (hv : bootBuiltins "isinstance" = some (.builtin "isinstance")) (hgT : Gl X x) (hmT : X.mg x = some (.ref (T c))) (he : ME X T W e fa)
    (hdT : (x == ("__debug__" : Str)) = false := by decide)
    (h1 : starEach [e, .Name x p1] X.env = (false, eval e X.env) :: starEach [.Name x p1] X.env := by rfl) (h2 : starEach [.Name x p1] X.env = (false, eval (.Name x p1) X.env) :: starEach [] X.env := by rfl) (hpl : (backTo pos (starEach [.Name x p1] X.env)).any (·.1) = false := by rfl) :
    ME X T W (.Call (.Name "isinstance" p) [e, .Name x p1] [] pos) (eUn (g1 (bIsiC c)) fa) := by
  refine PE.imp (pe_callB call_isi hg hm hv (pa_cons he (pa_cons (pe_glob (v := .ref (T c)) (u := .ref (T c)) hgT hmT rfl hdT) pa_nil h2) h1) (by decide) (by decide) h1 hpl) fun σ H Q ⟨M, ρ, st, rep, go⟩ => ?_
  refine ⟨M, ρ, st, rep, (Go.bind (Rel := relU X.K T) rep go).mono fun v H1 ⟨M1, st1, u, e1, rep1, ru, go1⟩ => ?_⟩
  unfold g1 at go1
  cases q : rd st1 u with
  | none => rw [q] at go1; exact go1.elim
  | some d =>
    rw [q] at go1
    by_cases hi : ∃ c' fs, d = .ins c' fs
    · obtain ⟨c', fs, rfl⟩ := hi
      simp only [bIsiC] at go1
      by_cases hc : (c' == c) = true
      · rw [if_pos hc] at go1
        have ec : c' = c := by simpa using hc
        subst ec
        obtain ⟨a, dx, fv, rfl, ha, _⟩ := ru.rv rep1.sto q
        exact ⟨_, .ref (T c'), .ref (T c'), .ref (T c'), true, rfl, .own _, .base (.ins ha hC.cl hC.na hC.sp hC.tk hC.mo), hC.yes, Go.now rep1.sto go1 (.d (.bl _))⟩
      · rw [if_neg hc] at go1
        exact go1.elim
    · have eb : bIsiC c d = (tyN d).map fun _ => .bool false := by
        cases d with
        | ins c' fs => exact absurd ⟨_, _, rfl⟩ hi
        | _ => rfl
      simp only [eb] at go1
      cases qt : tyN d with
      | none => rw [qt] at go1; exact go1.elim
      | some a =>
        rw [qt] at go1
        exact ⟨v, .ref (T c), .type a, .ref (T c), false, rfl, .own _, tyx_of (ru.rv rep1.sto q) qt, hC.no a (tyN_mem qt), Go.now rep1.sto go1 (.d (.bl _))⟩
/-! ### constants of the text -/
theorem m_kint {n : Int} {t : Tok} (hg : Gl X x) (hm : X.mg x = some (.int n t)) (hdb : (x == ("__debug__" : Str)) = false := by decide) : ME X T W (.Name x pos) (eC (.int n)) := m_const (v := .int n) (pe_glob hg hm ⟨t, rfl⟩ hdb) fun _ _ => .int n
theorem m_kstr {z : Str} {t : Tok} (hz : PyData.strOk z = true) (hg : Gl X x) (hm : X.mg x = some (.str z t)) (hdb : (x == ("__debug__" : Str)) = false := by decide) : ME X T W (.Name x pos) (eC (.str z)) := m_const (v := .str z) (pe_glob hg hm ⟨t, rfl⟩ hdb) fun _ _ => .str hz
/-- a tuple of the text -/
theorem m_ktup {a : Addr} {ds : List D} {vs : List V} (hk : KT X.K a vs) (hd : ∀ M H, RDs X.K T M H vs ds) (hg : Gl X x) (hm : X.mg x = some (.ref a)) (hdb : (x == ("__debug__" : Str)) = false := by decide) : ME X T W (.Name x pos) (eC (.tuple ds)) :=
  m_const (v := .ref a) (pe_glob hg hm rfl hdb) fun M H => .tup (.inr hk) (hd M H)
/-! ### x += e, x -= e of ints -/
def sAug (i : Nat) (g : Int → Int → Int) (fa : EF U) : SF := fun ρ st => match ρ[i]? with
  | some (some (.d (.int m))) => (fa ρ st).stm ρ fun u st1 => match u with
    | .d (.int n) => .nx (ρ.set i (some (.d (.int (g m n))))) st1
    | _ => .bad
  | _ => .bad
theorem ms_aug {op : Operator} {g : Int → Int → Int} (ho : PIp X op (ipI g)) (hN : X.N.Nodup) (hi : X.N[i]? = some x) (hx : Loc X.env.scope x) (he : ME X T W e fa) (hf : X.fn x = true ∨ X.env.scope.names.lookup x = some .local := by first | exact .inl rfl | exact .inr rfl | assumption) :
    MS X T W (.AugAssign (.Name x pos') op e pos) (sAug i g fa) := by
  refine PS.imp (ps_aug hN hi hx he ho hf) fun D σ H ⟨M, ρ, st, rep, go⟩ => ?_
  unfold sAug at go
  cases q : ρ[i]? with
  | none => simp only [q] at go; exact go.elim
  | some o =>
    cases o with
    | none => simp only [q] at go; exact go.elim
    | some u =>
      cases u with
      | loc _ => simp only [q] at go; exact go.elim
      | d y =>
        cases y with
        | int m =>
          simp only [q] at go
          obtain ⟨v, hv, ru⟩ := rep.get q
          have ev : v = .int m := by
            cases ru with
            | d r => cases r; rfl
          subst ev
          refine ⟨_, hv, M, ρ, st, rep, (GoS.bind (Rel := relU X.K T) rep go).mono fun w H1 ⟨M1, st1, u, e1, rep1, ru1, go1⟩ => ?_⟩
          cases u with
          | loc _ => exact go1.elim
          | d z =>
            cases z with
            | int n =>
              have ew : w = .int n := by
                cases ru1 with
                | d r => cases r; rfl
              subst ew
              exact ⟨m, n, rfl, rfl, go1 M1 H1 _ Ext.refl (rep1.set i (.d (.int _)))⟩
            | _ => exact go1.elim
        | _ => simp only [q] at go; exact go.elim
end
end MM
set_option maxRecDepth 100000
/-! M22: the order of data: min, max, sorted, < -/
namespace MM
open PySem PySem.Spec PyProof.Rows L2
mutual
theorem py_inj : ∀ {n m : Nat} {x y : D}, sh n x = true → sh m y = true → x.py = y.py → x = y := by
  intro n m x y hx hy e
  cases x <;> cases y <;> simp only [D.py] at e <;> first
    | (exfalso; simp [sh] at hx; done)
    | (exfalso; simp [sh] at hy; done)
    | rfl
    | (cases e; rfl)
    | (cases e; done)
    | skip
  · cases n with
    | zero => simp [sh] at hx
    | succ n => cases m with
      | zero => simp [sh] at hy
      | succ m =>
        rw [sh] at hx hy
        rw [pys_inj hx hy (PyData.list.inj e)]
  · cases n with
    | zero => simp [sh] at hx
    | succ n => cases m with
      | zero => simp [sh] at hy
      | succ m =>
        rw [sh] at hx hy
        rw [pys_inj hx hy (PyData.tuple.inj e)]
theorem pys_inj : ∀ {n m : Nat} {xs ys : List D}, shs n xs = true → shs m ys = true → pys xs = pys ys → xs = ys
  | _, _, [], [], _, _, _ => rfl
  | _, _, [], y :: ys, _, _, e => by simp [pys] at e
  | _, _, x :: xs, [], _, _, e => by simp [pys] at e
  | n, m, x :: xs, y :: ys, hx, hy, e => by
    rw [shs, Bool.and_eq_true] at hx hy
    rw [pys, pys] at e
    obtain ⟨h1, h2⟩ := List.cons.inj e
    rw [py_inj hx.1 hy.1 h1, pys_inj hx.2 hy.2 h2]
end
/-- x < y, for what can be compared -/
def D.lt (x y : D) : Bool := PySem.W.dataLt x.py y.py
def mnD (x : D) (xs : List D) : D := xs.foldl (fun a y => if D.lt y a then y else a) x
def mxD (x : D) (xs : List D) : D := xs.foldl (fun a y => if D.lt a y then y else a) x
/-- data that can be compared, one with another -/
def okO (ds : List D) : Bool := shs 58 ds && (ds.all fun x => ds.all fun y => PySem.W.alike x.py y.py) && ds.all fun x => !x.isN
def seqD : D → Option (List D)
  | .list xs => some xs
  | .tuple xs => some xs
  | _ => none
def bMinD : List D → Option D
  | [x] => match seqD x with
    | some (d :: ds) => if okO (d :: ds) then some (mnD d ds) else none
    | _ => none
  | _ => none
def bMaxD : List D → Option D
  | [x] => match seqD x with
    | some (d :: ds) => if okO (d :: ds) then some (mxD d ds) else none
    | _ => none
  | _ => none
theorem isN_py {n : Nat} {x : D} (h : sh n x = true) (hn : x.isN = false) : x.py ≠ .none := by
  cases x <;> first | (exfalso; simp [sh] at h; done) | (simp [D.py]; done) | (exfalso; cases hn)
theorem mnD_mem : ∀ (ds : List D) (d : D), mnD d ds ∈ d :: ds
  | [], d => List.mem_cons_self
  | y :: ds, d => by
    unfold mnD
    rw [List.foldl_cons]
    split
    · exact List.mem_cons_of_mem _ (mnD_mem ds y)
    · rcases List.mem_cons.mp (mnD_mem ds d) with e | e
      · show mnD d ds ∈ _
        rw [e]; exact List.mem_cons_self
      · exact List.mem_cons_of_mem _ (List.mem_cons_of_mem _ e)
theorem mxD_mem : ∀ (ds : List D) (d : D), mxD d ds ∈ d :: ds
  | [], d => List.mem_cons_self
  | y :: ds, d => by
    unfold mxD
    rw [List.foldl_cons]
    split
    · exact List.mem_cons_of_mem _ (mxD_mem ds y)
    · rcases List.mem_cons.mp (mxD_mem ds d) with e | e
      · show mxD d ds ∈ _
        rw [e]; exact List.mem_cons_self
      · exact List.mem_cons_of_mem _ (List.mem_cons_of_mem _ e)
theorem mnD_py : ∀ (ds : List D) (d : D), (mnD d ds).py = PySem.W.minD d.py (pys ds)
  | [], d => by simp [mnD, PySem.W.minD, pys]
  | y :: ds, d => by
    unfold mnD PySem.W.minD
    rw [pys, List.foldl_cons, List.foldl_cons]
    by_cases h : D.lt y d = true
    · rw [if_pos h, if_pos (show PySem.W.dataLt y.py d.py = true from h)]
      exact mnD_py ds y
    · rw [if_neg h, if_neg (show ¬ PySem.W.dataLt y.py d.py = true from h)]
      exact mnD_py ds d
theorem mxD_py : ∀ (ds : List D) (d : D), (mxD d ds).py = PySem.W.maxD d.py (pys ds)
  | [], d => by simp [mxD, PySem.W.maxD, pys]
  | y :: ds, d => by
    unfold mxD PySem.W.maxD
    rw [pys, List.foldl_cons, List.foldl_cons]
    by_cases h : D.lt d y = true
    · rw [if_pos h, if_pos (show PySem.W.dataLt d.py y.py = true from h)]
      exact mxD_py ds y
    · rw [if_neg h, if_neg (show ¬ PySem.W.dataLt d.py y.py = true from h)]
      exact mxD_py ds d
theorem shs_mem {n : Nat} : ∀ {xs : List D} {x : D}, shs n xs = true → x ∈ xs → sh n x = true
  | y :: ys, x, h, hm => by
    rw [shs, Bool.and_eq_true] at h
    rcases List.mem_cons.mp hm with e | hm
    · rw [e]; exact h.1
    · exact shs_mem h.2 hm
theorem pys_mem {xs : List D} {p : PyData} (h : p ∈ pys xs) : ∃ x ∈ xs, x.py = p := by
  rw [pys_map] at h
  obtain ⟨x, hx, e⟩ := List.mem_map.mp h
  exact ⟨x, hx, e⟩
theorem okO_alike {ds : List D} (h : okO ds = true) : PySem.W.AlikeAll (pys ds) := by
  unfold okO at h
  rw [Bool.and_eq_true, Bool.and_eq_true] at h
  refine ⟨fun x hx y hy => ?_, fun x hx => ?_⟩
  · obtain ⟨a, ha, rfl⟩ := pys_mem hx
    obtain ⟨b, hb, rfl⟩ := pys_mem hy
    exact List.all_eq_true.mp (List.all_eq_true.mp h.1.2 a ha) b hb
  · obtain ⟨a, ha, rfl⟩ := pys_mem hx
    exact isN_py (shs_mem h.1.1 ha) (by simpa using List.all_eq_true.mp h.2 a ha)
theorem okO_sh {ds : List D} (h : okO ds = true) : shs 58 ds = true := by
  unfold okO at h
  rw [Bool.and_eq_true, Bool.and_eq_true] at h
  exact h.1.1
section
variable {X : Cx} {T : Nat → Addr}
/-- a place's value, whose item is known -/
theorem place_of {K : PySem.W.Frag} {M : List (Option Addr)} {H : Hp} {vs : List V} {ds : List D} (r : RDs K T M H vs ds) {its : List Value} (rv : Vals vs its) {i : Nat} {u : Value} (h : its[i]? = some u) : ∃ v d, vs[i]? = some v ∧ ds[i]? = some d ∧ RelV v u ∧ RD K T M H v d := by
  have hi : i < its.length := (List.getElem?_eq_some_iff.mp h).1
  have hv : i < vs.length := by rw [rv.length]; exact hi
  obtain ⟨d, hd, rd⟩ := r.get' (List.getElem?_eq_getElem hv)
  obtain ⟨u', hu', rr⟩ := rv.get (List.getElem?_eq_getElem hv)
  rw [h] at hu'
  cases hu'
  exact ⟨_, d, List.getElem?_eq_getElem hv, hd, rr, rd⟩
/-- what min and max are asked: the sequence's item that is the one told -/
def rBest (X : Cx) (T : Nat → Addr) (best : D → List D → D) : List V → Hp → VK → Prop := fun xs H Q => ∃ a M vs d ds, xs = [.ref a] ∧ (SqL X.K H a vs ∨ SqT X.K H a vs) ∧ RDs X.K T M H vs (d :: ds) ∧ okO (d :: ds) = true ∧ ∀ w, RD X.K T M H w (best d ds) → Q w H
theorem best_item {M : List (Option Addr)} {H : Hp} {vs : List V} {d : D} {ds : List D} {its : List Value} {pins : List (Addr × Obj)} {σ : L2.St} {s : Shared} {b : D} (I : Inv X pins σ H s) (r : RDs X.K T M H vs (d :: ds)) (rv : Vals vs its) (ok : okO (d :: ds) = true) (hb : b ∈ d :: ds) {i : Nat} {u : Value} {h' : Heap} {bs : List Addr}
    (hi : its[i]? = some u) (rd : Reads h' u b.py bs) (hk : ∀ c o, s.heap.get? c = some o → h'.get? c = some o) : ∃ w, RelV w u ∧ RD X.K T M H w b := by
  obtain ⟨v, e, hv, he, rr, re⟩ := place_of r rv hi
  have hs := okO_sh ok
  have hm : e ∈ d :: ds := List.mem_of_getElem? he
  obtain ⟨dp, _⟩ := re.dp (shs_mem hs hm)
  obtain ⟨as, rd0⟩ := Dp.reads I _ _ _ dp rr
  have al := (okO_alike ok).1 b.py (by rw [pys_map]; exact List.mem_map.mpr ⟨b, hb, rfl⟩) e.py (by rw [pys_map]; exact List.mem_map.mpr ⟨e, hm, rfl⟩)
  have eq := PySem.W.alike_unique _ _ _ _ _ al rd (PyProof.Rows.Reads.keeps hk rd0)
  have : b = e := py_inj (shs_mem hs hb) (shs_mem hs hm) eq
  exact ⟨v, rr, this ▸ re⟩
theorem cr_minD (hc : X.calm = true) (hu : X.A.units + 66 < cLine) : CallR X (.builtin "min") (rBest X T mnD) := by
  intro pins s σ H xs us Q I r ⟨a, M, vs, d, ds, ex, sq, rs, ok, q⟩
  subst ex
  rw [Vals.ref1 r]
  have hd : PyData.depthAll (pys (d :: ds)) ≤ 58 := shs_depth 58 _ (okO_sh ok)
  have fin : ∀ {its : List Value}, Vals vs its → ∀ (i : Nat) v h' tk bs, its.toArray[i]? = some v → Reads h' v (PySem.W.minD d.py (pys ds)) bs → (∀ b o, s.heap.get? b = some o → h'.get? b = some o) → EP X pins σ Q v { s with heap := h', toks := tk } := fun {its} rv i v h' tk bs hi rd hk => by
    rw [← mnD_py] at rd
    obtain ⟨w, rw1, rw2⟩ := best_item I rs rv ok (mnD_mem ds d) (by simpa using hi) rd hk
    exact ⟨w, H, I.kept hk, rw1, q w rw2⟩
  have al := okO_alike ok
  rcases sq with sq | sq
  · obtain ⟨its, rv, hl, _⟩ := I.list sq
    obtain ⟨as, hr⟩ := Dp.readsAll I _ _ _ (rs.dp (okO_sh ok)).1 rv
    exact PySem.W.min_list_data (I.ok.hd hc) hl.isList (by simpa [pys] using hr) (by simpa [pys] using al) (by rw [pys] at hd; omega) (fin rv)
  · obtain ⟨its, rv, hl, _⟩ := I.tuple sq
    obtain ⟨as, hr⟩ := Dp.readsAll I _ _ _ (rs.dp (okO_sh ok)).1 rv
    exact PySem.W.min_tuple_data (I.ok.hd hc) (show s.heap.IsTuple a its.toArray from hl) (by simpa [pys] using hr) (by simpa [pys] using al) (by rw [pys] at hd; omega) (fin rv)
theorem cr_maxD' (hc : X.calm = true) (hu : X.A.units + 66 < cLine) : CallR X (.builtin "max") (rBest X T mxD) := by
  intro pins s σ H xs us Q I r ⟨a, M, vs, d, ds, ex, sq, rs, ok, q⟩
  subst ex
  rw [Vals.ref1 r]
  have hd : PyData.depthAll (pys (d :: ds)) ≤ 58 := shs_depth 58 _ (okO_sh ok)
  have fin : ∀ {its : List Value}, Vals vs its → ∀ (i : Nat) v h' tk bs, its.toArray[i]? = some v → Reads h' v (PySem.W.maxD d.py (pys ds)) bs → (∀ b o, s.heap.get? b = some o → h'.get? b = some o) → EP X pins σ Q v { s with heap := h', toks := tk } := fun {its} rv i v h' tk bs hi rd hk => by
    rw [← mxD_py] at rd
    obtain ⟨w, rw1, rw2⟩ := best_item I rs rv ok (mxD_mem ds d) (by simpa using hi) rd hk
    exact ⟨w, H, I.kept hk, rw1, q w rw2⟩
  have al := okO_alike ok
  rcases sq with sq | sq
  · obtain ⟨its, rv, hl, _⟩ := I.list sq
    obtain ⟨as, hr⟩ := Dp.readsAll I _ _ _ (rs.dp (okO_sh ok)).1 rv
    exact PySem.W.max_list_data (I.ok.hd hc) hl.isList (by simpa [pys] using hr) (by simpa [pys] using al) (by rw [pys] at hd; omega) (fin rv)
  · obtain ⟨its, rv, hl, _⟩ := I.tuple sq
    obtain ⟨as, hr⟩ := Dp.readsAll I _ _ _ (rs.dp (okO_sh ok)).1 rv
    exact PySem.W.max_tuple_data (I.ok.hd hc) (show s.heap.IsTuple a its.toArray from hl) (by simpa [pys] using hr) (by simpa [pys] using al) (by rw [pys] at hd; omega) (fin rv)
theorem l_best {f : List D → Option D} {best : D → List D → D} (hf : ∀ xs z, f xs = some z → ∃ x d ds, xs = [x] ∧ seqD x = some (d :: ds) ∧ okO (d :: ds) = true ∧ z = best d ds) : PL X T (rBest X T best) f := by
  intro M H st vs xs z Q s r e o
  obtain ⟨x, d, ds, rfl, hx, ok, rfl⟩ := hf xs z e
  obtain ⟨v, rfl, rx⟩ := one_of r
  cases x with
  | list ys =>
    cases hx
    obtain ⟨a, us, rfl, h1, h2⟩ := rx
    exact ⟨a, M, us, d, ds, rfl, .inl (.inl (.inl h1)), h2, ok, fun w rw => o.now s rw⟩
  | tuple ys =>
    cases hx
    obtain ⟨a, us, rfl, h1, h2⟩ := rx
    exact ⟨a, M, us, d, ds, rfl, .inr (sqt_of h1), h2, ok, fun w rw => o.now s rw⟩
  | _ => cases hx
theorem l_minD : PL X T (rBest X T mnD) bMinD := l_best fun xs z e => by
  unfold bMinD at e
  match xs, e with
  | [x], e =>
    cases q : seqD x with
    | none => simp [q] at e
    | some ds =>
      cases ds with
      | nil => simp [q] at e
      | cons d ds =>
        simp only [q] at e
        obtain ⟨h, e⟩ := if_some e
        exact ⟨x, d, ds, rfl, q, h, e.symm⟩
theorem l_maxD : PL X T (rBest X T mxD) bMaxD := l_best fun xs z e => by
  unfold bMaxD at e
  match xs, e with
  | [x], e =>
    cases q : seqD x with
    | none => simp [q] at e
    | some ds =>
      cases ds with
      | nil => simp [q] at e
      | cons d ds =>
        simp only [q] at e
        obtain ⟨h, e⟩ := if_some e
        exact ⟨x, d, ds, rfl, q, h, e.symm⟩
/-! ### sorted(xs) -/
/-- all are tuples that are not empty, or none is one -/
def okT (ds : List D) : Bool := (ds.all fun d => match d with | .tuple (_ :: _) => true | _ => false) || ds.all fun d => match d with | .tuple _ => false | _ => true
def D.le (x y : D) : Bool := !D.lt y x
def bSort : List D → Option D
  | [.list ds] => if okO ds && okT ds && fits ds.length then some (.list (ds.mergeSort D.le)) else none
  | _ => none
theorem le_py : PySem.W.dataLe false D.py = D.le := rfl
theorem okT_sort {ds : List D} (h1 : okO ds = true) (h : okT ds = true) : PySem.W.Sortable (ds.map D.py) := by
  have al := (okO_alike h1).2
  unfold okT at h
  rcases Bool.or_eq_true_iff.mp h with h | h
  · refine .inl fun p hp => ?_
    obtain ⟨d, hd, rfl⟩ := List.mem_map.mp hp
    have := List.all_eq_true.mp h d hd
    cases d with
    | tuple xs =>
      cases xs with
      | nil => cases this
      | cons x xs => exact ⟨x.py, pys xs, by rw [D.py, pys]⟩
    | _ => cases this
  · refine .inr fun p hp => ?_
    obtain ⟨d, hd, rfl⟩ := List.mem_map.mp hp
    have := List.all_eq_true.mp h d hd
    refine ⟨al d.py (by rw [pys_map]; exact hp), fun xs e => ?_⟩
    cases d <;> simp [D.py] at e this
theorem each_of {K : PySem.W.Frag} {M : List (Option Addr)} {H : Hp} : ∀ {vs : List V} {ds : List D} {its : List Value}, RDs K T M H vs ds → Vals vs its → PySem.W.EachIs (fun u d => ∃ v, RelV v u ∧ RD K T M H v d) its ds
  | _, _, _, .nil, .nil => .nil
  | _, _, _, .cons r t, .cons r' t' => .cons ⟨_, r', r⟩ (each_of t t')
theorem each_back {K : PySem.W.Frag} {M : List (Option Addr)} {H : Hp} : ∀ {ds : List D} {its : List Value}, PySem.W.EachIs (fun u d => ∃ v, RelV v u ∧ RD K T M H v d) its ds → ∃ vs, Vals vs its ∧ RDs K T M H vs ds
  | _, _, .nil => ⟨[], .nil, .nil⟩
  | _, _, .cons ⟨v, r', r⟩ t => by
    obtain ⟨vs, h1, h2⟩ := each_back t
    exact ⟨v :: vs, .cons r' h1, .cons r h2⟩
def rSortD (X : Cx) (T : Nat → Addr) : List V → Hp → VK → Prop := fun xs H Q => ∃ a M vs ds, xs = [.ref a] ∧ SqL X.K H a vs ∧ RDs X.K T M H vs ds ∧ okO ds = true ∧ okT ds = true ∧ ds.length ≤ sizeLine ∧ ∀ ys p, RDs X.K T M H ys (ds.mergeSort D.le) → H p = none → Q (.ref p) (L2.upd H p (.lst ys))
theorem cr_sortD (hu : X.A.units + 66 < cLine) : CallR X (.builtin "sorted") (rSortD X T) := by
  intro pins s σ H xs us Q I r ⟨a, M, vs, ds, ex, sq, rs, ok, okt, hl, q⟩
  subst ex
  rw [Vals.ref1 r]
  obtain ⟨its, rv, hp, _⟩ := I.list sq
  have hsd := okO_sh ok
  have er : PySem.W.EachIs (fun v b => ∃ as, Reads s.heap v (D.py b) as) its ds := by
    have : ∀ {vs : List V} {ds : List D} {its : List Value}, shs 58 ds = true → RDs X.K T M H vs ds → Vals vs its → PySem.W.EachIs (fun v b => ∃ as, Reads s.heap v (D.py b) as) its ds := by
      intro vs ds its hs rs rv
      induction ds generalizing vs its with
      | nil => cases rs; cases rv; exact .nil
      | cons d ds ih =>
        rw [shs, Bool.and_eq_true] at hs
        cases rs with
        | cons r t =>
          cases rv with
          | cons r' t' => exact .cons (Dp.reads I _ _ _ (r.dp hs.1).1 r') (ih hs.2 t t')
    exact this hsd rs rv
  refine PySem.W.sorted_data (enc := D.py) hp.isList (each_of rs rv) er (fun x hx y hy => (okO_alike ok).1 x (by rw [pys_map]; exact hx) y (by rw [pys_map]; exact hy)) (okT_sort ok okt) hl (fun b hb => ?_) fun out ho he => ?_
  · have := sh_depth 58 b (shs_mem hsd hb)
    omega
  · rw [le_py] at he
    obtain ⟨ys, y1, y2⟩ := each_back he
    obtain ⟨ep, he'⟩ := PyProof.Rows.sortedAll_at s.heap its out.toArray
    have hlen : ys.length ≤ sizeLine := by rw [y1.length, ho]; exact hl
    exact ⟨.ref _, L2.upd H (s.heap.objs.size + 1) (.lst ys), I.laid (t' := s.toks) (fun _ _ => PyProof.Rows.sortedAll_old) (Nat.le_succ _) ⟨hlen, out, ep, y1, he'⟩, rfl, q _ _ y2 (I.hok.fresh (Nat.le_succ _))⟩
theorem l_sort : PL X T (rSortD X T) bSort := by
  intro M H st vs xs z Q s r e o
  match xs, e with
  | [.list ds], e =>
    obtain ⟨v, rfl, a, us, rfl, h1, h2⟩ := one_of r
    obtain ⟨h, e⟩ := if_some (show (if okO ds && okT ds && fits ds.length then some (D.list (ds.mergeSort D.le)) else none) = some z from e)
    subst e
    rw [Bool.and_eq_true, Bool.and_eq_true] at h
    exact ⟨a, M, us, ds, rfl, .inl (.inl h1), h2, h.1.1, h.1.2, fits_le h.2, fun ys p ry hp => Out.lst s o ry p hp⟩
/-! ### x < y -/
def dLt : D → D → Option D := fun x y => if okO [x, y] then some (.bool (D.lt x y)) else none
def rLtD (X : Cx) (T : Nat → Addr) : R2 := fun x y H Q => ∃ M d e, RV X.K T M H x d ∧ RV X.K T M H y e ∧ okO [d, e] = true ∧ Q (.bl (D.lt d e)) H
theorem op_ltD (hu : X.A.units + 66 < cLine) : OpR X (compareOp .Lt) (rLtD X T) := by
  intro pins s σ H x y v u Q I rx ry ⟨M, d, e, r1, r2, ok, q⟩
  have hs := okO_sh ok
  have al := okO_alike ok
  obtain ⟨as, a1⟩ := Dp.reads I _ _ _ (r1.dp (shs_mem hs (by simp))).1 rx
  obtain ⟨bs, a2⟩ := Dp.reads I _ _ _ (r2.dp (shs_mem hs (by simp))).1 ry
  have hd := sh_depth 58 d (shs_mem hs (by simp))
  exact PySem.W.rcLt_alike d.py e.py X.A s v u as bs a1 a2 (al.1 _ (by simp [pys]) _ (by simp [pys])) (al.2 _ (by simp [pys])) (by omega) _ _ _ _ ⟨.bl _, H, I, rfl, q⟩
theorem p_ltD : P2 X T (rLtD X T) dLt := by
  intro M H st x y d e z Q s r1 r2 h o
  obtain ⟨hok, rfl⟩ := if_some (show (if okO [d, e] then some (D.bool (D.lt d e)) else none) = some z from h)
  exact ⟨M, d, e, r1, r2, hok, o.now s (.bl _)⟩
end
end MM
set_option maxRecDepth 100000
/-! M23: calls where no repr is under way; tables of defs; extend, join, str; what is forgotten -/
namespace MM
open PySem PySem.Spec PyProof.Rows L2
section
variable {X : Cx} {CX : CXT} {k : Nat} {f C : Addr} {fd : FuncData} {ps : List Str} {sp : Sp} {E : L2.St → XK} {x : Str} {p pos : Pos} {e : Expr} {es : List Expr} {t : TA}
theorem run_fnG {pins : List (Addr × Obj)} {σ : L2.St} {H : Hp} {s : Shared} {Q : VK} {us : List Value} {vs : List V} (hG : X.A.guards = some []) (F : FnG X.prog X.w X.K X.mg X.base CX k f fd ps sp) (hr : Room k X.A) (hb : Binds X.K fd ps []) (hx : PassesAt CX X σ (E σ))
    (I : Inv X pins σ H s) (r : Vals vs us) (h : sp vs H Q (E σ)) : wpAny (model X.prog X.w) X.A (call (.ref f) us) (EP X pins σ Q) X.xe s := by
  have many : us.length = ps.length := by rw [← r.length]; exact F.len _ _ _ _ h
  have bnd := hb s us I.kIn (by rw [List.append_nil]; exact many)
  rw [List.append_nil] at bnd
  refine wpAny_call (codeAny_mono (F.run X.A X.stack s H ⟨us, []⟩ us vs Q (E σ) hG hr I.env0 bnd r h) fun out s' got => ?_)
  cases out with
  | error er => exact hx pins H s er s' I got
  | ok fl =>
    cases fl with
    | ret u => exact I.after got
    | next => exact False.elim got
    | brk => exact False.elim got
    | cont => exact False.elim got
end
section
variable {X : Cx} {T : Nat → Addr} {W : WX} {k n : Nat} {f : Addr} {fd : FuncData} {ps : List Str} {F : FM} {x m : Str} {p pos pos' apos : Pos} {e o value : Expr} {es : List Expr} {fs : EF (List U)} {fo fa fv : EF U}
theorem m_callG (hG : X.A.guards = some []) (tk : Takes X W) (G : FnG X.prog X.w X.K X.mg X.base (L2.CX X.prog X.w) k f fd ps (spM X.K T n F)) (hr : Room k X.A) (hg : Gl X x) (hm : X.mg x = some (.ref f)) (hk : PySem.W.keepIn X.K (.ref f) = true) (hb : Binds X.K fd ps [])
    (ha : MA X T W (e :: es) fs) (hdb : (x == ("__debug__" : Str)) = false := by decide) (he : starEach (e :: es) X.env = (false, eval e X.env) :: starEach es X.env := by rfl) (hpl : (backTo pos (starEach es X.env)).any (·.1) = false := by rfl) :
    ME X T W (.Call (.Name x p) (e :: es) [] pos) (eArgs fs (kLen n F)) := by
  refine ⟨fun pins s σ H Q I ⟨M, ρ, st, rep, go⟩ => wpAny_Call_Name_kw (ld_glob I hg hm ?_ hdb)⟩
  refine PySem.W.callWith_K (h₀ := X.base) I.ok.mod.kin hk (thn (ha.run pos pins s σ H _ I ⟨M, ρ, st, rep, Go.bind (Rel := relL X.K T) rep go⟩) fun us s1 ⟨vs, H1, I1, r, M1, st1, us1, e1, rep1, rus, go1⟩ => ⟨I1.kIn, ?_⟩) he hpl
  unfold kLen at go1
  by_cases hl : us1.length = n
  · rw [if_pos hl] at go1
    exact run_fnG (E := WE W) hG G hr hb (passAt tk σ) I1 r (sp_of (by rw [Paired.len rus]; exact hl) rep1.sto rus go1)
  · rw [if_neg hl] at go1
    exact go1.elim
/-! ### tables -/
theorem FnOk.up {P w K mg base CX k k' f fd ps sp} (h : FnOk P w K mg base CX k f fd ps sp) (hk : k ≤ k') : FnOk P w K mg base CX k' f fd ps sp := ⟨h.len, fun A outer s H args us vs Q E hr => h.run A outer s H args us vs Q E (hr.mono hk)⟩
variable {N k' : Nat} {ns : List Nat} {FT : Nat → FM}
theorem tab_nil : Tab X T k N [] FT := fun n h => by cases h
theorem tab_cons (hv : T n = f) (hF : FT n = F) (G : FnOk X.prog X.w X.K X.mg X.base (L2.CX X.prog X.w) k' f fd ps (spM X.K T N F)) (hk : k' ≤ k) (hkp : PySem.W.keepIn X.K (.ref f) = true) (hb : Binds X.K fd ps []) (h : Tab X T k N ns FT) : Tab X T k N (n :: ns) FT := fun m hm => by
  rcases List.mem_cons.mp hm with e | hm
  · subst e
    subst hv hF
    exact ⟨fd, ps, FnOk.up G hk, hkp, hb⟩
  · exact h m hm
/-! ### extend -/
def kExt : List D → List U → Option (D × List D) := fun ds us => match us with
  | [.d (.list es)] => if fits (ds.length + es.length) then some (.none, ds ++ es) else none
  | _ => none
theorem lm_extend : PLM X T rExtend kExt := by
  intro M H st i a vs us ds xs z ds' Q s hi ha hr ru hk q
  match us, hk with
  | [.d (.list es)], hk =>
    obtain ⟨v, rfl, r1⟩ := one_of ru
    cases r1 with
    | d r1 =>
      cases r1 with
      | @lst b ys _ hm hb rys =>
        unfold kExt at hk
        by_cases hc : fits (ds.length + es.length) = true
        · simp only [hc, if_true] at hk
          cases hk
          exact ⟨a, b, xs, ys, rfl, rfl, ha, hb, by rw [hr.length, rys.length]; exact fits_le hc, q _ _ .non (hr.app rys)⟩
        · simp only [hc] at hk
          cases hk
theorem m_extend (ho : ME X T W o fo) (ha : MA X T W [e] fs)
    (hbase : attributeBase o "extend" X.env (eval o X.env) = eval o X.env := by rfl)
    (hfew : ((backTo pos (starEach [e] X.env)).all (fun x => !x.1) && (backToKw pos (keywordEach [] X.env)).all (fun x => x.1.isSome)
      && decide ([e].length + ([] : List Keyword).length + (if ([] : List Keyword).isEmpty then 0 else 1) < 30)) = true := by rfl)
    (hline : (apos.endLine == pos.line) = true := by rfl) (hs : starEach [e] X.env = (false, eval e X.env) :: starEach [] X.env := by rfl) :
    ME X T W (.Call (.Attribute o "extend" apos) [e] [] pos) (eLM kExt fo fs) :=
  m_lm lm_extend PySem.F.plainAttrs_list PySem.F.slot_list_extend PySem.F.type_list_extend mt_extend ho ha hbase hfew hline hs rfl
/-! ### what is forgotten -/
def wipeL (is : List Nat) (ρ : Slots) : Slots := is.foldl (fun ρ i => ρ.set i none) ρ
theorem rep_wipe {K : PySem.W.Frag} {M : List (Option Addr)} {H : Hp} {σ : L2.St} {st : Stor} : ∀ (is : List Nat) {ρ : Slots}, Rep K T M H σ ρ st → Rep K T M H σ (wipeL is ρ) st
  | [], _, r => r
  | i :: is, _, r => rep_wipe is (r.fgt i)
/-- s, and its names is are read no more -/
def sWp (is : List Nat) (g : SF) : SF := fun ρ st => match g ρ st with
  | .nx ρ' st' => .nx (wipeL is ρ') st'
  | .ct ρ' st' => .ct (wipeL is ρ') st'
  | .bk ρ' st' => .bk (wipeL is ρ') st'
  | r => r
theorem gos_wp {K : PySem.W.Frag} {M : List (Option Addr)} {H : Hp} {D : Ends} {is : List Nat} {g : SF} {ρ : Slots} {st : Stor} (h : GoS K T W M H (sWp is g ρ st) D) : GoS K T W M H (g ρ st) D := by
  unfold sWp at h
  cases q : g ρ st with
  | nx ρ' st' => rw [q] at h; exact fun M' H' σ' e rep => h M' H' σ' e (rep_wipe is rep)
  | ct ρ' st' => rw [q] at h; exact fun M' H' σ' e rep => h M' H' σ' e (rep_wipe is rep)
  | bk ρ' st' => rw [q] at h; exact fun M' H' σ' e rep => h M' H' σ' e (rep_wipe is rep)
  | rt u st' => rw [q] at h; exact h
  | exc c fs ρ' st' => rw [q] at h; exact h
  | bad => rw [q] at h; exact h
theorem ms_wp {s : Stmt} {g : SF} (is : List Nat) (h : MS X T W s g) : MS X T W s (sWp is g) := PS.imp h fun D σ H ⟨M, ρ, st, rep, go⟩ => ⟨M, ρ, st, rep, gos_wp go⟩
theorem mss_wp {ss : List Stmt} {g : SF} (is : List Nat) (h : MSs X T W ss g) : MSs X T W ss (sWp is g) := PSs.imp h fun D σ H ⟨M, ρ, st, rep, go⟩ => ⟨M, ρ, st, rep, gos_wp go⟩
/-- from here on the names is are read no more -/
def sW0 (is : List Nat) (g : SF) : SF := fun ρ st => g (wipeL is ρ) st
theorem ms_w0 {s : Stmt} {g : SF} (is : List Nat) (h : MS X T W s g) : MS X T W s (sW0 is g) := PS.imp h fun D σ H ⟨M, ρ, st, rep, go⟩ => ⟨M, _, st, rep_wipe is rep, go⟩
/-- no slot names a place of the store from n on -/
def lowS (n : Nat) (ρ : Slots) : Bool := ρ.all fun u => match u with
  | some (.loc i) => decide (i < n)
  | _ => true
/-- s, and what it made itself and no name holds is gone -/
def sCut (g : SF) : SF := fun ρ st => match g ρ st with
  | .nx ρ' st' => if lowS st.length ρ' then .nx ρ' (st'.take st.length) else .bad
  | .ct ρ' st' => if lowS st.length ρ' then .ct ρ' (st'.take st.length) else .bad
  | .bk ρ' st' => if lowS st.length ρ' then .bk ρ' (st'.take st.length) else .bad
  | r => r
theorem low_rep {K : PySem.W.Frag} {M : List (Option Addr)} {H : Hp} {n : Nat} {σ : L2.St} {ρ : Slots} (h : lowS n ρ = true) (p : Paired (RS1 K T M H) σ ρ) : Paired (RS1 K T (M.take n) H) σ ρ := by
  induction p with
  | nil => exact .nil
  | @cons v u σ ρ r t ih =>
    unfold lowS at h
    rw [List.all_cons, Bool.and_eq_true] at h
    refine .cons (fun u' e => ?_) (ih h.2)
    obtain ⟨v, e1, e2⟩ := r u' e
    refine ⟨v, e1, ?_⟩
    subst e
    cases e2 with
    | d q => exact .d (q.sub take_sub)
    | loc q => exact .loc (by rw [List.getElem?_take_of_lt (of_decide_eq_true h.1)]; exact q)
    | hole q => exact .hole (by rw [List.getElem?_take_of_lt (of_decide_eq_true h.1)]; exact q)
theorem gos_cut {K : PySem.W.Frag} {M : List (Option Addr)} {H : Hp} {D : Ends} {g : SF} {ρ : Slots} {st : Stor} {σ : L2.St} (rep : Rep K T M H σ ρ st) (h : GoS K T W M H (sCut g ρ st) D) : GoS K T W M H (g ρ st) D := by
  have hM := rep.sto.len
  unfold sCut at h
  cases q : g ρ st with
  | nx ρ' st' =>
    rw [q] at h
    simp only at h
    by_cases hl : lowS st.length ρ' = true
    · rw [if_pos hl] at h
      exact fun M' H' σ' e rp => h (M'.take st.length) H' σ' (e.take _ hM.symm) ⟨low_rep hl rp.slots, rp.sto.take _⟩
    · rw [if_neg hl] at h; exact h.elim
  | ct ρ' st' =>
    rw [q] at h
    simp only at h
    by_cases hl : lowS st.length ρ' = true
    · rw [if_pos hl] at h
      exact fun M' H' σ' e rp => h (M'.take st.length) H' σ' (e.take _ hM.symm) ⟨low_rep hl rp.slots, rp.sto.take _⟩
    · rw [if_neg hl] at h; exact h.elim
  | bk ρ' st' =>
    rw [q] at h
    simp only at h
    by_cases hl : lowS st.length ρ' = true
    · rw [if_pos hl] at h
      exact fun M' H' σ' e rp => h (M'.take st.length) H' σ' (e.take _ hM.symm) ⟨low_rep hl rp.slots, rp.sto.take _⟩
    · rw [if_neg hl] at h; exact h.elim
  | rt u st' => rw [q] at h; exact h
  | exc c fs ρ' st' => rw [q] at h; exact h
  | bad => rw [q] at h; exact h
theorem ms_cut {s : Stmt} {g : SF} (h : MS X T W s g) : MS X T W s (sCut g) := PS.imp h fun D σ H ⟨M, ρ, st, rep, go⟩ => ⟨M, ρ, st, rep, gos_cut rep go⟩
theorem mss_cut {ss : List Stmt} {g : SF} (h : MSs X T W ss g) : MSs X T W ss (sCut g) := PSs.imp h fun D σ H ⟨M, ρ, st, rep, go⟩ => ⟨M, ρ, st, rep, gos_cut rep go⟩
end
end MM
set_option maxRecDepth 100000
/-! M24: a < b < c < d as a test -/
namespace MM
open PySem PySem.Spec PyProof.Rows L2
section
variable {X : Cx} {T : Nat → Addr} {W : WX} {a b c d : Expr} {fa fb fc fd : EF U} {pos : Pos}
def eChain3 (g g' g'' : U → U → Stor → R U) (fa fb fc fd : EF U) : EF Bool := fun ρ st => (fa ρ st).bind fun u st1 => (fb ρ st1).bind fun w st2 => (g u w st2).bind fun z st3 => (uB z st3).bind fun k st4 =>
  if k = true then (fc ρ st4).bind fun y st5 => (g' w y st5).bind fun z st6 => (uB z st6).bind fun k st7 => if k = true then (fd ρ st7).bind fun t st8 => (g'' y t st8).bind uB else .ok false st7 else .ok false st4
theorem m_chain3T {op op' op'' : CmpOp} {r r' r'' : R2} {g g' g'' : U → U → Stor → R U} (ho : OpR X (compareOp op) r) (ho' : OpR X (compareOp op') r') (ho'' : OpR X (compareOp op'') r'') (o : Op2 X T W r g) (o' : Op2 X T W r' g') (o'' : Op2 X T W r'' g'') (ha : ME X T W a fa) (hb : ME X T W b fb) (hc : ME X T W c fc) (hd : ME X T W d fd)
    (hm : lastMarks [op, op', op''] [b, c, d] = false := by with_unfolding_all rfl) : MT X T W (.Compare a [op, op', op''] [b, c, d] pos) (eChain3 g g' g'' fa fb fc fd) := by
  refine ⟨fun pins s σ H Q I ⟨M, ρ, st, rep, go⟩ => ?_⟩
  refine isTrue_chain (thn (ha.run pins s σ H _ I ⟨M, ρ, st, rep, Go.bind (Rel := relU X.K T) rep go⟩) fun v s1 ⟨x, H1, I1, r1, M1, st1, u, e1, rep1, ru, go1⟩ => test_link (thn (hb.run pins s1 σ H1 _ I1 ⟨M1, ρ, st1, rep1, Go.bind (Rel := relU X.K T) rep1 go1⟩) fun u2 s2 ⟨y, H2, I2, r2, M2, st2, w, e2, rep2, rw, go2⟩ =>
    thn (ho pins s2 σ H2 x y v u2 _ I2 r1 r2 (o M2 σ H2 st2 x y u w _ rep2.sto (RU.ext e2 ru) rw (Go.bind (Rel := relU X.K T) rep2 go2))) fun d1 s3 ⟨z, H3, I3, r3, M3, st3, zu, e3, rep3, rz, go3⟩ => ?_)) hm
  obtain ⟨k, rfl, M4, st4, k', e4, rep4, rk, go4⟩ := uB_go (W := W) (σ := σ) rep3.sto rz (Go.bind (Rel := relB) rep3 go3)
  have rk' : k = k' := rk
  subst rk'
  cases r3
  refine wpAny_truthy_bool ?_
  cases k with
  | false => exact ite_ff ⟨H3, I3, Go.now rep4.sto go4 rfl⟩
  | true =>
    have go4' : Go X.K T relB W M4 σ H3 ((fc ρ st4).bind fun y st5 => (g' w y st5).bind fun z st6 => (uB z st6).bind fun k st7 => if k = true then (fd ρ st7).bind fun t st8 => (g'' y t st8).bind uB else .ok false st7) Q := go4
    refine ite_tt (test_link (thn (hc.run pins s3 σ H3 _ I3 ⟨M4, ρ, st4, rep4, Go.bind (Rel := relU X.K T) rep4 go4'⟩) fun u5 s5 ⟨y5, H5, I5, r5, M5, st5, w5, e5, rep5, rw5, go5⟩ =>
      thn (ho' pins s5 σ H5 y y5 u2 u5 _ I5 r2 r5 (o' M5 σ H5 st5 y y5 w w5 _ rep5.sto (RU.ext e5 (RU.ext e4 (RU.ext e3 rw))) rw5 (Go.bind (Rel := relU X.K T) rep5 go5))) fun d6 s6 ⟨z6, H6, I6, r6, M6, st6, zu6, e6, rep6, rz6, go6⟩ => ?_))
    obtain ⟨k, rfl, M7, st7, k', e7, rep7, rk, go7⟩ := uB_go (W := W) (σ := σ) rep6.sto rz6 (Go.bind (Rel := relB) rep6 go6)
    have rk' : k = k' := rk
    subst rk'
    cases r6
    refine wpAny_truthy_bool ?_
    cases k with
    | false => exact ite_ff ⟨H6, I6, Go.now rep7.sto go7 rfl⟩
    | true =>
      have go7' : Go X.K T relB W M7 σ H6 ((fd ρ st7).bind fun t st8 => (g'' w5 t st8).bind uB) Q := go7
      refine ite_tt (test_last (thn (hd.run pins s6 σ H6 _ I6 ⟨M7, ρ, st7, rep7, Go.bind (Rel := relU X.K T) rep7 go7'⟩) fun u8 s8 ⟨y8, H8, I8, r8, M8, st8, w8, e8, rep8, rw8, go8⟩ =>
        thn (ho'' pins s8 σ H8 y5 y8 u5 u8 _ I8 r5 r8 (o'' M8 σ H8 st8 y5 y8 w5 w8 _ rep8.sto (RU.ext e8 (RU.ext e7 (RU.ext e6 rw5))) rw8 (Go.bind (Rel := relU X.K T) rep8 go8))) fun d9 s9 ⟨z9, H9, I9, r9, M9, st9, zu9, e9, rep9, rz9, go9⟩ => ?_))
      obtain ⟨k2, rfl, q9⟩ := uB_go (W := W) (σ := σ) rep9.sto rz9 go9
      cases r9
      exact wpAny_truthy_bool ⟨H9, I9, q9⟩
end
/-! ### several clauses: by lists -/
inductive HsOk2 (X : Cx) (T : Nat → Addr) : List ExceptHandler → List ClV → Prop
  | nil : HsOk2 X T [] []
  | bare {x : Str} {c : Value} {te : Nat → Option Bool} {gs : Addr → Addr → Nat → SF} {s0 : Stmt} {ss : List Stmt} {p q : Pos} {hs : List ExceptHandler} {l : List ClV} : Names X x c → (∀ k b, te k = some b → PySem.W.exmOne X.K (.ref (T k)) c = some b) →
      (∀ (a : Addr) (oe : Obj) (k : Nat) (d : Addr) (pn : List (Addr × Obj)), te k = some true → Zc (.ref (T k)) (some d) oe → (∃ vs, oe.data = .fields vs) → MSs (X.suite a ((a, oe) :: pn)) T W0 (s0 :: ss) (gs a d k)) → HsOk2 X T hs l →
      HsOk2 X T (.ExceptHandler (some (.Name x p)) none (s0 :: ss) q :: hs) (⟨te, none, gs⟩ :: l)
  | named {x n : Str} {i : Nat} {c : Value} {te : Nat → Option Bool} {gs : Addr → Addr → Nat → SF} {s0 : Stmt} {ss : List Stmt} {p q : Pos} {hs : List ExceptHandler} {l : List ClV} : X.N[i]? = some n → X.env.kindOf n = some .local → Names X x c → (∀ k b, te k = some b → PySem.W.exmOne X.K (.ref (T k)) c = some b) →
      (∀ (a : Addr) (oe : Obj) (k : Nat) (d : Addr) (pn : List (Addr × Obj)), te k = some true → Zc (.ref (T k)) (some d) oe → (∃ vs, oe.data = .fields vs) → MSs (X.suite a ((a, oe) :: pn)) T W0 (s0 :: ss) (gs a d k)) → HsOk2 X T hs l →
      HsOk2 X T (.ExceptHandler (some (.Name x p)) (some n) (s0 :: ss) q :: hs) (⟨te, some i, gs⟩ :: l)
theorem HsOk2.to {X : Cx} {T : Nat → Addr} {hs : List ExceptHandler} {qs : List ClV} (h : HsOk2 X T hs qs) : ∃ l : List (Value × ClV), l.map (·.2) = qs ∧ HsOk X T hs l := by
  induction h with
  | nil => exact ⟨[], rfl, .nil⟩
  | bare h1 h2 h3 _ ih =>
    obtain ⟨l, rfl, hl⟩ := ih
    exact ⟨(_, _) :: l, rfl, .bare h1 h2 h3 hl⟩
  | named h0 h00 h1 h2 h3 _ ih =>
    obtain ⟨l, rfl, hl⟩ := ih
    exact ⟨(_, _) :: l, rfl, .named h0 h00 h1 h2 h3 hl⟩
theorem ms_try2 {X : Cx} {T : Nat → Addr} {W : WX} {body : List Stmt} {gb : SF} {pos : Pos} {h0 : ExceptHandler} {hs : List ExceptHandler} {qs : List ClV} (hst : X.stack = X.env :: X.outer) (hfm : X.env.frame = some X.env.locals) (hN : X.N.Nodup) (tk : Takes X W)
    (hb : ∀ (W : WX) (pn : List (Addr × Obj)) (xe : Value → Shared → Prop), Takes (X.tr pn xe) W → PassesOwn (model X.prog X.w) X.A X.env xe → MSs (X.tr pn xe) T W body gb) (hh : HsOk2 X T (h0 :: hs) qs) :
    MS X T W (.Try body (h0 :: hs) [] [] pos) (sTryL qs gb) := by
  obtain ⟨l, rfl, hl⟩ := hh.to
  exact ms_try_all hst hfm hN tk hb hl
theorem kit_no {K : PySem.W.Frag} {C : Addr} {t : String} (h1 : PySem.W.typeIn K (.ref C) = some (.type "type")) (h2 : PySem.W.isClsIn K C = true) (h3 : PySem.W.subIn K (.type t) (.ref C) = some false) : PySem.W.kitOne K (.type t) (.ref C) = some false := by
  have h5 : (PySem.W.clsIn K C).isSome = true := h2
  unfold PySem.W.kitOne PySem.W.kitCls
  simp [h5, h1, h3]
theorem kit_yes {K : PySem.W.Frag} {C : Addr} : PySem.W.kitOne K (.ref C) (.ref C) = some true := if_pos (beq_self_eq_true _)
end MM
set_option maxRecDepth 100000
/-! M25: what is walked may be a changing list or a value -/
namespace MM
open PySem PySem.Spec PyProof.Rows L2
section
variable {X : Cx} {T : Nat → Addr} {W : WX} {e tg : Expr} {f1 f2 : EF (List D × LV)}
def eEl (f1 f2 : EF (List D × LV)) : EF (List D × LV) := fun ρ st => match f1 ρ st with
  | .bad => f2 ρ st
  | r => r
theorem mv_or (h1 : MV X T W tg e f1) (h2 : MV X T W tg e f2) : MV X T W tg e (eEl f1 f2) := ⟨fun pins s σ H R I ⟨M, ρ, st, rep, go⟩ => by
  have go' : Go X.K T (relV X.K T) W M σ H (eEl f1 f2 ρ st) R := go
  unfold eEl at go'
  cases q : f1 ρ st with
  | bad =>
    rw [q] at go'
    exact h2.run pins s σ H R I ⟨M, ρ, st, rep, go'⟩
  | ok a b =>
    rw [q] at go'
    exact h1.run pins s σ H R I ⟨M, ρ, st, rep, by rw [q]; exact go'⟩
  | exc a b c =>
    rw [q] at go'
    exact h1.run pins s σ H R I ⟨M, ρ, st, rep, by rw [q]; exact go'⟩⟩
theorem el_1 {ρ : Slots} {st st1 : Stor} {x : List D × LV} (h : f1 ρ st = .ok x st1) : eEl f1 f2 ρ st = .ok x st1 := by
  unfold eEl
  rw [h]
theorem el_2 {ρ : Slots} {st : Stor} {r : R (List D × LV)} (h1 : f1 ρ st = .bad) (h : f2 ρ st = r) : eEl f1 f2 ρ st = r := by
  unfold eEl
  rw [h1]
  exact h
end
end MM
set_option maxRecDepth 100000
/-! M27: zip of tuples, str(x) -/
namespace MM
open PySem PySem.Spec PyProof.Rows L2
/-! ### str(x) -/
theorem strOk_of (s : String) : PyData.strOk (Str.ofString s) = true := by
  show (Str.ofString s).cps.all (· < 0x110000) = true
  rw [Array.all_eq_true']
  intro n hn
  rw [show Str.ofString s = ⟨(s.toList.map Char.toNat).toArray⟩ from Str.ofString_eq_toList s] at hn
  have hn' : ∃ c : Char, c.toNat = n := by
    obtain ⟨c, _, h⟩ := List.mem_map.mp (List.mem_toArray.mp hn)
    exact ⟨c, h⟩
  obtain ⟨c, rfl⟩ := hn'
  have := c.valid
  have h2 : c.toNat < 0x110000 := by
    rcases this with h | h
    · show c.val.toNat < _
      omega
    · show c.val.toNat < _
      exact h.2
  simpa using h2
def bStr : List D → Option D
  | [.int i] => if decide (i.natAbs.log2 < 1920) then some (.str (toString i : String)) else none
  | [.str s] => some (.str s)
  | _ => none
def rStr : List V → Hp → VK → Prop := fun xs H Q => (∃ i, xs = [.int i] ∧ i.natAbs.log2 < 1920 ∧ Q (.str (toString i)) H) ∨ ∃ a, xs = [.str a] ∧ Q (.str a) H
section
variable {X : Cx} {T : Nat → Addr} {W : WX}
theorem call_str1 : CallR X (.type "str") rStr := fun pins s σ H vs us Q I r h => h.elim (fun q => call_str_int pins s σ H vs us Q I r q) (fun q => SkE.call_str_str pins s σ H vs us Q I r q)
theorem l_str : PL X T rStr bStr := by
  intro M H st vs xs z Q s r e o
  match xs, e with
  | [.int i], e =>
    obtain ⟨v, rfl, rv⟩ := one_of r
    obtain ⟨h, e⟩ := if_some (show (if decide (i.natAbs.log2 < 1920) then some (D.str (toString i : String)) else none) = some z from e)
    subst e
    cases rv_int rv
    exact .inl ⟨i, rfl, of_decide_eq_true h, o.now s (.str (strOk_of _))⟩
  | [.str a], e =>
    obtain ⟨v, rfl, rv⟩ := one_of r
    cases e
    obtain ⟨ev, hk⟩ := RV.str rv
    subst ev
    exact .inr ⟨a, rfl, o.now s (.str hk)⟩
/-! ### zip -/
def zipD (xs ys : List D) : List D := (xs.zip ys).map fun p => .tuple [p.1, p.2]
def eZipI (fs : EF (List U)) : EF (List D) := fun ρ st => (fs ρ st).bind fun us st1 => match us with
  | [.d (.tuple xs), .d (.tuple ys)] => .ok (zipD xs ys) st1
  | _ => .bad
theorem zipD_len (xs ys : List D) : (zipD xs ys).length = min xs.length ys.length := by simp [zipD]
theorem pair2 {K T M H} {p : Addr} {x y : V} {d e : D} (hp : H p = none) (hm : some p ∉ M) (r : RD K T M H x d) (q : RD K T M H y e) : RD K T M (L2.upd H p (.tup [x, y])) (.ref p) (.tuple [d, e]) :=
  .tup (.inl ⟨hm, .inl upd_same⟩) (.cons (r.ext (Ext.lay hp)) (.cons (q.ext (Ext.lay hp)) .nil))
theorem ok_zip {K T M H a b xs ys ds es} (h : ∀ M1 H1, Ext M M1 H H1 → (SqT K H1 a xs ∧ RDs K T M1 H1 xs ds) ∧ SqT K H1 b ys ∧ RDs K T M1 H1 ys es) : IterOk K T (RZ.ItzT K a b) (zipD ds es) M H := fun M1 H1 st1 e s1 => by
  obtain ⟨⟨q, r⟩, q2, r2⟩ := h M1 H1 e
  rw [zipD_len]
  refine ⟨fun i hi => ?_, ⟨xs, ys, q, q2, ?_⟩, fun i v H2 hi w => ?_⟩
  · have h1 : i < xs.length := by rw [r.length]; omega
    have h2 : i < ys.length := by rw [r2.length]; omega
    exact ⟨xs, ys, xs[i], ys[i], q, q2, by simp [h1], by simp [h2]⟩
  · rw [r.length, r2.length]
    omega
  · obtain ⟨p, x, y, rfl, hp, rfl, hx, hy⟩ := w
    obtain ⟨d, hd, rd1⟩ := r.get' (hx xs q)
    obtain ⟨f, hf, rd2⟩ := r2.get' (hy ys q2)
    refine ⟨.tuple [d, f], ?_, pair2 hp (s1.new hp) rd1 rd2, Ext.lay hp, fun st s => s.lay hp⟩
    unfold zipD
    rw [List.getElem?_map, (List.getElem?_zip_eq_some (z := (d, f))).mpr ⟨hd, hf⟩]
    rfl
variable {pos p tpos : Pos} {elts : List Expr} {kk : Nat} {e e2 : Expr} {fs : EF (List U)}
theorem mi_zip (hg : Gl X "zip") (hm : X.mg "zip" = none) (ha : MA X T W [e, e2] fs) (hs : starEach [e, e2] X.env = (false, eval e X.env) :: starEach [e2] X.env := by rfl) (hpl : (backTo pos (starEach [e2] X.env)).any (·.1) = false := by rfl) :
    MI X T W (.Tuple elts kk tpos) (.Call (.Name "zip" p) [e, e2] [] pos) (eZipI fs) := by
  refine PI.imp (RZ.pi_zipA hg hm ha hs hpl) fun σ H R ⟨M, ρ, st, rep, go⟩ => ?_
  refine ⟨M, ρ, st, rep, (Go.bind (Rel := relL X.K T) rep go).mono fun vs H1 ⟨M1, st1, us, e1, rep1, rus, go1⟩ => ?_⟩
  match us, rus, go1 with
  | [.d (.tuple ds), .d (.tuple es)], rus, go1 =>
    obtain ⟨v, w, rfl, ru, rw'⟩ := two_of rus
    obtain ⟨a, xs, rfl, h1, r1⟩ := ru.rv rep1.sto (x := .tuple ds) rfl
    obtain ⟨b, ys, rfl, h2, r2⟩ := rw'.rv rep1.sto (x := .tuple es) rfl
    refine ⟨a, b, xs, ys, rfl, .inr ⟨sqt_of h1, sqt_of h2, Go.now rep1.sto go1 (ok_zip (xs := xs) (ys := ys) fun M' H' e' => ?_)⟩⟩
    exact ⟨⟨sqt_of (h1.imp (fun f => f.ext e' rfl fun _ => rfl) id), r1.ext e'⟩, sqt_of (h2.imp (fun f => f.ext e' rfl fun _ => rfl) id), r2.ext e'⟩
end
end MM
set_option maxRecDepth 100000
/-! M28: x + y of lists, to change -/
namespace MM
open PySem PySem.Spec PyProof.Rows L2
def kAddN : U → U → Stor → R U := fun u w st => match rd st u, rd st w with
  | some (.list xs), some (.list ys) => if fits (xs.length + ys.length) then .ok (.loc st.length) (st ++ [.lst (xs ++ ys)]) else .bad
  | _, _ => .bad
section
variable {X : Cx} {T : Nat → Addr} {W : WX}
theorem o_addN : Op2 X T W rCat kAddN := by
  intro M σ H st x y u w Q s ru rw go
  unfold kAddN at go
  cases q1 : rd st u with
  | none => rw [q1] at go; exact go.elim
  | some d =>
    cases q2 : rd st w with
    | none => rw [q1, q2] at go; cases d <;> exact go.elim
    | some e =>
      rw [q1, q2] at go
      cases d with
      | list xs =>
        cases e with
        | list ys =>
          obtain ⟨a, vs, rfl, h1, r1⟩ := ru.rv s q1
          obtain ⟨b, ws, rfl, h2, r2⟩ := rw.rv s q2
          by_cases hz : fits (xs.length + ys.length) = true
          · simp only [hz, if_true] at go
            exact ⟨a, b, vs, ws, rfl, rfl, h1, h2, by rw [r1.length, r2.length]; exact fits_le hz, fun p hp => newL s (r1.app r2) go hp⟩
          · simp only [hz] at go
            exact go.elim
        | _ => exact go.elim
      | _ => exact go.elim
theorem op_addN : OpR X (binaryOp .Add) rCat := op_cat
end
end MM
set_option maxRecDepth 100000
/-! M29: dicts that are data: dict(pairs), d[k] -/
namespace MM
open PySem PySem.Spec PyProof.Rows L2
def kOf : D → Option Key
  | .int i => some (.inl i)
  | .str s => some (.inr s)
  | _ => none
theorem kOf_kD (k : Key) : kOf (kD k) = some k := by cases k <;> rfl
theorem kOf_tD (k : List Key) : kOf (tD k) = none := rfl
def dget : List (D × D) → Key → Option D
  | [], _ => none
  | p :: r, key => if kOf p.1 = some key then some p.2 else dget r key
theorem RKs.get {K T M H} : ∀ {kv : List (Key × V)} {ds : List (D × D)}, RKs K T M H kv ds → ∀ key : Key, (∀ d, dget ds key = some d → ∃ v, valV kv key = some v ∧ RD K T M H v d) ∧ (dget ds key = none → valV kv key = none)
  | _, _, .nil, key => ⟨fun d h => (by cases h), fun _ => rfl⟩
  | _, _, .cons (k := k) r t, key => by
    have ih := RKs.get t key
    unfold dget
    rw [kOf_kD]
    by_cases c : k = key
    · subst c
      rw [if_pos rfl, valV_pos rfl]
      exact ⟨fun d h => by cases h; exact ⟨_, rfl, r⟩, fun h => by cases h⟩
    · rw [if_neg (fun q => c (Option.some.inj q)), valV_neg c]
      exact ih
theorem RTs.get {K T M H} : ∀ {kv : List (List Key × V)} {ds : List (D × D)}, RTs K T M H kv ds → ∀ key : Key, dget ds key = none
  | _, _, .cons r t, key => by
    unfold dget
    rw [kOf_tD, if_neg (by simp)]
    exact RTs.get t key
def dIxK : D → D → Option D
  | .dict ds, k => match kOf k with
    | some key => dget ds key
    | none => none
  | _, _ => none
def rDix : R2 := fun x y H Q => ∃ a v, x = .ref a ∧ DGet H a y (some v) ∧ Q v H
section
variable {X : Cx} {T : Nat → Addr} {W : WX} {pos : Pos} {a b : Expr} {fa fb : EF U}
theorem key_v {K T M H} {y : V} {dy : D} {key : Key} (ry : RV K T M H y dy) (h : kOf dy = some key) : y = kV key := by
  match dy, h with
  | .int i, h => cases h; exact ry.int
  | .str s, h => cases h; exact ry.str.1
theorem p_dix : P2 X T rDix dIxK := by
  intro M H st x y dx dy z Q s rx ry hf o
  match dx, hf with
  | .dict ds, hf =>
    cases e : kOf dy with
    | none => rw [dIxK, e] at hf; cases hf
    | some key =>
      rw [dIxK, e] at hf
      obtain ⟨p, rfl, h⟩ := rx
      rcases h with ⟨kv, h1, r1⟩ | ⟨kv, h1, r1⟩
      · obtain ⟨v, h2, h3⟩ := (r1.get key).1 z hf
        exact ⟨p, v, rfl, .inl ⟨kv, key, h1, key_v ry e, h2.symm⟩, o.now s h3⟩
      · have hf : dget ds key = some z := hf
        rw [r1.get key] at hf
        cases hf
theorem m_dix (hu : X.A.units + 66 < cLine) (ha : ME X T W a fa) (hb : ME X T W b fb) (hs : NoSl b := by exact fun _ _ => rfl) : ME X T W (.Subscript a b pos) (eBin (g2 dIxK) fa fb) :=
  PE.imp (pe_dget (by omega) ha hb hs) fun _ _ _ h => tOp_of (r := rDix) p_dix.op h
/-! dict(pairs) -/
def prsOf : List D → Option (List (Key × D))
  | [] => some []
  | .tuple [k, d] :: r => match kOf k, prsOf r with
    | some key, some l => some ((key, d) :: l)
    | _, _ => none
  | _ :: _ => none
def bDictP : List D → Option D
  | [.list ps] => match prsOf ps with
    | some l => if decide ((l.map (·.1)).Nodup) then some (.dict (l.map fun p => (kD p.1, p.2))) else none
    | none => none
  | _ => none
abbrev rDictP (K : PySem.W.Frag) : List V → Hp → VK → Prop := fun xs H Q => ∃ (a : Addr) (ps : List Addr) (kvs : List (Key × V)), xs = [.ref a] ∧ SqL K H a (ps.map V.ref) ∧ Paired (fun p kv => SqT K H p [kV kv.1, kv.2]) ps kvs ∧ ∀ p, H p = none → Q (.ref p) (upd H p (.dK (mergeK [] kvs)))
theorem mrg_nd : ∀ {more kvs : List (Key × V)}, ((kvs ++ more).map (·.1)).Nodup → mergeK kvs more = kvs ++ more
  | [], kvs, _ => by simp [mergeK]
  | (k, v) :: more, kvs, h => by
    have hn : valV kvs k = none := by
      have h2 := h
      rw [List.map_append, List.nodup_append] at h2
      have : (kvs.any fun kv => decide (kv.1 = k)) = false := by
        rw [List.any_eq_false]
        intro p hp q
        exact h2.2.2 p.1 (List.mem_map_of_mem hp) k (by simp) (by simpa using q)
      rw [valV_any] at this
      cases c : valV kvs k with
      | none => rfl
      | some w => rw [c] at this; cases this
    have e : mergeK kvs ((k, v) :: more) = mergeK (putK kvs k v) more := rfl
    rw [e, putK_new v hn, mrg_nd (by rw [List.append_assoc]; exact h), List.append_assoc]
    rfl
theorem prs_ok {K T M H} : ∀ {xs : List V} {ps : List D} {l : List (Key × D)}, RDs K T M H xs ps → prsOf ps = some l → ∃ (as : List Addr) (kvs : List (Key × V)), xs = as.map V.ref ∧ Paired (fun p (kv : Key × V) => SqT K H p [kV kv.1, kv.2]) as kvs ∧ RKs K T M H kvs (l.map fun p => (kD p.1, p.2)) ∧ kvs.map (·.1) = l.map (·.1)
  | _, _, l, .nil, h => by
    cases h
    exact ⟨[], [], rfl, .nil, .nil, rfl⟩
  | _, _, l, .cons (d := d0) r t, h => by
    match d0, h with
    | .tuple [k, d], h =>
      unfold prsOf at h
      cases e1 : kOf k with
      | none => rw [e1] at h; cases h
      | some key =>
        rw [e1] at h
        rename_i vs ds v
        cases e2 : prsOf ds with
        | none => rw [e2] at h; cases h
        | some l2 =>
          rw [e2] at h
          cases h
          obtain ⟨as, kvs, rfl, hp, hr, hk⟩ := prs_ok t e2
          cases r with
          | tup hf rr =>
            cases rr with
            | cons r1 rr =>
              cases rr with
              | cons r2 rr =>
                cases rr
                have e3 := key_v r1.rv e1
                subst e3
                exact ⟨_ :: as, (key, _) :: kvs, rfl, .cons (sqt_of hf) hp, .cons r2 hr, by rw [List.map_cons, List.map_cons, hk]⟩
theorem l_dictP : PL X T (rDictP X.K) bDictP := by
  intro M H st vs xs z Q s r e o
  match xs, e with
  | [.list ps], e =>
    obtain ⟨v, rfl, a, ys, rfl, h1, h2⟩ := one_of r
    cases c : prsOf ps with
    | none => rw [bDictP, c] at e; cases e
    | some l =>
      rw [bDictP, c] at e
      by_cases hn : (l.map (·.1)).Nodup
      · have e : (if decide ((l.map (·.1)).Nodup) then some (D.dict (l.map fun p => (kD p.1, p.2))) else none) = some z := e
        rw [if_pos (decide_eq_true hn)] at e
        cases e
        obtain ⟨as, kvs, rfl, hp, hr, hk⟩ := prs_ok h2 c
        refine ⟨a, as, kvs, rfl, .inl (.inl h1), hp, fun p hpn => ?_⟩
        rw [mrg_nd (by rw [List.nil_append, hk]; exact hn), List.nil_append]
        exact o _ _ (Ext.lay hpn) (s.lay hpn) (.dK ⟨s.new hpn, .inl upd_same⟩ (hr.ext (Ext.lay hpn)))
      · have e : (if decide ((l.map (·.1)).Nodup) then some (D.dict (l.map fun p => (kD p.1, p.2))) else none) = some z := e
        rw [if_neg (by simpa using hn)] at e
        cases e
/-! range downwards -/
def kRangeD : List U → Stor → R (List D) := fun us st => match us with
  | [.d (.int i), .d (.int j), .d (.int c)] => if inR i && inR j && decide (c = -1) then .ok ((List.range (i - j).toNat).map fun (k : Nat) => .int (i + k * (-1))) st else .bad
  | _ => .bad
def eRangeD (fs : EF (List U)) : EF (List D) := fun ρ st => (fs ρ st).bind kRangeD
theorem mi_rangeD {tg c : Expr} {p : Pos} {fs : EF (List U)} (hg : Gl X "range") (hm : X.mg "range" = none) (ha : MA X T W [a, b, c] fs)
    (hs : starEach [a, b, c] X.env = (false, eval a X.env) :: starEach [b, c] X.env := by rfl) (hpl : (backTo pos (starEach [b, c] X.env)).any (·.1) = false := by rfl) :
    MI X T W tg (.Call (.Name "range" p) [a, b, c] [] pos) (eRangeD fs) := by
  refine PI.imp (pi_range3 hg hm ha hs hpl) fun σ H R ⟨M, ρ, st, rep, go⟩ => ?_
  refine ⟨M, ρ, st, rep, (Go.bind (Rel := relL X.K T) rep go).mono fun vs H1 ⟨M1, st1, us, e1, rep1, rus, go1⟩ => ?_⟩
  unfold kRangeD at go1
  split at go1
  · rename_i i j k
    by_cases hz : (inR i && inR j && decide (k = -1)) = true
    · simp only [hz, if_true] at go1
      rw [Bool.and_eq_true, Bool.and_eq_true] at hz
      have hk := of_decide_eq_true hz.2
      subst hk
      cases rus with
      | cons r rr =>
        cases rr with
        | cons r' rr =>
          cases rr with
          | cons r2 rr =>
            cases rr
            have := r.int
            subst this
            have := r'.int
            subst this
            have := r2.int
            subst this
            have hb := inR_ok hz.1.1
            have hb' := inR_ok hz.1.2
            exact ⟨i, j, -1, _, rfl, RgC.neg hb.1 hb.2 hb'.1 hb'.2, Go.now rep1.sto go1 ok_rangeC⟩
    · simp only [hz] at go1
      exact go1.elim
  · exact go1.elim
end
end MM
set_option maxRecDepth 100000
/-! M30: dicts that change, keys whole numbers or texts: {}, d[k] = v, k in d, d.get(k, x), from here on data, d.items() -/
namespace MM
open PySem PySem.Spec PyProof.Rows L2
theorem RTs.no {K T M H} : ∀ {kv : List (List Key × V)} {ds : List (D × D)}, RTs K T M H kv ds → False
  | _, _, .cons _ t => RTs.no t
theorem rv_dict {K T M H} {v : V} {ds : List (D × D)} (r : RV K T M H v (.dict ds)) : ∃ a kv, v = .ref a ∧ Rd H a (.dK kv) ∧ RKs K T M H kv ds := by
  obtain ⟨a, rfl, ⟨kv, h1, r1⟩ | ⟨kv, _, r1⟩⟩ := r
  · exact ⟨a, kv, rfl, h1, r1⟩
  · exact r1.no.elim
/-! k in d -/
def dHas (neg : Bool) : D → D → Option D
  | k, .dict ds => match kOf k with
    | some key => some (.bool (xor neg (dget ds key).isSome))
    | none => none
  | _, _ => none
def rDin (neg : Bool) : R2 := fun y x H Q => ∃ a o, x = .ref a ∧ DGet H a y o ∧ Q (.bl (xor neg o.isSome)) H
theorem RKs.hasK {K T M H} {kv : List (Key × V)} {ds : List (D × D)} (r : RKs K T M H kv ds) (key : Key) : (valV kv key).isSome = (dget ds key).isSome := by
  cases e : dget ds key with
  | none => rw [(r.get key).2 e]; rfl
  | some d => obtain ⟨v, h, _⟩ := (r.get key).1 d e; rw [h]; rfl
section
variable {X : Cx} {T : Nat → Addr} {W : WX} {pos : Pos} {a b : Expr} {fa fb : EF U}
theorem p_din (neg : Bool) : P2 X T (rDin neg) (dHas neg) := by
  intro M H st x y dx dy z Q s rx ry hf o
  match dy, hf with
  | .dict ds, hf =>
    cases e : kOf dx with
    | none => rw [dHas, e] at hf; cases hf
    | some key =>
      rw [dHas, e] at hf
      cases hf
      obtain ⟨p, kv, rfl, h1, r1⟩ := rv_dict ry
      refine ⟨p, valV kv key, rfl, .inl ⟨kv, key, h1, key_v rx e, rfl⟩, ?_⟩
      rw [r1.hasK key]
      exact o.now s (.bl _)
theorem mt_din (hu : X.A.units + 66 < cLine) (ha : ME X T W a fa) (hb : ME X T W b fb) (h1 : behindInMarks .In b = false := by rfl) : MT X T W (.Compare a [.In] [b] pos) (asB (eBin (g2 (dHas false)) fa fb)) :=
  PT.imp (pt_cmp (pc_din (by omega) ha hb) h1) fun σ H Q h => by
    obtain ⟨M, ρ, st, rep, go⟩ := tOp_of (r := rDin false) (p_din false).op (asB_of h)
    exact ⟨M, ρ, st, rep, go.mono fun y H1 ⟨M1, ρ1, st1, rep1, go1⟩ => ⟨M1, ρ1, st1, rep1, go1.mono fun x H2 ⟨p, ov, e, g, q⟩ => ⟨p, ov, e, g, by rw [Bool.false_xor] at q; exact q⟩⟩⟩
theorem mt_dnin (hu : X.A.units + 66 < cLine) (ha : ME X T W a fa) (hb : ME X T W b fb) (h1 : behindInMarks .NotIn b = false := by rfl) : MT X T W (.Compare a [.NotIn] [b] pos) (asB (eBin (g2 (dHas true)) fa fb)) :=
  PT.imp (pt_cmp (pc_dnotin (by omega) ha hb) h1) fun σ H Q h => by
    obtain ⟨M, ρ, st, rep, go⟩ := tOp_of (r := rDin true) (p_din true).op (asB_of h)
    exact ⟨M, ρ, st, rep, go.mono fun y H1 ⟨M1, ρ1, st1, rep1, go1⟩ => ⟨M1, ρ1, st1, rep1, go1.mono fun x H2 ⟨p, ov, e, g, q⟩ => ⟨p, ov, e, g, by rw [Bool.true_xor] at q; exact q⟩⟩⟩
/-! a new changing dict -/
def eDic0 : EF U := fun _ st => .ok (.loc st.length) (st ++ [.dic []])
theorem m_dic0 : ME X T W (.Dict [] [] pos) eDic0 := by
  refine PE.imp pe_dnewK fun σ H Q ⟨M, ρ, st, rep, go⟩ p hp => ?_
  obtain ⟨ex, s⟩ := rep.sto.push (o := .dK []) (ob := .dic []) hp fun _ => ⟨p, rfl, .inl ⟨[], upd_same, .nil⟩⟩
  exact go _ _ (.ref p) ex s (.loc (by rw [List.getElem?_append_right (by rw [rep.sto.len]; exact Nat.le_refl _), rep.sto.len, Nat.sub_self]; rfl))
/-! d[k] = v -/
def dput (ds : List (D × D)) (key : Key) (y : D) : List (D × D) :=
  if (dget ds key).isSome = true then ds.map fun p => if kOf p.1 = some key then (p.1, y) else p else ds ++ [(kD key, y)]
theorem RKs.snoc {K T M H} {key : Key} {v : V} {d : D} (r : RD K T M H v d) : ∀ {kv : List (Key × V)} {ds : List (D × D)}, RKs K T M H kv ds → RKs K T M H (kv ++ [(key, v)]) (ds ++ [(kD key, d)])
  | _, _, .nil => .cons r .nil
  | _, _, .cons r1 t => .cons r1 (RKs.snoc r t)
theorem RKs.upd {K T M H} {key : Key} {v : V} {d : D} (r : RD K T M H v d) : ∀ {kv : List (Key × V)} {ds : List (D × D)}, RKs K T M H kv ds → RKs K T M H (kv.map fun p => if p.1 = key then (p.1, v) else p) (ds.map fun p => if kOf p.1 = some key then (p.1, d) else p)
  | _, _, .nil => .nil
  | _, _, .cons (k := k) r1 t => by
    rw [List.map_cons, List.map_cons]
    dsimp only
    rw [kOf_kD]
    by_cases c : k = key
    · rw [if_pos c, if_pos (by rw [c])]
      exact .cons r (RKs.upd r t)
    · rw [if_neg c, if_neg (fun q => c (Option.some.inj q))]
      exact .cons r1 (RKs.upd r t)
theorem RKs.put {K T M H} {key : Key} {v : V} {d : D} {kv : List (Key × V)} {ds : List (D × D)} (q : RKs K T M H kv ds) (r : RD K T M H v d) : RKs K T M H (putK kv key v) (dput ds key d) := by
  unfold putK dput
  rw [valV_any, q.hasK key]
  by_cases c : (dget ds key).isSome = true
  · rw [if_pos c, if_pos c]; exact q.upd r
  · rw [if_neg c, if_neg c]; exact q.snoc r
theorem RKs.len {K T M H} : ∀ {kv : List (Key × V)} {ds : List (D × D)}, RKs K T M H kv ds → kv.length = ds.length
  | _, _, .nil => rfl
  | _, _, .cons _ t => by rw [List.length_cons, List.length_cons, t.len]
theorem loc_dic {K T M H} {st : Stor} (s : Rst K T M H st) {i : Nat} {ds : List (D × D)} (h : st[i]? = some (.dic ds)) : ∃ a kv, M[i]? = some (some a) ∧ H a = some (.dK kv) ∧ RKs K T M H kv ds := by
  obtain ⟨m, hm, a, rfl, ⟨kv, h1, h2⟩ | ⟨kv, _, h2⟩⟩ := s.get h
  · exact ⟨a, kv, hm, h1, h2⟩
  · exact h2.no.elim
def sDPutF (fo fi fv : EF U) : SF := fun ρ st => (fv ρ st).stm ρ fun w st1 => (fo ρ st1).stm ρ fun u st2 => (fi ρ st2).stm ρ fun j st3 => match u, j, w with
  | .loc i, .d k, .d y => match st3[i]? with
    | some (.dic ds) => match kOf k with
      | some key => if ds.length < 16777216 then .nx ρ (st3.set i (.dic (dput ds key y))) else .bad
      | none => .bad
    | _ => .bad
  | _, _, _ => .bad
theorem ms_dput {o i value : Expr} {pos' : Pos} {fo fi fv : EF U} (hu : X.A.units + 66 < cLine) (ho : ME X T W o fo) (hi : ME X T W i fi) (hv : ME X T W value fv)
    (hs : swapsWith value (some (.Subscript o i pos')) pos.line X.env = pure false := by rfl) : MS X T W (.Assign [.Subscript o i pos'] value pos) (sDPutF fo fi fv) := by
  refine PS.imp (ps_dput (by omega) ho hi hv hs) fun D σ H ⟨M, ρ, st, rep, go⟩ => ?_
  refine ⟨M, ρ, st, rep, (GoS.bind (Rel := relU X.K T) rep go).mono fun y H1 ⟨M1, st1, w, e1, rep1, rw, go1⟩ => ?_⟩
  refine ⟨M1, ρ, st1, rep1, (GoS.bind (Rel := relU X.K T) rep1 go1).mono fun x H2 ⟨M2, st2, u, e2, rep2, ru, go2⟩ => ?_⟩
  refine ⟨M2, ρ, st2, rep2, (GoS.bind (Rel := relU X.K T) rep2 go2).mono fun j H3 ⟨M3, st3, k, e3, rep3, rk, go3⟩ => ?_⟩
  have rw' := RU.ext e3 (RU.ext e2 rw)
  have ru' := RU.ext e3 ru
  cases u with
  | d _ => exact go3.elim
  | loc i =>
    cases k with
    | loc _ => exact go3.elim
    | d kd =>
      cases w with
      | loc _ => exact go3.elim
      | d yd =>
        simp only at go3
        cases q : st3[i]? with
        | none => simp only [q] at go3; exact go3.elim
        | some ob =>
          cases ob with
          | dic ds =>
            simp only [q] at go3
            obtain ⟨a, kv, hi3, ha3, hr⟩ := loc_dic rep3.sto q
            cases ru_loc ru' hi3
            cases q2 : kOf kd with
            | none => simp only [q2] at go3; exact go3.elim
            | some key =>
              simp only [q2] at go3
              by_cases hl : ds.length < 16777216
              · rw [if_pos hl] at go3
                cases rk with
                | d rk =>
                  cases rw' with
                  | d ry =>
                    obtain ⟨ex, s3⟩ := rep3.sto.wr (o := .dK (putK kv key y)) (ob := .dic (dput ds key yd)) hi3 fun ex => ⟨a, rfl, .inl ⟨_, upd_same, (hr.put ry).ext ex⟩⟩
                    refine ⟨a, _, rfl, .inl ⟨kv, key, ha3, key_v rk.rv q2, by rw [hr.len, sizeLine_eq]; exact hl, rfl⟩, ?_⟩
                    exact go3 M3 _ σ ex (rep3.ext ex s3)
              · rw [if_neg hl] at go3; exact go3.elim
          | _ => simp only [q] at go3; exact go3.elim
/-! from here on data -/
def sFrzD (i : Nat) (g : SF) : SF := fun ρ st => match ρ[i]? with
  | some (some (.loc j)) => match st[j]? with
    | some (.dic ds) => g (ρ.set i (some (.d (.dict ds)))) (st.set j .dead)
    | _ => .bad
  | _ => .bad
theorem mss_frzD {ss : List Stmt} {g : SF} (i : Nat) (h : MSs X T W ss g) : MSs X T W ss (sFrzD i g) := by
  refine PSs.imp h fun D σ H ⟨M, ρ, st, rep, go⟩ => ?_
  unfold sFrzD at go
  cases q : ρ[i]? with
  | none => simp only [q] at go; exact go.elim
  | some o =>
    cases o with
    | none => simp only [q] at go; exact go.elim
    | some u =>
      cases u with
      | d _ => simp only [q] at go; exact go.elim
      | loc j =>
        simp only [q] at go
        cases q2 : st[j]? with
        | none => simp only [q2] at go; exact go.elim
        | some ob =>
          cases ob with
          | dic ds =>
            simp only [q2] at go
            obtain ⟨a, kv, hj, ha, r⟩ := loc_dic rep.sto q2
            obtain ⟨v, hv, ru⟩ := rep.get q
            cases ru_loc ru hj
            have hm : some a ∉ M.set j none := fun z => by
              obtain ⟨k, hk⟩ := List.getElem?_of_mem z
              rw [List.getElem?_set] at hk
              split at hk
              · split at hk <;> cases hk
              · rename_i ne
                exact ne (rep.sto.nd j k a hj hk)
            have rep1 := rep.ext Ext.hole (rep.sto.hole j)
            have rep2 := rep1.set i (RU.d (RD.dK ⟨hm, .inl ha⟩ (r.ext Ext.hole)))
            have es : σ.set i (some (.ref a)) = σ := by
              apply List.ext_getElem?
              intro k
              by_cases ek : i = k
              · subst ek
                rw [List.getElem?_set_self (List.getElem?_eq_some_iff.mp hv).1, hv]
              · rw [List.getElem?_set_ne ek]
            rw [es] at rep2
            exact ⟨_, _, _, rep2, GoS.base go Ext.hole⟩
          | _ => simp only [q2] at go; exact go.elim
end
end MM
set_option maxRecDepth 100000
/-! M31: d.get(k, x), for .. in d.items(), list(d) -/
namespace MM
open PySem PySem.Spec PyProof.Rows L2
section
variable {X : Cx} {T : Nat → Addr} {W : WX} {o e f : Expr} {apos cpos : Pos} {fo fk fx : EF U}
/-! d.get(k, x) -/
def kGet2 (u k w : U) (st : Stor) : R U := match rd st u, rd st k with
  | some (.dict ds), some dk => match kOf dk with
    | some key => match dget ds key with
      | some z => .ok (.d z) st
      | none => .ok w st
    | none => .bad
  | _, _ => .bad
def eGet2 (fo fk fx : EF U) : EF U := fun ρ st => (fo ρ st).bind fun u st1 => match rd st1 u with
  | some (.dict _) => (fk ρ st1).bind fun k st2 => (fx ρ st2).bind fun w st3 => kGet2 u k w st3
  | _ => .bad
theorem m_get2 (hu : X.A.units + 66 < cLine) (ho : ME X T W o fo) (he : ME X T W e fk) (hf : ME X T W f fx) (m : M2 X o "get" apos e f cpos := by exact ⟨rfl, rfl, rfl, rfl⟩) :
    ME X T W (.Call (.Attribute o "get" apos) [e, f] [] cpos) (eGet2 fo fk fx) := by
  refine PE.imp (pe_dget2 (by omega) ho he hf m) fun σ H Q ⟨M, ρ, st, rep, go⟩ => ?_
  refine ⟨M, ρ, st, rep, (Go.bind (Rel := relU X.K T) rep go).mono fun v H1 ⟨M1', st1, u, e1, rep1, ru, go1⟩ => ?_⟩
  cases q : rd st1 u with
  | none => simp only [q] at go1; exact go1.elim
  | some dx =>
    cases dx with
    | dict ds =>
      simp only [q] at go1
      obtain ⟨a, kv, rfl, h1, r1⟩ := rv_dict (ru.rv rep1.sto q)
      refine ⟨a, rfl, .inl ⟨kv, h1⟩, M1', ρ, st1, rep1, (Go.bind (Rel := relU X.K T) rep1 go1).mono fun y H2 ⟨M2', st2, k, e2, rep2, rk, go2⟩ => ?_⟩
      refine ⟨M2', ρ, st2, rep2, (Go.bind (Rel := relU X.K T) rep2 go2).mono fun z H3 ⟨M3', st3, w, e3, rep3, rw, go3⟩ => ?_⟩
      unfold kGet2 at go3
      cases q3 : rd st3 u with
      | none => simp only [q3] at go3; exact go3.elim
      | some dx3 =>
        cases q4 : rd st3 k with
        | none => simp only [q3, q4] at go3; exact absurd go3 (by cases dx3 <;> exact fun h => h)
        | some dk =>
          cases dx3 with
          | dict ds3 =>
            simp only [q3, q4] at go3
            obtain ⟨a3, kv3, ea, h3, r3⟩ := rv_dict ((RU.ext e3 (RU.ext e2 ru)).rv rep3.sto q3)
            cases ea
            cases q5 : kOf dk with
            | none => simp only [q5] at go3; exact go3.elim
            | some key =>
              simp only [q5] at go3
              refine ⟨valV kv3 key, .inl ⟨kv3, key, h3, key_v ((RU.ext e3 rk).rv rep3.sto q4) q5, rfl⟩, ?_⟩
              cases q6 : dget ds3 key with
              | none =>
                simp only [q6] at go3
                rw [(r3.get key).2 q6]
                exact Go.now rep3.sto go3 rw
              | some d =>
                simp only [q6] at go3
                obtain ⟨v3, h5, h6⟩ := (r3.get key).1 d q6
                rw [h5]
                exact Go.now rep3.sto go3 (.d h6)
          | _ => simp only [q3, q4] at go3; exact go3.elim
    | _ => simp only [q] at go1; exact go1.elim
end
/-! a lock that stays -/
theorem pe_lock {X : Cx} {e : Expr} {t : TE} (h : PE X e t) : PE X e (fun σ H Q => t σ H fun x H1 => Q x H1 ∨ ∃ a u, x = .ref a ∧ H1 a = some u ∧ Mut (some u) ∧ ∀ od, Q x (upd H1 a (.frz od u))) :=
  ⟨fun pins s σ H Q I h' => thn (h.run pins s σ H _ I h') fun u s1 ⟨x, H1, I1, rx, q⟩ => by
    rcases q with q | ⟨a, w, ex, hu, mu, q⟩
    · exact ⟨x, H1, I1, rx, q⟩
    · obtain ⟨od, I2⟩ := I1.lock hu mu
      exact ⟨x, _, I2, rx, q od⟩⟩
theorem Ext.lockK {M : List (Option Addr)} {H : Hp} {a : Addr} {kv : List (Key × V)} {od : Obj} (h : H a = some (.dK kv)) : Ext M M H (upd H a (.frz od (.dK kv))) :=
  .same (fun b ob e m d => by
      by_cases z : b = a
      · subst z; rw [h] at e; cases e; cases d
      · rw [upd_ne z]; exact e)
    (fun b kv' r m => by
      by_cases z : b = a
      · subst z
        rcases r with r | ⟨o', r⟩
        · rw [h] at r; cases r; exact .inr ⟨od, upd_same⟩
        · rw [h] at r; cases r
      · unfold Rd; rw [upd_ne z]; exact r)
    (fun b kv' r m => by
      by_cases z : b = a
      · subst z
        rcases r with r | ⟨o', r⟩ <;> (rw [h] at r; cases r)
      · unfold Rd; rw [upd_ne z]; exact r)
    (fun b e => by
      by_cases z : b = a
      · subst z; rw [upd_same] at e; cases e
      · rwa [upd_ne z] at e)
/-! for k, v in d.items(): whole numbers as keys -/
def intK (p : D × D) : Bool := match p.1 with
  | .int _ => true
  | _ => false
def dIts (ds : List (D × D)) : List D := ds.map fun p => .tuple [p.1, p.2]
def kItD : U → Stor → R (List D) := fun u st => match u with
  | .d (.dict ds) => if ds.all intK = true then .ok (dIts ds) st else .bad
  | _ => .bad
def eItemsD (fa : EF U) : EF (List D) := fun ρ st => (fa ρ st).bind kItD
theorem RKs.at {K T M H} : ∀ {kv : List (Key × V)} {ds : List (D × D)}, RKs K T M H kv ds → ∀ {i : Nat} {k : Key} {v : V}, kv[i]? = some (k, v) → ∃ d, ds[i]? = some (kD k, d) ∧ RD K T M H v d
  | _, _, .nil, i, k, v, h => by simp at h
  | _, _, .cons r t, 0, k, v, h => by
    cases h
    exact ⟨_, rfl, r⟩
  | _, _, .cons r t, i + 1, k, v, h => t.at (i := i) (by simpa using h)
theorem ok_items {K T M H} {a : Addr} {od : Obj} {kv : List (Key × V)} {ds : List (D × D)} (hm : some a ∉ M) (h : H a = some (.frz od (.dK kv))) (r : RKs K T M H kv ds) (hi : ds.all intK = true) :
    IterOk K T (Iti a od kv) (dIts ds) M H := fun M1 H1 st1 e s1 => by
  have h1 : H1 a = some (.frz od (.dK kv)) := e.keep a _ h hm rfl
  have r1 := RKs.ext e r
  have hl : (dIts ds).length = kv.length := by rw [dIts, List.length_map, r1.len]
  rw [hl]
  refine ⟨fun i hi => ⟨h1, hi⟩, ⟨h1, Nat.le_refl _⟩, fun i x H2 hlt y => ?_⟩
  obtain ⟨p, k, v, hk, rfl, hp, rfl⟩ := y
  obtain ⟨d, hd, rd'⟩ := r1.at hk
  refine ⟨.tuple [kD k, d], by rw [dIts, List.getElem?_map, hd]; rfl, ?_, Ext.lay hp, fun st s => s.lay hp⟩
  have hin : intK (kD k, d) = true := List.all_eq_true.mp hi _ (List.mem_of_getElem? hd)
  cases k with
  | inl n => exact .tup (.inl ⟨s1.new hp, .inl upd_same⟩) (.cons (.int n) (.cons (rd'.ext (Ext.lay hp)) .nil))
  | inr s => cases hin
section
variable {X : Cx} {T : Nat → Addr} {W : WX} {e : Expr} {elts : List Expr} {kk : Nat} {tpos apos cpos : Pos} {fa : EF U}
theorem mi_items (he : ME X T W e fa) (hbase : attributeBase e "items" X.env (eval e X.env) = eval e X.env := by rfl) (hline : (apos.endLine == cpos.line) = true := by rfl) :
    MI X T W (.Tuple elts kk tpos) (.Call (.Attribute e "items" apos) [] [] cpos) (eItemsD fa) := by
  refine PI.imp (pi_items (pe_lock he) hbase hline) fun σ H R ⟨M, ρ, st, rep, go⟩ => ?_
  refine ⟨M, ρ, st, rep, (Go.bind (Rel := relU X.K T) rep go).mono fun v H1 ⟨M1, st1, u, e1, rep1, ru, go1⟩ => ?_⟩
  unfold kItD at go1
  cases u with
  | loc _ => exact go1.elim
  | d x =>
    cases x with
    | dict ds =>
      simp only at go1
      by_cases hi : ds.all intK = true
      · rw [if_pos hi] at go1
        cases ru with
        | d rd0 =>
          cases rd0 with
          | dT _ r => exact r.no.elim
          | @dK a kv _ fz r =>
            rcases fz.2 with h | ⟨od, h⟩
            · refine .inr ⟨a, _, rfl, h, trivial, fun od => ⟨a, od, kv, rfl, upd_same, ?_⟩⟩
              have ex : Ext M1 M1 H1 (upd H1 a (.frz od (.dK kv))) := Ext.lockK h
              have s2 := rep1.sto.ext ex fun b m => upd_ne fun z => fz.1 (z ▸ m)
              exact go1 M1 _ _ ex s2 (ok_items fz.1 upd_same (RKs.ext ex r) hi)
            · exact .inl ⟨a, od, kv, rfl, h, Go.now rep1.sto go1 (ok_items fz.1 h r hi)⟩
      · rw [if_neg hi] at go1; exact go1.elim
    | _ => exact go1.elim
/-! list(d) -/
def bKeys : List D → Option D
  | [.dict ds] => if ds.all intK = true then some (.list (ds.map (·.1))) else none
  | _ => none
theorem keys_rds {K T M H} : ∀ {kv : List (Key × V)} {ds : List (D × D)}, RKs K T M H kv ds → ds.all intK = true → RDs K T M H (kv.map fun p => kV p.1) (ds.map (·.1))
  | _, _, .nil, _ => .nil
  | _, _, .cons (k := .inl i) r t, h => .cons (.int i) (keys_rds t (by rw [List.all_cons, Bool.and_eq_true] at h; exact h.2))
  | _, _, .cons (k := .inr s) r t, h => by
    rw [List.all_cons, Bool.and_eq_true] at h
    cases h.1
theorem l_keys : PL X T (fun xs H Q => ∃ (a : Addr) (kvs : List (Key × V)), xs = [.ref a] ∧ Rd H a (.dK kvs) ∧ ∀ p, H p = none → Q (.ref p) (upd H p (.lst (kvs.map fun kv => kV kv.1)))) bKeys := by
  intro M H st vs xs z Q s r e o
  match xs, e with
  | [.dict ds], e =>
    obtain ⟨v, rfl, rv⟩ := one_of r
    obtain ⟨a, kv, rfl, h1, r1⟩ := rv_dict rv
    by_cases hi : ds.all intK = true
    · have e : (if ds.all intK = true then some (D.list (ds.map (·.1))) else none) = some z := e
      rw [if_pos hi] at e
      cases e
      exact ⟨a, kv, rfl, h1, Out.lst s o (keys_rds r1 hi)⟩
    · have e : (if ds.all intK = true then some (D.list (ds.map (·.1))) else none) = some z := e
      rw [if_neg hi] at e
      cases e
end
end MM
set_option maxRecDepth 100000
/-! M32: dict([]) and {k: v} that are to change -/
namespace MM
open PySem PySem.Spec PyProof.Rows L2
def kDicN : List U → Stor → R U := fun us st => match rds st us with
  | some [.list []] => .ok (.loc st.length) (st ++ [.dic []])
  | _ => .bad
section
variable {X : Cx} {T : Nat → Addr} {W : WX} {pos p : Pos} {e k v : Expr} {fs : EF (List U)} {fk fv : EF U}
theorem m_dicN (hg : Gl X "dict") (hm : X.mg "dict" = none) (ha : MA X T W [e] fs) (hh : X.calm = true := by rfl)
    (he : starEach [e] X.env = (false, eval e X.env) :: starEach [] X.env := by rfl) (hpl : (backTo pos (starEach [] X.env)).any (·.1) = false := by rfl) : ME X T W (.Call (.Name "dict" p) [e] [] pos) (eArgs fs kDicN) := by
  refine PE.imp (pe_callTy (call_dictP hh) hg hm (by decide +kernel) ha (by decide) (by decide) he hpl) fun σ H Q ⟨M, ρ, st, rep, go⟩ => ?_
  refine ⟨M, ρ, st, rep, (Go.bind (Rel := relL X.K T) rep go).mono fun vs H1 ⟨M1, st1, us, e1, rep1, rus, go1⟩ => ?_⟩
  unfold kDicN at go1
  cases q : rds st1 us with
  | none => simp only [q] at go1; exact go1.elim
  | some ds =>
    match ds, q with
    | [.list []], q =>
      simp only [q] at go1
      obtain ⟨w, rfl, a, xs, rfl, h1, h2⟩ := one_of (rds_rv rep1.sto rus q)
      cases h2
      refine ⟨a, [], [], rfl, .inl (.inl h1), .nil, fun p hp => ?_⟩
      obtain ⟨ex, s⟩ := rep1.sto.push (o := .dK []) (ob := .dic []) hp fun _ => ⟨p, rfl, .inl ⟨[], upd_same, .nil⟩⟩
      exact go1 _ _ (.ref p) ex s (.loc (by rw [List.getElem?_append_right (by rw [rep1.sto.len]; exact Nat.le_refl _), rep1.sto.len, Nat.sub_self]; rfl))
    | [], q => simp only [q] at go1; exact go1.elim
    | .list (_ :: _) :: [], q => simp only [q] at go1; exact go1.elim
    | .none :: [], q => simp only [q] at go1; exact go1.elim
    | .bool _ :: [], q => simp only [q] at go1; exact go1.elim
    | .int _ :: [], q => simp only [q] at go1; exact go1.elim
    | .str _ :: [], q => simp only [q] at go1; exact go1.elim
    | .scr _ :: [], q => simp only [q] at go1; exact go1.elim
    | .tuple _ :: [], q => simp only [q] at go1; exact go1.elim
    | .dict _ :: [], q => simp only [q] at go1; exact go1.elim
    | .ins _ _ :: [], q => simp only [q] at go1; exact go1.elim
    | .fn _ :: [], q => simp only [q] at go1; exact go1.elim
    | .exc _ _ _ _ :: [], q => simp only [q] at go1; exact go1.elim
    | x :: y :: r, q =>
      have : (match (some (x :: y :: r) : Option (List D)) with | some [.list []] => (.ok (.loc st1.length) (st1 ++ [O.dic []]) : R U) | _ => .bad) = .bad := by cases x <;> first | rfl | (rename_i l; cases l <;> rfl)
      rw [q, this] at go1
      exact go1.elim
/-- {k: v}: the dict stands ahead of its parts -/
def kDisp1 (n : Nat) (u w : U) (st : Stor) : R U := match st[n]?, u, w with
  | some (.dic []), .d dk, .d dv => match kOf dk with
    | some key => .ok (.loc n) (st.set n (.dic [(kD key, dv)]))
    | none => .bad
  | _, _, _ => .bad
def eDisp1 (fk fv : EF U) : EF U := fun ρ st => (fk ρ (st ++ [.dic []])).bind fun u st1 => (fv ρ st1).bind fun w st2 => kDisp1 st.length u w st2
theorem m_disp1 (hk : ME X T W k fk) (hv : ME X T W v fv) : ME X T W (.Dict [some k] [v] pos) (eDisp1 fk fv) := by
  refine PE.imp (pe_disp (pps_cons hk hv pps_nil) (by rfl) (by rfl) (fun z => by cases z) (by simp)) fun σ H Q ⟨M, ρ, st, rep, go⟩ p hp => ?_
  obtain ⟨ex, s⟩ := rep.sto.push (o := .dK []) (ob := .dic []) hp fun _ => ⟨p, rfl, .inl ⟨[], upd_same, .nil⟩⟩
  have rep0 := rep.ext ex s
  have hn : (M ++ [some p])[st.length]? = some (some p) := by rw [List.getElem?_append_right (by rw [rep.sto.len]; exact Nat.le_refl _), rep.sto.len, Nat.sub_self]; rfl
  have go0 := Go.base go ex
  refine ⟨M ++ [some p], ρ, _, rep0, (Go.bind (Rel := relU X.K T) rep0 go0).mono fun x H1 ⟨M1, st1, u, e1, rep1, ru, go1⟩ => ?_⟩
  refine ⟨M1, ρ, st1, rep1, (Go.bind (Rel := relU X.K T) rep1 go1).mono fun y H2 ⟨M2, st2, w, e2, rep2, rw, go2⟩ => ?_⟩
  unfold kDisp1 at go2
  cases q : st2[st.length]? with
  | none => simp only [q] at go2; exact go2.elim
  | some ob =>
    cases ob with
    | dic ds =>
      cases ds with
      | nil =>
        cases u with
        | loc _ => simp only [q] at go2; exact go2.elim
        | d dk =>
          cases w with
          | loc _ => simp only [q] at go2; exact go2.elim
          | d dv =>
            simp only [q] at go2
            cases q2 : kOf dk with
            | none => simp only [q2] at go2; exact go2.elim
            | some key =>
              simp only [q2] at go2
              obtain ⟨a, kv, hi, ha, hr⟩ := loc_dic rep2.sto q
              have ea : a = p := by
                rcases (e1.trans e2).old _ _ hn with z | z
                · rw [hi] at z; cases z; rfl
                · rw [hi] at z; cases z
              subst ea
              cases hr
              have ru' := RU.ext e2 ru
              cases ru' with
              | d r1 =>
                cases rw with
                | d r2 =>
                  have ek := key_v r1.rv q2
                  subst ek
                  obtain ⟨ex3, s3⟩ := rep2.sto.wr (o := .dK [(key, y)]) (ob := .dic [(kD key, dv)]) hi fun ex => ⟨a, rfl, .inl ⟨_, upd_same, .cons (r2.ext ex) .nil⟩⟩
                  exact ⟨ha, [(key, y)], rfl, by simp, go2 M2 _ (.ref a) ex3 s3 (.loc hi)⟩
      | cons _ _ => simp only [q] at go2; exact go2.elim
    | _ => simp only [q] at go2; exact go2.elim
end
end MM
set_option maxRecDepth 100000
/-! M33: l.index(x) of a list that is data -/
namespace MM
open PySem PySem.Spec PyProof.Rows L2
def dLdx : D → D → Option D
  | .list ys, x => if sh 60 x && shs 60 ys then (ys.findIdx? fun y => y.eqv x).map fun (i : Nat) => .int i else none
  | _, _ => none
def eLIx (fo : EF U) (fs : EF (List U)) : EF U := fun ρ st => (fo ρ st).bind fun u st1 => match u with
  | .d (.list ds) => (fs ρ st1).bind fun us st2 => match rds st2 us with
    | some [y] => match dLdx (.list ds) y with
      | some z => .ok (.d z) st2
      | none => .bad
    | _ => .bad
  | _ => .bad
section
variable {X : Cx} {T : Nat → Addr} {W : WX} {o e : Expr} {apos cpos : Pos} {fo : EF U} {fs : EF (List U)}
theorem m_lix (hu : X.A.units + 66 < cLine) (ho : ME X T W o fo) (ha : MA X T W [e] fs) (hbase : attributeBase o "index" X.env (eval o X.env) = eval o X.env := by rfl)
    (hfew : ((backTo cpos (starEach [e] X.env)).all (fun x => !x.1) && (backToKw cpos (keywordEach [] X.env)).all (fun x => x.1.isSome) && decide ([e].length + ([] : List Keyword).length + (if ([] : List Keyword).isEmpty then 0 else 1) < 30)) = true := by rfl)
    (hline : (apos.endLine == cpos.line) = true := by rfl) (hs : starEach [e] X.env = (false, eval e X.env) :: starEach [] X.env := by rfl) (hpl : (backTo cpos (starEach [] X.env)).any (·.1) = false := by rfl) :
    ME X T W (.Call (.Attribute o "index" apos) [e] [] cpos) (eLIx fo fs) := by
  refine PE.imp (pe_bm PySem.F.plainAttrs_list PySem.F.slot_list_index PySem.F.type_list_index (mt_indexD (by omega)) ho ha hbase hfew hline hs hpl) fun σ H Q ⟨M, ρ, st, rep, go⟩ => ?_
  refine ⟨M, ρ, st, rep, (Go.bind (Rel := relU X.K T) rep go).mono fun v H1 ⟨M1, st1, u, e1, rep1, ru, go1⟩ => ?_⟩
  cases u with
  | loc i => exact go1.elim
  | d x =>
    cases x with
    | list ds =>
      cases ru with
      | d r0 =>
      cases r0 with
      | @lst a xs _ hm h1 rs =>
      refine ⟨.inl ⟨rfl, xs, .inl (.inl h1)⟩, M1, ρ, st1, rep1, (Go.bind (Rel := relL X.K T) rep1 go1).mono fun vs H2 ⟨M2, st2, us, e2, rep2, rus, go2⟩ => ?_⟩
      cases q1 : rds st2 us with
      | none => simp only [q1] at go2; exact go2.elim
      | some ys =>
        have rv := rds_rv rep2.sto rus q1
        match ys, q1, rv with
        | [], q1, _ => simp only [q1] at go2; exact go2.elim
        | _ :: _ :: _, q1, _ => simp only [q1] at go2; exact go2.elim
        | [y], q1, rv =>
          obtain ⟨w, rfl, rw'⟩ := one_of rv
          simp only [q1] at go2
          cases q2 : dLdx (.list ds) y with
          | none => simp only [q2] at go2; exact go2.elim
          | some z =>
            simp only [q2] at go2
            dsimp only [dLdx] at q2
            by_cases hz : (sh 60 y && shs 60 ds) = true
            · rw [if_pos hz] at q2
              rw [Bool.and_eq_true] at hz
              cases q3 : ds.findIdx? (fun w => w.eqv y) with
              | none => rw [q3] at q2; cases q2
              | some j =>
                rw [q3] at q2
                cases q2
                obtain ⟨hj, p1, p2⟩ := List.findIdx?_eq_some_iff_getElem.mp q3
                have rt : RV X.K T M2 H2 (.ref a) (.list ds) := ⟨a, xs, rfl, e2.keep a _ h1 hm rfl, rs.ext e2⟩
                have dt := RV.dp (n := 61) rt (by rw [sh]; exact hz.2)
                have sl := shaped_of dt.2 (n := 61) (by rw [sh]; exact hz.2) (by decide)
                rw [D.py] at dt sl
                have dy := rw'.dp hz.1
                have sg : ∀ i (hi : i < ds.length), sh 60 ds[i] = true := fun i hi => shs_mem hz.2 (List.getElem_mem hi)
                refine ⟨a, w, y.py, pys ds, j, (ds[j]).py, rfl, rfl, dt.1, dy.1, sl, shaped_of dy.2 hz.1 (by decide), ?_, ?_, fun m w' hm hw => ?_, Go.now rep2.sto go2 (.d (.int _))⟩
                · rw [pys_map, List.getElem?_map, List.getElem?_eq_getElem hj]
                  rfl
                · rw [eqv_py 60 60 _ _ (sg j hj) hz.1]
                  exact p1
                · have hmd : m < ds.length := by omega
                  rw [pys_map, List.getElem?_map, List.getElem?_eq_getElem hmd] at hw
                  cases hw
                  rw [eqv_py 60 60 _ _ (sg m hmd) hz.1]
                  simpa using p2 m hm
            · rw [if_neg hz] at q2
              cases q2
    | _ => exact go1.elim
end
end MM
set_option maxRecDepth 100000
set_option maxHeartbeats 4000000
set_option autoImplicit false
namespace MM
open PySem PySem.Spec PySem.Calls PyProof.Rows PySem.W PySem.HandSPX
section
variable {prog : Program} {w : World} {A : Around} {E : Value → Shared → Prop} {R : Result → Shared → Prop} {h : Heap} {g : Array GenState} {d : Drawn} {t : Nat} {os : OsState}
variable {nm q : Str} {C N : Addr} {bs bm bmB : List Value} {hdct : Bool} {sn : List Str} {sub : List Value} {ab : Bool} {col : Option Bool} {dd : Option Addr} {k0 k1 k2 k3 k5 : Option Value} {B newId initId : String} {kw : List (Str × Value)}
abbrev sh5 (h : Heap) (g : Array GenState) (d : Drawn) (t : Nat) (os : OsState) : Shared := ⟨h, g, d, t, os⟩
theorem xk_chk {M : Model} (F : ExcBaseFacts B newId initId bmB) (hT : ∀ X : String, bm.contains (.type X) = bmB.contains (.type X)) {Q : Unit → Shared → Prop}
    (hC : h.get? C = some (excClassObj nm q C N bs bm hdct sn sub ab col dd k0 k1 k2 k3 k5 newId)) (hq : Q () (sh5 h g d t os)) : wpAny M A (checkBuiltinCall newId ⟨[.ref C], kw⟩) Q E (sh5 h g d t os) := by
  have e1 : (Value.ref C :: bm).contains (.type B) = true := by rw [List.contains_cons, hT, F.hasB]; simp
  have e2 := F.noStar
  simp only [checkBuiltinCall, F.newKind, F.newSplit, F.newRow]
  repeat (first
    | refine wpAny_loadPart_at hC ?_
    | (refine wpAny_isSubtype_exc hC ?_; rw [e1])
    | refine wpAny_staticBase_exc hC ?_
    | refine wpAny_madeBy_exc hC ?_
    | simp only [bne_self_eq_false, Bool.false_eq_true, if_false]
    | wp_step)
  exact hq
theorem xk_new (F : ExcBaseFacts B newId initId bmB) (hT : ∀ X : String, bm.contains (.type X) = bmB.contains (.type X)) (hC : h.get? C = some (excClassObj nm q C N bs bm hdct sn sub ab col dd k0 k1 k2 k3 k5 newId))
    (hq : R (.ok (.ret (.ref (h.objs.size + 1)))) (sh5 ((h.push (kdv_tup [])).push (excO C h.objs.size)) g d t os)) : codeAny (model prog w) A (.builtin newId ⟨[.ref C], kw⟩) R (sh5 h g d t os) := by
  have e0 := F.ends
  have e1 : (Value.ref C :: bm).contains (.type B) = true := by rw [List.contains_cons, hT, F.hasB]; simp
  have e2 : (Value.ref C :: bm).contains (.type "AttributeError") = false := by rw [List.contains_cons, hT, F.noAttr]; rfl
  have e3 : (Value.ref C :: bm).contains (.type "NameError") = false := by rw [List.contains_cons, hT, F.noName]; rfl
  have e4 : ([] : List Value).length ≤ sizeLine := Nat.zero_le _
  refine codeAny_builtinAt F.entry ?_
  unfold Builtin.«BaseException.__new__»
  refine PySem.wpAt_bind ?_
  show PySem.wpAt _ _ _ (stack >>= _) _ _ _
  refine PySem.wpAt_bind (PySem.wpAt_stack fun p below => PySem.wpAt_of_wpAny ?_)
  wp_walk
  refine PySem.wpAt_of_wpAny ?_
  rw [F.owner]
  repeat (first
    | with_reducible refine wpAny_madeHere_exc F.canon hC ?_
    | with_reducible refine wpAny_loadPart_at hC ?_
    | (with_reducible refine wpAny_isSubtype_exc hC ?_; first | rw [e1] | rw [e2] | rw [e3])
    | wp_step)
  show R _ _
  rw [Heap.size_push]
  exact hq
theorem xk_type {fI : Addr} {Q : Fin → Shared → Prop} (F : ExcBaseFacts B newId initId bmB) (hT : ∀ X : String, bm.contains (.type X) = bmB.contains (.type X)) (hC : h.get? C = some (excClassObj nm q C N bs bm hdct sn sub ab col dd k0 k1 k2 k3 k5 newId))
    (hi : Looks (model prog w) h (typeLookup (.ref C) "__init__") (some (.ref fI))) (hb : ∀ self, Looks (model prog w) h (bindSpecial (.ref fI) self) (.ref fI, [self]))
    (hq : codeAny (model prog w) A (.call (.ref fI) ⟨[.ref (h.objs.size + 1)], kw⟩) (fun r s' => match r with | .ok (.ret v) => v = .none ∧ Q (.done (.ret (.ref (h.objs.size + 1)))) s' | .ok _ => False | .error e => E e s')
      (sh5 ((h.push (kdv_tup [])).push (excO C h.objs.size)) g d t os)) : wpAny (model prog w) A (Builtin.«type.__call__» ⟨[.ref C], kw⟩) Q E (sh5 h g d t os) := by
  repeat (first
    | with_reducible refine wpAny_loadPart_at hC ?_
    | with_reducible refine wpAny_madeBy_exc hC ?_
    | wp_step)
  refine codeAny_call_builtin_code (Code.quiet_builtin _ F.quiet) (xk_chk F hT hC ?_)
  refine xk_new F hT hC ?_
  show wpAny _ _ _ _ _ _
  have up : ∀ b o, h.get? b = some o → ((h.push (kdv_tup [])).push (excO C h.objs.size)).get? b = some o := fun b o e => Heap.get?_push_of_some _ (Heap.get?_push_of_some _ e)
  have c2 := up _ _ hC
  have ge : ((h.push (kdv_tup [])).push (excO C h.objs.size)).get? (h.objs.size + 1) = some (excO C h.objs.size) := by heap_get
  have cc : (Value.ref C :: bm).contains (.ref C) = true := by simp
  have i2 := hi.keeps up
  have b2 := (hb (.ref (h.objs.size + 1))).keeps up
  unfold isInstance
  repeat (first
    | with_reducible refine wpAny_loadPart_at ge ?_
    | (with_reducible refine wpAny_isSubtype_exc c2 ?_; rw [cc])
    | wp_step)
  show wpAny _ _ (typeLookup (.ref C) _) _ _ _
  refine i2.at ?_
  refine wpAny_holding (wpAny_bind (b2.at ?_))
  refine wpAny_bind (wpAny_call (codeAny_mono hq fun r s' z => ?_))
  rcases r with e | (v | _ | _ | _) <;> first | exact z | exact z.elim | skip
  obtain ⟨rfl, z⟩ := z
  first
    | exact wpAny_pure (wpAny_pure z)
    | (wp_walk; exact z)
theorem xk_call {fI : Addr} (F : ExcBaseFacts B newId initId bmB) (hT : ∀ X : String, bm.contains (.type X) = bmB.contains (.type X)) (hC : h.get? C = some (excClassObj nm q C N bs bm hdct sn sub ab col dd k0 k1 k2 k3 k5 newId))
    (hi : Looks (model prog w) h (typeLookup (.ref C) "__init__") (some (.ref fI))) (hb : ∀ self, Looks (model prog w) h (bindSpecial (.ref fI) self) (.ref fI, [self]))
    (hq : codeAny (model prog w) (A.under (.builtin "type.__call__" ⟨[.ref C], kw⟩)) (.call (.ref fI) ⟨[.ref (h.objs.size + 1)], kw⟩) (InitBack (h.objs.size + 1) R) (sh5 ((h.push (kdv_tup [])).push (excO C h.objs.size)) g d t os)) :
    codeAny (model prog w) A (.call (.ref C) ⟨[], kw⟩) R (sh5 h g d t os) := by
  have f1 := tc_lookup
  have f2 := tc_bind (.ref C)
  have ty : (sh5 h g d t os).TypeIs (.ref C) "type" := ⟨_, hC, rfl⟩
  refine codeAny_of_tree ?_
  show wpAny _ _ (callAny (.ref C) _) _ _ _
  repeat (any_goals (first | assumption | with_reducible refine wpAny_loadPart_at hC ?_ | wp_step))
  refine ⟨rfl, ?_⟩
  refine codeAny_call_builtin_at (Code.quiet_builtin _ (by decide +kernel)) entry_typeCall (wpAny_check_type_call_sub hC (xk_type F hT hC hi hb ?_))
  refine codeAny_mono hq fun r s' z => ?_
  rcases r with e | (v | _ | _ | _) <;> exact z
end
open L2
/-- the keywords' values, in the parameters' order -/
def pr {α : Type} (rev : Bool) (l : List α) : List α := if rev = true then l.reverse else l
theorem pr_len {α : Type} (rev : Bool) (l : List α) : (pr rev l).length = l.length := by cases rev <;> simp [pr]
theorem vals_rev : ∀ {vs : List V} {us : List Value}, Vals vs us → Vals vs.reverse us.reverse
  | [], _, r => by cases r; exact .nil
  | v :: vs, _, r => by
    cases r with
    | cons r1 r2 =>
      rw [List.reverse_cons, List.reverse_cons]
      exact (vals_rev r2).append (.cons r1 .nil)
theorem vals_pr (rev : Bool) {vs : List V} {us : List Value} (r : Vals vs us) : Vals (pr rev vs) (pr rev us) := by
  cases rev
  · exact r
  · exact vals_rev r
def KwB (K : PySem.W.Frag) (fd : FuncData) (ps ks : List Str) (rev : Bool) : Prop := ∀ (s : Shared) (u : Value) (ws : List Value), K.In s.heap → ws.length = ks.length → BindsTo s fd ⟨[u], ks.zip ws⟩ (ps.zip (u :: pr rev ws))
/-- C(k = v, ..).f, C an own exception class with own __init__ -/
def tKwf (C : Addr) (sp : Sp) (rev : Bool) (f : Str) (tk : TA) : TE := fun σ H Q => tk σ H fun zs H1 => zs.length ≤ 1000 ∧ ∀ a, H1 a = none → sp (.ref a :: pr rev zs) (L2.upd H1 a (exo a C none))
  (fun v H2 => v = .non ∧ ∃ (d : Addr) (fs : List (Str × V)) (z : V), H2 a = some (exo a C (some d)) ∧ H2 d = some (exd d fs) ∧ H1 d = none ∧ fs.lookup f = some z ∧ Q z (L2.upd (L2.del H2 a) d (.xd fs))) (fun _ _ _ => False)
theorem pe_kwf {X : Cx} {CX : CXT} {x f : Str} {C fI : Addr} {k : Nat} {fd : FuncData} {ps ks : List Str} {sp : Sp} {rev : Bool} {kws : List Keyword} {tk : TA} {p pos pos2 : Pos} (T : OexC X.K C) (xf : XfC X.K C) (hno : PySem.W.findIn X.K (.ref C) f = some none) (iC : PySem.W.findIn X.K (.ref C) "__init__" = some (some (.ref fI))) (tI : PySem.W.typeIn X.K (.ref fI) = some (.type "function"))
    (F1 : FnOk X.prog X.w X.K X.mg X.base CX k fI fd ps sp) (hr : Room (k + 1) X.A) (hb : KwB X.K fd ps ks rev) (hx : Passes CX X (fun _ _ _ => False)) (hg : Gl X x) (hm : X.mg x = some (.ref C)) (hkw : PK X kws tk) (hpz : ps.length = ks.length + 1)
    (hall : (backToKw pos (keywordEach kws X.env)).all (·.1.isSome) = true := by rfl) (hks : (backToKw pos (keywordEach kws X.env)).filterMap (·.1) = ks := by rfl) (hdb : (x == ("__debug__" : Str)) = false := by decide)
    (hpl : ((backTo pos (starEach [] X.env)).any (·.1) || (backToKw pos (keywordEach kws X.env)).any (·.1.isNone)) = false := by rfl)
    (hba : attributeBase (.Call (.Name x p) [] kws pos) f X.env (eval (.Call (.Name x p) [] kws pos) X.env) = eval (.Call (.Name x p) [] kws pos) X.env := by rfl) :
    PE X (.Attribute (.Call (.Name x p) [] kws pos) f pos2) (tKwf C sp rev f tk) := by
  refine ⟨fun pins s σ H Q I h => ?_⟩
  obtain ⟨nm, q, N, bs, bm, sn, sub, ab, col, dd, k0, k1, k2, k3, k5, hC, hbm⟩ := T.cls
  refine attr_of hba ?_
  refine wpAny_Call_Name_kw (ld_glob I hg hm ?_ hdb)
  refine PySem.W.callWith_KW0 (h₀ := X.base) I.ok.mod.kin T.kC hall (thn (hkw.run pos pins s σ H _ I h) fun ws s1 ⟨zs, H1, I1, rz, hz, q1⟩ => ⟨I1.kIn, ?_⟩) hpl
  rw [hks]
  show wpAny _ _ (call (.ref C) [] (ks.zip ws)) _ _ _
  obtain ⟨hp, g, dr, t1, os⟩ := s1
  have hsz : hp.objs.size ≤ hp.objs.size + 1 := Nat.le_succ _
  have hn : H1 (hp.objs.size + 1) = none := I1.hok.fresh hsz
  have hq := q1 (hp.objs.size + 1) hn
  have up : ∀ b o, hp.get? b = some o → ((hp.push (PySem.W.kdv_tup [])).push (PySem.HandSPX.excO C hp.objs.size)).get? b = some o := fun b o e => Heap.get?_push_of_some _ (Heap.get?_push_of_some _ e)
  have ge : ((hp.push (PySem.W.kdv_tup [])).push (PySem.HandSPX.excO C hp.objs.size)).get? (hp.objs.size + 1) = some (PySem.HandSPX.excO C hp.objs.size) := by heap_get
  have I2 : Inv X pins σ (L2.upd H1 (hp.objs.size + 1) (exo (hp.objs.size + 1) C none)) ⟨(hp.push (PySem.W.kdv_tup [])).push (PySem.HandSPX.excO C hp.objs.size), g, dr, t1, os⟩ :=
    I1.laid (t' := t1) (a := hp.objs.size + 1) (o := exo (hp.objs.size + 1) C none) (h' := (hp.push (PySem.W.kdv_tup [])).push (PySem.HandSPX.excO C hp.objs.size)) up hsz (exo_ok ge)
  have r2 : Vals (V.ref (hp.objs.size + 1) :: pr rev zs) (Value.ref (hp.objs.size + 1) :: pr rev ws) := .cons rfl (vals_pr rev rz)
  have hl : ws.length = ks.length := by
    have e := r2.length
    rw [F1.len _ _ _ _ hq] at e
    rw [List.length_cons, pr_len] at e
    omega
  refine wpAny_call (xk_call F.excBase_ValueError (fun Y => PySem.HandSPX.refsVE_contains Y bm hbm) (I1.kIn _ _ hC) (PySem.W.looks_findIn I1.kIn iC) (fun self => PySem.W.bind_fn I1.kIn self tI)
    (codeAny_mono (F1.run _ X.stack _ _ ⟨[Value.ref (hp.objs.size + 1)], ks.zip ws⟩ (Value.ref (hp.objs.size + 1) :: pr rev ws) _ _ (fun _ _ _ => False) (hr.make C [] (ks.zip ws)) (I2.env0.make C [] (ks.zip ws)) (hb _ _ ws I2.kIn hl) r2 hq) fun r s' hq' => ?_))
  cases r with
  | error er => exact hx pins σ _ _ er s' I2 hq'
  | ok fl =>
    cases fl with
    | ret u =>
      obtain ⟨v, H2, os2, bare2, un2, hok2, rv, ev, d, fs, z, ea, ed, hd1, hlk, q2⟩ := hq'
      subst ev
      obtain ⟨h2, g2, d2, t2, os'⟩ := s'
      obtain ⟨t0, G, J, kG, gn, hoe, na⟩ := mk_end0 (d2 := d2) (t2 := t2) I1 hsz up un2 hok2 os2 bare2 ea ed hd1
      have J2 := J.kept (h' := h2) (t' := t2) kG
      refine ⟨rv, ?_⟩
      obtain ⟨mA, hns, hre⟩ := J2.hok d (.xd fs) L2.upd_same
      obtain ⟨od, ho, hlo⟩ := lookIn_ns hns
      obtain ⟨w, hw, rw_⟩ := RelO.some_of (v := z) (o := mA f) (by rw [← hlk]; exact hre f)
      have IA : PySem.W.InstAt h2 (hp.objs.size + 1) ({ cls := .ref C, dict := some d, data := .fields #[.ref t0, .none, .none, .none, .bool false, .none] } : Obj) C (some od) := ⟨hoe, rfl, rfl, ho⟩
      exact PySem.HandSPX.exc_get J2.kIn IA xf.ga xf.gg xf.exC (PySem.W.findObj_own xf.hdC hno rfl (by rw [hlo, hw])) (handed_of rw_) ⟨z, _, J2.tok _, rw_, q2⟩
    | next => exact False.elim hq'
    | brk => exact False.elim hq'
    | cont => exact False.elim hq'
abbrev MK (X : Cx) (T : Nat → Addr) (W : WX) (kws : List Keyword) (f : EF (List U)) : Prop := PK X kws (Tg X.K T (relL X.K T) W f)
theorem PK.imp {X : Cx} {kws : List Keyword} {t t' : TA} (h : PK X kws t) (k : ∀ σ H Q, t' σ H Q → t σ H Q) : PK X kws t' := ⟨fun pos pins s σ H Q I q => h.run pos pins s σ H Q I (k σ H Q q)⟩
/-- C(k = v, ..).f: names are the fields, in the order of the parameters -/
def eKwf (names : List Str) (rev : Bool) (f : Str) (fk : EF (List U)) : EF U := fun ρ st => (fk ρ st).bind fun us st1 => match ofUs us with
  | some ds => if ds.length = names.length then match (names.zip (pr rev ds)).reverse.lookup f with
      | some z => .ok (.d z) st1
      | none => .bad
    else .bad
  | none => .bad
section
variable {X : Cx} {T : Nat → Addr} {W : WX} {pos kpos p pos2 : Pos} {e : Expr} {kws : List Keyword} {fa : EF U} {fk : EF (List U)} {nm : Option Str} {x f : Str}
theorem m_knil : MK X T W [] eNil := PK.imp pk_nil fun σ H Q ⟨M, ρ, st, rep, go⟩ => Go.now (b := ([] : List V)) rep.sto go .nil
theorem m_karg (he : ME X T W e fa) (ha : MK X T W kws fk) : MK X T W (⟨nm, e, kpos⟩ :: kws) (eCons fa fk) := by
  refine PK.imp (pk_cons he ha) fun σ H Q ⟨M, ρ, st, rep, go⟩ => ?_
  refine ⟨M, ρ, st, rep, (Go.bind (Rel := relU X.K T) rep go).mono fun x H1 ⟨M1, st1, u, e1, rep1, ru, go1⟩ => ?_⟩
  refine ⟨M1, ρ, st1, rep1, (Go.bind (Rel := relL X.K T) rep1 go1).mono fun xs H2 ⟨M2, st2, us, e2, rep2, rus, go2⟩ => ?_⟩
  exact Go.now rep2.sto go2 (.cons (RU.ext e2 ru) rus)
theorem RDs.pr {K M H} (rev : Bool) {vs : List V} {ds : List D} (r : RDs K T M H vs ds) : RDs K T M H (MM.pr rev vs) (MM.pr rev ds) := by
  have go : ∀ {vs : List V} {ds : List D}, RDs K T M H vs ds → RDs K T M H vs.reverse ds.reverse := by
    intro vs
    induction vs with
    | nil => intro ds r; cases r; exact .nil
    | cons v vs ih =>
      intro ds r
      cases r with
      | cons r1 r2 =>
        rw [List.reverse_cons, List.reverse_cons]
        exact RDs.app (ih r2) (.cons r1 .nil)
  cases rev
  · exact r
  · exact go r
theorem m_kwf {c : Nat} {names : List Str} {rev : Bool} {fI : Addr} {k : Nat} {fd : FuncData} {ps ks : List Str} (ox : OexC X.K (T c)) (xf : XfC X.K (T c)) (hno : PySem.W.findIn X.K (.ref (T c)) f = some none) (iC : PySem.W.findIn X.K (.ref (T c)) "__init__" = some (some (.ref fI))) (tI : PySem.W.typeIn X.K (.ref fI) = some (.type "function"))
    (F1 : FnOk X.prog X.w X.K X.mg X.base (L2.CX X.prog X.w) k fI fd ps (spX (T c) names)) (hr : Room (k + 1) X.A) (hb : KwB X.K fd ps ks rev) (hg : Gl X x) (hm : X.mg x = some (.ref (T c))) (hz : names.length ≤ 1000) (hkw : MK X T W kws fk) (hpz : ps.length = ks.length + 1)
    (hall : (backToKw pos (keywordEach kws X.env)).all (·.1.isSome) = true := by rfl) (hks : (backToKw pos (keywordEach kws X.env)).filterMap (·.1) = ks := by rfl) (hdb : (x == ("__debug__" : Str)) = false := by decide)
    (hpl : ((backTo pos (starEach [] X.env)).any (·.1) || (backToKw pos (keywordEach kws X.env)).any (·.1.isNone)) = false := by rfl)
    (hba : attributeBase (.Call (.Name x p) [] kws pos) f X.env (eval (.Call (.Name x p) [] kws pos) X.env) = eval (.Call (.Name x p) [] kws pos) X.env := by rfl) :
    ME X T W (.Attribute (.Call (.Name x p) [] kws pos) f pos2) (eKwf names rev f fk) := by
  refine PE.imp (pe_kwf ox xf hno iC tI F1 hr hb passL hg hm hkw hpz hall hks hdb hpl hba) fun σ H Q ⟨M, ρ, st, rep, go⟩ => ?_
  refine ⟨M, ρ, st, rep, (Go.bind (Rel := relL X.K T) rep go).mono fun vs H1 ⟨M1, st1, us, e1, rep1, rus, go1⟩ => ?_⟩
  cases q : ofUs us with
  | none => simp only [q] at go1; exact go1.elim
  | some ds =>
    simp only [q] at go1
    have r := RU.all rus q
    by_cases hl : ds.length = names.length
    · simp only [hl, if_true] at go1
      have hvl : vs.length = names.length := by rw [r.length]; exact hl
      cases q2 : (names.zip (pr rev ds)).reverse.lookup f with
      | none => simp only [q2] at go1; exact go1.elim
      | some z =>
        simp only [q2] at go1
        obtain ⟨zv, hzv, rz⟩ := RFs.lookup (RFs.rev (RFs.zip (names := names) (RDs.pr rev r))) q2
        refine ⟨by omega, fun a hna => ⟨by simp [pr_len, hvl], a, pr rev vs, rfl, upd_same, fun dx hd ne => ?_⟩⟩
        have hd1 : H1 dx = none := by rw [upd_ne ne] at hd; exact hd
        refine ⟨rfl, dx, _, zv, upd_same, by rw [upd_ne ne, upd_same], hd1, hzv, ?_⟩
        rw [upd_del hna ne]
        have ex := Ext.lay (M := M1) (o := .xd (names.zip (pr rev vs)).reverse) hd1
        exact go1 M1 _ zv ex (rep1.sto.lay (o := .xd (names.zip (pr rev vs)).reverse) hd1) (.d (rz.ext ex))
    · simp only [hl, if_false] at go1
      exact go1.elim
end
end MM
set_option maxRecDepth 100000
set_option maxHeartbeats 4000000
set_option autoImplicit false
/-! M35: isinstance of a caught own error, with or without a dict -/
namespace MM
open PySem PySem.Spec PySem.Calls PyProof.Rows PySem.W PySem.HandSPX
section
variable {prog : Program} {w : World} {A : Around} {E : Value → Shared → Prop} {s : Shared} {K : Frag} {x D : Addr} {ox : Obj} {od : Option Obj}
theorem fo_data {C : Addr} {name : Str} {a g : Value} (hc : (clsIn K C).isSome = true) (ha : findIn K (.ref C) name = some (some a)) (hg : specialIn K a "__get__" = some (some g)) (ht : takesIn K a = some true) : findObj K C od name = some (.bind g a) := by
  obtain ⟨cd, e⟩ := Option.isSome_iff_exists.mp hc
  unfold findObj
  rw [e, Option.bind_some, ha, Option.bind_some]
  simp [hg, ht]
theorem cls_at {Q : Option Value → Shared → Prop} (C : L2.ExcC K D) (X : K.In s.heap) (I : InstAt s.heap x ox D od) (h : Q (some (.ref D)) { s with toks := s.toks + 1 }) : wpAny (model prog w) A (getAttr? (.ref x) "__class__") Q E s := by
  have hf : findObj K D od "__class__" = some (.bind (.builtin "getset_descriptor.__get__") (.builtin "object.__class__")) := fo_data (by
    obtain ⟨cd, e, _⟩ := any_some C.hd
    rw [e]
    rfl) C.ha C.hn C.ht
  obtain ⟨hp, g, d, t, os⟩ := s
  have a0 := I.type (M := model prog w)
  have a1 := looks_findIn (M := model prog w) X C.hg
  have a2 := looks_findIn (M := model prog w) X C.hk
  have a3 := looks_find (M := model prog w) X I hf
  have sb : Looks (model prog w) hp (isInstance (.ref x) (.type "BaseException")) true := a0.andThen (looks_subIn X C.hs)
  have y0 : (false && onTheHeap (Value.builtin "BaseException.__getattribute__")) = false := rfl
  have y2 : (Value.builtin "BaseException.__getattribute__" == Value.builtin "object.__getattribute__") = false := by decide +kernel
  have y1 : (onTheHeap (Value.ref D) && Value.builtin "BaseException.__getattribute__" == Value.builtin "object.__getattribute__") = false := by rw [y2]; rfl
  unfold getAttr? getAttrBy? getAttrBy
  refine wpAny_bind (wpAny_mkText (wpAny_bind (wpAny_attempt (wpAny_holding (wpAny_bind (a0.at (wpAny_bind (a1.at ?_))))))))
  show wpAny _ _ (if (onTheHeap (Value.ref D) && Value.builtin "BaseException.__getattribute__" == Value.builtin "object.__getattribute__") = true then _ else _) _ _ _
  rw [y1, if_neg Bool.false_ne_true]
  unfold getAttrByItsOwn hookBefore
  refine wpAny_bind ?_
  rw [if_pos (show onTheHeap (Value.ref D) = true from rfl)]
  refine a2.at ?_
  refine wpAny_bind (wpAny_attempt (wpAny_holding ?_))
  unfold callGetattribute
  rw [y0, if_neg Bool.false_ne_true]
  unfold boundAndCalled
  rw [PySem.F.excAttr_ValueError.ga.bind (.ref x)]
  refine wpAny_bind (wpAny_pure ?_)
  show wpAny _ _ (call (.builtin "BaseException.__getattribute__") [.ref x, .str "__class__" t]) _ _ _
  refine wpAny_call (codeAny_call_builtin PySem.F.excAttr_ValueError.ga.plain PySem.F.entry_bexc_ga ?_)
  refine @check_slot (model prog w) _ _ ⟨hp, g, d, t + 1, os⟩ "BaseException.__getattribute__" "BaseException" "__getattribute__" (.ref x) [.str "__class__" t] [] _ (by decide +kernel) (by decide +kernel) sb (PySem.F.args_bexc_ga (.ref x) (.str "__class__" t)) ?_
  unfold Builtin.«object.__getattribute__»
  refine wpAny_bind (wpAny_of_eq (a := ((Value.ref x : Value), [Value.str "__class__" t])) (by first | rfl | (simp only [slotArgs]; rfl)) ?_)
  refine wpAny_bind (wpAny_pure (wpAny_bind (a0.at (wpAny_bind (a3.at ?_)))))
  show wpAny _ _ (holding [Value.builtin "object.__class__"] (call (.builtin "getset_descriptor.__get__") [.builtin "object.__class__", .ref x, .ref D]) >>= ret) _ _ _
  refine wpAny_bind (wpAny_holding (wpAny_call (class_get (s := ⟨hp, g, d, t + 1, os⟩) (ox := ox) (od := od) X I C.hm ?_)))
  refine wpAny_pure ?_
  show wpAny _ _ (handedOut (.ref D)) _ _ _
  rw [handedOut_of (v := .ref D) rfl]
  first
    | exact wpAny_pure (wpAny_pure h)
    | exact wpAny_pure h
    | exact wpAny_pure (wpAny_bind (wpAny_pure (wpAny_pure h)))
theorem kit_exc (C : L2.ExcC K D) : KitX K (.ref x) (.ref D) (fun h => InstAt h x ox D od) where
  ty := fun _ _ _ I => I.type
  it := fun _ _ X _ => by
    obtain ⟨cdD, e, _⟩ := any_some C.hd
    unfold clsIn at e
    split at e
    · rename_i ho
      intro A' Q' E' s' k q
      unfold isType loadHead
      exact wpAny_bind (wpAny_loadPart (k _ _ (X _ _ ho)) (wpAny_pure q))
    · cases e
  ne := fun h tp dd its n sl X htp => by
    obtain ⟨cdD, e, _⟩ := any_some C.hd
    refine Bool.eq_false_iff.mpr fun q => ?_
    obtain rfl : D = tp := Value.ref.inj (beq_iff_eq.mp q)
    unfold clsIn at e
    split at e
    · rename_i ho
      have z := (X _ _ ho).symm.trans htp
      cases z
    · cases e
  ca := fun X I k => cls_at C X I k
end
open L2
/-- the dict of the caught error stands, if it has one -/
def DictAt (H : Hp) : Option Addr → Prop
  | none => True
  | some d => ∃ fs, H d = some (.xd fs)
def rIsO (K : PySem.W.Frag) (D a : Addr) (dd : Option Addr) : List V → Hp → VK → Prop := fun xs H Q => ∃ (c : V) (cv : Value) (b : Bool), xs = [.ref a, c] ∧ ClsV c cv ∧ DictAt H dd ∧ PySem.W.kitOne K (.ref D) cv = some b ∧ Q (.bl b) H
theorem call_isO {X : Cx} {a D : Addr} {oe : Obj} {dd : Option Addr} {pn : List (Addr × Obj)} (C : ExcC X.K D) (hz : Zc (.ref D) dd oe) (hf : ∃ vs, oe.data = .fields vs) : CallR (X.suite a ((a, oe) :: pn)) (.builtin "isinstance") (rIsO X.K D a dd) := by
  intro pins s σ H xs us Q I r h
  obtain ⟨c, cv, b, rfl, hcv, hda, e, q⟩ := h
  cases r with
  | cons rx rr =>
    cases rr with
    | cons rt rr =>
      cases rr
      cases rx
      obtain rfl := hcv.eq rt
      obtain ⟨hget, _⟩ := I.pin (a, oe) (List.mem_append.mpr (.inl List.mem_cons_self))
      obtain ⟨vs, hv⟩ := hf
      have J : ∃ od, PySem.W.InstAt s.heap a oe D od := by
        obtain ⟨oc, od, oda, osl⟩ := oe
        obtain ⟨h1, h2⟩ := hz
        dsimp only at h1 h2 hv
        subst h1 h2 hv
        cases od with
        | none => exact ⟨none, hget, rfl, rfl, trivial⟩
        | some d =>
          obtain ⟨fs, hd⟩ := hda
          obtain ⟨mA, hns, _⟩ := I.hok d (.xd fs) hd
          obtain ⟨o, ho, _⟩ := lookIn_ns hns
          exact ⟨some o, hget, rfl, rfl, ho⟩
      obtain ⟨od, J⟩ := J
      exact PySem.W.kia_one (kit_exc C) I.kIn J e (fun z => nomatch z) fun tk => ⟨.bl b, H, I.kept (t' := tk) fun _ _ z => z, rfl, q⟩
end MM
set_option maxRecDepth 100000
set_option maxHeartbeats 4000000
set_option autoImplicit false
/-! M36: isinstance of a caught own error by values; an own error without fields that is raised at the end of a try's body -/
namespace MM
open PySem PySem.Spec PyProof.Rows L2
/-- isinstance(e, C), e the caught error with fields; b the answer -/
def eIsE (a d : Addr) (c : Nat) (b : Option Bool) (fa : EF U) : EF U := fun ρ st => (fa ρ st).bind fun u st1 => match u with
  | .d (.exc a' d' c' (_ :: _)) => if a' = a ∧ d' = d ∧ c' = c then match b with
      | some b => .ok (.d (.bool b)) st1
      | none => .bad
    else .bad
  | _ => .bad
/-- the same, without fields -/
def eIsN (a : Addr) (c : Nat) (b : Option Bool) (fa : EF U) : EF U := fun ρ st => (fa ρ st).bind fun u st1 => match u with
  | .d (.exc a' _ c' []) => if a' = a ∧ c' = c then match b with
      | some b => .ok (.d (.bool b)) st1
      | none => .bad
    else .bad
  | _ => .bad
def eBad : EF U := fun _ _ => .bad
section
variable {X : Cx} {T : Nat → Addr} {W : WX} {x : Str} {p p1 pos : Pos} {e : Expr} {fa : EF U} {a d : Addr} {c : Nat} {b : Option Bool} {oe : Obj} {pn : List (Addr × Obj)} {cv : Value} {v : V}
theorem m_isE (C : ExcC X.K (T c)) (hz : Zc (.ref (T c)) (some d) oe) (hf : ∃ vs, oe.data = .fields vs) (hc : ClsV v cv) (hk : ∀ r, b = some r → PySem.W.kitOne X.K (.ref (T c)) cv = some r) (hg : Gl X "isinstance") (hm : X.mg "isinstance" = none) (hv : bootBuiltins "isinstance" = some (.builtin "isinstance"))
    (hx : PE (X.suite a ((a, oe) :: pn)) (.Name x p1) (tC v)) (he : ME (X.suite a ((a, oe) :: pn)) T W e fa)
    (h1 : starEach [e, .Name x p1] X.env = (false, eval e X.env) :: starEach [.Name x p1] X.env := by rfl) (h2 : starEach [.Name x p1] X.env = (false, eval (.Name x p1) X.env) :: starEach [] X.env := by rfl) (hpl : (backTo pos (starEach [.Name x p1] X.env)).any (·.1) = false := by rfl) :
    ME (X.suite a ((a, oe) :: pn)) T W (.Call (.Name "isinstance" p) [e, .Name x p1] [] pos) (eIsE a d c b fa) := by
  refine PE.imp (pe_callB (X := X.suite a ((a, oe) :: pn)) (call_isO C hz hf) hg hm hv (pa_cons he (pa_cons hx pa_nil h2) h1) (by decide) (by decide) h1 hpl) fun σ H Q ⟨M, ρ, st, rep, go⟩ => ?_
  refine ⟨M, ρ, st, rep, (Go.bind (Rel := relU X.K T) rep go).mono fun w H1 ⟨M1, st1, u, e1, rep1, ru, go1⟩ => ?_⟩
  cases u with
  | loc _ => exact go1.elim
  | d y =>
    cases y with
    | exc a' d' c' fs =>
      cases fs with
      | nil => exact go1.elim
      | cons f fs =>
        simp only at go1
        by_cases hh : a' = a ∧ d' = d ∧ c' = c
        · obtain ⟨rfl, rfl, rfl⟩ := hh
          simp only [and_self, if_true] at go1
          cases q : b with
          | none => simp only [q] at go1; exact go1.elim
          | some r =>
            simp only [q] at go1
            cases ru with
            | d ru =>
              cases ru with
              | exc hm2 hd rf => exact ⟨_, cv, r, rfl, hc, ⟨_, hd⟩, hk r q, Go.now rep1.sto go1 (.d (.bl _))⟩
        · simp only [hh, if_false] at go1
          exact go1.elim
    | _ => exact go1.elim
theorem m_isN (C : ExcC X.K (T c)) (hz : Zc (.ref (T c)) none oe) (hf : ∃ vs, oe.data = .fields vs) (hc : ClsV v cv) (hk : ∀ r, b = some r → PySem.W.kitOne X.K (.ref (T c)) cv = some r) (hg : Gl X "isinstance") (hm : X.mg "isinstance" = none) (hv : bootBuiltins "isinstance" = some (.builtin "isinstance"))
    (hx : PE (X.suite a ((a, oe) :: pn)) (.Name x p1) (tC v)) (he : ME (X.suite a ((a, oe) :: pn)) T W e fa)
    (h1 : starEach [e, .Name x p1] X.env = (false, eval e X.env) :: starEach [.Name x p1] X.env := by rfl) (h2 : starEach [.Name x p1] X.env = (false, eval (.Name x p1) X.env) :: starEach [] X.env := by rfl) (hpl : (backTo pos (starEach [.Name x p1] X.env)).any (·.1) = false := by rfl) :
    ME (X.suite a ((a, oe) :: pn)) T W (.Call (.Name "isinstance" p) [e, .Name x p1] [] pos) (eIsN a c b fa) := by
  refine PE.imp (pe_callB (X := X.suite a ((a, oe) :: pn)) (call_isO C hz hf) hg hm hv (pa_cons he (pa_cons hx pa_nil h2) h1) (by decide) (by decide) h1 hpl) fun σ H Q ⟨M, ρ, st, rep, go⟩ => ?_
  refine ⟨M, ρ, st, rep, (Go.bind (Rel := relU X.K T) rep go).mono fun w H1 ⟨M1, st1, u, e1, rep1, ru, go1⟩ => ?_⟩
  cases u with
  | loc _ => exact go1.elim
  | d y =>
    cases y with
    | exc a' d' c' fs =>
      cases fs with
      | cons f fs => exact go1.elim
      | nil =>
        simp only at go1
        by_cases hh : a' = a ∧ c' = c
        · obtain ⟨rfl, rfl⟩ := hh
          simp only [and_self, if_true] at go1
          cases q : b with
          | none => simp only [q] at go1; exact go1.elim
          | some r =>
            simp only [q] at go1
            have ew : w = .ref a' := by
              cases ru with
              | d ru => cases ru <;> rfl
            subst ew
            exact ⟨_, cv, r, rfl, hc, trivial, hk r q, Go.now rep1.sto go1 (.d (.bl _))⟩
        · simp only [hh, if_false] at go1
          exact go1.elim
    | _ => exact go1.elim
/-- an expression of which nothing is known -/
theorem m_bad {X : Cx} {e : Expr} : ME X T W e eBad := ⟨fun pins s σ H Q I ⟨M, ρ, st, rep, go⟩ => go.elim⟩
end
/-! ### raise N(), N without fields, last in a try's body -/
section
variable {X : Cx} {B newId initId : String} {bmB : List Value} {C : Addr}
theorem pmk_own0 {x : Str} {p pos : Pos} (F : ExcBaseFacts B newId initId bmB) (q : PySem.W.excIn X.K C bmB newId = true) (gC : X.mg x = some (.ref C)) (kC : PySem.W.keepIn X.K (.ref C) = true) (r : Raises X (.ref C)) (hg : Gl X x)
    (hdb : (x == ("__debug__" : Str)) = false := by decide) : PMk X (.Call (.Name x p) [] [] pos) (fun _ H Q => Q (.ref C) none H) := by
  intro pins s σ H Q I h
  refine wpAny_Call_Name_kw (ld_glob I hg gC ?_ hdb)
  refine PySem.W.callWith_K0 I.kIn kC ?_
  show wpAny _ _ (call (.ref C) []) _ _ _
  obtain ⟨bm, N, nm, qn, bs, hdct, sn, sub, ab, col, dd, k0, k1, k2, k3, k5, mN, hC, hN, hni, T⟩ := exc_obj I.kIn q
  refine wpAny_call_exc_subT F T hC hN hni (fun h' e hm => ?_) (Nat.zero_le _)
  exact mk_of I hm r h (I.hok.gone hm.new)
end
def WN (T : Nat → Addr) (W : WX) (n : Nat) : L2.St → Hp → Prop := fun σ H => W (.ref (T n)) none σ H
def endN (T : Nat → Addr) (W : WX) (n : Nat) (D : Ends) : Ends := { nx := D.nx, rt := D.rt, bk := WN T W n, ct := D.ct }
def TSn (K : PySem.W.Frag) (T : Nat → Addr) (W : WX) (n : Nat) (g : SF) : TS := fun D σ H => TSg K T W g (endN T W n D) σ H
def sSeqN (g1 g2 : SF) : SF := fun ρ st => match g1 ρ st with
  | .nx ρ' st' => g2 ρ' st'
  | .rt u st' => .rt u st'
  | .exc c fs ρ' st' => .exc c fs ρ' st'
  | _ => .bad
section
variable {X : Cx} {T : Nat → Addr} {W : WX} {n : Nat} {st : Stmt} {ss : List Stmt} {g g1 g2 : SF} {x : Str} {p pos pos' : Pos} {B newId initId : String} {bmB : List Value}
theorem ms_ncons (h1 : MS X T W st g1) (h2 : PSs X ss (TSn X.K T W n g2)) : PSs X (st :: ss) (TSn X.K T W n (sSeqN g1 g2)) := by
  refine PSs.imp (pss_cons h1 h2) fun D σ H ⟨M, ρ, s, rep, go⟩ => ⟨M, ρ, s, rep, ?_⟩
  unfold sSeqN at go
  cases q : g1 ρ s with
  | nx ρ' s' =>
    rw [q] at go
    exact fun M' H' σ' e rep' => ⟨M', ρ', s', rep', GoS.base go e⟩
  | rt u s' => rw [q] at go; exact go
  | exc c fs ρ' s' => rw [q] at go; exact go
  | bk _ _ => rw [q] at go; exact go.elim
  | ct _ _ => rw [q] at go; exact go.elim
  | bad => rw [q] at go; exact go.elim
theorem ms_nend (hc : X.calm = true) (tk : Takes X W) (F : ExcBaseFacts B newId initId bmB) (q : PySem.W.excIn X.K (T n) bmB newId = true) (gC : X.mg x = some (.ref (T n))) (kC : PySem.W.keepIn X.K (.ref (T n)) = true) (r : Raises X (.ref (T n))) (hg : Gl X x)
    (hdb : (x == ("__debug__" : Str)) = false := by decide) : PSs X [.Raise (some (.Call (.Name x p) [] [] pos)) none pos'] (TSn X.K T W n sBk) :=
  PSs.imp (pss_one (ps_raise hc tk (pmk_own0 F q gC kC r hg hdb))) fun D σ H ⟨M, ρ, s, rep, go⟩ => go M H σ Ext.refl rep
noncomputable def sTryN (i : Nat) (n : Nat) (test : Nat → Option Bool) (gb : SF) (gs : Addr → Addr → Nat → SF) (gN : Addr → SF) : SF := fun ρ st => match gb ρ st with
  | .exc c fs ρ' st' => match test c with
    | some true => indep fun a d => (gs a d c (ρ'.set i (some (.d (.exc a d c fs)))) st').wipe i
    | some false => .exc c fs ρ' st'
    | none => .bad
  | .bk ρ' st' => indep fun a d => (gN a (ρ'.set i (some (.d (.exc a d n [])))) st').wipe i
  | r => r
theorem ms_tryN {i : Nat} {y np' : Str} {cv : Value} {test : Nat → Option Bool} {body suite : List Stmt} {b₀ : Stmt} {np pos'' : Pos} {gb : SF} {gs : Addr → Addr → Nat → SF} {gN : Addr → SF} (hs : X.stack = X.env :: X.outer) (hf : X.env.frame = some X.env.locals) (hN : X.N.Nodup) (hi : X.N[i]? = some np') (hln : X.env.kindOf np' = some .local) (hc : Names X y cv) (tk : Takes X W)
    (ht : ∀ c b, test c = some b → PySem.W.exmOne X.K (.ref (T c)) cv = some b) (hn : PySem.W.exmOne X.K (.ref (T n)) cv = some true)
    (hb : ∀ (W : WX) (pn : List (Addr × Obj)) (xe : Value → Shared → Prop), Takes (X.tr pn xe) W → PassesOwn (model X.prog X.w) X.A X.env xe → PSs (X.tr pn xe) body (TSn X.K T W n gb))
    (hsu : ∀ (a : Addr) (oe : Obj) (c : Nat) (d : Addr) (pn : List (Addr × Obj)), test c = some true → Zc (.ref (T c)) (some d) oe → (∃ vs, oe.data = .fields vs) → MSs (X.suite a ((a, oe) :: pn)) T W0 (b₀ :: suite) (gs a d c))
    (hsn : ∀ (a : Addr) (oe : Obj) (pn : List (Addr × Obj)), Zc (.ref (T n)) none oe → (∃ vs, oe.data = .fields vs) → MSs (X.suite a ((a, oe) :: pn)) T W0 (b₀ :: suite) (gN a)) :
    MS X T W (.Try body [.ExceptHandler (some (.Name y np)) (some np') (b₀ :: suite) pos'] [] [] pos'') (sTryN i n test gb gs gN) := by
  refine PS.imp (ps_try_as (tb := fun W' => TSn X.K T W' n gb) (ts := fun a cls d D σ H => (∃ c d', cls = .ref (T c) ∧ d = some d' ∧ test c = some true ∧ TSg X.K T W0 (gs a d' c) D σ H) ∨ (cls = .ref (T n) ∧ d = none ∧ TSg X.K T W0 (gN a) D σ H)) (Wout := W) hs hf hN hi hln hc tk hb (fun a oe cls d pn hz hv => ⟨fun pins s σ H D I h => ?_⟩)) fun D σ H ⟨M, ρ, st, rep, go⟩ => ?_
  · rcases h with ⟨c, d', rfl, rfl, ht', h⟩ | ⟨rfl, rfl, h⟩
    · exact (hsu a oe c d' pn ht' hz hv).run pins s σ H D I h
    · exact (hsn a oe pn hz hv).run pins s σ H D I h
  · refine ⟨M, ρ, st, rep, ?_⟩
    unfold sTryN at go
    cases q : gb ρ st with
    | exc c fs ρ' st' =>
      rw [q] at go
      simp only at go
      intro M' H' σ' d fv e' rep' hd rf hm
      cases q2 : test c with
      | none => rw [q2] at go; exact go.elim
      | some b =>
        rw [q2] at go
        refine ⟨b, ht c b q2, fun hbt a na => ?_, fun hbf => ?_⟩
        · subst hbt
          simp only at go
          have hnb : indep (fun a d => (gs a d c (ρ'.set i (some (.d (.exc a d c fs)))) st').wipe i) ≠ .bad := fun z => by
            rw [z] at go
            exact go.elim
          rw [← indep_at hnb a d] at go
          exact .inl ⟨c, d, rfl, rfl, q2, M', _, st', rep'.set i (.d (.exc hm hd rf)), wipe_go (GoS.base go e')⟩
        · subst hbf
          exact go M' H' σ' d fv e' rep' hd rf hm
    | bk ρ' st' =>
      rw [q] at go
      simp only at go
      intro M' H' σ' e' rep'
      refine ⟨true, hn, fun _ a na => ?_, fun z => by cases z⟩
      have hnb : indep (fun a d => (gN a (ρ'.set i (some (.d (.exc a d n [])))) st').wipe i) ≠ .bad := fun z => by
        rw [z] at go
        exact go.elim
      rw [← indep_at hnb a 0] at go
      exact .inr ⟨rfl, rfl, M', _, st', rep'.set i (.d .xn), wipe_go (GoS.base go e')⟩
    | nx ρ' st' => rw [q] at go; exact go
    | ct ρ' st' => rw [q] at go; exact go
    | rt u st' => rw [q] at go; exact go
    | bad => rw [q] at go; exact go.elim
end
end MM
set_option maxRecDepth 100000
set_option autoImplicit false
namespace MM
open PySem PySem.Spec PyProof.Rows L2
theorem kit_self {K : PySem.W.Frag} {A : Addr} : PySem.W.kitOne K (.ref A) (.ref A) = some true := by
  unfold PySem.W.kitOne
  rw [if_pos (by simp)]
theorem kit_ne {K : PySem.W.Frag} {A B : Addr} (h1 : PySem.W.subIn K (.ref A) (.ref A) = some true) (h2 : PySem.W.subIn K (.ref A) (.ref B) = some false) (ic : PySem.W.isClsIn K B = true) (tB : PySem.W.typeIn K (.ref B) = some (.type "type")) : PySem.W.kitOne K (.ref A) (.ref B) = some false := by
  have hne : A ≠ B := fun e => by
    subst e
    rw [h1] at h2
    cases h2
  have h5 : (PySem.W.clsIn K B).isSome = true := ic
  unfold PySem.W.kitOne PySem.W.kitCls
  rw [if_neg (by simpa using hne)]
  simp [h5, tB, h2]
theorem kit_bt {K : PySem.W.Frag} {A : Addr} {t : String} {b : Bool} (hk : PySem.W.kitMeta t = true) (h : PySem.W.subIn K (.ref A) (.type t) = some b) : PySem.W.kitOne K (.ref A) (.type t) = some b := by
  unfold PySem.W.kitOne PySem.W.kitCls
  have e : (Value.ref A == Value.type t) = false := beq_eq_false_iff_ne.mpr fun z => nomatch z
  rw [e]
  simp [hk, h]
end MM
set_option maxRecDepth 100000
set_option maxHeartbeats 100000000
namespace K09
open PySem PySem.Spec PyProof.Rows L2 MM
def top (i : Nat) : Stmt := PySem.Challenge.pw_chartways_k09_errors.main.body.getD i (.Pass ⟨0, 0, 0, 0⟩)
abbrev i_BadNumber : Stmt := inClass (top 2) 0
abbrev PE_BadNumber : List PySem.Str := ["self", "value"]
abbrev FE_BadNumber : List PySem.Str := ["value"]
theorem si_BadNumber : SupScope PE_BadNumber PE_BadNumber (defScope i_BadNumber) := ⟨rfl, rfl, rfl, by decide +kernel, rfl, by decide +kernel, by decide +kernel, by decide +kernel, by decide +kernel, by decide +kernel⟩
theorem ei_BadNumber {P : Program} {w : World} {K : PySem.W.Frag} {mg : PySem.Str → Option Value} {base : Heap} {CX : CXT} {C fI cc cda : Addr} {fd : FuncData} (c : SupC P K mg C fI cc cda "BadNumber.__init__" i_BadNumber fd) (hno0 : PySem.W.findIn K (.ref C) "value" = some none) : FnOk P w K mg base CX 1 fI fd PE_BadNumber (spX C FE_BadNumber) :=
  init1 c si_BadNumber rfl rfl rfl hno0 (by decide) (by decide) (fun _ => rfl) (fun _ => rfl) (fun _ => rfl) (fun env h => by first | rfl | simp [swapsWith, h]) (fun _ => rfl) 
abbrev i_BadName : Stmt := inClass (top 3) 0
abbrev PE_BadName : List PySem.Str := ["self", "value"]
abbrev FE_BadName : List PySem.Str := ["value"]
theorem si_BadName : SupScope PE_BadName PE_BadName (defScope i_BadName) := ⟨rfl, rfl, rfl, by decide +kernel, rfl, by decide +kernel, by decide +kernel, by decide +kernel, by decide +kernel, by decide +kernel⟩
theorem ei_BadName {P : Program} {w : World} {K : PySem.W.Frag} {mg : PySem.Str → Option Value} {base : Heap} {CX : CXT} {C fI cc cda : Addr} {fd : FuncData} (c : SupC P K mg C fI cc cda "BadName.__init__" i_BadName fd) (hno0 : PySem.W.findIn K (.ref C) "value" = some none) : FnOk P w K mg base CX 1 fI fd PE_BadName (spX C FE_BadName) :=
  init1 c si_BadName rfl rfl rfl hno0 (by decide) (by decide) (fun _ => rfl) (fun _ => rfl) (fun _ => rfl) (fun env h => by first | rfl | simp [swapsWith, h]) (fun _ => rfl) 
abbrev i_BadItem : Stmt := inClass (top 4) 0
abbrev PE_BadItem : List PySem.Str := ["self", "index"]
abbrev FE_BadItem : List PySem.Str := ["index"]
theorem si_BadItem : SupScope PE_BadItem PE_BadItem (defScope i_BadItem) := ⟨rfl, rfl, rfl, by decide +kernel, rfl, by decide +kernel, by decide +kernel, by decide +kernel, by decide +kernel, by decide +kernel⟩
theorem ei_BadItem {P : Program} {w : World} {K : PySem.W.Frag} {mg : PySem.Str → Option Value} {base : Heap} {CX : CXT} {C fI cc cda : Addr} {fd : FuncData} (c : SupC P K mg C fI cc cda "BadItem.__init__" i_BadItem fd) (hno0 : PySem.W.findIn K (.ref C) "index" = some none) : FnOk P w K mg base CX 1 fI fd PE_BadItem (spX C FE_BadItem) :=
  init1 c si_BadItem rfl rfl rfl hno0 (by decide) (by decide) (fun _ => rfl) (fun _ => rfl) (fun _ => rfl) (fun env h => by first | rfl | simp [swapsWith, h]) (fun _ => rfl) 
abbrev i_BadEvent : Stmt := inClass (top 5) 0
abbrev PE_BadEvent : List PySem.Str := ["self", "value"]
abbrev FE_BadEvent : List PySem.Str := ["value"]
theorem si_BadEvent : SupScope PE_BadEvent PE_BadEvent (defScope i_BadEvent) := ⟨rfl, rfl, rfl, by decide +kernel, rfl, by decide +kernel, by decide +kernel, by decide +kernel, by decide +kernel, by decide +kernel⟩
theorem ei_BadEvent {P : Program} {w : World} {K : PySem.W.Frag} {mg : PySem.Str → Option Value} {base : Heap} {CX : CXT} {C fI cc cda : Addr} {fd : FuncData} (c : SupC P K mg C fI cc cda "BadEvent.__init__" i_BadEvent fd) (hno0 : PySem.W.findIn K (.ref C) "value" = some none) : FnOk P w K mg base CX 1 fI fd PE_BadEvent (spX C FE_BadEvent) :=
  init1 c si_BadEvent rfl rfl rfl hno0 (by decide) (by decide) (fun _ => rfl) (fun _ => rfl) (fun _ => rfl) (fun env h => by first | rfl | simp [swapsWith, h]) (fun _ => rfl) 
abbrev i_BadNote : Stmt := inClass (top 6) 0
abbrev PE_BadNote : List PySem.Str := ["self", "line"]
abbrev FE_BadNote : List PySem.Str := ["line"]
theorem si_BadNote : SupScope PE_BadNote PE_BadNote (defScope i_BadNote) := ⟨rfl, rfl, rfl, by decide +kernel, rfl, by decide +kernel, by decide +kernel, by decide +kernel, by decide +kernel, by decide +kernel⟩
theorem ei_BadNote {P : Program} {w : World} {K : PySem.W.Frag} {mg : PySem.Str → Option Value} {base : Heap} {CX : CXT} {C fI cc cda : Addr} {fd : FuncData} (c : SupC P K mg C fI cc cda "BadNote.__init__" i_BadNote fd) (hno0 : PySem.W.findIn K (.ref C) "line" = some none) : FnOk P w K mg base CX 1 fI fd PE_BadNote (spX C FE_BadNote) :=
  init1 c si_BadNote rfl rfl rfl hno0 (by decide) (by decide) (fun _ => rfl) (fun _ => rfl) (fun _ => rfl) (fun env h => by first | rfl | simp [swapsWith, h]) (fun _ => rfl) 
abbrev i_TooMany : Stmt := inClass (top 7) 0
abbrev PE_TooMany : List PySem.Str := ["self", "limit"]
abbrev FE_TooMany : List PySem.Str := ["limit"]
theorem si_TooMany : SupScope PE_TooMany PE_TooMany (defScope i_TooMany) := ⟨rfl, rfl, rfl, by decide +kernel, rfl, by decide +kernel, by decide +kernel, by decide +kernel, by decide +kernel, by decide +kernel⟩
theorem ei_TooMany {P : Program} {w : World} {K : PySem.W.Frag} {mg : PySem.Str → Option Value} {base : Heap} {CX : CXT} {C fI cc cda : Addr} {fd : FuncData} (c : SupC P K mg C fI cc cda "TooMany.__init__" i_TooMany fd) (hno0 : PySem.W.findIn K (.ref C) "limit" = some none) : FnOk P w K mg base CX 1 fI fd PE_TooMany (spX C FE_TooMany) :=
  init1 c si_TooMany rfl rfl rfl hno0 (by decide) (by decide) (fun _ => rfl) (fun _ => rfl) (fun _ => rfl) (fun env h => by first | rfl | simp [swapsWith, h]) (fun _ => rfl) 
abbrev i_Unknown : Stmt := inClass (top 8) 0
abbrev PE_Unknown : List PySem.Str := ["self", "value"]
abbrev FE_Unknown : List PySem.Str := ["value"]
theorem si_Unknown : SupScope PE_Unknown PE_Unknown (defScope i_Unknown) := ⟨rfl, rfl, rfl, by decide +kernel, rfl, by decide +kernel, by decide +kernel, by decide +kernel, by decide +kernel, by decide +kernel⟩
theorem ei_Unknown {P : Program} {w : World} {K : PySem.W.Frag} {mg : PySem.Str → Option Value} {base : Heap} {CX : CXT} {C fI cc cda : Addr} {fd : FuncData} (c : SupC P K mg C fI cc cda "Unknown.__init__" i_Unknown fd) (hno0 : PySem.W.findIn K (.ref C) "value" = some none) : FnOk P w K mg base CX 1 fI fd PE_Unknown (spX C FE_Unknown) :=
  init1 c si_Unknown rfl rfl rfl hno0 (by decide) (by decide) (fun _ => rfl) (fun _ => rfl) (fun _ => rfl) (fun env h => by first | rfl | simp [swapsWith, h]) (fun _ => rfl) 
abbrev i_Taken : Stmt := inClass (top 9) 0
abbrev PE_Taken : List PySem.Str := ["self", "value"]
abbrev FE_Taken : List PySem.Str := ["value"]
theorem si_Taken : SupScope PE_Taken PE_Taken (defScope i_Taken) := ⟨rfl, rfl, rfl, by decide +kernel, rfl, by decide +kernel, by decide +kernel, by decide +kernel, by decide +kernel, by decide +kernel⟩
theorem ei_Taken {P : Program} {w : World} {K : PySem.W.Frag} {mg : PySem.Str → Option Value} {base : Heap} {CX : CXT} {C fI cc cda : Addr} {fd : FuncData} (c : SupC P K mg C fI cc cda "Taken.__init__" i_Taken fd) (hno0 : PySem.W.findIn K (.ref C) "value" = some none) : FnOk P w K mg base CX 1 fI fd PE_Taken (spX C FE_Taken) :=
  init1 c si_Taken rfl rfl rfl hno0 (by decide) (by decide) (fun _ => rfl) (fun _ => rfl) (fun _ => rfl) (fun env h => by first | rfl | simp [swapsWith, h]) (fun _ => rfl) 
abbrev i_Refused : Stmt := inClass (top 10) 0
abbrev PE_Refused : List PySem.Str := ["self", "reason", "names"]
abbrev FE_Refused : List PySem.Str := ["reason", "names"]
theorem si_Refused : SupScope PE_Refused PE_Refused (defScope i_Refused) := ⟨rfl, rfl, rfl, by decide +kernel, rfl, by decide +kernel, by decide +kernel, by decide +kernel, by decide +kernel, by decide +kernel⟩
theorem ei_Refused {P : Program} {w : World} {K : PySem.W.Frag} {mg : PySem.Str → Option Value} {base : Heap} {CX : CXT} {C fI cc cda : Addr} {fd : FuncData} (c : SupC P K mg C fI cc cda "Refused.__init__" i_Refused fd) (hno0 : PySem.W.findIn K (.ref C) "reason" = some none) (hno1 : PySem.W.findIn K (.ref C) "names" = some none) : FnOk P w K mg base CX 1 fI fd PE_Refused (spX C FE_Refused) :=
  init2 c si_Refused rfl rfl rfl hno0 hno1 (by decide) (by decide) (by decide) (by decide) (fun _ => rfl) (fun _ => rfl) (fun _ => rfl) (fun _ => rfl) (fun env h => by first | rfl | simp [swapsWith, h]) (fun _ => rfl) (fun _ => rfl) 
def t_ChartError : Nat → Option Bool := fun c => if c < 9 then some true else none
def isK (c n : Nat) : Option Bool := if c < 9 then some (decide (c = n)) else none
theorem lt9 {c : Nat} (h : c < 9) : c = 0 ∨ c = 1 ∨ c = 2 ∨ c = 3 ∨ c = 4 ∨ c = 5 ∨ c = 6 ∨ c = 7 ∨ c = 8 := by omega
theorem tc9 {c : Nat} {b : Bool} (h : t_ChartError c = some b) : c < 9 ∧ b = true := by
  unfold t_ChartError at h
  split at h
  · cases h
    exact ⟨by assumption, rfl⟩
  · cases h
theorem ik9 {c n : Nat} {b : Bool} (h : isK c n = some b) : c < 9 ∧ b = decide (c = n) := by
  unfold isK at h
  split at h
  · cases h
    exact ⟨by assumption, rfl⟩
  · cases h
theorem case9 {P : Nat → Prop} (h0 : P 0) (h1 : P 1) (h2 : P 2) (h3 : P 3) (h4 : P 4) (h5 : P 5) (h6 : P 6) (h7 : P 7) (h8 : P 8) : ∀ c, t_ChartError c = some true → P c := fun c h => by
  have e := (tc9 h).1
  rcases lt9 e with rfl | rfl | rfl | rfl | rfl | rfl | rfl | rfl | rfl
  · exact h0
  · exact h1
  · exact h2
  · exact h3
  · exact h4
  · exact h5
  · exact h6
  · exact h7
  · exact h8
theorem case9b {P : Nat → Bool → Prop} (h0 : P 0 true) (h1 : P 1 true) (h2 : P 2 true) (h3 : P 3 true) (h4 : P 4 true) (h5 : P 5 true) (h6 : P 6 true) (h7 : P 7 true) (h8 : P 8 true) : ∀ c b, t_ChartError c = some b → P c b := fun c b h => by
  obtain ⟨e, rfl⟩ := tc9 h
  rcases lt9 e with rfl | rfl | rfl | rfl | rfl | rfl | rfl | rfl | rfl
  · exact h0
  · exact h1
  · exact h2
  · exact h3
  · exact h4
  · exact h5
  · exact h6
  · exact h7
  · exact h8
theorem case9k {n : Nat} {P : Nat → Bool → Prop} (h0 : P 0 (decide (0 = n))) (h1 : P 1 (decide (1 = n))) (h2 : P 2 (decide (2 = n))) (h3 : P 3 (decide (3 = n))) (h4 : P 4 (decide (4 = n))) (h5 : P 5 (decide (5 = n))) (h6 : P 6 (decide (6 = n))) (h7 : P 7 (decide (7 = n))) (h8 : P 8 (decide (8 = n))) : ∀ c b, isK c n = some b → P c b := fun c b h => by
  obtain ⟨e, rfl⟩ := ik9 h
  rcases lt9 e with rfl | rfl | rfl | rfl | rfl | rfl | rfl | rfl | rfl
  · exact h0
  · exact h1
  · exact h2
  · exact h3
  · exact h4
  · exact h5
  · exact h6
  · exact h7
  · exact h8
def t_BadNumber : Nat → Option Bool := fun c => if c = 0 then some true else if c = 1 then some false else if c = 2 then some false else if c = 3 then some false else if c = 4 then some false else if c = 5 then some false else if c = 6 then some false else if c = 7 then some false else if c = 8 then some false else none
def t_BadName : Nat → Option Bool := fun c => if c = 0 then some false else if c = 1 then some true else if c = 2 then some false else if c = 3 then some false else if c = 4 then some false else if c = 5 then some false else if c = 6 then some false else if c = 7 then some false else if c = 8 then some false else none
def t_BadItem : Nat → Option Bool := fun c => if c = 0 then some false else if c = 1 then some false else if c = 2 then some true else if c = 3 then some false else if c = 4 then some false else if c = 5 then some false else if c = 6 then some false else if c = 7 then some false else if c = 8 then some false else none
def t_BadEvent : Nat → Option Bool := fun c => if c = 0 then some false else if c = 1 then some false else if c = 2 then some false else if c = 3 then some true else if c = 4 then some false else if c = 5 then some false else if c = 6 then some false else if c = 7 then some false else if c = 8 then some false else none
def t_BadNote : Nat → Option Bool := fun c => if c = 0 then some false else if c = 1 then some false else if c = 2 then some false else if c = 3 then some false else if c = 4 then some true else if c = 5 then some false else if c = 6 then some false else if c = 7 then some false else if c = 8 then some false else none
def t_TooMany : Nat → Option Bool := fun c => if c = 0 then some false else if c = 1 then some false else if c = 2 then some false else if c = 3 then some false else if c = 4 then some false else if c = 5 then some true else if c = 6 then some false else if c = 7 then some false else if c = 8 then some false else none
def t_Unknown : Nat → Option Bool := fun c => if c = 0 then some false else if c = 1 then some false else if c = 2 then some false else if c = 3 then some false else if c = 4 then some false else if c = 5 then some false else if c = 6 then some true else if c = 7 then some false else if c = 8 then some false else none
def t_Taken : Nat → Option Bool := fun c => if c = 0 then some false else if c = 1 then some false else if c = 2 then some false else if c = 3 then some false else if c = 4 then some false else if c = 5 then some false else if c = 6 then some false else if c = 7 then some true else if c = 8 then some false else none
def t_Refused : Nat → Option Bool := fun c => if c = 0 then some false else if c = 1 then some false else if c = 2 then some false else if c = 3 then some false else if c = 4 then some false else if c = 5 then some false else if c = 6 then some false else if c = 7 then some false else if c = 8 then some true else none
structure Txt (K : PySem.W.Frag) (mg : PySem.Str → Option Value) (T : Nat → Addr) (f__law_alike f__law_taken f__law_pick f__law_raised f_law e_BadNumber e_BadName e_BadItem e_BadEvent e_BadNote e_TooMany e_Unknown e_Taken e_Refused : Addr) : Prop where
  m_ChartError : mg "ChartError" = some (.ref (T 30))
  te_ChartError : ∀ c b, t_ChartError c = some b → PySem.W.exmOne K (.ref (T c)) (.ref (T 30)) = some b
  xf_ChartError : ∀ c, t_ChartError c = some true → XfC K (T c)
  nf_ChartError_value : ∀ c, t_ChartError c = some true → PySem.W.findIn K (.ref (T c)) "value" = some none
  nf_ChartError_index : ∀ c, t_ChartError c = some true → PySem.W.findIn K (.ref (T c)) "index" = some none
  nf_ChartError_line : ∀ c, t_ChartError c = some true → PySem.W.findIn K (.ref (T c)) "line" = some none
  nf_ChartError_limit : ∀ c, t_ChartError c = some true → PySem.W.findIn K (.ref (T c)) "limit" = some none
  nf_ChartError_reason : ∀ c, t_ChartError c = some true → PySem.W.findIn K (.ref (T c)) "reason" = some none
  nf_ChartError_names : ∀ c, t_ChartError c = some true → PySem.W.findIn K (.ref (T c)) "names" = some none
  m_NothingToUndo : mg "NothingToUndo" = some (.ref (T 9))
  q_NothingToUndo : PySem.W.excIn K (T 9) [.type "ValueError", .type "Exception", .type "BaseException", .type "object"] "ValueError.__new__" = true
  k_NothingToUndo : PySem.W.keepIn K (.ref (T 9)) = true
  r1_NothingToUndo : PySem.W.subIn K (.ref (T 9)) (.type "BaseException") = some true
  r2_NothingToUndo : PySem.W.typeIn K (.ref (T 9)) = some (.type "type")
  tn : PySem.W.exmOne K (.ref (T 9)) (.ref (T 30)) = some true
  ec : ∀ c, t_ChartError c = some true → ExcC K (T c)
  ecN : ExcC K (T 9)
  ki_BadNumber : ∀ c b, isK c 0 = some b → PySem.W.kitOne K (.ref (T c)) (.ref (T 0)) = some b
  kn_BadNumber : PySem.W.kitOne K (.ref (T 9)) (.ref (T 0)) = some false
  ki_BadName : ∀ c b, isK c 1 = some b → PySem.W.kitOne K (.ref (T c)) (.ref (T 1)) = some b
  kn_BadName : PySem.W.kitOne K (.ref (T 9)) (.ref (T 1)) = some false
  ki_BadItem : ∀ c b, isK c 2 = some b → PySem.W.kitOne K (.ref (T c)) (.ref (T 2)) = some b
  kn_BadItem : PySem.W.kitOne K (.ref (T 9)) (.ref (T 2)) = some false
  ki_BadEvent : ∀ c b, isK c 3 = some b → PySem.W.kitOne K (.ref (T c)) (.ref (T 3)) = some b
  kn_BadEvent : PySem.W.kitOne K (.ref (T 9)) (.ref (T 3)) = some false
  ki_BadNote : ∀ c b, isK c 4 = some b → PySem.W.kitOne K (.ref (T c)) (.ref (T 4)) = some b
  kn_BadNote : PySem.W.kitOne K (.ref (T 9)) (.ref (T 4)) = some false
  ki_TooMany : ∀ c b, isK c 5 = some b → PySem.W.kitOne K (.ref (T c)) (.ref (T 5)) = some b
  kn_TooMany : PySem.W.kitOne K (.ref (T 9)) (.ref (T 5)) = some false
  ki_Unknown : ∀ c b, isK c 6 = some b → PySem.W.kitOne K (.ref (T c)) (.ref (T 6)) = some b
  kn_Unknown : PySem.W.kitOne K (.ref (T 9)) (.ref (T 6)) = some false
  ki_Taken : ∀ c b, isK c 7 = some b → PySem.W.kitOne K (.ref (T c)) (.ref (T 7)) = some b
  kn_Taken : PySem.W.kitOne K (.ref (T 9)) (.ref (T 7)) = some false
  ki_Refused : ∀ c b, isK c 8 = some b → PySem.W.kitOne K (.ref (T c)) (.ref (T 8)) = some b
  kn_Refused : PySem.W.kitOne K (.ref (T 9)) (.ref (T 8)) = some false
  ki_NothingToUndo : ∀ c b, isK c 9 = some b → PySem.W.kitOne K (.ref (T c)) (.ref (T 9)) = some b
  kn_NothingToUndo : PySem.W.kitOne K (.ref (T 9)) (.ref (T 9)) = some true
  kb_ValueError : ∀ c, t_ChartError c = some true → PySem.W.kitOne K (.ref (T c)) (.type "ValueError") = some true
  kbn_ValueError : PySem.W.kitOne K (.ref (T 9)) (.type "ValueError") = some true
  kb_LookupError : ∀ c, t_ChartError c = some true → PySem.W.kitOne K (.ref (T c)) (.type "LookupError") = some false
  kbn_LookupError : PySem.W.kitOne K (.ref (T 9)) (.type "LookupError") = some false
  kb_RuntimeError : ∀ c, t_ChartError c = some true → PySem.W.kitOne K (.ref (T c)) (.type "RuntimeError") = some false
  kbn_RuntimeError : PySem.W.kitOne K (.ref (T 9)) (.type "RuntimeError") = some false
  m__law_alike : mg "_law_alike" = some (.ref f__law_alike)
  k__law_alike : PySem.W.keepIn K (.ref f__law_alike) = true
  m__law_pick : mg "_law_pick" = some (.ref f__law_pick)
  k__law_pick : PySem.W.keepIn K (.ref f__law_pick) = true
  m__law_raised : mg "_law_raised" = some (.ref f__law_raised)
  k__law_raised : PySem.W.keepIn K (.ref f__law_raised) = true
  m__law_taken : mg "_law_taken" = some (.ref f__law_taken)
  k__law_taken : PySem.W.keepIn K (.ref f__law_taken) = true
  z_LookupError : mg "LookupError" = none
  z_RuntimeError : mg "RuntimeError" = none
  z_ValueError : mg "ValueError" = none
  z_bool : mg "bool" = none
  z_int : mg "int" = none
  z_isinstance : mg "isinstance" = none
  z_len : mg "len" = none
  z_list : mg "list" = none
  z_range : mg "range" = none
  z_str : mg "str" = none
  z_tuple : mg "tuple" = none
  m_BadNumber : mg "BadNumber" = some (.ref (T 0))
  ox_BadNumber : OexC K (T 0)
  iC_BadNumber : PySem.W.findIn K (.ref (T 0)) "__init__" = some (some (.ref e_BadNumber))
  tI_BadNumber : PySem.W.typeIn K (.ref e_BadNumber) = some (.type "function")
  m_BadName : mg "BadName" = some (.ref (T 1))
  ox_BadName : OexC K (T 1)
  iC_BadName : PySem.W.findIn K (.ref (T 1)) "__init__" = some (some (.ref e_BadName))
  tI_BadName : PySem.W.typeIn K (.ref e_BadName) = some (.type "function")
  m_BadItem : mg "BadItem" = some (.ref (T 2))
  ox_BadItem : OexC K (T 2)
  iC_BadItem : PySem.W.findIn K (.ref (T 2)) "__init__" = some (some (.ref e_BadItem))
  tI_BadItem : PySem.W.typeIn K (.ref e_BadItem) = some (.type "function")
  m_BadEvent : mg "BadEvent" = some (.ref (T 3))
  ox_BadEvent : OexC K (T 3)
  iC_BadEvent : PySem.W.findIn K (.ref (T 3)) "__init__" = some (some (.ref e_BadEvent))
  tI_BadEvent : PySem.W.typeIn K (.ref e_BadEvent) = some (.type "function")
  m_BadNote : mg "BadNote" = some (.ref (T 4))
  ox_BadNote : OexC K (T 4)
  iC_BadNote : PySem.W.findIn K (.ref (T 4)) "__init__" = some (some (.ref e_BadNote))
  tI_BadNote : PySem.W.typeIn K (.ref e_BadNote) = some (.type "function")
  m_TooMany : mg "TooMany" = some (.ref (T 5))
  ox_TooMany : OexC K (T 5)
  iC_TooMany : PySem.W.findIn K (.ref (T 5)) "__init__" = some (some (.ref e_TooMany))
  tI_TooMany : PySem.W.typeIn K (.ref e_TooMany) = some (.type "function")
  m_Unknown : mg "Unknown" = some (.ref (T 6))
  ox_Unknown : OexC K (T 6)
  iC_Unknown : PySem.W.findIn K (.ref (T 6)) "__init__" = some (some (.ref e_Unknown))
  tI_Unknown : PySem.W.typeIn K (.ref e_Unknown) = some (.type "function")
  m_Taken : mg "Taken" = some (.ref (T 7))
  ox_Taken : OexC K (T 7)
  iC_Taken : PySem.W.findIn K (.ref (T 7)) "__init__" = some (some (.ref e_Taken))
  tI_Taken : PySem.W.typeIn K (.ref e_Taken) = some (.type "function")
  m_Refused : mg "Refused" = some (.ref (T 8))
  ox_Refused : OexC K (T 8)
  iC_Refused : PySem.W.findIn K (.ref (T 8)) "__init__" = some (some (.ref e_Refused))
  tI_Refused : PySem.W.typeIn K (.ref e_Refused) = some (.type "function")
/-! _law_alike -/
abbrev s__law_alike : Stmt := top 15
abbrev N__law_alike : List PySem.Str := ["found", "due", "k"]
abbrev P__law_alike : List PySem.Str := ["found", "due"]
theorem sc__law_alike : FnScope N__law_alike P__law_alike (defScope s__law_alike) := ⟨rfl, rfl, rfl, by decide +kernel, rfl, by decide +kernel, by decide +kernel⟩
noncomputable def B__law_alike_0 (F__law_aliker : FM) : SF := (sIf (eTru (eUn (g1 (bIsi ["tuple", "list"])) (eV 1))) (sSeq (sIf (eOrT (eNotT (eTru (eUn (g1 (bIsi ["tuple", "list"])) (eV 0)))) (asB (eBin (g2 dNe) (eUn (g1 (bIsi ["list"])) (eV 0)) (eUn (g1 (bIsi ["list"])) (eV 1))))) (sRet (eC (.bool false))) sNil) (sSeq (sIf (asB (eBin (g2 dNe) (eArgs (eCons (eV 0) eNil) (kB bLen)) (eArgs (eCons (eV 1) eNil) (kB bLen)))) (sRet (eC (.bool false))) sNil) (sRet (eBin (g2 dEq) (eLc false [2] (nl (eRange1 (eCons (eArgs (eCons (eV 1) eNil) (kB bLen)) eNil))) (tName 2) (eNotT (eTru (eArgs (eCons (eBin (g2 dIx) (eV 0) (eV 2)) (eCons (eBin (g2 dIx) (eV 1) (eV 2)) eNil)) (kLen 2 F__law_aliker)))) (eV 2)) (eArgs eNil kLst))))) sNil)
noncomputable def B__law_alike_1 (F__law_aliker : FM) : SF := (sIf (eOrT (asB (eBin (g2 dIs) (eV 1) (eC .none))) (eTru (eUn (g1 (bIsi ["str"])) (eV 1)))) (sRet (eAndV (eBin (g2 dEq) (eV 0) (eV 1)) (eBin (g2 dEq) (eUn (g1 (bIsi ["str"])) (eV 0)) (eUn (g1 (bIsi ["str"])) (eV 1))))) sNil)
noncomputable def B__law_alike_2 (F__law_aliker : FM) : SF := (sRet (eAndV (eUn (g1 (bIsi ["int"])) (eV 0)) (eAndV (eBin (g2 dEq) (eUn (g1 (bIsi ["bool"])) (eV 0)) (eUn (g1 (bIsi ["bool"])) (eV 1))) (eBin (g2 dEq) (eV 0) (eV 1)))))
noncomputable def B__law_alike (F__law_aliker : FM) : SF := (sSeq (B__law_alike_0 F__law_aliker) (sSeq (B__law_alike_1 F__law_aliker) (B__law_alike_2 F__law_aliker)))
noncomputable def F__law_alike : Nat → FM
  | 0 => fun _ _ => .bad
  | t + 1 => runF 3 (B__law_alike (F__law_alike t))
theorem ok__law_alike {P : Program} {w : World} {K : PySem.W.Frag} {mg : PySem.Str → Option Value} {base : Heap} {T : Nat → Addr} {f__law_alike : Addr} {f__law_taken : Addr} {f__law_pick : Addr} {f__law_raised : Addr} {f_law : Addr} {e_BadNumber : Addr} {e_BadName : Addr} {e_BadItem : Addr} {e_BadEvent : Addr} {e_BadNote : Addr} {e_TooMany : Addr} {e_Unknown : Addr} {e_Taken : Addr} {e_Refused : Addr} {fd : FuncData} (Z : Txt K mg T f__law_alike f__law_taken f__law_pick f__law_raised f_law e_BadNumber e_BadName e_BadItem e_BadEvent e_BadNote e_TooMany e_Unknown e_Taken e_Refused) (F : Fun K "_law_alike" "_law_alike" s__law_alike f__law_alike fd) (b__law_alike : Binds K fd P__law_alike []) : ∀ t, FnOk P w K mg base (L2.CX P w) (0 + t) f__law_alike fd P__law_alike (spM K T 2 (F__law_alike t))
  | 0 => ⟨fun vs H Q E h => h.1, fun A outer s H args us vs Q E _ _ _ _ h => by
    obtain ⟨_, _, _, _, _, _, z⟩ := h
    exact z.elim⟩
  | t + 1 => by
    have G_rec := ok__law_alike Z F b__law_alike     t (P := P) (w := w) (base := base) (mg := mg) (T := T)
    refine def_ok (k := 0 + t) (n := 3) (m := 2) (g := B__law_alike (F__law_alike t)) F sc__law_alike rfl rfl rfl fun cdv A outer s H E hr => ?_
    have hu64 := r64 hr
    have hu66 := r66 hr
    exact (ms_cons (ms_if (m_truth (m_isiT (Ts := ["tuple", "list"]) (by decide +kernel) (by decide) rfl Z.z_isinstance (by decide +kernel) (ptys_cons rfl Z.z_tuple (by decide +kernel) (ptys_cons rfl Z.z_list (by decide +kernel) ptys_nil)) (m_var (pv 1)))) (ms_cons (ms_if (m_pw (m_wor (m_notT (m_truth (m_isiT (Ts := ["tuple", "list"]) (by decide +kernel) (by decide) rfl Z.z_isinstance (by decide +kernel) (ptys_cons rfl Z.z_tuple (by decide +kernel) (ptys_cons rfl Z.z_list (by decide +kernel) ptys_nil)) (m_var (pv 0))))) (m_wor1 (m_cmpT (op_neD hu64) p_ne.op (m_isi (T1 := "list") (by decide +kernel) rfl Z.z_isinstance (by decide +kernel) rfl Z.z_list (by decide +kernel) (m_var (pv 0))) (m_isi (T1 := "list") (by decide +kernel) rfl Z.z_isinstance (by decide +kernel) rfl Z.z_list (by decide +kernel) (m_var (pv 1))) (nomark _))))) (ms_one (ms_ret m_bl)) ms_nil) (ms_cons (ms_if (m_cmpT (op_neD hu64) p_ne.op (m_b call_len' l_len rfl Z.z_len (by decide +kernel) (m_arg m_nil (m_var (pv 0)))) (m_b call_len' l_len rfl Z.z_len (by decide +kernel) (m_arg m_nil (m_var (pv 1)))) (nomark _)) (ms_one (ms_ret m_bl)) ms_nil) (ms_one (ms_ret (m_cmp (op_eqD hu64) p_eq.op (m_lc false (own := [("k", 2)]) rfl sc__law_alike.nd (mv (mi_range1 rfl Z.z_range (m_arg m_nil (m_b call_len' l_len rfl Z.z_len (by decide +kernel) (m_arg m_nil (m_var (pv 1))))))) (blkOk_by (by first | (show blkC N__law_alike (defScope s__law_alike) _ _ = true; decide +kernel) | kernel_rfl)) (fun _ _ _ _ _ => (mg_name (i := 2) sc__law_alike.nd rfl (by first | exact Or.inl rfl | exact Or.inr rfl))) (fun _ _ _ _ _ => (mts_one (m_notT (m_truth (m_call takes0 G_rec hr rfl Z.m__law_alike Z.k__law_alike b__law_alike (m_arg (m_arg m_nil (m_ix (m_var (pv 1)) (m_var (pv 2)))) (m_ix (m_var (pv 0)) (m_var (pv 2))))))))) (fun _ _ _ _ _ => (m_var (pv 2)))) (m_lst m_nil) (nomark _)))))) ms_nil) (ms_cons (ms_if (m_pw (m_wor (m_cmpT op_isN p_is.op (m_var (pv 1)) m_non (nomark _)) (m_wor1 (m_truth (m_isi (T1 := "str") (by decide +kernel) rfl Z.z_isinstance (by decide +kernel) rfl Z.z_str (by decide +kernel) (m_var (pv 1))))))) (ms_one (ms_ret (m_and (m_cmp (op_eqD hu64) p_eq.op (m_var (pv 0)) (m_var (pv 1)) (nomark _)) (m_one (m_cmp (op_eqD hu64) p_eq.op (m_isi (T1 := "str") (by decide +kernel) rfl Z.z_isinstance (by decide +kernel) rfl Z.z_str (by decide +kernel) (m_var (pv 0))) (m_isi (T1 := "str") (by decide +kernel) rfl Z.z_isinstance (by decide +kernel) rfl Z.z_str (by decide +kernel) (m_var (pv 1))) (nomark _)))))) ms_nil) (ms_one (ms_ret (m_and (m_isi (T1 := "int") (by decide +kernel) rfl Z.z_isinstance (by decide +kernel) rfl Z.z_int (by decide +kernel) (m_var (pv 0))) (m_and (m_cmp (op_eqD hu64) p_eq.op (m_isi (T1 := "bool") (by decide +kernel) rfl Z.z_isinstance (by decide +kernel) rfl Z.z_bool (by decide +kernel) (m_var (pv 0))) (m_isi (T1 := "bool") (by decide +kernel) rfl Z.z_isinstance (by decide +kernel) rfl Z.z_bool (by decide +kernel) (m_var (pv 1))) (nomark _)) (m_one (m_cmp (op_eqD hu64) p_eq.op (m_var (pv 0)) (m_var (pv 1)) (nomark _)))))))))
/-! _law_taken -/
abbrev s__law_taken : Stmt := top 13
abbrev N__law_taken : List PySem.Str := ["row", "many", "found", "cell"]
abbrev P__law_taken : List PySem.Str := ["row", "many"]
theorem sc__law_taken : FnScope N__law_taken P__law_taken (defScope s__law_taken) := ⟨rfl, rfl, rfl, by decide +kernel, rfl, by decide +kernel, by decide +kernel⟩
noncomputable def B__law_taken_0 : SF := (sWp [2] (sIf (asB (eBin (g2 (dCmp fun i j => decide (j < i))) (eBin (g2 dIx) (eV 0) (eC (.int 3))) (eC (.int 0)))) (sSeq (sSet 2 (eBin (g2 dMod) (eArgs (eCons (eBin (g2 dIx) (eV 0) (eC (.int 3))) eNil) (kB bInt)) (eV 1))) (sSeq (sSub (eV 0) (eC (.int 3)) (eBin (g2 dDiv) (eBin (g2 dIx) (eV 0) (eC (.int 3))) (eV 1))) (sRet (eV 2)))) sNil))
noncomputable def B__law_taken_1 : SF := (sSub (eV 0) (eC (.int 1)) (eBin (g2 dAdd) (eBin (g2 dIx) (eV 0) (eC (.int 1))) (eC (.int 1))))
noncomputable def B__law_taken_2 : SF := (sIf (asB (eBin (g2 (dCmp fun i j => decide (j < i))) (eBin (g2 dIx) (eV 0) (eC (.int 1))) (eArgs (eCons (eBin (g2 dIx) (eV 0) (eC (.int 0))) eNil) (kB bLen)))) (sSeq (sSub (eV 0) (eC (.int 2)) (eBin (g2 dMod) (eArgs (eCons (eBin (g2 dAdd) (eBin (g2 dMul) (eBin (g2 dIx) (eV 0) (eC (.int 2))) (eC (.int 48271))) (eC (.int 11))) eNil) (kB bInt)) (eC (.int 2147483647)))) (sRet (eBin (g2 dMod) (eArgs (eCons (eBin (g2 dDiv) (eBin (g2 dIx) (eV 0) (eC (.int 2))) (eC (.int 7))) eNil) (kB bInt)) (eV 1)))) sNil)
noncomputable def B__law_taken_3 : SF := (sSet 3 (eBin (g2 dIx) (eBin (g2 dIx) (eV 0) (eC (.int 0))) (eBin (g2 dSub) (eBin (g2 dIx) (eV 0) (eC (.int 1))) (eC (.int 1)))))
noncomputable def B__law_taken_4 : SF := (sSub (eV 0) (eC (.int 2)) (eBin (g2 dMod) (eArgs (eCons (eBin (g2 dAdd) (eBin (g2 dAdd) (eBin (g2 dMul) (eBin (g2 dIx) (eV 0) (eC (.int 2))) (eC (.int 48271))) (eV 3)) (eC (.int 11))) eNil) (kB bInt)) (eC (.int 2147483647))))
noncomputable def B__law_taken_5 : SF := (sIf (asB (eBin (g2 (dCmp fun i j => decide (j ≤ i))) (eV 3) (eBin (g2 dPow) (eC (.int 10)) (eC (.int 18))))) (sSub (eV 0) (eC (.int 3)) (eBin (g2 dDiv) (eV 3) (eV 1))) sNil)
noncomputable def B__law_taken_6 : SF := (sRet (eBin (g2 dMod) (eArgs (eCons (eV 3) eNil) (kB bInt)) (eV 1)))
noncomputable def B__law_taken : SF := (sSeq (B__law_taken_0) (sSeq (B__law_taken_1) (sSeq (B__law_taken_2) (sSeq (B__law_taken_3) (sSeq (B__law_taken_4) (sSeq (B__law_taken_5) (B__law_taken_6)))))))
noncomputable def F__law_taken : FM := runF 4 B__law_taken
theorem ok__law_taken {P : Program} {w : World} {K : PySem.W.Frag} {mg : PySem.Str → Option Value} {base : Heap} {T : Nat → Addr} {f__law_alike : Addr} {f__law_taken : Addr} {f__law_pick : Addr} {f__law_raised : Addr} {f_law : Addr} {e_BadNumber : Addr} {e_BadName : Addr} {e_BadItem : Addr} {e_BadEvent : Addr} {e_BadNote : Addr} {e_TooMany : Addr} {e_Unknown : Addr} {e_Taken : Addr} {e_Refused : Addr} {fd : FuncData} (Z : Txt K mg T f__law_alike f__law_taken f__law_pick f__law_raised f_law e_BadNumber e_BadName e_BadItem e_BadEvent e_BadNote e_TooMany e_Unknown e_Taken e_Refused) (F : Fun K "_law_taken" "_law_taken" s__law_taken f__law_taken fd) : FnOk P w K mg base (L2.CX P w) 1 f__law_taken fd P__law_taken (spM K T 2 F__law_taken) := by
  refine def_ok (k := 0) (n := 4) (m := 2) (g := B__law_taken) F sc__law_taken rfl rfl rfl fun cdv A outer s H E hr => ?_
  have hu64 := r64 hr
  have hu66 := r66 hr
  exact (ms_cons (ms_wp [2] (ms_if (m_cmpT op_gt (p_cmp _).op (m_ix (m_var (pv 0)) m_int) m_int (nomark _)) (ms_cons (ms_set (i := 2) sc__law_taken.nd rfl (by first | exact Or.inl rfl | exact Or.inr rfl) (m_bin op_mod p_mod.op (m_bT call_int1 l_int rfl Z.z_int (by decide +kernel) (m_arg m_nil (m_ix (m_var (pv 0)) m_int))) (m_var (pv 1)))) (ms_cons (ms_sub (m_var (pv 0)) m_int (m_bin op_fdiv p_div.op (m_ix (m_var (pv 0)) m_int) (m_var (pv 1)))) (ms_one (ms_ret (m_var (pv 2)))))) ms_nil)) (ms_cons (ms_sub (m_var (pv 0)) m_int (m_bin op_addM p_add.op (m_ix (m_var (pv 0)) m_int) m_int)) (ms_cons (ms_if (m_cmpT op_gt (p_cmp _).op (m_ix (m_var (pv 0)) m_int) (m_b call_len' l_len rfl Z.z_len (by decide +kernel) (m_arg m_nil (m_ix (m_var (pv 0)) m_int))) (nomark _)) (ms_cons (ms_sub (m_var (pv 0)) m_int (m_bin op_mod p_mod.op (m_bT call_int1 l_int rfl Z.z_int (by decide +kernel) (m_arg m_nil (m_bin op_addM p_add.op (m_bin op_mulM p_mul.op (m_ix (m_var (pv 0)) m_int) m_int) m_int))) m_int)) (ms_one (ms_ret (m_bin op_mod p_mod.op (m_bT call_int1 l_int rfl Z.z_int (by decide +kernel) (m_arg m_nil (m_bin op_fdiv p_div.op (m_ix (m_var (pv 0)) m_int) m_int))) (m_var (pv 1)))))) ms_nil) (ms_cons (ms_set (i := 3) sc__law_taken.nd rfl (by first | exact Or.inl rfl | exact Or.inr rfl) (m_ix (m_ix (m_var (pv 0)) m_int) (m_bin op_sub p_sub.op (m_ix (m_var (pv 0)) m_int) m_int))) (ms_cons (ms_sub (m_var (pv 0)) m_int (m_bin op_mod p_mod.op (m_bT call_int1 l_int rfl Z.z_int (by decide +kernel) (m_arg m_nil (m_bin op_addM p_add.op (m_bin op_addM p_add.op (m_bin op_mulM p_mul.op (m_ix (m_var (pv 0)) m_int) m_int) (m_var (pv 3))) m_int))) m_int)) (ms_cons (ms_if (m_cmpT op_ge (p_cmp _).op (m_var (pv 3)) (m_bin op_pow p_pow.op m_int m_int) (nomark _)) (ms_one (ms_sub (m_var (pv 0)) m_int (m_bin op_fdiv p_div.op (m_var (pv 3)) (m_var (pv 1))))) ms_nil) (ms_one (ms_ret (m_bin op_mod p_mod.op (m_bT call_int1 l_int rfl Z.z_int (by decide +kernel) (m_arg m_nil (m_var (pv 3)))) (m_var (pv 1)))))))))))
/-! _law_pick -/
abbrev s__law_pick : Stmt := top 14
abbrev N__law_pick : List PySem.Str := ["row", "kinds"]
abbrev P__law_pick : List PySem.Str := ["row", "kinds"]
theorem sc__law_pick : FnScope N__law_pick P__law_pick (defScope s__law_pick) := ⟨rfl, rfl, rfl, by decide +kernel, rfl, by decide +kernel, by decide +kernel⟩
noncomputable def B__law_pick_0 : SF := (sRet (eBin (g2 dIx) (eV 1) (eArgs (eCons (eV 0) (eCons (eArgs (eCons (eV 1) eNil) (kB bLen)) eNil)) (kLen 2 F__law_taken))))
noncomputable def B__law_pick : SF := (B__law_pick_0)
noncomputable def F__law_pick : FM := runF 2 B__law_pick
theorem ok__law_pick {P : Program} {w : World} {K : PySem.W.Frag} {mg : PySem.Str → Option Value} {base : Heap} {T : Nat → Addr} {f__law_alike : Addr} {f__law_taken : Addr} {f__law_pick : Addr} {f__law_raised : Addr} {f_law : Addr} {e_BadNumber : Addr} {e_BadName : Addr} {e_BadItem : Addr} {e_BadEvent : Addr} {e_BadNote : Addr} {e_TooMany : Addr} {e_Unknown : Addr} {e_Taken : Addr} {e_Refused : Addr} {fd : FuncData} {fd__law_taken : FuncData} (Z : Txt K mg T f__law_alike f__law_taken f__law_pick f__law_raised f_law e_BadNumber e_BadName e_BadItem e_BadEvent e_BadNote e_TooMany e_Unknown e_Taken e_Refused) (F : Fun K "_law_pick" "_law_pick" s__law_pick f__law_pick fd) (b__law_taken : Binds K fd__law_taken P__law_taken []) (G__law_taken : FnOk P w K mg base (L2.CX P w) 1 f__law_taken fd__law_taken P__law_taken (spM K T 2 F__law_taken)) : FnOk P w K mg base (L2.CX P w) 2 f__law_pick fd P__law_pick (spM K T 2 F__law_pick) := by
  refine def_ok (k := 1) (n := 2) (m := 2) (g := B__law_pick) F sc__law_pick rfl rfl rfl fun cdv A outer s H E hr => ?_
  have hu64 := r64 hr
  have hu66 := r66 hr
  exact (ms_one (ms_ret (m_ix (m_var (pv 1)) (m_call (takes_of rfl rfl rfl rfl) G__law_taken (hr.mono (by omega)) rfl Z.m__law_taken Z.k__law_taken b__law_taken (m_arg (m_arg m_nil (m_b call_len' l_len rfl Z.z_len (by decide +kernel) (m_arg m_nil (m_var (pv 1))))) (m_var (pv 0)))))))
/-! _law_raised -/
abbrev s__law_raised : Stmt := top 16
abbrev N__law_raised : List PySem.Str := ["number", "value", "named", "e", "kinds", "field"]
abbrev P__law_raised : List PySem.Str := ["number", "value", "named"]
theorem sc__law_raised : FnScope N__law_raised P__law_raised (defScope s__law_raised) := ⟨rfl, rfl, rfl, by decide +kernel, rfl, by decide +kernel, by decide +kernel⟩
noncomputable def B__law_raised_0 : SF := (sTryN 3 9 t_ChartError (sSeqN (sIf (asB (eBin (g2 dEq) (eV 0) (eC (.int 0)))) (sRaise 0 ["value"] (eCons (eV 1) eNil)) sNil) (sSeqN (sIf (asB (eBin (g2 dEq) (eV 0) (eC (.int 1)))) (sRaise 1 ["value"] (eCons (eV 1) eNil)) sNil) (sSeqN (sIf (asB (eBin (g2 dEq) (eV 0) (eC (.int 2)))) (sRaise 2 ["index"] (eCons (eV 1) eNil)) sNil) (sSeqN (sIf (asB (eBin (g2 dEq) (eV 0) (eC (.int 3)))) (sRaise 3 ["value"] (eCons (eV 1) eNil)) sNil) (sSeqN (sIf (asB (eBin (g2 dEq) (eV 0) (eC (.int 4)))) (sRaise 4 ["line"] (eCons (eV 1) eNil)) sNil) (sSeqN (sIf (asB (eBin (g2 dEq) (eV 0) (eC (.int 5)))) (sRaise 5 ["limit"] (eCons (eV 1) eNil)) sNil) (sSeqN (sIf (asB (eBin (g2 dEq) (eV 0) (eC (.int 6)))) (sRaise 6 ["value"] (eCons (eV 1) eNil)) sNil) (sSeqN (sIf (asB (eBin (g2 dEq) (eV 0) (eC (.int 7)))) (sRaise 7 ["value"] (eCons (eV 1) eNil)) sNil) (sSeqN (sIf (asB (eBin (g2 dEq) (eV 0) (eC (.int 8)))) (sRaise 8 ["reason", "names"] (eCons (eV 1) (eCons (eV 2) eNil))) sNil) sBk))))))))) (fun a d c => (sSeq (sSet 4 (eArgs (eCons (eIsE a d c (isK c 0) (eV 3)) (eCons (eIsE a d c (isK c 1) (eV 3)) (eCons (eIsE a d c (isK c 2) (eV 3)) (eCons (eIsE a d c (isK c 3) (eV 3)) (eCons (eIsE a d c (isK c 4) (eV 3)) eNil))))) kLst)) (sSeq (sSet 4 (eBin (g2 dAdd) (eV 4) (eArgs (eCons (eIsE a d c (isK c 5) (eV 3)) (eCons (eIsE a d c (isK c 6) (eV 3)) (eCons (eIsE a d c (isK c 7) (eV 3)) (eCons (eIsE a d c (isK c 8) (eV 3)) (eCons (eIsE a d c (isK c 9) (eV 3)) eNil))))) kLst))) (sSeq (sIf (eOrT (eNotT (eTru (eIsE a d c (some true) (eV 3)))) (eOrT (eTru (eIsE a d c (some false) (eV 3))) (eTru (eIsE a d c (some false) (eV 3))))) (sRet (eC .none)) sNil) (sSeq (sSet 5 (eC .none)) (sSeq (sIf (asB (eBin (g2 dIn) (eV 0) (eArgs (eCons (eC (.int 0)) (eCons (eC (.int 1)) (eCons (eC (.int 3)) (eCons (eC (.int 6)) (eCons (eC (.int 7)) eNil))))) kLst))) (sSet 5 (eXf a d c "value" (eV 3))) sNil) (sSeq (sIf (asB (eBin (g2 dEq) (eV 0) (eC (.int 2)))) (sSet 5 (eXf a d c "index" (eV 3))) sNil) (sSeq (sIf (asB (eBin (g2 dEq) (eV 0) (eC (.int 4)))) (sSet 5 (eXf a d c "line" (eV 3))) sNil) (sSeq (sIf (asB (eBin (g2 dEq) (eV 0) (eC (.int 5)))) (sSet 5 (eXf a d c "limit" (eV 3))) sNil) (sSeq (sIf (asB (eBin (g2 dEq) (eV 0) (eC (.int 8)))) (sSet 5 (eArgs (eCons (eXf a d c "reason" (eV 3)) (eCons (eXf a d c "names" (eV 3)) eNil)) kTup)) sNil) (sRet (eArgs (eCons (eV 4) (eCons (eV 5) eNil)) kTup)))))))))))) (fun a => (sSeq (sSet 4 (eArgs (eCons (eIsN a 9 (some false) (eV 3)) (eCons (eIsN a 9 (some false) (eV 3)) (eCons (eIsN a 9 (some false) (eV 3)) (eCons (eIsN a 9 (some false) (eV 3)) (eCons (eIsN a 9 (some false) (eV 3)) eNil))))) kLst)) (sSeq (sSet 4 (eBin (g2 dAdd) (eV 4) (eArgs (eCons (eIsN a 9 (some false) (eV 3)) (eCons (eIsN a 9 (some false) (eV 3)) (eCons (eIsN a 9 (some false) (eV 3)) (eCons (eIsN a 9 (some false) (eV 3)) (eCons (eIsN a 9 (some true) (eV 3)) eNil))))) kLst))) (sSeq (sIf (eOrT (eNotT (eTru (eIsN a 9 (some true) (eV 3)))) (eOrT (eTru (eIsN a 9 (some false) (eV 3))) (eTru (eIsN a 9 (some false) (eV 3))))) (sRet (eC .none)) sNil) (sSeq (sSet 5 (eC .none)) (sSeq (sIf (asB (eBin (g2 dIn) (eV 0) (eArgs (eCons (eC (.int 0)) (eCons (eC (.int 1)) (eCons (eC (.int 3)) (eCons (eC (.int 6)) (eCons (eC (.int 7)) eNil))))) kLst))) (sSet 5 eBad) sNil) (sSeq (sIf (asB (eBin (g2 dEq) (eV 0) (eC (.int 2)))) (sSet 5 eBad) sNil) (sSeq (sIf (asB (eBin (g2 dEq) (eV 0) (eC (.int 4)))) (sSet 5 eBad) sNil) (sSeq (sIf (asB (eBin (g2 dEq) (eV 0) (eC (.int 5)))) (sSet 5 eBad) sNil) (sSeq (sIf (asB (eBin (g2 dEq) (eV 0) (eC (.int 8)))) (sSet 5 (eArgs (eCons eBad (eCons eBad eNil)) kTup)) sNil) (sRet (eArgs (eCons (eV 4) (eCons (eV 5) eNil)) kTup)))))))))))))
noncomputable def B__law_raised : SF := (B__law_raised_0)
noncomputable def F__law_raised : FM := runF 6 B__law_raised
theorem ok__law_raised {P : Program} {w : World} {K : PySem.W.Frag} {mg : PySem.Str → Option Value} {base : Heap} {T : Nat → Addr} {f__law_alike : Addr} {f__law_taken : Addr} {f__law_pick : Addr} {f__law_raised : Addr} {f_law : Addr} {e_BadNumber : Addr} {e_BadName : Addr} {e_BadItem : Addr} {e_BadEvent : Addr} {e_BadNote : Addr} {e_TooMany : Addr} {e_Unknown : Addr} {e_Taken : Addr} {e_Refused : Addr} {fd : FuncData} {fe_BadEvent : FuncData} {fe_BadItem : FuncData} {fe_BadName : FuncData} {fe_BadNote : FuncData} {fe_BadNumber : FuncData} {fe_Refused : FuncData} {fe_Taken : FuncData} {fe_TooMany : FuncData} {fe_Unknown : FuncData} (Z : Txt K mg T f__law_alike f__law_taken f__law_pick f__law_raised f_law e_BadNumber e_BadName e_BadItem e_BadEvent e_BadNote e_TooMany e_Unknown e_Taken e_Refused) (F : Fun K "_law_raised" "_law_raised" s__law_raised f__law_raised fd) (be_BadEvent : Binds K fe_BadEvent PE_BadEvent []) (be_BadItem : Binds K fe_BadItem PE_BadItem []) (be_BadName : Binds K fe_BadName PE_BadName []) (be_BadNote : Binds K fe_BadNote PE_BadNote []) (be_BadNumber : Binds K fe_BadNumber PE_BadNumber []) (be_Refused : Binds K fe_Refused PE_Refused []) (be_Taken : Binds K fe_Taken PE_Taken []) (be_TooMany : Binds K fe_TooMany PE_TooMany []) (be_Unknown : Binds K fe_Unknown PE_Unknown []) (E_BadEvent : FnOk P w K mg base (L2.CX P w) 1 e_BadEvent fe_BadEvent PE_BadEvent (spX (T 3) FE_BadEvent)) (E_BadItem : FnOk P w K mg base (L2.CX P w) 1 e_BadItem fe_BadItem PE_BadItem (spX (T 2) FE_BadItem)) (E_BadName : FnOk P w K mg base (L2.CX P w) 1 e_BadName fe_BadName PE_BadName (spX (T 1) FE_BadName)) (E_BadNote : FnOk P w K mg base (L2.CX P w) 1 e_BadNote fe_BadNote PE_BadNote (spX (T 4) FE_BadNote)) (E_BadNumber : FnOk P w K mg base (L2.CX P w) 1 e_BadNumber fe_BadNumber PE_BadNumber (spX (T 0) FE_BadNumber)) (E_Refused : FnOk P w K mg base (L2.CX P w) 1 e_Refused fe_Refused PE_Refused (spX (T 8) FE_Refused)) (E_Taken : FnOk P w K mg base (L2.CX P w) 1 e_Taken fe_Taken PE_Taken (spX (T 7) FE_Taken)) (E_TooMany : FnOk P w K mg base (L2.CX P w) 1 e_TooMany fe_TooMany PE_TooMany (spX (T 5) FE_TooMany)) (E_Unknown : FnOk P w K mg base (L2.CX P w) 1 e_Unknown fe_Unknown PE_Unknown (spX (T 6) FE_Unknown)) : FnOk P w K mg base (L2.CX P w) 3 f__law_raised fd P__law_raised (spM K T 3 F__law_raised) := by
  refine def_ok (k := 2) (n := 6) (m := 3) (g := B__law_raised) F sc__law_raised rfl rfl rfl fun cdv A outer s H E hr => ?_
  have hu64 := r64 hr
  have hu66 := r66 hr
  exact (ms_one (ms_tryN (n := 9) (i := 3) rfl rfl sc__law_raised.nd rfl rfl ⟨rfl, by decide, Or.inl Z.m_ChartError⟩ (takes_of rfl rfl rfl rfl) Z.te_ChartError Z.tn (fun W pn xe tk hp => (ms_ncons (ms_if (m_cmpT (op_eqD hu64) p_eq.op (m_var (pv 0)) m_int (nomark _)) (ms_one (ms_raise (c := 0) (names := ["value"]) rfl tk Z.ox_BadNumber Z.iC_BadNumber Z.tI_BadNumber E_BadNumber (hr.mono (by omega)) be_BadNumber rfl Z.m_BadNumber (by decide) (m_arg m_nil (m_var (pv 1))))) ms_nil) (ms_ncons (ms_if (m_cmpT (op_eqD hu64) p_eq.op (m_var (pv 0)) m_int (nomark _)) (ms_one (ms_raise (c := 1) (names := ["value"]) rfl tk Z.ox_BadName Z.iC_BadName Z.tI_BadName E_BadName (hr.mono (by omega)) be_BadName rfl Z.m_BadName (by decide) (m_arg m_nil (m_var (pv 1))))) ms_nil) (ms_ncons (ms_if (m_cmpT (op_eqD hu64) p_eq.op (m_var (pv 0)) m_int (nomark _)) (ms_one (ms_raise (c := 2) (names := ["index"]) rfl tk Z.ox_BadItem Z.iC_BadItem Z.tI_BadItem E_BadItem (hr.mono (by omega)) be_BadItem rfl Z.m_BadItem (by decide) (m_arg m_nil (m_var (pv 1))))) ms_nil) (ms_ncons (ms_if (m_cmpT (op_eqD hu64) p_eq.op (m_var (pv 0)) m_int (nomark _)) (ms_one (ms_raise (c := 3) (names := ["value"]) rfl tk Z.ox_BadEvent Z.iC_BadEvent Z.tI_BadEvent E_BadEvent (hr.mono (by omega)) be_BadEvent rfl Z.m_BadEvent (by decide) (m_arg m_nil (m_var (pv 1))))) ms_nil) (ms_ncons (ms_if (m_cmpT (op_eqD hu64) p_eq.op (m_var (pv 0)) m_int (nomark _)) (ms_one (ms_raise (c := 4) (names := ["line"]) rfl tk Z.ox_BadNote Z.iC_BadNote Z.tI_BadNote E_BadNote (hr.mono (by omega)) be_BadNote rfl Z.m_BadNote (by decide) (m_arg m_nil (m_var (pv 1))))) ms_nil) (ms_ncons (ms_if (m_cmpT (op_eqD hu64) p_eq.op (m_var (pv 0)) m_int (nomark _)) (ms_one (ms_raise (c := 5) (names := ["limit"]) rfl tk Z.ox_TooMany Z.iC_TooMany Z.tI_TooMany E_TooMany (hr.mono (by omega)) be_TooMany rfl Z.m_TooMany (by decide) (m_arg m_nil (m_var (pv 1))))) ms_nil) (ms_ncons (ms_if (m_cmpT (op_eqD hu64) p_eq.op (m_var (pv 0)) m_int (nomark _)) (ms_one (ms_raise (c := 6) (names := ["value"]) rfl tk Z.ox_Unknown Z.iC_Unknown Z.tI_Unknown E_Unknown (hr.mono (by omega)) be_Unknown rfl Z.m_Unknown (by decide) (m_arg m_nil (m_var (pv 1))))) ms_nil) (ms_ncons (ms_if (m_cmpT (op_eqD hu64) p_eq.op (m_var (pv 0)) m_int (nomark _)) (ms_one (ms_raise (c := 7) (names := ["value"]) rfl tk Z.ox_Taken Z.iC_Taken Z.tI_Taken E_Taken (hr.mono (by omega)) be_Taken rfl Z.m_Taken (by decide) (m_arg m_nil (m_var (pv 1))))) ms_nil) (ms_ncons (ms_if (m_cmpT (op_eqD hu64) p_eq.op (m_var (pv 0)) m_int (nomark _)) (ms_one (ms_raise (c := 8) (names := ["reason", "names"]) rfl tk Z.ox_Refused Z.iC_Refused Z.tI_Refused E_Refused (hr.mono (by omega)) be_Refused rfl Z.m_Refused (by decide) (m_arg (m_arg m_nil (m_var (pv 2))) (m_var (pv 1))))) ms_nil) (ms_nend (n := 9) rfl tk PySem.F.excBase_ValueError Z.q_NothingToUndo Z.m_NothingToUndo Z.k_NothingToUndo (raises_own Z.r1_NothingToUndo Z.r2_NothingToUndo) rfl))))))))))) (fun a oe c d pn ht hz hf => (ms_cons (ms_set (i := 4) sc__law_raised.nd rfl (by first | exact Or.inl rfl | exact Or.inr rfl) (m_lst (m_arg (m_arg (m_arg (m_arg (m_arg m_nil (m_isE (b := (isK c 4)) (Z.ec c ht) hz hf (.own _) (fun r h => Z.ki_BadNote c r h) rfl Z.z_isinstance (by decide +kernel) (pe_glob (v := .ref (T 4)) (u := .ref (T 4)) rfl Z.m_BadNote rfl) (m_var (pv 3)))) (m_isE (b := (isK c 3)) (Z.ec c ht) hz hf (.own _) (fun r h => Z.ki_BadEvent c r h) rfl Z.z_isinstance (by decide +kernel) (pe_glob (v := .ref (T 3)) (u := .ref (T 3)) rfl Z.m_BadEvent rfl) (m_var (pv 3)))) (m_isE (b := (isK c 2)) (Z.ec c ht) hz hf (.own _) (fun r h => Z.ki_BadItem c r h) rfl Z.z_isinstance (by decide +kernel) (pe_glob (v := .ref (T 2)) (u := .ref (T 2)) rfl Z.m_BadItem rfl) (m_var (pv 3)))) (m_isE (b := (isK c 1)) (Z.ec c ht) hz hf (.own _) (fun r h => Z.ki_BadName c r h) rfl Z.z_isinstance (by decide +kernel) (pe_glob (v := .ref (T 1)) (u := .ref (T 1)) rfl Z.m_BadName rfl) (m_var (pv 3)))) (m_isE (b := (isK c 0)) (Z.ec c ht) hz hf (.own _) (fun r h => Z.ki_BadNumber c r h) rfl Z.z_isinstance (by decide +kernel) (pe_glob (v := .ref (T 0)) (u := .ref (T 0)) rfl Z.m_BadNumber rfl) (m_var (pv 3)))))) (ms_cons (ms_set (i := 4) sc__law_raised.nd rfl (by first | exact Or.inl rfl | exact Or.inr rfl) (m_bin op_addM p_add.op (m_var (pv 4)) (m_lst (m_arg (m_arg (m_arg (m_arg (m_arg m_nil (m_isE (b := (isK c 9)) (Z.ec c ht) hz hf (.own _) (fun r h => Z.ki_NothingToUndo c r h) rfl Z.z_isinstance (by decide +kernel) (pe_glob (v := .ref (T 9)) (u := .ref (T 9)) rfl Z.m_NothingToUndo rfl) (m_var (pv 3)))) (m_isE (b := (isK c 8)) (Z.ec c ht) hz hf (.own _) (fun r h => Z.ki_Refused c r h) rfl Z.z_isinstance (by decide +kernel) (pe_glob (v := .ref (T 8)) (u := .ref (T 8)) rfl Z.m_Refused rfl) (m_var (pv 3)))) (m_isE (b := (isK c 7)) (Z.ec c ht) hz hf (.own _) (fun r h => Z.ki_Taken c r h) rfl Z.z_isinstance (by decide +kernel) (pe_glob (v := .ref (T 7)) (u := .ref (T 7)) rfl Z.m_Taken rfl) (m_var (pv 3)))) (m_isE (b := (isK c 6)) (Z.ec c ht) hz hf (.own _) (fun r h => Z.ki_Unknown c r h) rfl Z.z_isinstance (by decide +kernel) (pe_glob (v := .ref (T 6)) (u := .ref (T 6)) rfl Z.m_Unknown rfl) (m_var (pv 3)))) (m_isE (b := (isK c 5)) (Z.ec c ht) hz hf (.own _) (fun r h => Z.ki_TooMany c r h) rfl Z.z_isinstance (by decide +kernel) (pe_glob (v := .ref (T 5)) (u := .ref (T 5)) rfl Z.m_TooMany rfl) (m_var (pv 3))))))) (ms_cons (ms_if (m_pw (m_wor (m_notT (m_truth (m_isE (b := (some true)) (Z.ec c ht) hz hf (.ty "ValueError") (fun r h => by cases h; exact Z.kb_ValueError c ht) rfl Z.z_isinstance (by decide +kernel) (pe_bltn (v := .ty "ValueError") rfl Z.z_ValueError (by decide +kernel) rfl) (m_var (pv 3))))) (m_wor (m_truth (m_isE (b := (some false)) (Z.ec c ht) hz hf (.ty "LookupError") (fun r h => by cases h; exact Z.kb_LookupError c ht) rfl Z.z_isinstance (by decide +kernel) (pe_bltn (v := .ty "LookupError") rfl Z.z_LookupError (by decide +kernel) rfl) (m_var (pv 3)))) (m_wor1 (m_truth (m_isE (b := (some false)) (Z.ec c ht) hz hf (.ty "RuntimeError") (fun r h => by cases h; exact Z.kb_RuntimeError c ht) rfl Z.z_isinstance (by decide +kernel) (pe_bltn (v := .ty "RuntimeError") rfl Z.z_RuntimeError (by decide +kernel) rfl) (m_var (pv 3)))))))) (ms_one (ms_ret m_non)) ms_nil) (ms_cons (ms_set (i := 5) sc__law_raised.nd rfl (by first | exact Or.inl rfl | exact Or.inr rfl) m_non) (ms_cons (ms_if (m_cmpT (op_inM hu66) p_in.op (m_var (pv 0)) (m_lst (m_arg (m_arg (m_arg (m_arg (m_arg m_nil m_int) m_int) m_int) m_int) m_int)) rfl) (ms_one (ms_set (i := 5) sc__law_raised.nd rfl (by first | exact Or.inl rfl | exact Or.inr rfl) (m_xf (Z.xf_ChartError c ht) (Z.nf_ChartError_value c ht) hz hf (m_var (pv 3))))) ms_nil) (ms_cons (ms_if (m_cmpT (op_eqD hu64) p_eq.op (m_var (pv 0)) m_int (nomark _)) (ms_one (ms_set (i := 5) sc__law_raised.nd rfl (by first | exact Or.inl rfl | exact Or.inr rfl) (m_xf (Z.xf_ChartError c ht) (Z.nf_ChartError_index c ht) hz hf (m_var (pv 3))))) ms_nil) (ms_cons (ms_if (m_cmpT (op_eqD hu64) p_eq.op (m_var (pv 0)) m_int (nomark _)) (ms_one (ms_set (i := 5) sc__law_raised.nd rfl (by first | exact Or.inl rfl | exact Or.inr rfl) (m_xf (Z.xf_ChartError c ht) (Z.nf_ChartError_line c ht) hz hf (m_var (pv 3))))) ms_nil) (ms_cons (ms_if (m_cmpT (op_eqD hu64) p_eq.op (m_var (pv 0)) m_int (nomark _)) (ms_one (ms_set (i := 5) sc__law_raised.nd rfl (by first | exact Or.inl rfl | exact Or.inr rfl) (m_xf (Z.xf_ChartError c ht) (Z.nf_ChartError_limit c ht) hz hf (m_var (pv 3))))) ms_nil) (ms_cons (ms_if (m_cmpT (op_eqD hu64) p_eq.op (m_var (pv 0)) m_int (nomark _)) (ms_one (ms_set (i := 5) sc__law_raised.nd rfl (by first | exact Or.inl rfl | exact Or.inr rfl) (m_tup (m_arg (m_arg m_nil (m_xf (Z.xf_ChartError c ht) (Z.nf_ChartError_names c ht) hz hf (m_var (pv 3)))) (m_xf (Z.xf_ChartError c ht) (Z.nf_ChartError_reason c ht) hz hf (m_var (pv 3))))))) ms_nil) (ms_one (ms_ret (m_tup (m_arg (m_arg m_nil (m_var (pv 5))) (m_var (pv 4)))))))))))))))) (fun a oe pn hz hf => (ms_cons (ms_set (i := 4) sc__law_raised.nd rfl (by first | exact Or.inl rfl | exact Or.inr rfl) (m_lst (m_arg (m_arg (m_arg (m_arg (m_arg m_nil (m_isN (b := (some false)) Z.ecN hz hf (.own _) (fun r h => by cases h; exact Z.kn_BadNote) rfl Z.z_isinstance (by decide +kernel) (pe_glob (v := .ref (T 4)) (u := .ref (T 4)) rfl Z.m_BadNote rfl) (m_var (pv 3)))) (m_isN (b := (some false)) Z.ecN hz hf (.own _) (fun r h => by cases h; exact Z.kn_BadEvent) rfl Z.z_isinstance (by decide +kernel) (pe_glob (v := .ref (T 3)) (u := .ref (T 3)) rfl Z.m_BadEvent rfl) (m_var (pv 3)))) (m_isN (b := (some false)) Z.ecN hz hf (.own _) (fun r h => by cases h; exact Z.kn_BadItem) rfl Z.z_isinstance (by decide +kernel) (pe_glob (v := .ref (T 2)) (u := .ref (T 2)) rfl Z.m_BadItem rfl) (m_var (pv 3)))) (m_isN (b := (some false)) Z.ecN hz hf (.own _) (fun r h => by cases h; exact Z.kn_BadName) rfl Z.z_isinstance (by decide +kernel) (pe_glob (v := .ref (T 1)) (u := .ref (T 1)) rfl Z.m_BadName rfl) (m_var (pv 3)))) (m_isN (b := (some false)) Z.ecN hz hf (.own _) (fun r h => by cases h; exact Z.kn_BadNumber) rfl Z.z_isinstance (by decide +kernel) (pe_glob (v := .ref (T 0)) (u := .ref (T 0)) rfl Z.m_BadNumber rfl) (m_var (pv 3)))))) (ms_cons (ms_set (i := 4) sc__law_raised.nd rfl (by first | exact Or.inl rfl | exact Or.inr rfl) (m_bin op_addM p_add.op (m_var (pv 4)) (m_lst (m_arg (m_arg (m_arg (m_arg (m_arg m_nil (m_isN (b := (some true)) Z.ecN hz hf (.own _) (fun r h => by cases h; exact Z.kn_NothingToUndo) rfl Z.z_isinstance (by decide +kernel) (pe_glob (v := .ref (T 9)) (u := .ref (T 9)) rfl Z.m_NothingToUndo rfl) (m_var (pv 3)))) (m_isN (b := (some false)) Z.ecN hz hf (.own _) (fun r h => by cases h; exact Z.kn_Refused) rfl Z.z_isinstance (by decide +kernel) (pe_glob (v := .ref (T 8)) (u := .ref (T 8)) rfl Z.m_Refused rfl) (m_var (pv 3)))) (m_isN (b := (some false)) Z.ecN hz hf (.own _) (fun r h => by cases h; exact Z.kn_Taken) rfl Z.z_isinstance (by decide +kernel) (pe_glob (v := .ref (T 7)) (u := .ref (T 7)) rfl Z.m_Taken rfl) (m_var (pv 3)))) (m_isN (b := (some false)) Z.ecN hz hf (.own _) (fun r h => by cases h; exact Z.kn_Unknown) rfl Z.z_isinstance (by decide +kernel) (pe_glob (v := .ref (T 6)) (u := .ref (T 6)) rfl Z.m_Unknown rfl) (m_var (pv 3)))) (m_isN (b := (some false)) Z.ecN hz hf (.own _) (fun r h => by cases h; exact Z.kn_TooMany) rfl Z.z_isinstance (by decide +kernel) (pe_glob (v := .ref (T 5)) (u := .ref (T 5)) rfl Z.m_TooMany rfl) (m_var (pv 3))))))) (ms_cons (ms_if (m_pw (m_wor (m_notT (m_truth (m_isN (b := (some true)) Z.ecN hz hf (.ty "ValueError") (fun r h => by cases h; exact Z.kbn_ValueError) rfl Z.z_isinstance (by decide +kernel) (pe_bltn (v := .ty "ValueError") rfl Z.z_ValueError (by decide +kernel) rfl) (m_var (pv 3))))) (m_wor (m_truth (m_isN (b := (some false)) Z.ecN hz hf (.ty "LookupError") (fun r h => by cases h; exact Z.kbn_LookupError) rfl Z.z_isinstance (by decide +kernel) (pe_bltn (v := .ty "LookupError") rfl Z.z_LookupError (by decide +kernel) rfl) (m_var (pv 3)))) (m_wor1 (m_truth (m_isN (b := (some false)) Z.ecN hz hf (.ty "RuntimeError") (fun r h => by cases h; exact Z.kbn_RuntimeError) rfl Z.z_isinstance (by decide +kernel) (pe_bltn (v := .ty "RuntimeError") rfl Z.z_RuntimeError (by decide +kernel) rfl) (m_var (pv 3)))))))) (ms_one (ms_ret m_non)) ms_nil) (ms_cons (ms_set (i := 5) sc__law_raised.nd rfl (by first | exact Or.inl rfl | exact Or.inr rfl) m_non) (ms_cons (ms_if (m_cmpT (op_inM hu66) p_in.op (m_var (pv 0)) (m_lst (m_arg (m_arg (m_arg (m_arg (m_arg m_nil m_int) m_int) m_int) m_int) m_int)) rfl) (ms_one (ms_set (i := 5) sc__law_raised.nd rfl (by first | exact Or.inl rfl | exact Or.inr rfl) m_bad)) ms_nil) (ms_cons (ms_if (m_cmpT (op_eqD hu64) p_eq.op (m_var (pv 0)) m_int (nomark _)) (ms_one (ms_set (i := 5) sc__law_raised.nd rfl (by first | exact Or.inl rfl | exact Or.inr rfl) m_bad)) ms_nil) (ms_cons (ms_if (m_cmpT (op_eqD hu64) p_eq.op (m_var (pv 0)) m_int (nomark _)) (ms_one (ms_set (i := 5) sc__law_raised.nd rfl (by first | exact Or.inl rfl | exact Or.inr rfl) m_bad)) ms_nil) (ms_cons (ms_if (m_cmpT (op_eqD hu64) p_eq.op (m_var (pv 0)) m_int (nomark _)) (ms_one (ms_set (i := 5) sc__law_raised.nd rfl (by first | exact Or.inl rfl | exact Or.inr rfl) m_bad)) ms_nil) (ms_cons (ms_if (m_cmpT (op_eqD hu64) p_eq.op (m_var (pv 0)) m_int (nomark _)) (ms_one (ms_set (i := 5) sc__law_raised.nd rfl (by first | exact Or.inl rfl | exact Or.inr rfl) (m_tup (m_arg (m_arg m_nil m_bad) m_bad)))) ms_nil) (ms_one (ms_ret (m_tup (m_arg (m_arg m_nil (m_var (pv 5))) (m_var (pv 4))))))))))))))))))
/-! law -/
abbrev s_law : Stmt := top 17
abbrev N_law : List PySem.Str := ["script", "row", "number", "value", "named", "told", "due", "made", "k"]
abbrev P_law : List PySem.Str := ["script"]
theorem sc_law : FnScope N_law P_law (defScope s_law) := ⟨rfl, rfl, rfl, by decide +kernel, rfl, by decide +kernel, by decide +kernel⟩
noncomputable def B_law_0 : SF := (sSet 1 (eArgs (eCons (eV 0) (eCons (eC (.int 0)) (eCons (eC (.int 53)) (eCons (eC (.int 0)) eNil)))) kLstN))
noncomputable def B_law_1 : SF := (sFor (nl (eRange1 (eCons (eC (.int 10)) eNil))) (tName 2) (sWp [2, 3, 4, 5, 6] (sSeq (sSet 3 (eArgs (eCons (eV 1) (eCons (eArgs (eCons (eC .none) (eCons (eC (.int 7)) (eCons (eC (.str "x")) (eCons (eArgs (eCons (eC (.int 1)) (eCons (eC (.int 2)) eNil)) kTup) (eCons (eC (.bool true)) (eCons (eArgs (eCons (eV 1) (eCons (eBin (g2 dPow) (eC (.int 10)) (eC (.int 9))) eNil)) (kLen 2 F__law_taken)) eNil)))))) kLst) eNil)) (kLen 2 F__law_pick))) (sSeq (sSet 4 (eArgs (eCons (eV 1) (eCons (eArgs (eCons (eArgs eNil kTup) (eCons (eArgs (eCons (eC (.str "a")) eNil) kTup) eNil)) kLst) eNil)) (kLen 2 F__law_pick))) (sSeq (sSet 5 (eArgs (eCons (eV 2) (eCons (eV 3) (eCons (eV 4) eNil))) (kLen 3 F__law_raised))) (sSeq (sIf (eOrT (asB (eBin (g2 dIs) (eV 5) (eC .none))) (asB (eBin (g2 dNe) (eBin (g2 dIx) (eV 5) (eC (.int 0))) (eLc false [8] (nl (eRange1 (eCons (eC (.int 10)) eNil))) (tName 8) eYes (eBin (g2 dEq) (eV 8) (eV 2)))))) (sRet (eC (.bool false))) sNil) (sSeq (sSet 6 (eV 3)) (sSeq (sIf (asB (eBin (g2 dEq) (eV 2) (eC (.int 8)))) (sSet 6 (eArgs (eCons (eV 3) (eCons (eV 4) eNil)) kTup)) sNil) (sIf (eAndT (asB (eBin (g2 (dCmp fun i j => decide (i < j))) (eV 2) (eC (.int 9)))) (eOrT (asB (eBin (g2 dNe) (eBin (g2 dIx) (eV 5) (eC (.int 1))) (eV 6))) (asB (eBin (g2 dNe) (eUn (g1 (bIsi ["bool"])) (eBin (g2 dIx) (eV 5) (eC (.int 1)))) (eUn (g1 (bIsi ["bool"])) (eV 6)))))) (sRet (eC (.bool false))) sNil)))))))))
noncomputable def B_law_2 : SF := (sSet 7 (eArgs (eCons (eKwf ["value"] false "value" (eCons (eC (.int 1)) eNil)) (eCons (eKwf ["value"] false "value" (eCons (eC (.str "a")) eNil)) (eCons (eKwf ["index"] false "index" (eCons (eC (.int 4)) eNil)) (eCons (eKwf ["value"] false "value" (eCons (eC (.int 5)) eNil)) (eCons (eKwf ["line"] false "line" (eCons (eC (.int 6)) eNil)) eNil))))) kLst))
noncomputable def B_law_3 : SF := (sSet 7 (eBin (g2 dAdd) (eV 7) (eArgs (eCons (eKwf ["limit"] false "limit" (eCons (eC (.int 7)) eNil)) (eCons (eKwf ["value"] false "value" (eCons (eC (.int 8)) eNil)) (eCons (eKwf ["value"] false "value" (eCons (eC (.int 9)) eNil)) (eCons (eKwf ["reason", "names"] false "names" (eCons (eC (.str "r")) (eCons (eC (.int 11)) eNil))) (eCons (eKwf ["reason", "names"] true "reason" (eCons (eC (.int 1)) (eCons (eC (.str "s")) eNil))) eNil))))) kLst)))
noncomputable def B_law_4 : SF := (sRet (eArgs (eCons (eV 7) (eCons (eArgs (eCons (eC (.int 1)) (eCons (eC (.str "a")) (eCons (eC (.int 4)) (eCons (eC (.int 5)) (eCons (eC (.int 6)) (eCons (eC (.int 7)) (eCons (eC (.int 8)) (eCons (eC (.int 9)) (eCons (eC (.int 11)) (eCons (eC (.str "s")) eNil)))))))))) kLst) eNil)) (kLen 2 (F__law_alike 3))))
noncomputable def B_law : SF := (sSeq (B_law_0) (sSeq (B_law_1) (sSeq (B_law_2) (sSeq (B_law_3) (B_law_4)))))
noncomputable def F_law : FM := runF 9 B_law
theorem ok_law {P : Program} {w : World} {K : PySem.W.Frag} {mg : PySem.Str → Option Value} {base : Heap} {T : Nat → Addr} {f__law_alike : Addr} {f__law_taken : Addr} {f__law_pick : Addr} {f__law_raised : Addr} {f_law : Addr} {e_BadNumber : Addr} {e_BadName : Addr} {e_BadItem : Addr} {e_BadEvent : Addr} {e_BadNote : Addr} {e_TooMany : Addr} {e_Unknown : Addr} {e_Taken : Addr} {e_Refused : Addr} {fd : FuncData} {fd__law_alike : FuncData} {fd__law_pick : FuncData} {fd__law_raised : FuncData} {fd__law_taken : FuncData} {fe_BadEvent : FuncData} {fe_BadItem : FuncData} {fe_BadName : FuncData} {fe_BadNote : FuncData} {fe_BadNumber : FuncData} {fe_Refused : FuncData} {fe_Taken : FuncData} {fe_TooMany : FuncData} {fe_Unknown : FuncData} (Z : Txt K mg T f__law_alike f__law_taken f__law_pick f__law_raised f_law e_BadNumber e_BadName e_BadItem e_BadEvent e_BadNote e_TooMany e_Unknown e_Taken e_Refused) (F : Fun K "law" "law" s_law f_law fd) (b__law_alike : Binds K fd__law_alike P__law_alike []) (b__law_pick : Binds K fd__law_pick P__law_pick []) (b__law_raised : Binds K fd__law_raised P__law_raised []) (b__law_taken : Binds K fd__law_taken P__law_taken []) (be_BadEvent : Binds K fe_BadEvent PE_BadEvent []) (kb0_BadEvent : KwB K fe_BadEvent PE_BadEvent ["value"] false) (be_BadItem : Binds K fe_BadItem PE_BadItem []) (kb0_BadItem : KwB K fe_BadItem PE_BadItem ["index"] false) (be_BadName : Binds K fe_BadName PE_BadName []) (kb0_BadName : KwB K fe_BadName PE_BadName ["value"] false) (be_BadNote : Binds K fe_BadNote PE_BadNote []) (kb0_BadNote : KwB K fe_BadNote PE_BadNote ["line"] false) (be_BadNumber : Binds K fe_BadNumber PE_BadNumber []) (kb0_BadNumber : KwB K fe_BadNumber PE_BadNumber ["value"] false) (be_Refused : Binds K fe_Refused PE_Refused []) (kb0_Refused : KwB K fe_Refused PE_Refused ["reason", "names"] false) (kb1_Refused : KwB K fe_Refused PE_Refused ["names", "reason"] true) (be_Taken : Binds K fe_Taken PE_Taken []) (kb0_Taken : KwB K fe_Taken PE_Taken ["value"] false) (be_TooMany : Binds K fe_TooMany PE_TooMany []) (kb0_TooMany : KwB K fe_TooMany PE_TooMany ["limit"] false) (be_Unknown : Binds K fe_Unknown PE_Unknown []) (kb0_Unknown : KwB K fe_Unknown PE_Unknown ["value"] false) (G__law_alike : ∀ t, FnOk P w K mg base (L2.CX P w) (0 + t) f__law_alike fd__law_alike P__law_alike (spM K T 2 (F__law_alike t))) (G__law_pick : FnOk P w K mg base (L2.CX P w) 2 f__law_pick fd__law_pick P__law_pick (spM K T 2 F__law_pick)) (G__law_raised : FnOk P w K mg base (L2.CX P w) 3 f__law_raised fd__law_raised P__law_raised (spM K T 3 F__law_raised)) (G__law_taken : FnOk P w K mg base (L2.CX P w) 1 f__law_taken fd__law_taken P__law_taken (spM K T 2 F__law_taken)) (E_BadEvent : FnOk P w K mg base (L2.CX P w) 1 e_BadEvent fe_BadEvent PE_BadEvent (spX (T 3) FE_BadEvent)) (E_BadItem : FnOk P w K mg base (L2.CX P w) 1 e_BadItem fe_BadItem PE_BadItem (spX (T 2) FE_BadItem)) (E_BadName : FnOk P w K mg base (L2.CX P w) 1 e_BadName fe_BadName PE_BadName (spX (T 1) FE_BadName)) (E_BadNote : FnOk P w K mg base (L2.CX P w) 1 e_BadNote fe_BadNote PE_BadNote (spX (T 4) FE_BadNote)) (E_BadNumber : FnOk P w K mg base (L2.CX P w) 1 e_BadNumber fe_BadNumber PE_BadNumber (spX (T 0) FE_BadNumber)) (E_Refused : FnOk P w K mg base (L2.CX P w) 1 e_Refused fe_Refused PE_Refused (spX (T 8) FE_Refused)) (E_Taken : FnOk P w K mg base (L2.CX P w) 1 e_Taken fe_Taken PE_Taken (spX (T 7) FE_Taken)) (E_TooMany : FnOk P w K mg base (L2.CX P w) 1 e_TooMany fe_TooMany PE_TooMany (spX (T 5) FE_TooMany)) (E_Unknown : FnOk P w K mg base (L2.CX P w) 1 e_Unknown fe_Unknown PE_Unknown (spX (T 6) FE_Unknown)) : FnG P w K mg base (L2.CX P w) 4 f_law fd P_law (spM K T 1 F_law) := by
  refine def_okG (k := 3) (n := 9) (m := 1) (g := B_law) F sc_law rfl rfl rfl fun cdv A outer s H E hGd hr => ?_
  have hu64 := r64 hr
  have hu66 := r66 hr
  exact (ms_cons (ms_set (i := 1) sc_law.nd rfl (by first | exact Or.inl rfl | exact Or.inr rfl) (m_lstN (m_arg (m_arg (m_arg (m_arg m_nil m_int) m_int) m_int) (m_var (pv 0))))) (ms_cons (ms_for (vs := [2]) (passes_of rfl) rfl (mv (mi_range1 rfl Z.z_range (m_arg m_nil m_int))) (mg_name (i := 2) sc_law.nd rfl (by first | exact Or.inl rfl | exact Or.inr rfl)) (mss_wp [2, 3, 4, 5, 6] (ms_cons (ms_set (i := 3) sc_law.nd rfl (by first | exact Or.inl rfl | exact Or.inr rfl) (m_call (takes_of rfl rfl rfl rfl) G__law_pick (hr.mono (by omega)) rfl Z.m__law_pick Z.k__law_pick b__law_pick (m_arg (m_arg m_nil (m_lst (m_arg (m_arg (m_arg (m_arg (m_arg (m_arg m_nil (m_call (takes_of rfl rfl rfl rfl) G__law_taken (hr.mono (by omega)) rfl Z.m__law_taken Z.k__law_taken b__law_taken (m_arg (m_arg m_nil (m_bin op_pow p_pow.op m_int m_int)) (m_var (pv 1))))) m_bl) (m_tup (m_arg (m_arg m_nil m_int) m_int))) (m_str (by decide +kernel))) m_int) m_non))) (m_var (pv 1))))) (ms_cons (ms_set (i := 4) sc_law.nd rfl (by first | exact Or.inl rfl | exact Or.inr rfl) (m_call (takes_of rfl rfl rfl rfl) G__law_pick (hr.mono (by omega)) rfl Z.m__law_pick Z.k__law_pick b__law_pick (m_arg (m_arg m_nil (m_lst (m_arg (m_arg m_nil (m_tup (m_arg m_nil (m_str (by decide +kernel))))) (m_tup m_nil)))) (m_var (pv 1))))) (ms_cons (ms_set (i := 5) sc_law.nd rfl (by first | exact Or.inl rfl | exact Or.inr rfl) (m_call (takes_of rfl rfl rfl rfl) G__law_raised (hr.mono (by omega)) rfl Z.m__law_raised Z.k__law_raised b__law_raised (m_arg (m_arg (m_arg m_nil (m_var (pv 4))) (m_var (pv 3))) (m_var (pv 2))))) (ms_cons (ms_if (m_pw (m_wor (m_cmpT op_isN p_is.op (m_var (pv 5)) m_non (nomark _)) (m_wor1 (m_cmpT (op_neD hu64) p_ne.op (m_ix (m_var (pv 5)) m_int) (m_lc false (own := [("k", 8)]) rfl sc_law.nd (mv (mi_range1 rfl Z.z_range (m_arg m_nil m_int))) (blkOk_by (by first | (show blkC N_law (defScope s_law) _ _ = true; decide +kernel) | kernel_rfl)) (fun _ _ _ _ _ => (mg_name (i := 8) sc_law.nd rfl (by first | exact Or.inl rfl | exact Or.inr rfl))) (fun _ _ _ _ _ => mts_nil) (fun _ _ _ _ _ => (m_cmp (op_eqD hu64) p_eq.op (m_var (pv 8)) (m_var (pv 2)) (nomark _)))) (nomark _))))) (ms_one (ms_ret m_bl)) ms_nil) (ms_cons (ms_set (i := 6) sc_law.nd rfl (by first | exact Or.inl rfl | exact Or.inr rfl) (m_var (pv 3))) (ms_cons (ms_if (m_cmpT (op_eqD hu64) p_eq.op (m_var (pv 2)) m_int (nomark _)) (ms_one (ms_set (i := 6) sc_law.nd rfl (by first | exact Or.inl rfl | exact Or.inr rfl) (m_tup (m_arg (m_arg m_nil (m_var (pv 4))) (m_var (pv 3)))))) ms_nil) (ms_one (ms_if (m_pw (m_wand (m_cmpT op_lt (p_cmp _).op (m_var (pv 2)) m_int (nomark _)) (m_wand1 (m_pw (m_wor (m_cmpT (op_neD hu64) p_ne.op (m_ix (m_var (pv 5)) m_int) (m_var (pv 6)) (nomark _)) (m_wor1 (m_cmpT (op_neD hu64) p_ne.op (m_isi (T1 := "bool") (by decide +kernel) rfl Z.z_isinstance (by decide +kernel) rfl Z.z_bool (by decide +kernel) (m_ix (m_var (pv 5)) m_int)) (m_isi (T1 := "bool") (by decide +kernel) rfl Z.z_isinstance (by decide +kernel) rfl Z.z_bool (by decide +kernel) (m_var (pv 6))) (nomark _)))))))) (ms_one (ms_ret m_bl)) ms_nil)))))))))) (ms_cons (ms_set (i := 7) sc_law.nd rfl (by first | exact Or.inl rfl | exact Or.inr rfl) (m_lst (m_arg (m_arg (m_arg (m_arg (m_arg m_nil (m_kwf (c := 4) (names := ["line"]) (rev := false) (ks := ["line"]) Z.ox_BadNote (Z.xf_ChartError 4 rfl) (Z.nf_ChartError_line 4 rfl) Z.iC_BadNote Z.tI_BadNote E_BadNote (hr.mono (by omega)) kb0_BadNote rfl Z.m_BadNote (by decide) (m_karg m_int m_knil) rfl)) (m_kwf (c := 3) (names := ["value"]) (rev := false) (ks := ["value"]) Z.ox_BadEvent (Z.xf_ChartError 3 rfl) (Z.nf_ChartError_value 3 rfl) Z.iC_BadEvent Z.tI_BadEvent E_BadEvent (hr.mono (by omega)) kb0_BadEvent rfl Z.m_BadEvent (by decide) (m_karg m_int m_knil) rfl)) (m_kwf (c := 2) (names := ["index"]) (rev := false) (ks := ["index"]) Z.ox_BadItem (Z.xf_ChartError 2 rfl) (Z.nf_ChartError_index 2 rfl) Z.iC_BadItem Z.tI_BadItem E_BadItem (hr.mono (by omega)) kb0_BadItem rfl Z.m_BadItem (by decide) (m_karg m_int m_knil) rfl)) (m_kwf (c := 1) (names := ["value"]) (rev := false) (ks := ["value"]) Z.ox_BadName (Z.xf_ChartError 1 rfl) (Z.nf_ChartError_value 1 rfl) Z.iC_BadName Z.tI_BadName E_BadName (hr.mono (by omega)) kb0_BadName rfl Z.m_BadName (by decide) (m_karg (m_str (by decide +kernel)) m_knil) rfl)) (m_kwf (c := 0) (names := ["value"]) (rev := false) (ks := ["value"]) Z.ox_BadNumber (Z.xf_ChartError 0 rfl) (Z.nf_ChartError_value 0 rfl) Z.iC_BadNumber Z.tI_BadNumber E_BadNumber (hr.mono (by omega)) kb0_BadNumber rfl Z.m_BadNumber (by decide) (m_karg m_int m_knil) rfl)))) (ms_cons (ms_set (i := 7) sc_law.nd rfl (by first | exact Or.inl rfl | exact Or.inr rfl) (m_bin op_addM p_add.op (m_var (pv 7)) (m_lst (m_arg (m_arg (m_arg (m_arg (m_arg m_nil (m_kwf (c := 8) (names := ["reason", "names"]) (rev := true) (ks := ["names", "reason"]) Z.ox_Refused (Z.xf_ChartError 8 rfl) (Z.nf_ChartError_reason 8 rfl) Z.iC_Refused Z.tI_Refused E_Refused (hr.mono (by omega)) kb1_Refused rfl Z.m_Refused (by decide) (m_karg m_int (m_karg (m_str (by decide +kernel)) m_knil)) rfl)) (m_kwf (c := 8) (names := ["reason", "names"]) (rev := false) (ks := ["reason", "names"]) Z.ox_Refused (Z.xf_ChartError 8 rfl) (Z.nf_ChartError_names 8 rfl) Z.iC_Refused Z.tI_Refused E_Refused (hr.mono (by omega)) kb0_Refused rfl Z.m_Refused (by decide) (m_karg (m_str (by decide +kernel)) (m_karg m_int m_knil)) rfl)) (m_kwf (c := 7) (names := ["value"]) (rev := false) (ks := ["value"]) Z.ox_Taken (Z.xf_ChartError 7 rfl) (Z.nf_ChartError_value 7 rfl) Z.iC_Taken Z.tI_Taken E_Taken (hr.mono (by omega)) kb0_Taken rfl Z.m_Taken (by decide) (m_karg m_int m_knil) rfl)) (m_kwf (c := 6) (names := ["value"]) (rev := false) (ks := ["value"]) Z.ox_Unknown (Z.xf_ChartError 6 rfl) (Z.nf_ChartError_value 6 rfl) Z.iC_Unknown Z.tI_Unknown E_Unknown (hr.mono (by omega)) kb0_Unknown rfl Z.m_Unknown (by decide) (m_karg m_int m_knil) rfl)) (m_kwf (c := 5) (names := ["limit"]) (rev := false) (ks := ["limit"]) Z.ox_TooMany (Z.xf_ChartError 5 rfl) (Z.nf_ChartError_limit 5 rfl) Z.iC_TooMany Z.tI_TooMany E_TooMany (hr.mono (by omega)) kb0_TooMany rfl Z.m_TooMany (by decide) (m_karg m_int m_knil) rfl))))) (ms_one (ms_ret (m_call (takes_of rfl rfl rfl rfl) (G__law_alike 3) (hr.mono (by omega)) rfl Z.m__law_alike Z.k__law_alike b__law_alike (m_arg (m_arg m_nil (m_lst (m_arg (m_arg (m_arg (m_arg (m_arg (m_arg (m_arg (m_arg (m_arg (m_arg m_nil (m_str (by decide +kernel))) m_int) m_int) m_int) m_int) m_int) m_int) m_int) (m_str (by decide +kernel))) m_int))) (m_var (pv 7))))))))))
end K09
set_option maxRecDepth 100000
/-! T0: values with their kinds: how kinds lie in data; expressions, one rule a construct and kind -/
namespace MM
open PySem
/-! ### kinds -/
@[reducible] def eL {α : Type} (e : α → D) (xs : List α) : D := .list (xs.map e)
@[reducible] def eT {α : Type} (e : α → D) (xs : List α) : D := .tuple (xs.map e)
def eO {α : Type} (e : α → D) : Option α → D
  | none => .none
  | some x => e x
@[reducible] def eP2 {α β : Type} (e : α → D) (f : β → D) (p : α × β) : D := .tuple [e p.1, f p.2]
@[reducible] def eP3 {α β γ : Type} (e : α → D) (f : β → D) (g : γ → D) (p : α × β × γ) : D := .tuple [e p.1, f p.2.1, g p.2.2]
@[reducible] def eP4 {α β γ δ : Type} (e : α → D) (f : β → D) (g : γ → D) (h : δ → D) (p : α × β × γ × δ) : D := .tuple [e p.1, f p.2.1, g p.2.2.1, h p.2.2.2]
@[reducible] def eP5 {α β γ δ ε : Type} (e : α → D) (f : β → D) (g : γ → D) (h : δ → D) (k : ε → D) (p : α × β × γ × δ × ε) : D := .tuple [e p.1, f p.2.1, g p.2.2.1, h p.2.2.2.1, k p.2.2.2.2]
/-- data of one kind: not deep, and == tells them apart -/
class Fa {α : Type} [DecidableEq α] (e : α → D) where
  dep : Nat
  sh : ∀ x, sh dep (e x) = true
  eqv : ∀ x y, (e x).eqv (e y) = decide (x = y)
  /-- never None -/
  nn : Bool
  isN : nn = true → ∀ x, (e x).isN = false
mutual
theorem sh_up : ∀ {n m : Nat} {x : D}, n ≤ m → sh n x = true → sh m x = true := by
  intro n m x hnm h
  cases x <;> first
    | (simp [sh]; done)
    | (exfalso; simp [sh] at h; done)
    | skip
  · cases n with
    | zero => simp [sh] at h
    | succ n => cases m with
      | zero => omega
      | succ m =>
        rw [sh] at h ⊢
        exact shs_up (by omega) h
  · cases n with
    | zero => simp [sh] at h
    | succ n => cases m with
      | zero => omega
      | succ m =>
        rw [sh] at h ⊢
        exact shs_up (by omega) h
theorem shs_up : ∀ {n m : Nat} {xs : List D}, n ≤ m → shs n xs = true → shs m xs = true
  | _, _, [], _, _ => by rw [shs]
  | n, m, x :: xs, hnm, h => by
    rw [shs, Bool.and_eq_true] at h ⊢
    exact ⟨sh_up hnm h.1, shs_up hnm h.2⟩
end
section
variable {α β γ δ : Type} [DecidableEq α] [DecidableEq β] [DecidableEq γ] [DecidableEq δ] {e : α → D} {f : β → D} {g : γ → D} {h : δ → D}
instance : Fa D.int := ⟨0, fun _ => rfl, fun x y => by rw [D.eqv, Bool.eq_iff_iff]; simp, true, fun _ _ => rfl⟩
instance : Fa D.bool := ⟨0, fun _ => rfl, fun x y => by cases x <;> cases y <;> rfl, true, fun _ _ => rfl⟩
instance : Fa D.str := ⟨0, fun _ => rfl, fun x y => by rw [D.eqv, Bool.eq_iff_iff]; simp, true, fun _ _ => rfl⟩
instance : Fa (fun _ : Unit => D.none) := ⟨0, fun _ => rfl, fun x y => by simp [D.eqv], false, fun h => by cases h⟩
theorem shs_map {n : Nat} (he : ∀ x, MM.sh n (e x) = true) : ∀ xs : List α, shs n (xs.map e) = true
  | [] => rfl
  | x :: xs => by rw [List.map_cons, shs, he x, shs_map he xs]; rfl
theorem eqvs_map (he : ∀ x y, (e x).eqv (e y) = decide (x = y)) : ∀ xs ys : List α, eqvs (xs.map e) (ys.map e) = decide (xs = ys)
  | [], [] => rfl
  | [], y :: ys => rfl
  | x :: xs, [] => rfl
  | x :: xs, y :: ys => by
    rw [List.map_cons, List.map_cons, eqvs, he, eqvs_map he xs ys]
    by_cases h1 : x = y <;> by_cases h2 : xs = ys <;> simp [h1, h2]
instance [Fa e] : Fa (eL e) := ⟨Fa.dep e + 1, fun xs => by rw [eL, MM.sh]; exact shs_map Fa.sh xs, fun xs ys => by rw [eL, eL, D.eqv]; exact eqvs_map Fa.eqv xs ys, true, fun _ _ => rfl⟩
instance [Fa e] : Fa (eT e) := ⟨Fa.dep e + 1, fun xs => by rw [eT, MM.sh]; exact shs_map Fa.sh xs, fun xs ys => by rw [eT, eT, D.eqv]; exact eqvs_map Fa.eqv xs ys, true, fun _ _ => rfl⟩
instance [Fa e] [Fa f] : Fa (eP2 e f) := ⟨max (Fa.dep e) (Fa.dep f) + 1, fun p => by
  simp only [eP2, MM.sh, shs, Bool.and_true, Bool.and_eq_true]
  exact ⟨sh_up (by omega) (Fa.sh p.1), sh_up (by omega) (Fa.sh p.2)⟩, fun p q => by
  simp only [eP2, D.eqv, eqvs, Bool.and_true, Fa.eqv]
  rw [Bool.eq_iff_iff]
  simp [Prod.ext_iff], true, fun _ _ => rfl⟩
instance [Fa e] [Fa f] [Fa g] : Fa (eP3 e f g) := ⟨max (Fa.dep e) (max (Fa.dep f) (Fa.dep g)) + 1, fun p => by
  simp only [eP3, MM.sh, shs, Bool.and_true, Bool.and_eq_true]
  exact ⟨sh_up (by omega) (Fa.sh p.1), sh_up (by omega) (Fa.sh p.2.1), sh_up (by omega) (Fa.sh p.2.2)⟩, fun p q => by
  simp only [eP3, D.eqv, eqvs, Bool.and_true, Fa.eqv]
  rw [Bool.eq_iff_iff]
  simp [Prod.ext_iff], true, fun _ _ => rfl⟩
instance [Fa e] [Fa f] [Fa g] [Fa h] : Fa (eP4 e f g h) := ⟨max (Fa.dep e) (max (Fa.dep f) (max (Fa.dep g) (Fa.dep h))) + 1, fun p => by
  simp only [eP4, MM.sh, shs, Bool.and_true, Bool.and_eq_true]
  exact ⟨sh_up (by omega) (Fa.sh p.1), sh_up (by omega) (Fa.sh p.2.1), sh_up (by omega) (Fa.sh p.2.2.1), sh_up (by omega) (Fa.sh p.2.2.2)⟩, fun p q => by
  simp only [eP4, D.eqv, eqvs, Bool.and_true, Fa.eqv]
  rw [Bool.eq_iff_iff]
  simp [Prod.ext_iff], true, fun _ _ => rfl⟩
theorem eqv_none {x : D} (h : x.isN = false) : D.eqv .none x = false ∧ x.eqv .none = false := by
  cases x <;> first | (cases h; done) | exact ⟨rfl, rfl⟩
/-- None or a value that is never None -/
theorem eqvO [Fa e] (hn : Fa.nn e = true) (x y : Option α) : (eO e x).eqv (eO e y) = decide (x = y) := by
  cases x with
  | none =>
    cases y with
    | none => rfl
    | some y => simp [eO, (eqv_none (Fa.isN hn y)).1]
  | some x =>
    cases y with
    | none => simp [eO, (eqv_none (Fa.isN hn x)).2]
    | some y => simp [eO, Fa.eqv]
class Nn {α : Type} [DecidableEq α] (e : α → D) [Fa e] : Prop where
  nn : Fa.nn e = true
instance : Nn D.int := ⟨rfl⟩
instance : Nn D.bool := ⟨rfl⟩
instance : Nn D.str := ⟨rfl⟩
instance [Fa e] : Nn (eL e) := ⟨rfl⟩
instance [Fa e] : Nn (eT e) := ⟨rfl⟩
instance [Fa e] [Fa f] : Nn (eP2 e f) := ⟨rfl⟩
instance [Fa e] [Fa f] [Fa g] : Nn (eP3 e f g) := ⟨rfl⟩
instance [Fa e] [Fa f] [Fa g] [Fa h] : Nn (eP4 e f g h) := ⟨rfl⟩
instance [Fa e] [Nn e] : Fa (eO e) := ⟨Fa.dep e, fun x => by cases x with
  | none => simp [eO, MM.sh]
  | some x => exact Fa.sh x, eqvO Nn.nn, false, fun h => by cases h⟩
end
/-- i, i + 1, .. , j - 1 -/
def rg (i j : Int) : List Int := (List.range (j - i).toNat).map fun (k : Nat) => i + (k : Int)
theorem rg_len (a b : Int) : (rg a b).length = (b - a).toNat := by simp [rg]
theorem rg_mem (a b x : Int) : x ∈ rg a b ↔ a ≤ x ∧ x < b := by
  simp only [rg, List.mem_map, List.mem_range]
  constructor
  · rintro ⟨k, hk, rfl⟩; omega
  · intro h; exact ⟨(x - a).toNat, by omega, by omega⟩
grind_pattern rg_len => (rg a b).length
grind_pattern rg_mem => x ∈ rg a b
/-- xs[i], i of any sign -/
def gt {α : Type} [Inhabited α] (xs : List α) (i : Int) : α := (L2.atI xs i).getD default
/-! ### expressions -/
section
variable {α β γ δ : Type} {ρ : Slots} {s s1 s2 s3 s4 : Stor} {fa fb fc fd : EF U} {ga gb : EF Bool} {x y z : D} {i j : Int} {e : α → D} {f : β → D}
theorem t_add (ha : fa ρ s = .ok (.d (.int i)) s1) (hb : fb ρ s1 = .ok (.d (.int j)) s2) : eBin (g2 dAdd) fa fb ρ s = .ok (.d (.int (i + j))) s2 := bin_o ha hb (g2_o rfl)
theorem t_sub (ha : fa ρ s = .ok (.d (.int i)) s1) (hb : fb ρ s1 = .ok (.d (.int j)) s2) : eBin (g2 dSub) fa fb ρ s = .ok (.d (.int (i - j))) s2 := bin_o ha hb (g2_o rfl)
theorem t_mul (ha : fa ρ s = .ok (.d (.int i)) s1) (hb : fb ρ s1 = .ok (.d (.int j)) s2) (h : (-18446744073709551616 < i ∧ i < 18446744073709551616) ∨ (-18446744073709551616 < j ∧ j < 18446744073709551616)) : eBin (g2 dMul) fa fb ρ s = .ok (.d (.int (i * j))) s2 := bin_o ha hb (g2_o (show (if cMul i j then some (D.int (i * j)) else none) = _ by rw [h.elim (fun h => cm_l h.1 h.2) fun h => cm_r h.1 h.2]; rfl))
theorem t_mod (ha : fa ρ s = .ok (.d (.int i)) s1) (hb : fb ρ s1 = .ok (.d (.int j)) s2) (h : 0 < j ∧ j < 1073741824) : eBin (g2 dMod) fa fb ρ s = .ok (.d (.int (i % j))) s2 := bin_o ha hb (g2_o (by
  have m1 : decide (0 < j) = true := decide_eq_true h.1
  have m2 : decide (j < 1073741824) = true := decide_eq_true h.2
  simp [dMod, m1, m2, h.1, h.2]))
theorem t_div (ha : fa ρ s = .ok (.d (.int i)) s1) (hb : fb ρ s1 = .ok (.d (.int j)) s2) (h : 0 < j ∧ j < 1073741824) : eBin (g2 dDiv) fa fb ρ s = .ok (.d (.int (i / j))) s2 := bin_o ha hb (g2_o (by
  have m1 : decide (0 < j) = true := decide_eq_true h.1
  have m2 : decide (j < 1073741824) = true := decide_eq_true h.2
  simp [dDiv, m1, m2, h.1, h.2]))
theorem t_neg (ha : fa ρ s = .ok (.d (.int i)) s1) : eUn (g1 dNeg) fa ρ s = .ok (.d (.int (-i))) s1 := by
  unfold eUn
  rw [ha]
  rfl
theorem t_cmp {p : Int → Int → Bool} (ha : fa ρ s = .ok (.d (.int i)) s1) (hb : fb ρ s1 = .ok (.d (.int j)) s2) : eBin (g2 (dCmp p)) fa fb ρ s = .ok (.d (.bool (p i j))) s2 := bin_o ha hb (g2_o rfl)
theorem t_eq [DecidableEq α] [Fa e] {a b : α} (ha : fa ρ s = .ok (.d (e a)) s1) (hb : fb ρ s1 = .ok (.d (e b)) s2) (hd : Fa.dep e ≤ 60 := by decide) : eBin (g2 dEq) fa fb ρ s = .ok (.d (.bool (decide (a = b)))) s2 := bin_o ha hb (g2_o (by
  show (if sh 60 (e a) && sh 60 (e b) then some (D.bool ((e a).eqv (e b))) else none) = _
  rw [sh_up hd (Fa.sh a), sh_up hd (Fa.sh b), Fa.eqv]
  rfl))
theorem t_ne [DecidableEq α] [Fa e] {a b : α} (ha : fa ρ s = .ok (.d (e a)) s1) (hb : fb ρ s1 = .ok (.d (e b)) s2) (hd : Fa.dep e ≤ 60 := by decide) : eBin (g2 dNe) fa fb ρ s = .ok (.d (.bool (!decide (a = b)))) s2 := bin_o ha hb (g2_o (by
  show (if sh 60 (e a) && sh 60 (e b) then some (D.bool (!(e a).eqv (e b))) else none) = _
  rw [sh_up hd (Fa.sh a), sh_up hd (Fa.sh b), Fa.eqv]
  rfl))
/-- a value as another kind sees it -/
theorem t_as (ha : fa ρ s = .ok (.d x) s1) (h : x = y) : fa ρ s = .ok (.d y) s1 := h ▸ ha
def inB {α : Type} [DecidableEq α] (a : α) (xs : List α) : Bool := xs.any fun x => decide (x = a)
theorem inB_iff {α : Type} [DecidableEq α] (a : α) (xs : List α) : inB a xs = true ↔ a ∈ xs := by simp [inB]
grind_pattern inB_iff => inB a xs
theorem any_map [DecidableEq α] [Fa e] (a : α) : ∀ xs : List α, ((xs.map e).any fun y => y.eqv (e a)) = inB a xs
  | [] => rfl
  | x :: xs => by
    rw [List.map_cons, List.any_cons, Fa.eqv, any_map a xs]
    rfl
theorem t_in [DecidableEq α] [Fa e] {a : α} {xs : List α} (ha : fa ρ s = .ok (.d (e a)) s1) (hb : fb ρ s1 = .ok (.d (eL e xs)) s2) (hd : Fa.dep e ≤ 60 := by decide) : eBin (g2 dIn) fa fb ρ s = .ok (.d (.bool (inB a xs))) s2 := bin_o ha hb (g2_o (by
  show (if sh 60 (e a) && shs 60 (xs.map e) then some (D.bool ((xs.map e).any fun y => y.eqv (e a))) else none) = _
  rw [sh_up hd (Fa.sh a), shs_up hd (shs_map Fa.sh xs), any_map]
  rfl))
theorem t_nin [DecidableEq α] [Fa e] {a : α} {xs : List α} (ha : fa ρ s = .ok (.d (e a)) s1) (hb : fb ρ s1 = .ok (.d (eL e xs)) s2) (hd : Fa.dep e ≤ 60 := by decide) : eBin (g2 dNin) fa fb ρ s = .ok (.d (.bool (!inB a xs))) s2 := bin_o ha hb (g2_o (by
  show (if sh 60 (e a) && shs 60 (xs.map e) then some (D.bool (!(xs.map e).any fun y => y.eqv (e a))) else none) = _
  rw [sh_up hd (Fa.sh a), shs_up hd (shs_map Fa.sh xs), any_map]
  rfl))
theorem t_inT [DecidableEq α] [Fa e] {a : α} {xs : List α} (ha : fa ρ s = .ok (.d (e a)) s1) (hb : fb ρ s1 = .ok (.d (eT e xs)) s2) (hd : Fa.dep e ≤ 60 := by decide) : eBin (g2 dIn) fa fb ρ s = .ok (.d (.bool (inB a xs))) s2 := bin_o ha hb (g2_o (by
  show (if sh 60 (e a) && shs 60 (xs.map e) then some (D.bool ((xs.map e).any fun y => y.eqv (e a))) else none) = _
  rw [sh_up hd (Fa.sh a), shs_up hd (shs_map Fa.sh xs), any_map]
  rfl))
theorem t_ninT [DecidableEq α] [Fa e] {a : α} {xs : List α} (ha : fa ρ s = .ok (.d (e a)) s1) (hb : fb ρ s1 = .ok (.d (eT e xs)) s2) (hd : Fa.dep e ≤ 60 := by decide) : eBin (g2 dNin) fa fb ρ s = .ok (.d (.bool (!inB a xs))) s2 := bin_o ha hb (g2_o (by
  show (if sh 60 (e a) && shs 60 (xs.map e) then some (D.bool (!(xs.map e).any fun y => y.eqv (e a))) else none) = _
  rw [sh_up hd (Fa.sh a), shs_up hd (shs_map Fa.sh xs), any_map]
  rfl))
/-! tests -/
theorem t_asB {b : Bool} (h : fa ρ s = .ok (.d (.bool b)) s1) : asB fa ρ s = .ok b s1 := asB_o h
theorem t_tru {b : Bool} (h : fa ρ s = .ok (.d (.bool b)) s1) : eTru fa ρ s = .ok b s1 := tru_o h rfl
theorem t_truL {xs : List α} (h : fa ρ s = .ok (.d (eL e xs)) s1) : eTru fa ρ s = .ok (!xs.isEmpty) s1 := tru_o h (by cases xs <;> rfl)
theorem t_truT {xs : List α} (h : fa ρ s = .ok (.d (eT e xs)) s1) : eTru fa ρ s = .ok (!xs.isEmpty) s1 := tru_o h (by cases xs <;> rfl)
theorem t_truI (h : fa ρ s = .ok (.d (.int i)) s1) : eTru fa ρ s = .ok (i != 0) s1 := tru_o h rfl
theorem t_notT {b : Bool} (h : ga ρ s = .ok b s1) : eNotT ga ρ s = .ok (!b) s1 := notT_o h
theorem t_andT {a b : Bool} (h : ga ρ s = .ok a s1) (h2 : a = true → gb ρ s1 = .ok b s1) : eAndT ga gb ρ s = .ok (a && b) s1 := by
  cases a with
  | false => exact andT_f h
  | true => exact andT_t h (h2 rfl)
theorem t_orT {a b : Bool} (h : ga ρ s = .ok a s1) (h2 : a = false → gb ρ s1 = .ok b s1) : eOrT ga gb ρ s = .ok (a || b) s1 := by
  cases a with
  | false => exact orT_f h (h2 rfl)
  | true => exact orT_t h
theorem t_andV {a b : Bool} (h : fa ρ s = .ok (.d (.bool a)) s1) (h2 : a = true → fb ρ s1 = .ok (.d (.bool b)) s1) : eAndV fa fb ρ s = .ok (.d (.bool (a && b))) s1 := by
  unfold eAndV
  rw [h]
  simp only [R.bind_ok, uTru_bool]
  cases a with
  | false => rfl
  | true => exact h2 rfl
theorem t_orV {a b : Bool} (h : fa ρ s = .ok (.d (.bool a)) s1) (h2 : a = false → fb ρ s1 = .ok (.d (.bool b)) s1) : eOrV fa fb ρ s = .ok (.d (.bool (a || b))) s1 := by
  unfold eOrV
  rw [h]
  simp only [R.bind_ok, uTru_bool]
  cases a with
  | false => exact h2 rfl
  | true => rfl
theorem t_notV {a : Bool} (h : fa ρ s = .ok (.d (.bool a)) s1) : eNotV fa ρ s = .ok (.d (.bool (!a))) s1 := by
  unfold eNotV
  rw [h]
  rfl
theorem t_if {b : Bool} {u v : α} (h : ga ρ s = .ok b s1) (h1 : b = true → fa ρ s1 = .ok (.d (e u)) s1) (h2 : b = false → fb ρ s1 = .ok (.d (e v)) s1) : eIf ga fa fb ρ s = .ok (.d (e (if b = true then u else v))) s1 := by
  unfold eIf
  rw [h]
  cases b with
  | false => exact h2 rfl
  | true => exact h1 rfl
/-- a < b < c -/
theorem t_chain {p q : Int → Int → Bool} {k : Int} (ha : fa ρ s = .ok (.d (.int i)) s1) (hb : fb ρ s1 = .ok (.d (.int j)) s2) (hc : fc ρ s2 = .ok (.d (.int k)) s2) : eChain (g2 (dCmp p)) (g2 (dCmp q)) fa fb fc ρ s = .ok (.d (.bool (p i j && q j k))) s2 := by
  unfold eChain
  rw [ha]
  simp only [R.bind_ok]
  rw [hb]
  simp only [R.bind_ok, g2_d, dCmp, uB]
  cases h : p i j with
  | false => rfl
  | true => simp only [hc, if_true, R.bind_ok, g2_d, dCmp, Bool.true_and]
theorem t_isN {o : Option α} [DecidableEq α] [Fa e] [Nn e] (ha : fa ρ s = .ok (.d (eO e o)) s1) : eBin (g2 dIs) fa (eC .none) ρ s = .ok (.d (.bool o.isNone)) s1 := bin_o ha rfl (g2_o (by
  cases o with
  | none => rfl
  | some x => show some (D.bool (e x).isN) = _; rw [Fa.isN Nn.nn x]; rfl))
theorem t_notN {o : Option α} [DecidableEq α] [Fa e] [Nn e] (ha : fa ρ s = .ok (.d (eO e o)) s1) : eBin (g2 dNis) fa (eC .none) ρ s = .ok (.d (.bool o.isSome)) s1 := bin_o ha rfl (g2_o (by
  cases o with
  | none => rfl
  | some x => show some (D.bool (!(e x).isN)) = _; rw [Fa.isN Nn.nn x]; rfl))
/-! fields, places, lengths -/
theorem t_fld {c : Nat} {n : Str} {fs : List (Str × D)} (ha : fa ρ s = .ok (.d (.ins c fs)) s1) (h : fs.lookup n = some z) : eUn (gFld c n) fa ρ s = .ok (.d z) s1 := by
  unfold eUn
  rw [ha]
  simp only [R.bind_ok, gFld, rd_d, beq_self_eq_true, if_true, h]
theorem ix_in {m : Nat} {i : Int} (h : -(m : Int) ≤ i ∧ i < m) : ∃ k, L2.ixN m i = some k ∧ k < m := by
  unfold L2.ixN
  by_cases h0 : 0 ≤ i
  · rw [if_pos h0, if_pos (by omega)]
    exact ⟨_, rfl, by omega⟩
  · rw [if_neg h0, if_pos (by omega)]
    exact ⟨_, rfl, by omega⟩
theorem at_map [Inhabited α] {xs : List α} {i : Int} (h : -(xs.length : Int) ≤ i ∧ i < xs.length) : L2.atI (xs.map e) i = some (e (gt xs i)) := by
  obtain ⟨k, hk, hl⟩ := ix_in h
  unfold gt L2.atI
  rw [List.length_map, hk]
  simp [hl]
theorem t_ixL [Inhabited α] {xs : List α} (ha : fa ρ s = .ok (.d (eL e xs)) s1) (hb : fb ρ s1 = .ok (.d (.int i)) s2) (h : -(xs.length : Int) ≤ i ∧ i < xs.length) : eBin (g2 dIx) fa fb ρ s = .ok (.d (e (gt xs i))) s2 := bin_o ha hb (g2_o (at_map h))
theorem t_ixT [Inhabited α] {xs : List α} (ha : fa ρ s = .ok (.d (eT e xs)) s1) (hb : fb ρ s1 = .ok (.d (.int i)) s2) (h : -(xs.length : Int) ≤ i ∧ i < xs.length) : eBin (g2 dIx) fa fb ρ s = .ok (.d (e (gt xs i))) s2 := bin_o ha hb (g2_o (at_map h))
theorem t_ixP {ds : List D} (ha : fa ρ s = .ok (.d (.tuple ds)) s1) (hb : fb ρ s1 = .ok (.d (.int i)) s2) (h : L2.atI ds i = some z) : eBin (g2 dIx) fa fb ρ s = .ok (.d z) s2 := bin_o ha hb (g2_o h)
theorem t_lenL {xs : List α} (ha : fa ρ s = .ok (.d (eL e xs)) s1) : eArgs (eCons fa eNil) (kB bLen) ρ s = .ok (.d (.int xs.length)) s1 := args_o (cons_o ha rfl) (kB_o (xs := [eL e xs]) rfl (by show some (D.int ((xs.map e).length : Nat)) = _; rw [List.length_map]))
theorem t_lenT {xs : List α} (ha : fa ρ s = .ok (.d (eT e xs)) s1) : eArgs (eCons fa eNil) (kB bLen) ρ s = .ok (.d (.int xs.length)) s1 := args_o (cons_o ha rfl) (kB_o (xs := [eT e xs]) rfl (by show some (D.int ((xs.map e).length : Nat)) = _; rw [List.length_map]))
theorem t_b1 {k : List D → Option D} (ha : fa ρ s = .ok (.d x) s1) (hk : k [x] = some z) : eArgs (eCons fa eNil) (kB k) ρ s = .ok (.d z) s1 := args_o (cons_o ha rfl) (kB_o rfl hk)
theorem t_b2 {k : List D → Option D} (ha : fa ρ s = .ok (.d x) s1) (hb : fb ρ s1 = .ok (.d y) s2) (hk : k [x, y] = some z) : eArgs (eCons fa (eCons fb eNil)) (kB k) ρ s = .ok (.d z) s2 := args_o (cons_o ha (cons_o hb rfl)) (kB_o rfl hk)
theorem t_isi {Ts : List String} (ha : fa ρ s = .ok (.d x) s1) (hk : bIsi Ts x = some z) : eUn (g1 (bIsi Ts)) fa ρ s = .ok (.d z) s1 := by
  unfold eUn
  rw [ha]
  simp only [R.bind_ok, MM.g1, rd_d, hk]
theorem t_un {k : D → Option D} (ha : fa ρ s = .ok (.d x) s1) (hk : k x = some z) : eUn (g1 k) fa ρ s = .ok (.d z) s1 := by
  unfold eUn
  rw [ha]
  simp only [R.bind_ok, MM.g1, rd_d, hk]
/-! sequences made -/
theorem t_tup {fs : EF (List U)} {us : List U} {ds : List D} (h : fs ρ s = .ok us s1) (hu : ofUs us = some ds) (hl : ds.length ≤ 16777216 := by simp) : eArgs fs kTup ρ s = .ok (.d (.tuple ds)) s1 := args_o h (tup_o hu hl)
theorem t_lst {fs : EF (List U)} {us : List U} {ds : List D} (h : fs ρ s = .ok us s1) (hu : ofUs us = some ds) (hl : ds.length ≤ 16777216 := by simp) : eArgs fs kLst ρ s = .ok (.d (.list ds)) s1 := args_o h (lst_o hu hl)
theorem t_addL {xs ys : List α} (ha : fa ρ s = .ok (.d (eL e xs)) s1) (hb : fb ρ s1 = .ok (.d (eL e ys)) s2) (h : xs.length + ys.length ≤ 16777216) : eBin (g2 dAdd) fa fb ρ s = .ok (.d (eL e (xs ++ ys))) s2 := bin_o ha hb (g2_o (by
  show (if fits ((xs.map e).length + (ys.map e).length) then some (D.list (xs.map e ++ ys.map e)) else none) = _
  rw [if_pos (fits_le' (by rw [List.length_map, List.length_map]; exact h)), ← List.map_append]))
theorem t_addT {xs ys : List α} (ha : fa ρ s = .ok (.d (eT e xs)) s1) (hb : fb ρ s1 = .ok (.d (eT e ys)) s2) (h : xs.length + ys.length ≤ 16777216) : eBin (g2 dAdd) fa fb ρ s = .ok (.d (eT e (xs ++ ys))) s2 := bin_o ha hb (g2_o (by
  show (if fits ((xs.map e).length + (ys.map e).length) then some (D.tuple (xs.map e ++ ys.map e)) else none) = _
  rw [if_pos (fits_le' (by rw [List.length_map, List.length_map]; exact h)), ← List.map_append]))
theorem t_tupL {xs : List α} (ha : fa ρ s = .ok (.d (eL e xs)) s1) : eArgs (eCons fa eNil) (kB bTup) ρ s = .ok (.d (eT e xs)) s1 := t_b1 ha rfl
theorem t_tupT {xs : List α} (ha : fa ρ s = .ok (.d (eT e xs)) s1) : eArgs (eCons fa eNil) (kB bTup) ρ s = .ok (.d (eT e xs)) s1 := t_b1 ha rfl
theorem t_lstT {xs : List α} (ha : fa ρ s = .ok (.d (eT e xs)) s1) : eArgs (eCons fa eNil) (kB bLst) ρ s = .ok (.d (eL e xs)) s1 := t_b1 ha rfl
theorem t_lstL {xs : List α} (ha : fa ρ s = .ok (.d (eL e xs)) s1) : eArgs (eCons fa eNil) (kB bLst) ρ s = .ok (.d (eL e xs)) s1 := t_b1 ha rfl
end
end MM
set_option maxRecDepth 100000
/-! T1: comprehensions, walks, statements by what they end in -/
namespace MM
open PySem
section
variable {α β γ : Type} {ρ : Slots} {s s1 s2 : Stor} {fa fb : EF U} {e : α → D} {e' : β → D}
/-! ### what is walked -/
theorem i_list {xs : List α} (h : fa ρ s = .ok (.d (eL e xs)) s1) : nl (eItems fa) ρ s = .ok (xs.map e, none) s1 := nl_o (items_o h rfl)
theorem i_tup {xs : List α} (h : fa ρ s = .ok (.d (eT e xs)) s1) : nl (eItems fa) ρ s = .ok (xs.map e, none) s1 := nl_o (items_o h rfl)
theorem inR_of {i : Int} (h : -4611686018427387904 ≤ i ∧ i < 4611686018427387904) : inR i = true := by
  unfold inR
  rw [Bool.and_eq_true]
  exact ⟨decide_eq_true (by omega), decide_eq_true (by omega)⟩
theorem i_rg1 {fs : EF (List U)} {n : Int} (h : fs ρ s = .ok [.d (.int n)] s1) (hn : -4611686018427387904 ≤ n ∧ n < 4611686018427387904) : nl (eRange1 fs) ρ s = .ok ((rg 0 n).map .int, none) s1 := by
  refine nl_o (range1_o h ?_)
  have e3 : kRange1 [.d (.int n)] s1 = if inR n then .ok ((List.range n.toNat).map fun (i : Nat) => D.int (0 + (i : Int))) s1 else .bad := rfl
  rw [e3, if_pos (inR_of hn), rg, List.map_map, Int.sub_zero]
  rfl
theorem i_rg2 {fs : EF (List U)} {m n : Int} (h : fs ρ s = .ok [.d (.int m), .d (.int n)] s1) (hm : -4611686018427387904 ≤ m ∧ m < 4611686018427387904) (hn : -4611686018427387904 ≤ n ∧ n < 4611686018427387904) : nl (eRange2 fs) ρ s = .ok ((rg m n).map .int, none) s1 := by
  refine nl_o (range2_o h ?_)
  have e3 : kRange2 [.d (.int m), .d (.int n)] s1 = if inR m && inR n then .ok ((List.range (n - m).toNat).map fun (i : Nat) => D.int (m + (i : Int))) s1 else .bad := rfl
  rw [e3, inR_of hm, inR_of hn, rg, List.map_map]
  rfl
/-- places and items -/
def enm {α : Type} (xs : List α) : List (Int × α) := (xs.zipIdx).map fun p => ((p.2 : Int), p.1)
theorem enm_len {α : Type} (xs : List α) : (enm xs).length = xs.length := by simp [enm]
grind_pattern enm_len => (enm xs).length
theorem prs_map (xs : List α) : prs (xs.map e) = (enm xs).map (eP2 .int e) := by
  unfold enm
  rw [List.map_map]
  apply List.ext_getElem
  · simp [prs]
  · intro i h1 h2
    simp [prs]
theorem i_enmL {xs : List α} (h : fa ρ s = .ok (.d (eL e xs)) s1) : nl (eEnumI fa) ρ s = .ok ((enm xs).map (eP2 .int e), none) s1 := by
  refine nl_o ?_
  unfold eEnumI
  rw [h]
  show R.ok (prs (xs.map e)) s1 = _
  rw [prs_map]
theorem i_enmT {xs : List α} (h : fa ρ s = .ok (.d (eT e xs)) s1) : nl (eEnumI fa) ρ s = .ok ((enm xs).map (eP2 .int e), none) s1 := by
  refine nl_o ?_
  unfold eEnumI
  rw [h]
  show R.ok (prs (xs.map e)) s1 = _
  rw [prs_map]
theorem t_lrg {i j : Int} (ha : fa ρ s = .ok (.d (.int i)) s1) (hb : fb ρ s1 = .ok (.d (.int j)) s2) (h : -4611686018427387904 ≤ i ∧ i < 4611686018427387904 ∧ -4611686018427387904 ≤ j ∧ j < 4611686018427387904 ∧ (j - i).toNat ≤ 16777216) : eLstRg fa fb ρ s = .ok (.d (eL .int (rg i j))) s2 := by
  refine bin_o ha hb (g2_o ?_)
  show (if rgOk i j then some (D.list (rgD i j)) else none) = _
  rw [if_pos (show rgOk i j = true from decide_eq_true (by omega)), rgD, rg, eL, List.map_map]
  rfl
/-! ### comprehensions -/
theorem t_comp {vs : List Nat} {fI : EF (List D × LV)} {h : TgF} {c : EF Bool} {el : EF U} {xs : List α} {p : α → Bool} {q : α → β} {r : α → Slots} {lv : LV} (hf : fI ρ s = .ok (xs.map e, lv) s1) (hz : xs.length ≤ 16777216) (hlv : ∀ acc, lvOk lv (s1 ++ [.lst acc])) (hh : ∀ x, h (e x) (wipeS ρ vs) = some (r x))
    (hc : ∀ x ∈ xs, ∀ acc, c (r x) (s1 ++ [.lst acc]) = .ok (p x) (s1 ++ [.lst acc])) (he : ∀ x ∈ xs, p x = true → ∀ acc, el (r x) (s1 ++ [.lst acc]) = .ok (.d (e' (q x))) (s1 ++ [.lst acc])) :
    eLc false vs fI h c el ρ s = .ok (.d (eL e' ((xs.filter p).map q))) s1 := by
  unfold eLc
  rw [hf]
  simp only [R.bind_ok]
  rw [if_pos (show fits (xs.map e).length = true from decide_eq_true (by rw [List.length_map]; exact hz))]
  obtain ⟨acc', st', e1, ⟨rfl, rfl⟩, _⟩ := compL_inv (h := h) (c := c) (e := el) (ρ := wipeS ρ vs) (n := s1.length) (lv := lv) (ds := xs.map e) (st := s1 ++ [.lst []]) (acc := []) 0 (fun k acc st' => st' = s1 ++ [.lst acc] ∧ acc = (((xs.take k).filter p).map q).map e')
    (fun k acc st' z => by
      obtain ⟨rfl, _⟩ := z
      exact ⟨hlv acc, by simp⟩)
    (fun j d acc st' hj z => by
      obtain ⟨rfl, rfl⟩ := z
      rw [List.getElem?_map] at hj
      cases hx : xs[j]? with
      | none => rw [hx] at hj; cases hj
      | some x =>
        rw [hx] at hj
        cases hj
        have hm := List.mem_of_getElem? hx
        have hd : xs.take (0 + j + 1) = xs.take (0 + j) ++ [x] := by
          rw [List.take_add_one, show 0 + j = j by omega, hx]
          rfl
        refine ⟨_, p x, _, hh x, hc x hm _, fun hp => ⟨e' (q x), _, he x hm hp _, by simp, ?_, ?_⟩, fun hp => ⟨rfl, ?_⟩⟩
        · simp
        · rw [hd, List.filter_append, List.map_append, List.map_append]
          simp [hp]
        · rw [hd, List.filter_append, List.map_append]
          simp [hp])
    ⟨rfl, by simp⟩ (by simp)
  rw [e1]
  simp [finL]
theorem t_map {vs : List Nat} {fI : EF (List D × LV)} {h : TgF} {el : EF U} {xs : List α} {q : α → β} {r : α → Slots} {lv : LV} (hf : fI ρ s = .ok (xs.map e, lv) s1) (hz : xs.length ≤ 16777216) (hlv : ∀ acc, lvOk lv (s1 ++ [.lst acc])) (hh : ∀ x, h (e x) (wipeS ρ vs) = some (r x))
    (he : ∀ x ∈ xs, ∀ acc, el (r x) (s1 ++ [.lst acc]) = .ok (.d (e' (q x))) (s1 ++ [.lst acc])) :
    eLc false vs fI h eYes el ρ s = .ok (.d (eL e' (xs.map q))) s1 := by
  have := t_comp (c := eYes) (p := fun _ => true) hf hz hlv hh (fun _ _ _ => rfl) (fun x hx _ => he x hx)
  rwa [List.filter_eq_self.mpr fun _ _ => rfl] at this
/-! ### least, greatest, sums, all, any, sorted -/
theorem lt_int (i j : Int) : D.lt (.int i) (.int j) = decide (i < j) := PySem.W.dataLt_int i j
def mnI : List Int → Int
  | [] => 0
  | x :: xs => xs.foldl (fun a y => if y < a then y else a) x
def mxI : List Int → Int
  | [] => 0
  | x :: xs => xs.foldl (fun a y => if a < y then y else a) x
theorem mnD_int : ∀ (xs : List Int) (x : Int), mnD (.int x) (xs.map .int) = .int (xs.foldl (fun a y => if y < a then y else a) x)
  | [], x => rfl
  | y :: xs, x => by
    unfold mnD
    rw [List.map_cons, List.foldl_cons, List.foldl_cons, lt_int]
    by_cases h : y < x
    · simp only [h, decide_true, if_true]
      exact mnD_int xs y
    · simp only [h, decide_false, Bool.false_eq_true, if_false]
      exact mnD_int xs x
theorem mxD_int : ∀ (xs : List Int) (x : Int), mxD (.int x) (xs.map .int) = .int (xs.foldl (fun a y => if a < y then y else a) x)
  | [], x => rfl
  | y :: xs, x => by
    unfold mxD
    rw [List.map_cons, List.foldl_cons, List.foldl_cons, lt_int]
    by_cases h : x < y
    · simp only [h, decide_true, if_true]
      exact mxD_int xs y
    · simp only [h, decide_false, Bool.false_eq_true, if_false]
      exact mxD_int xs x
theorem okO_ints (xs : List Int) : okO (xs.map .int) = true := by
  unfold okO
  rw [Bool.and_eq_true, Bool.and_eq_true]
  refine ⟨⟨shs_map (e := D.int) (fun _ => by simp [sh]) xs, List.all_eq_true.mpr fun x hx => List.all_eq_true.mpr fun y hy => ?_⟩, List.all_eq_true.mpr fun x hx => ?_⟩
  · obtain ⟨i, _, rfl⟩ := List.mem_map.mp hx
    obtain ⟨j, _, rfl⟩ := List.mem_map.mp hy
    simp [D.py, PySem.W.alike]
  · obtain ⟨i, _, rfl⟩ := List.mem_map.mp hx
    rfl
theorem b_max {xs : List Int} (h : 0 < xs.length) : bMaxD [eL .int xs] = some (.int (mxI xs)) := by
  cases xs with
  | nil => exact absurd h (Nat.lt_irrefl 0)
  | cons x xs =>
    show (if okO ((x :: xs).map .int) then some (mxD (.int x) (xs.map .int)) else none) = _
    rw [okO_ints, mxD_int]
    rfl
theorem b_min {xs : List Int} (h : 0 < xs.length) : bMinD [eL .int xs] = some (.int (mnI xs)) := by
  cases xs with
  | nil => exact absurd h (Nat.lt_irrefl 0)
  | cons x xs =>
    show (if okO ((x :: xs).map .int) then some (mnD (.int x) (xs.map .int)) else none) = _
    rw [okO_ints, mnD_int]
    rfl
theorem b_maxT {xs : List Int} (h : 0 < xs.length) : bMaxD [eT .int xs] = some (.int (mxI xs)) := by
  cases xs with
  | nil => exact absurd h (Nat.lt_irrefl 0)
  | cons x xs =>
    show (if okO ((x :: xs).map .int) then some (mxD (.int x) (xs.map .int)) else none) = _
    rw [okO_ints, mxD_int]
    rfl
theorem b_minT {xs : List Int} (h : 0 < xs.length) : bMinD [eT .int xs] = some (.int (mnI xs)) := by
  cases xs with
  | nil => exact absurd h (Nat.lt_irrefl 0)
  | cons x xs =>
    show (if okO ((x :: xs).map .int) then some (mnD (.int x) (xs.map .int)) else none) = _
    rw [okO_ints, mnD_int]
    rfl
theorem dInts_map' : ∀ ns : List Int, dInts (ns.map D.int) = some ns
  | [] => rfl
  | i :: ns => by rw [List.map_cons, dInts, dInts_map' ns]
theorem dBools_map : ∀ ns : List Bool, dBools (ns.map D.bool) = some ns
  | [] => rfl
  | i :: ns => by rw [List.map_cons, dBools, dBools_map ns]
theorem b_sum (xs : List Int) : bSum [eL .int xs] = some (.int xs.sum) := by
  show (match dInts (xs.map .int) with | some ns => some (D.int ns.sum) | _ => none) = _
  rw [dInts_map']
theorem b_all (xs : List Bool) : bAll [eL .bool xs] = some (.bool (xs.all id)) := by
  show (match dBools (xs.map .bool) with | some bs => some (D.bool (bs.all id)) | _ => none) = _
  rw [dBools_map]
theorem b_any (xs : List Bool) : bAny [eL .bool xs] = some (.bool (xs.any id)) := by
  show (match dBools (xs.map .bool) with | some bs => some (D.bool (bs.any id)) | _ => none) = _
  rw [dBools_map]
/-! slices -/
theorem cut_map (xs : List α) (lo hi : Option Int) : cut (xs.map e) lo hi = (cut xs lo hi).map e := by
  unfold cut
  rw [List.length_map, List.map_take, List.map_drop]
theorem o_no : eNoPart ρ s = .ok none s := rfl
theorem o_pt {i : Int} (h : fa ρ s = .ok (.d (.int i)) s1) : ePart fa ρ s = .ok (some i) s1 := by
  unfold ePart
  rw [h]
  rfl
theorem t_slT {xs : List α} {fl fh : EF (Option Int)} {lo hi : Option Int} {s3 : Stor} (ha : fa ρ s = .ok (.d (eT e xs)) s1) (hl : fl ρ s1 = .ok lo s2) (hh : fh ρ s2 = .ok hi s3) : eSl fa fl fh ρ s = .ok (.d (eT e (cut xs lo hi))) s3 := by
  unfold eSl
  rw [ha]
  simp only [R.bind_ok]
  rw [hl]
  simp only [R.bind_ok]
  rw [hh]
  show MM.R.ok (U.d (.tuple (cut (xs.map e) lo hi))) s3 = _
  rw [cut_map]
theorem t_slL {xs : List α} {fl fh : EF (Option Int)} {lo hi : Option Int} {s3 : Stor} (ha : fa ρ s = .ok (.d (eL e xs)) s1) (hl : fl ρ s1 = .ok lo s2) (hh : fh ρ s2 = .ok hi s3) : eSl fa fl fh ρ s = .ok (.d (eL e (cut xs lo hi))) s3 := by
  unfold eSl
  rw [ha]
  simp only [R.bind_ok]
  rw [hl]
  simp only [R.bind_ok]
  rw [hh]
  show MM.R.ok (U.d (.list (cut (xs.map e) lo hi))) s3 = _
  rw [cut_map]
end
/-! ### statements -/
structure Wp (g : SF) (ρ : Slots) (s : Stor) (P : RS → Prop) : Prop where
  run : P (g ρ s)
/-- the def returns v, and the first n places of the store are b then -/
def PR (n : Nat) (b : Stor) (v : D) : RS → Prop
  | .rt (.d x) s => x = v ∧ s.take n = b
  | .rt (.loc i) s => n ≤ i ∧ rd s (.loc i) = some v ∧ s.take n = b
  | .nx _ s => v = .none ∧ s.take n = b
  | _ => False
/-- an outcome of a def that may raise -/
inductive Ou (α : Type) where
  | ok (a : α)
  | ex (c : Nat) (fs : List (Str × D))
def PO {α : Type} (n : Nat) (b : Stor) (e : α → D) : Ou α → RS → Prop
  | .ok a, r => PR n b (e a) r
  | .ex c fs, .exc c' fs' _ s => c' = c ∧ fs' = fs ∧ s.take n = b
  | _, _ => False
def Ou.R {α : Type} (e : α → D) (s : Stor) : Ou α → MM.R U
  | .ok a => .ok (.d (e a)) s
  | .ex c fs => .exc c fs s
theorem run_PR {n : Nat} {g : SF} {us : List U} {s b : Stor} {v : D} (h : Wp g (us.map some ++ List.replicate (n - us.length) none) s (PR s.length b v)) : runF n g us s = .ok (.d v) b := by
  replace h := h.run
  unfold runF
  cases q : g (us.map some ++ List.replicate (n - us.length) none) s with
  | rt u s' =>
    rw [q] at h
    cases u with
    | d x =>
      obtain ⟨rfl, hb⟩ := h
      rw [finS_rt, finU_d, hb]
    | loc i =>
      obtain ⟨hi, hr, hb⟩ := h
      rw [finS_rt]
      show (if i < s.length then MM.R.ok (U.loc i) (s'.take s.length) else match rd s' (.loc i) with
        | some x => MM.R.ok (U.d x) (s'.take s.length)
        | none => MM.R.bad) = _
      rw [if_neg (by omega), hr, hb]
  | nx ρ s' =>
    rw [q] at h
    obtain ⟨rfl, hb⟩ := h
    rw [finS_nx, hb]
  | bk _ _ => rw [q] at h; exact h.elim
  | ct _ _ => rw [q] at h; exact h.elim
  | exc _ _ _ _ => rw [q] at h; exact h.elim
  | bad => rw [q] at h; exact h.elim
theorem run_PO {α : Type} {e : α → D} {n : Nat} {g : SF} {us : List U} {s b : Stor} {o : Ou α} (h : Wp g (us.map some ++ List.replicate (n - us.length) none) s (PO s.length b e o)) : runF n g us s = o.R e b := by
  cases o with
  | ok a => exact run_PR h
  | ex c fs =>
    replace h := h.run
    unfold runF
    cases q : g (us.map some ++ List.replicate (n - us.length) none) s with
    | exc c' fs' ρ s' =>
      rw [q] at h
      obtain ⟨rfl, rfl, hb⟩ := h
      rw [finS_exc, hb]
      rfl
    | rt _ _ => rw [q] at h; exact h.elim
    | nx _ _ => rw [q] at h; exact h.elim
    | bk _ _ => rw [q] at h; exact h.elim
    | ct _ _ => rw [q] at h; exact h.elim
    | bad => rw [q] at h; exact h.elim
section
variable {α β σ : Type} {ρ ρ1 : Slots} {s s1 s2 : Stor} {g g1 g2 a b : SF} {c : EF Bool} {P : RS → Prop} {fa fb : EF U} {e : α → D}
theorem w_sq (h : a ρ s = .nx ρ1 s1) (k : Wp b ρ1 s1 P) : Wp (sSeq a b) ρ s P := by
  refine ⟨?_⟩
  unfold sSeq
  rw [h]
  exact k.run
theorem w_seq (k : Wp a ρ s fun r => P (r.andThen b)) : Wp (sSeq a b) ρ s P := ⟨k.run⟩
theorem w_nx (h : g ρ s = .nx ρ1 s1) (k : P (.nx ρ1 s1)) : Wp g ρ s P := by
  refine ⟨?_⟩
  rw [h]
  exact k
theorem w_if {Pf : α → RS → Prop} {x y : α} {t : Bool} (h : c ρ s = .ok t s1) (h1 : t = true → Wp g1 ρ s1 (Pf x)) (h2 : t = false → Wp g2 ρ s1 (Pf y)) : Wp (sIf c g1 g2) ρ s (Pf (if t = true then x else y)) := by
  refine ⟨?_⟩
  unfold sIf
  rw [h]
  cases t with
  | false => exact (h2 rfl).run
  | true => exact (h1 rfl).run
theorem w_ret {u : U} (h : fa ρ s = .ok u s1) (k : P (.rt u s1)) : Wp (sRet fa) ρ s P := by
  refine ⟨?_⟩
  unfold sRet
  rw [h]
  exact k
theorem w_retN (k : P (.rt (.d .none) s)) : Wp sRetN ρ s P := ⟨k⟩
theorem w_nil (k : P (.nx ρ s)) : Wp sNil ρ s P := ⟨k⟩
theorem w_brk (k : P (.bk ρ s)) : Wp sBk ρ s P := ⟨k⟩
theorem w_cnt (k : P (.ct ρ s)) : Wp sCt ρ s P := ⟨k⟩
def wipeR (is : List Nat) : RS → RS
  | .nx ρ s => .nx (wipeL is ρ) s
  | .ct ρ s => .ct (wipeL is ρ) s
  | .bk ρ s => .bk (wipeL is ρ) s
  | r => r
theorem w_wp {is : List Nat} (k : Wp g ρ s fun r => P (wipeR is r)) : Wp (sWp is g) ρ s P := by
  refine ⟨?_⟩
  replace k := k.run
  unfold sWp
  cases q : g ρ s with
  | _ => rw [q] at k; exact k
theorem w_w0 {is : List Nat} (k : Wp g (wipeL is ρ) s P) : Wp (sW0 is g) ρ s P := ⟨k.run⟩
theorem w_raise {n : Nat} {names : List Str} {fs : EF (List U)} {us : List U} {ds : List D} (h : fs ρ s = .ok us s1) (hu : ofUs us = some ds) (hl : ds.length = names.length) (k : P (.exc n (names.zip ds).reverse ρ s1)) : Wp (sRaise n names fs) ρ s P := by
  refine ⟨?_⟩
  unfold sRaise
  rw [h]
  simp only [R.stm_ok, hu, hl, if_true]
  exact k
/-- what a turn of a walk ends in -/
def PN (inj : σ → Slots) (sto : σ → Stor) (v : σ) : RS → Prop
  | .nx ρ s => ρ = inj v ∧ s = sto v
  | .ct ρ s => ρ = inj v ∧ s = sto v
  | _ => False
/-- a walk that changes a state -/
theorem w_fold {fI : EF (List D × LV)} {h : TgF} {xs : List α} {inj : σ → Slots} {sto : σ → Stor} {step : σ → α → σ} {s0 : σ} {r : σ → α → Slots} {lv : LV} (I : Nat → σ → Prop) (hf : fI (inj s0) s = .ok (xs.map e, lv) (sto s0)) (hlv : ∀ v, lvOk lv (sto v)) (hh : ∀ v x, h (e x) (inj v) = some (r v x)) (i0 : I 0 s0)
    (hb : ∀ i v x, xs[i]? = some x → I i v → Wp g (r v x) (sto v) (PN inj sto (step v x)) ∧ I (i + 1) (step v x)) :
    sFor fI h g (inj s0) s = .nx (inj (xs.foldl step s0)) (sto (xs.foldl step s0)) ∧ I xs.length (xs.foldl step s0) := by
  have chk : ∀ {γ : Type} (v : σ) (x y : γ), MM.chk lv (sto v) x y = y := fun v x y => by
    match lv, hlv v with
    | none, _ => rfl
    | some (j, ds), hl => exact chk_some hl
  have go : ∀ (xs : List α) (k : Nat) (v : σ), I k v → (∀ i v x, xs[i]? = some x → I (k + i) v → Wp g (r v x) (sto v) (PN inj sto (step v x)) ∧ I (k + i + 1) (step v x)) →
      forL h g lv (xs.map e) (inj v) (sto v) = .nx (inj (xs.foldl step v)) (sto (xs.foldl step v)) ∧ I (k + xs.length) (xs.foldl step v) := by
    intro xs
    induction xs with
    | nil =>
      intro k v hi _
      refine ⟨?_, hi⟩
      show MM.chk lv (sto v) RS.bad (RS.nx (inj v) (sto v)) = _
      rw [chk]
      rfl
    | cons x xs ih =>
      intro k v hi hb
      obtain ⟨h1, h2⟩ := hb 0 v x rfl hi
      obtain ⟨h3, h4⟩ := ih (k + 1) (step v x) h2 fun i v y hy hI => by
        have := hb (i + 1) v y (by simpa using hy) (by rw [show k + (i + 1) = k + 1 + i by omega]; exact hI)
        rw [show k + (i + 1) = k + 1 + i by omega] at this
        exact this
      refine ⟨?_, by rw [List.length_cons, show k + (xs.length + 1) = k + 1 + xs.length by omega]; exact h4⟩
      rw [List.map_cons, List.foldl_cons, ← h3]
      show MM.chk lv (sto v) RS.bad (match h (e x) (inj v) with
        | none => RS.bad
        | some ρ1 => match g ρ1 (sto v) with
          | .nx ρ2 st2 => forL h g lv (xs.map e) ρ2 st2
          | .ct ρ2 st2 => forL h g lv (xs.map e) ρ2 st2
          | .bk ρ2 st2 => .nx ρ2 st2
          | r => r) = _
      rw [chk, hh]
      replace h1 := h1.run
      dsimp only
      cases q : g (r v x) (sto v) with
      | nx ρ' s' => rw [q] at h1; obtain ⟨rfl, rfl⟩ := h1; rfl
      | ct ρ' s' => rw [q] at h1; obtain ⟨rfl, rfl⟩ := h1; rfl
      | bk _ _ => rw [q] at h1; exact h1.elim
      | rt _ _ => rw [q] at h1; exact h1.elim
      | exc _ _ _ _ => rw [q] at h1; exact h1.elim
      | bad => rw [q] at h1; exact h1.elim
  obtain ⟨h1, h2⟩ := go xs 0 s0 i0 (by simpa using hb)
  refine ⟨?_, by simpa using h2⟩
  unfold sFor
  rw [hf]
  exact h1
/-- what a turn of a walk that may be left ends in -/
inductive LS (σ τ : Type) where
  | nx (v : σ)
  | bk (v : σ)
  | rt (t : τ)
def lsR {τ : Type} (step : σ → α → LS σ τ) : σ → List α → LS σ τ
  | v, [] => .nx v
  | v, x :: xs => match step v x with
    | .nx w => lsR step w xs
    | .bk w => .bk w
    | .rt t => .rt t
def PL' {τ : Type} (inj : σ → Slots) (sto : σ → Stor) (Pt : τ → RS → Prop) : LS σ τ → RS → Prop
  | .nx v, .nx ρ s => ρ = inj v ∧ s = sto v
  | .nx v, .ct ρ s => ρ = inj v ∧ s = sto v
  | .bk v, .bk ρ s => ρ = inj v ∧ s = sto v
  | .rt t, .rt u s => Pt t (.rt u s)
  | .rt t, .exc c fs ρ s => Pt t (.exc c fs ρ s)
  | _, _ => False
/-- behind such a walk -/
def lsK {τ : Type} (k : σ → τ) : LS σ τ → τ
  | .nx v => k v
  | .bk v => k v
  | .rt t => t
theorem w_ls {τ : Type} {fI : EF (List D × LV)} {h : TgF} {xs : List α} {inj : σ → Slots} {sto : σ → Stor} {step : σ → α → LS σ τ} {s0 : σ} {r : σ → α → Slots} {lv : LV} {Pt : τ → RS → Prop} {k : σ → τ} {Pk : τ → RS → Prop} (I : Nat → σ → Prop) (hf : fI (inj s0) s = .ok (xs.map e, lv) (sto s0)) (hlv : ∀ v, lvOk lv (sto v)) (hh : ∀ v x, h (e x) (inj v) = some (r v x)) (i0 : I 0 s0)
    (hb : ∀ i v x, xs[i]? = some x → I i v → Wp g (r v x) (sto v) (PL' inj sto Pt (step v x)) ∧ (∀ w, step v x = .nx w → I (i + 1) w))
    (hk : ∀ v, I xs.length v ∨ (∃ i w x, xs[i]? = some x ∧ I i w ∧ step w x = .bk v) → Pk (k v) (.nx (inj v) (sto v))) (ht : ∀ t u s, Pt t (.rt u s) → Pk t (.rt u s)) (hx : ∀ t c fs ρ s, Pt t (.exc c fs ρ s) → Pk t (.exc c fs ρ s)) :
    Wp (sFor fI h g) (inj s0) s (Pk (lsK k (lsR step s0 xs))) := by
  have chk : ∀ {γ : Type} (v : σ) (x y : γ), MM.chk lv (sto v) x y = y := fun v x y => by
    match lv, hlv v with
    | none, _ => rfl
    | some (j, ds), hl => exact chk_some hl
  have go : ∀ (ys : List α) (j : Nat) (v : σ), ys = xs.drop j → j ≤ xs.length → I j v → Pk (lsK k (lsR step v ys)) (forL h g lv (ys.map e) (inj v) (sto v)) := by
    intro ys
    induction ys with
    | nil =>
      intro j v hj hl hi
      show Pk (k v) (MM.chk lv (sto v) RS.bad (RS.nx (inj v) (sto v)))
      rw [chk]
      have hjn : j = xs.length := by
        have := congrArg List.length hj
        rw [List.length_drop, List.length_nil] at this
        omega
      exact hk v (.inl (hjn ▸ hi))
    | cons x ys ih =>
      intro j v hj hl hi
      have hx0 : xs[j]? = some x := by
        have : (xs.drop j)[0]? = some x := by rw [← hj]; rfl
        simpa using this
      have hjl : j < xs.length := (List.getElem?_eq_some_iff.mp hx0).1
      have hys : ys = xs.drop (j + 1) := by
        have : (xs.drop j).tail = ys := by rw [← hj]; rfl
        rw [← this]
        simp
      obtain ⟨h1, h2⟩ := hb j v x hx0 hi
      show Pk (lsK k (match step v x with | .nx w => lsR step w ys | .bk w => .bk w | .rt t => .rt t)) (MM.chk lv (sto v) RS.bad (match h (e x) (inj v) with
        | none => RS.bad
        | some ρ1 => match g ρ1 (sto v) with
          | .nx ρ2 st2 => forL h g lv (ys.map e) ρ2 st2
          | .ct ρ2 st2 => forL h g lv (ys.map e) ρ2 st2
          | .bk ρ2 st2 => .nx ρ2 st2
          | r => r))
      rw [chk, hh]
      replace h1 := h1.run
      dsimp only
      cases qs : step v x with
      | nx w =>
        rw [qs] at h1
        have := ih (j + 1) w hys (by omega) (h2 w qs)
        cases q : g (r v x) (sto v) with
        | nx ρ' s' => rw [q] at h1; obtain ⟨rfl, rfl⟩ := h1; exact this
        | ct ρ' s' => rw [q] at h1; obtain ⟨rfl, rfl⟩ := h1; exact this
        | bk _ _ => rw [q] at h1; exact h1.elim
        | rt _ _ => rw [q] at h1; exact h1.elim
        | exc _ _ _ _ => rw [q] at h1; exact h1.elim
        | bad => rw [q] at h1; exact h1.elim
      | bk w =>
        rw [qs] at h1
        cases q : g (r v x) (sto v) with
        | bk ρ' s' => rw [q] at h1; obtain ⟨rfl, rfl⟩ := h1; exact hk w (.inr ⟨j, v, x, hx0, hi, qs⟩)
        | nx _ _ => rw [q] at h1; exact h1.elim
        | ct _ _ => rw [q] at h1; exact h1.elim
        | rt _ _ => rw [q] at h1; exact h1.elim
        | exc _ _ _ _ => rw [q] at h1; exact h1.elim
        | bad => rw [q] at h1; exact h1.elim
      | rt t =>
        rw [qs] at h1
        cases q : g (r v x) (sto v) with
        | rt u s' => rw [q] at h1; exact ht t u s' h1
        | exc c fs ρ' s' => rw [q] at h1; exact hx t c fs ρ' s' h1
        | nx _ _ => rw [q] at h1; exact h1.elim
        | ct _ _ => rw [q] at h1; exact h1.elim
        | bk _ _ => rw [q] at h1; exact h1.elim
        | bad => rw [q] at h1; exact h1.elim
  refine ⟨?_⟩
  unfold sFor
  rw [hf]
  exact go xs 0 s0 (by simp) (Nat.zero_le _) i0
end
end MM
set_option maxRecDepth 100000
/-! T2: names that hold changing lists -/
namespace MM
open PySem
section
variable {α β : Type} {ρ : Slots} {b b1 L L' L1 t s s1 s2 S S' : Stor} {i c k n : Nat} {xs : List α} {v : α} {e : α → D} {fv fi fa : EF U} {x z : D} {u : U}
theorem st_at {o : O} (h : L[c]? = some o) (hb : b.length = n := by simp) : (b ++ L)[n + c]? = some o := by
  rw [List.getElem?_append_right (by omega), ← hb]
  simpa using h
theorem rd_at {ds : List D} (h : L[c]? = some (.lst ds)) (hb : b.length = n := by simp) : rd (b ++ L) (.loc (n + c)) = some (.list ds) := rd_lst (st_at h hb)
theorem rd_app (h : rd s u = some x) : rd (s ++ t) u = some x := by
  cases u with
  | d y => exact h
  | loc j =>
    have e : ∀ t : Stor, rd t (.loc j) = (match t[j]? with
      | some (O.lst ds) => some (D.list ds)
      | some (O.dic kvs) => some (D.dict kvs)
      | some (O.ins c fs) => some (D.ins c fs)
      | _ => none) := fun t => rfl
    rw [e] at h ⊢
    cases q : s[j]? with
    | none => rw [q] at h; cases h
    | some o => rw [List.getElem?_append_left (List.getElem?_eq_some_iff.mp q).1, ← h, q]
theorem at_app {o : O} {n : Nat} (h : s[n]? = some o) : (s ++ t)[n]? = some o := by
  rw [List.getElem?_append_left (List.getElem?_eq_some_iff.mp h).1, h]
theorem st_set {o : O} (h : L.set c o = L') (hb : b.length = n := by simp) : (b ++ L).set (n + c) o = b ++ L' := by
  rw [List.set_append_right _ _ (by omega), ← h, ← hb]
  simp
theorem set_app {o : O} (h : S.set k o = S') (hk : k < S.length) : (S ++ t).set k o = S' ++ t := by
  rw [List.set_append_left _ _ hk, h]
/-- the place k of S holds o, and with another there the store is up of it -/
structure RwOk (S : Stor) (k : Nat) (o : O) (up : O → Stor) : Prop where
  get : S[k]? = some o
  set : ∀ o', S.set k o' = up o'
theorem rw_own {o : O} (h : L[c]? = some o) (hb : b.length = n := by simp) : RwOk (b ++ L) (n + c) o (fun o' => b ++ L.set c o') := ⟨st_at h hb, fun o' => st_set rfl hb⟩
theorem rw_par {o : O} (h : c < s.length) : RwOk (s.set c o) c o (fun o' => s.set c o') := ⟨List.getElem?_set_self h, fun o' => List.set_set ..⟩
theorem rw_app {o : O} {up : O → Stor} (h : RwOk S k o up) : RwOk (S ++ t) k o (fun o' => up o' ++ t) := ⟨at_app h.get, fun o' => set_app (h.set o') (List.getElem?_eq_some_iff.mp h.get).1⟩
/-- x = [..], to change -/
theorem c_new {fs : EF (List U)} {us : List U} (h : fs ρ (b ++ L) = .ok us (b ++ L)) (hu : ofUs us = some (xs.map e)) (hz : xs.length ≤ 16777216) (hc : L.length = c) (hb : b.length = n := by simp) : eArgs fs kLstN ρ (b ++ L) = .ok (.loc (n + c)) (b ++ (L ++ [.lst (xs.map e)])) := by
  rw [args_o h (lstN_o hu (by rw [List.length_map]; exact hz)), List.length_append, hc, hb, List.append_assoc]
theorem c_lm {k : List D → List U → Option (D × List D)} {fs : EF (List U)} {us : List U} {ds ds' d0 : List D} (hρ : ρ[i]? = some (some (.loc (n + c)))) (hL : L[c]? = some (.lst d0)) (hv : fs ρ (b ++ L) = .ok us (b1 ++ L1)) (hL1 : L1[c]? = some (.lst ds)) (hk : k ds us = some (z, ds')) (h' : L1.set c (.lst ds') = L') (hb : b.length = n := by simp) (hb1 : b1.length = n := by simp) :
    eLM k (eV i) fs ρ (b ++ L) = .ok (.d z) (b1 ++ L') := by
  rw [lm_o (eV_o hρ) (st_at hL hb) hv (st_at hL1 hb1) hk, st_set h' hb1]
theorem c_app (hρ : ρ[i]? = some (some (.loc (n + c)))) (hL : L[c]? = some (.lst (xs.map e))) (hv : fv ρ (b ++ L) = .ok (.d (e v)) (b1 ++ L1)) (hL1 : L1[c]? = some (.lst (xs.map e))) (hz : xs.length < 16777216) (h' : L1.set c (.lst ((xs ++ [v]).map e)) = L') (hb : b.length = n := by simp) (hb1 : b1.length = n := by simp) :
    sEx (eLM kApp (eV i) (eCons fv eNil)) ρ (b ++ L) = .nx ρ (b1 ++ L') := by
  refine sEx_o (c_lm (z := .none) (ds' := (xs ++ [v]).map e) hρ hL (cons_o hv rfl) hL1 ?_ h' hb hb1)
  show (if decide ((xs.map e).length < 16777216) then some (D.none, xs.map e ++ [e v]) else none) = _
  rw [if_pos (decide_eq_true (by rw [List.length_map]; exact hz)), List.map_append]
  rfl
theorem c_ext {ys : List α} (hρ : ρ[i]? = some (some (.loc (n + c)))) (hL : L[c]? = some (.lst (xs.map e))) (hv : fv ρ (b ++ L) = .ok (.d (eL e ys)) (b1 ++ L1)) (hL1 : L1[c]? = some (.lst (xs.map e))) (hz : xs.length + ys.length ≤ 16777216) (h' : L1.set c (.lst ((xs ++ ys).map e)) = L') (hb : b.length = n := by simp) (hb1 : b1.length = n := by simp) :
    sEx (eLM kExt (eV i) (eCons fv eNil)) ρ (b ++ L) = .nx ρ (b1 ++ L') := by
  refine sEx_o (c_lm (z := .none) (ds' := (xs ++ ys).map e) hρ hL (cons_o hv rfl) hL1 ?_ h' hb hb1)
  show (if fits ((xs.map e).length + (ys.map e).length) then some (D.none, xs.map e ++ ys.map e) else none) = _
  rw [if_pos (fits_le' (by rw [List.length_map, List.length_map]; exact hz)), List.map_append]
/-- xs with another item at i, of any sign -/
def stt {α : Type} (xs : List α) (i : Int) (v : α) : List α := match L2.ixN xs.length i with
  | some k => xs.set k v
  | none => xs
theorem stt_len {α : Type} (xs : List α) (i : Int) (v : α) : (stt xs i v).length = xs.length := by
  unfold stt
  split <;> simp
grind_pattern stt_len => (stt xs i v).length
theorem c_sub {j : Int} (hρ : ρ[i]? = some (some (.loc (n + c)))) (hL : L[c]? = some (.lst (xs.map e))) (hv : fv ρ (b ++ L) = .ok (.d (e v)) (b ++ L)) (hi : fi ρ (b ++ L) = .ok (.d (.int j)) (b ++ L)) (hj : -(xs.length : Int) ≤ j ∧ j < xs.length) (h' : L.set c (.lst ((stt xs j v).map e)) = L') (hb : b.length = n := by simp) :
    sSub (eV i) fi fv ρ (b ++ L) = .nx ρ (b ++ L') := by
  obtain ⟨k, hk, hl⟩ := ix_in hj
  unfold sSub
  rw [hv]
  simp only [R.stm_ok]
  rw [eV_o hρ]
  simp only [R.stm_ok]
  rw [hi]
  simp only [R.stm_ok, st_at hL hb, List.length_map, hk]
  rw [st_set (L' := L') (hb := hb)]
  rw [← h']
  congr 2
  unfold stt
  rw [hk, List.map_set]
/-! reading -/
theorem t_b1m {k : List D → Option D} (ha : fa ρ s = .ok u s1) (hr : rd s1 u = some x) (hk : k [x] = some z) : eArgs (eCons fa eNil) (kB k) ρ s = .ok (.d z) s1 := args_o (cons_o ha rfl) (kB_o (xs := [x]) (by
  unfold rds
  rw [hr]
  rfl) hk)
theorem t_tupM (ha : fa ρ s = .ok u s1) (hr : rd s1 u = some (eL e xs)) : eArgs (eCons fa eNil) (kB bTup) ρ s = .ok (.d (eT e xs)) s1 := t_b1m ha hr rfl
theorem t_lenM (ha : fa ρ s = .ok u s1) (hr : rd s1 u = some (eL e xs)) : eArgs (eCons fa eNil) (kB bLen) ρ s = .ok (.d (.int xs.length)) s1 := t_b1m ha hr (by show some (D.int ((xs.map e).length : Nat)) = _; rw [List.length_map])
theorem t_g2m {k : D → D → Option D} {fb : EF U} {w : U} {y : D} (ha : fa ρ s = .ok u s1) (hb : fb ρ s1 = .ok w s2) (hr : rd s2 u = some x) (hw : rd s2 w = some y) (hk : k x y = some z) : eBin (g2 k) fa fb ρ s = .ok (.d z) s2 := bin_o ha hb (by
  unfold g2
  simp only [hr, hw, hk])
theorem t_ixM [Inhabited α] {j : Int} (ha : fa ρ s = .ok u s1) (hb : fi ρ s1 = .ok (.d (.int j)) s1) (hr : rd s1 u = some (eL e xs)) (h : -(xs.length : Int) ≤ j ∧ j < xs.length) : eBin (g2 dIx) fa fi ρ s = .ok (.d (e (gt xs j))) s1 := t_g2m ha hb hr rfl (at_map h)
theorem k_eq [DecidableEq α] [Fa e] (a c : α) (hd : Fa.dep e ≤ 60 := by decide) : dEq (e a) (e c) = some (.bool (decide (a = c))) := by
  show (if sh 60 (e a) && sh 60 (e c) then some (D.bool ((e a).eqv (e c))) else none) = _
  rw [sh_up hd (Fa.sh a), sh_up hd (Fa.sh c), Fa.eqv]
  rfl
theorem k_ne [DecidableEq α] [Fa e] (a c : α) (hd : Fa.dep e ≤ 60 := by decide) : dNe (e a) (e c) = some (.bool (!decide (a = c))) := by
  show (if sh 60 (e a) && sh 60 (e c) then some (D.bool (!(e a).eqv (e c))) else none) = _
  rw [sh_up hd (Fa.sh a), sh_up hd (Fa.sh c), Fa.eqv]
  rfl
theorem k_in [DecidableEq α] [Fa e] (a : α) (ys : List α) (hd : Fa.dep e ≤ 60 := by decide) : dIn (e a) (eL e ys) = some (.bool (inB a ys)) := by
  show (if sh 60 (e a) && shs 60 (ys.map e) then some (D.bool ((ys.map e).any fun y => y.eqv (e a))) else none) = _
  rw [sh_up hd (Fa.sh a), shs_up hd (shs_map Fa.sh ys), any_map]
  rfl
theorem k_nin [DecidableEq α] [Fa e] (a : α) (ys : List α) (hd : Fa.dep e ≤ 60 := by decide) : dNin (e a) (eL e ys) = some (.bool (!inB a ys)) := by
  show (if sh 60 (e a) && shs 60 (ys.map e) then some (D.bool (!(ys.map e).any fun y => y.eqv (e a))) else none) = _
  rw [sh_up hd (Fa.sh a), shs_up hd (shs_map Fa.sh ys), any_map]
  rfl
theorem i_elM (ha : fa ρ s = .ok (.loc i) s) (hr : s[i]? = some (.lst (xs.map e))) : eEl (eLive fa) (nl (eItems fa)) ρ s = .ok (xs.map e, some (i, xs.map e)) s := el_1 (by
  unfold eLive
  rw [ha]
  simp only [R.bind_ok, kLive, hr])
theorem i_elT (ha : fa ρ s = .ok (.d (eT e xs)) s1) : eEl (eLive fa) (nl (eItems fa)) ρ s = .ok (xs.map e, none) s1 := el_2 (by
  unfold eLive
  rw [ha]
  rfl) (i_tup ha)
theorem i_elL (ha : fa ρ s = .ok (.d (eL e xs)) s1) : eEl (eLive fa) (nl (eItems fa)) ρ s = .ok (xs.map e, none) s1 := el_2 (by
  unfold eLive
  rw [ha]
  rfl) (i_list ha)
theorem i_liv (ha : fa ρ s = .ok (.loc i) s) (hr : s[i]? = some (.lst (xs.map e))) : eLive fa ρ s = .ok (xs.map e, some (i, xs.map e)) s := by
  unfold eLive
  rw [ha]
  simp only [R.bind_ok, kLive, hr]
theorem sAug_o {g : Int → Int → Int} {m n : Int} (hρ : ρ[i]? = some (some (.d (.int m)))) (h : fa ρ s = .ok (.d (.int n)) s1) : sAug i g fa ρ s = .nx (ρ.set i (some (.d (.int (g m n))))) s1 := by
  unfold sAug
  simp only [hρ, h, R.stm_ok]
theorem sAsg_o {h : TgF} {ρ1 : Slots} (hf : fa ρ s = .ok (.d x) s1) (hh : h x ρ = some ρ1) : sAsg h fa ρ s = .nx ρ1 s1 := by
  unfold sAsg
  rw [hf]
  simp only [R.stm_ok, hh]
theorem sCut_o {g : SF} {ρ1 : Slots} (h : g ρ s = .nx ρ1 s1) (hl : lowS s.length ρ1 = true) (hs : s1.take s.length = s2) : sCut g ρ s = .nx ρ1 s2 := by
  unfold sCut
  rw [h]
  simp only [hl, if_true, hs]
theorem sWp_o {is : List Nat} {g : SF} {ρ1 : Slots} (h : g ρ s = .nx ρ1 s1) : sWp is g ρ s = .nx (wipeL is ρ1) s1 := by
  unfold sWp
  rw [h]
def cutR (n : Nat) : RS → RS
  | .nx ρ s => if lowS n ρ then .nx ρ (s.take n) else .bad
  | .ct ρ s => if lowS n ρ then .ct ρ (s.take n) else .bad
  | .bk ρ s => if lowS n ρ then .bk ρ (s.take n) else .bad
  | r => r
theorem w_cut {g : SF} {P : RS → Prop} (k : Wp g ρ s fun r => P (cutR s.length r)) : Wp (sCut g) ρ s P := by
  refine ⟨?_⟩
  replace k := k.run
  unfold sCut
  cases q : g ρ s with
  | _ => rw [q] at k; exact k
theorem t_call {n : Nat} {F : FM} {fs : EF (List U)} {us : List U} {q : R U} (h : fs ρ s = .ok us s1) (hl : us.length = n) (hF : F us s1 = q) : eArgs fs (kLen n F) ρ s = q := args_o h (len_o hl hF)
theorem t_meth {cl n : Nat} {m : Str} {F : FM} {fo : EF U} {fs : EF (List U)} {us : List U} {q : R U} {fl : List (Str × D)} (ho : fo ρ s = .ok (.d (.ins cl fl)) s1) (hm : fl.lookup m = none) (h : fs ρ s1 = .ok us s2) (hl : us.length + 1 = n) (hF : F (.d (.ins cl fl) :: us) s2 = q) : eMeth cl m n F fo fs ρ s = q := by
  unfold eMeth
  rw [ho]
  simp only [R.bind_ok]
  have hi : insOf cl m s1 (.d (.ins cl fl)) = true := by
    unfold insOf
    simp only [rd_d, beq_self_eq_true, hm, Option.isNone_none, Bool.and_self]
  rw [if_pos hi, h]
  simp only [R.bind_ok]
  unfold kLen
  rw [if_pos (by rw [List.length_cons]; exact hl)]
  exact hF
theorem t_own {cl : Nat} {F : FM} {neg bb : Bool} {fl : List (Str × D)} {fb : EF U} {y : D} (ha : fa ρ s = .ok (.d (.ins cl fl)) s1) (hb : fb ρ s1 = .ok (.d y) s2) (hy : eqR cl (some y) = true) (hF : F [.d (.ins cl fl), .d y] s2 = .ok (.d (.bool bb)) s2) : eBin (gOwn cl F neg) fa fb ρ s = .ok (.d (.bool (if neg = true then !bb else bb))) s2 := bin_o ha hb (by
  unfold gOwn
  simp only [rd_d, beq_self_eq_true, hy, Bool.and_self, if_true, hF])
theorem t_lenO {cl : Nat} {F : FM} {fl : List (Str × D)} {n : Int} (ha : fa ρ s = .ok (.d (.ins cl fl)) s1) (hF : F [.d (.ins cl fl)] s1 = .ok (.d (.int n)) s1) (h : 0 ≤ n ∧ n < 9223372036854775808) : eUn (gLenO cl F) fa ρ s = .ok (.d (.int n)) s1 := by
  unfold eUn
  rw [ha]
  simp only [R.bind_ok, gLenO, rd_d, beq_self_eq_true, if_true, hF]
  rw [if_pos]
  rw [Bool.and_eq_true]
  exact ⟨decide_eq_true h.1, decide_eq_true (by omega)⟩
end
end MM
set_option maxRecDepth 100000
/-! T3: walks told by what stays true, rows of draws, comprehensions that draw, what is tried -/
namespace MM
open PySem
section
variable {α β σ : Type} {ρ ρ1 : Slots} {s s1 s2 b L S : Stor} {g g1 g2 : SF} {c : EF Bool} {P : RS → Prop} {fa fb : EF U} {e : α → D} {e' : β → D} {n i : Nat}
/-- the row of the draws -/
def Row (o : O) : Prop := ∃ ns a b c, o = .lst [.scr ns, .int a, .int b, .int c] ∧ 0 ≤ a ∧ 0 ≤ c
theorem t_chain3 {p q r : Int → Int → Bool} {i j k l : Int} {fc fd : EF U} (ha : fa ρ s = .ok (.d (.int i)) s) (hb : fb ρ s = .ok (.d (.int j)) s) (hc : fc ρ s = .ok (.d (.int k)) s) (hd : fd ρ s = .ok (.d (.int l)) s) : eChain3 (MM.g2 (dCmp p)) (MM.g2 (dCmp q)) (MM.g2 (dCmp r)) fa fb fc fd ρ s = .ok (p i j && (q j k && r k l)) s := by
  unfold eChain3
  simp only [ha, hb, hc, hd, R.bind_ok, g2_d, dCmp, uB]
  cases p i j <;> cases q j k <;> simp
theorem w_ifc {t : Bool} (h : c ρ s = .ok t s1) (h1 : t = true → Wp g1 ρ s1 P) (h2 : t = false → Wp g2 ρ s1 P) : Wp (sIf c g1 g2) ρ s P := w_if (Pf := fun (_ : Unit) => P) (x := ()) (y := ()) h h1 h2
theorem w_gd {t : Bool} {g b : SF} (h : c ρ s = .ok t s1) (h1 : t = true → Wp g ρ s1 fun r => P (r.andThen b)) (h2 : t = false → Wp b ρ s1 P) : Wp (sSeq (sIf c g sNil) b) ρ s P := w_seq (w_ifc h h1 fun h => w_nil (h2 h).run)
theorem wp_then (h : Wp g ρ s P) : P ((RS.nx ρ s).andThen g) := h.run
theorem Wp.nx (h : Wp g ρ s P) : P ((RS.nx ρ s).andThen g) := h.run
theorem t_callL {i N m : Nat} {ns : List Nat} {FT : Nat → FM} {fs : EF (List U)} {us : List U} {q : R U} (hρ : ρ[i]? = some (some (.d (.fn m)))) (hn : m ∈ ns) (h : fs ρ s = .ok us s1) (hl : us.length = N) (hF : FT m us s1 = q) : eCallL i N ns FT fs ρ s = q := by
  unfold eCallL
  simp only [hρ]
  rw [if_pos hn, h]
  simp only [R.bind_ok]
  exact len_o hl hF
theorem fld_o {c k : Nat} {f : Str} {fo fv : EF U} {x : D} {fs : List (Str × D)} (hv : fv ρ s = .ok (.d x) s1) (ho : fo ρ s1 = .ok (.loc k) s2) (hi : s2[k]? = some (.ins c fs)) (hl : fs.length < 1000 := by simp) : sFldM c f fo fv ρ s = .nx ρ (s2.set k (.ins c (putD f x fs))) := by
  unfold sFldM
  rw [hv]
  simp only [R.stm_ok]
  rw [ho]
  simp only [R.stm_ok, hi]
  rw [if_pos (by simp [hl])]
theorem t_fldM {c k : Nat} {f : Str} {fs : List (Str × D)} {z : D} (ha : fa ρ s = .ok (.loc k) s1) (hi : s1[k]? = some (.ins c fs)) (h : fs.lookup f = some z) : eUn (gFld c f) fa ρ s = .ok (.d z) s1 := by
  unfold eUn
  rw [ha]
  have hr : rd s1 (.loc k) = some (.ins c fs) := by
    show (match s1[k]? with
      | some (O.lst ds) => some (D.list ds)
      | some (O.dic kvs) => some (D.dict kvs)
      | some (O.ins c fs) => some (D.ins c fs)
      | _ => none) = _
    rw [hi]
  simp only [R.bind_ok, gFld, hr, beq_self_eq_true, if_true, h]
theorem t_make {c n : Nat} {F : FM} {fs : EF (List U)} {us : List U} {z : D} {st2 : Stor} (h : fs ρ s = .ok us s1) (hl : us.length + 1 = n) (hF : F (.loc s1.length :: us) (s1 ++ [.ins c []]) = .ok (.d .none) st2) (hr : rd st2 (.loc s1.length) = some z) (ht : st2.take s1.length = s1) : eArgs fs (kMake c n F) ρ s = .ok (.d z) s1 := args_o h (by
  unfold kMake
  rw [if_pos hl, hF]
  simp only [hr, ht])
theorem t_makeX {c n k : Nat} {F : FM} {fs : EF (List U)} {us : List U} {f : List (Str × D)} {st2 : Stor} (h : fs ρ s = .ok us s1) (hl : us.length + 1 = n) (hF : F (.loc s1.length :: us) (s1 ++ [.ins c []]) = .exc k f st2) (ht : st2.take s1.length = s1) : eArgs fs (kMake c n F) ρ s = .exc k f s1 := by
  unfold eArgs
  rw [h]
  simp only [R.bind_ok]
  unfold kMake
  rw [if_pos hl, hF]
  simp only [ht]
theorem fld_b {c k : Nat} {f : Str} {fo fv : EF U} {x : D} {fs : List (Str × D)} {L' : Stor} (hv : fv ρ s = .ok (.d x) (b ++ L)) (ho : fo ρ (b ++ L) = .ok (.loc (n + k)) (b ++ L)) (hi : L[k]? = some (.ins c fs)) (h' : L.set k (.ins c (putD f x fs)) = L') (hl : fs.length < 1000 := by simp) (hb : b.length = n := by simp) : sFldM c f fo fv ρ s = .nx ρ (b ++ L') := by
  rw [fld_o hv ho (st_at hi hb) hl, st_set h' hb]
def tryR (qs : List ClV) (P : RS → Prop) : RS → Prop
  | .exc c fs ρ s => P (trL c fs ρ s qs)
  | r => P r
theorem w_try {qs : List ClV} (h : Wp g ρ s (tryR qs P)) : Wp (sTryL qs g) ρ s P := by
  refine ⟨?_⟩
  replace h := h.run
  unfold sTryL
  cases q : g ρ s with
  | _ => rw [q] at h; exact h
theorem tr_hit {c : Nat} {fs : List (Str × D)} {q : ClV} {qs : List ClV} {r : RS} (h : q.test c = some true) (k : ∀ a d, (q.run a d c (putX ρ (.exc a d c fs) q.slot) s).wipeO q.slot = r) : trL c fs ρ s (q :: qs) = r := by
  rw [trL, h]
  exact indep_eq k
theorem tr_miss {c : Nat} {fs : List (Str × D)} {q : ClV} {qs : List ClV} (h : q.test c = some false) : trL c fs ρ s (q :: qs) = trL c fs ρ s qs := by
  rw [trL, h]
theorem t_xf {a d : Addr} {c : Nat} {f : Str} {fs : List (Str × D)} {z : D} (hρ : ρ[i]? = some (some (.d (.exc a d c fs)))) (h : fs.lookup f = some z) : eXf a d c f (eV i) ρ s = .ok (.d z) s := by
  unfold eXf
  rw [eV_o hρ]
  simp only [R.bind_ok, and_self, if_true, h]
/-- what a turn ends in, J being kept -/
def PI (inj : σ → Slots) (sto : σ → Stor) (J : σ → Prop) (P : RS → Prop) : RS → Prop
  | .nx ρ s => ∃ v, ρ = inj v ∧ s = sto v ∧ J v
  | .ct ρ s => ∃ v, ρ = inj v ∧ s = sto v ∧ J v
  | .bk ρ s => P (.nx ρ s)
  | .rt u s => P (.rt u s)
  | .exc c fs ρ s => P (.exc c fs ρ s)
  | .bad => False
theorem w_inv {fI : EF (List D × LV)} {h : TgF} {xs : List α} {inj : σ → Slots} {sto : σ → Stor} {s0 : σ} {r : σ → α → Slots} {lv : LV} (I : Nat → σ → Prop) (hf : fI (inj s0) s = .ok (xs.map e, lv) (sto s0)) (hlv : ∀ v, lvOk lv (sto v)) (hh : ∀ v x, h (e x) (inj v) = some (r v x)) (i0 : I 0 s0)
    (hb : ∀ i v x, xs[i]? = some x → I i v → Wp g (r v x) (sto v) (PI inj sto (I (i + 1)) P)) (hk : ∀ v, I xs.length v → P (.nx (inj v) (sto v))) :
    Wp (sFor fI h g) (inj s0) s P := by
  have chk : ∀ {γ : Type} (v : σ) (x y : γ), MM.chk lv (sto v) x y = y := fun v x y => by
    match lv, hlv v with
    | none, _ => rfl
    | some (j, ds), hl => exact chk_some hl
  have go : ∀ (ys : List α) (j : Nat) (v : σ), ys = xs.drop j → j ≤ xs.length → I j v → P (forL h g lv (ys.map e) (inj v) (sto v)) := by
    intro ys
    induction ys with
    | nil =>
      intro j v hj hl hi
      show P (MM.chk lv (sto v) RS.bad (RS.nx (inj v) (sto v)))
      rw [chk]
      have : j = xs.length := by
        have := congrArg List.length hj
        simp at this
        omega
      subst this
      exact hk v hi
    | cons x ys ih =>
      intro j v hj hl hi
      have hx0 : xs[j]? = some x := by
        have : (xs.drop j)[0]? = some x := by rw [← hj]; rfl
        simpa using this
      have hjl : j < xs.length := (List.getElem?_eq_some_iff.mp hx0).1
      have hys : ys = xs.drop (j + 1) := by
        have : (xs.drop j).tail = ys := by rw [← hj]; rfl
        rw [← this]
        simp
      have h1 := hb j v x hx0 hi
      show P (MM.chk lv (sto v) RS.bad (match h (e x) (inj v) with
        | none => RS.bad
        | some ρ1 => match g ρ1 (sto v) with
          | .nx ρ2 st2 => forL h g lv (ys.map e) ρ2 st2
          | .ct ρ2 st2 => forL h g lv (ys.map e) ρ2 st2
          | .bk ρ2 st2 => .nx ρ2 st2
          | r => r))
      rw [chk, hh]
      replace h1 := h1.run
      dsimp only
      cases q : g (r v x) (sto v) with
      | nx ρ' s' => rw [q] at h1; obtain ⟨w, rfl, rfl, hw⟩ := h1; exact ih (j + 1) w hys (by omega) hw
      | ct ρ' s' => rw [q] at h1; obtain ⟨w, rfl, rfl, hw⟩ := h1; exact ih (j + 1) w hys (by omega) hw
      | bk _ _ => rw [q] at h1; exact h1
      | rt _ _ => rw [q] at h1; exact h1
      | exc _ _ _ _ => rw [q] at h1; exact h1
      | bad => rw [q] at h1; exact h1.elim
  refine ⟨?_⟩
  unfold sFor
  rw [hf]
  exact go xs 0 s0 (by simp) (Nat.zero_le _) i0
section
variable {fI : EF (List D × LV)} {h : TgF} {xs : List α} {inj : σ → Slots} {sto : σ → Stor} {s0 : σ} {r : σ → α → Slots} {lv : LV} {bb : SF} {dead pre : List Nat}
theorem w_invT (I : Nat → σ → Prop) (hf : fI (inj s0) s = .ok (xs.map e, lv) (sto s0)) (hlv : ∀ v, lvOk lv (sto v)) (hh : ∀ v x, h (e x) (inj v) = some (r v x)) (i0 : I 0 s0)
    (hb : ∀ i v x, xs[i]? = some x → I i v → Wp g (r v x) (sto v) (PI inj sto (I (i + 1)) fun r => P (r.andThen bb))) (hk : ∀ v, I xs.length v → Wp bb (inj v) (sto v) P) :
    Wp (sSeq (sFor fI h g) bb) (inj s0) s P := w_seq (w_inv I hf hlv hh i0 hb fun v hv => (hk v hv).run)
theorem w_invD (I : Nat → σ → Prop) (hf : fI (inj s0) s = .ok (xs.map e, lv) (sto s0)) (hlv : ∀ v, lvOk lv (sto v)) (hh : ∀ v x, h (e x) (inj v) = some (r v x)) (i0 : I 0 s0)
    (hb : ∀ i v x, xs[i]? = some x → I i v → Wp g (r v x) (sto v) (PI inj sto (I (i + 1)) fun r => P ((wipeR dead r).andThen bb))) (hk : ∀ v, I xs.length v → Wp bb (wipeL dead (inj v)) (sto v) P) :
    Wp (sSeq (sWp dead (sFor fI h g)) bb) (inj s0) s P := w_seq (w_wp (w_inv I hf hlv hh i0 hb fun v hv => (hk v hv).run))
theorem w_inv0 (I : Nat → σ → Prop) (he : wipeL pre ρ = inj s0) (hf : fI (inj s0) s = .ok (xs.map e, lv) (sto s0)) (hlv : ∀ v, lvOk lv (sto v)) (hh : ∀ v x, h (e x) (inj v) = some (r v x)) (i0 : I 0 s0)
    (hb : ∀ i v x, xs[i]? = some x → I i v → Wp g (r v x) (sto v) (PI inj sto (I (i + 1)) fun r => P (r.andThen bb))) (hk : ∀ v, I xs.length v → Wp bb (inj v) (sto v) P) :
    Wp (sSeq (sW0 pre (sFor fI h g)) bb) ρ s P := w_seq (w_w0 (he ▸ w_inv I hf hlv hh i0 hb fun v hv => (hk v hv).run))
theorem w_invD0 (I : Nat → σ → Prop) (he : wipeL pre ρ = inj s0) (hf : fI (inj s0) s = .ok (xs.map e, lv) (sto s0)) (hlv : ∀ v, lvOk lv (sto v)) (hh : ∀ v x, h (e x) (inj v) = some (r v x)) (i0 : I 0 s0)
    (hb : ∀ i v x, xs[i]? = some x → I i v → Wp g (r v x) (sto v) (PI inj sto (I (i + 1)) fun r => P ((wipeR dead r).andThen bb))) (hk : ∀ v, I xs.length v → Wp bb (wipeL dead (inj v)) (sto v) P) :
    Wp (sSeq (sWp dead (sW0 pre (sFor fI h g))) bb) ρ s P := w_seq (w_wp (w_w0 (he ▸ w_inv I hf hlv hh i0 hb fun v hv => (hk v hv).run)))
theorem w_nilT (k : Wp bb ρ s P) : Wp sNil ρ s fun r => P (r.andThen bb) := ⟨k.run⟩
theorem w_nilW (k : Wp bb (wipeL dead ρ) s P) : Wp sNil ρ s fun r => P ((wipeR dead r).andThen bb) := ⟨k.run⟩
theorem w_nxT (h : g ρ s = .nx ρ1 s1) (k : Wp bb ρ1 s1 P) : Wp g ρ s fun r => P (r.andThen bb) := w_nx h k.run
theorem w_nxW (h : g ρ s = .nx ρ1 s1) (k : Wp bb (wipeL dead ρ1) s1 P) : Wp g ρ s fun r => P ((wipeR dead r).andThen bb) := w_nx h k.run
end
theorem b_intB (b : Bool) : bInt [.bool b] = some (.int (if b = true then 1 else 0)) := by cases b <;> rfl
/-- the walk's law with its value -/
def PJ (inj : σ → Slots) (sto : σ → Stor) (J : σ → Prop) (v : σ) : RS → Prop
  | .nx ρ s => (ρ = inj v ∧ s = sto v) ∧ J v
  | .ct ρ s => (ρ = inj v ∧ s = sto v) ∧ J v
  | _ => False
theorem PJ.pn {inj : σ → Slots} {sto : σ → Stor} {J : σ → Prop} {v : σ} : ∀ {r : RS}, PJ inj sto J v r → PN inj sto v r ∧ J v
  | .nx _ _, h => h
  | .ct _ _, h => h
  | .bk _ _, h => h.elim
  | .rt _ _, h => h.elim
  | .exc _ _ _ _, h => h.elim
  | .bad, h => h.elim
theorem w_foldJ {fI : EF (List D × LV)} {h : TgF} {xs : List α} {inj : σ → Slots} {sto : σ → Stor} {step : σ → α → σ} {s0 : σ} {r : σ → α → Slots} {lv : LV} (I : Nat → σ → Prop) (hf : fI (inj s0) s = .ok (xs.map e, lv) (sto s0)) (hlv : ∀ v, lvOk lv (sto v)) (hh : ∀ v x, h (e x) (inj v) = some (r v x)) (i0 : I 0 s0)
    (hb : ∀ i v x, xs[i]? = some x → I i v → Wp g (r v x) (sto v) (PJ inj sto (I (i + 1)) (step v x))) :
    sFor fI h g (inj s0) s = .nx (inj (xs.foldl step s0)) (sto (xs.foldl step s0)) ∧ I xs.length (xs.foldl step s0) :=
  w_fold I hf hlv hh i0 fun i v x hx hi => ⟨⟨(PJ.pn (hb i v x hx hi).run).1⟩, (PJ.pn (hb i v x hx hi).run).2⟩
theorem take_own {b L : Stor} {k n : Nat} (h : b.length = n := by simp) : (b ++ L).take (n + k) = b ++ L.take k := by
  rw [← h, List.take_length_add_append]
theorem w_cutN {g : SF} (hn : s.length = n) (k : Wp g ρ s fun r => P (cutR n r)) : Wp (sCut g) ρ s P := by
  subst hn
  exact w_cut k
theorem cut_nx {inj : σ → Slots} {sto : σ → Stor} {J : σ → Prop} {is : List Nat} {ρ : Slots} {s : Stor} {n : Nat} {v : σ} (hl : lowS n (wipeL is ρ) = true) (hρ : wipeL is ρ = inj v) (hs : s.take n = sto v) (hJ : J v) : PI inj sto J P (cutR n (wipeR is (.nx ρ s))) := by
  show PI inj sto J P (if lowS n (wipeL is ρ) then RS.nx (wipeL is ρ) (s.take n) else RS.bad)
  rw [if_pos hl]
  exact ⟨v, hρ, hs, hJ⟩
/-! ### rows sorted -/
theorem b_sort {xs : List α} (h1 : okO (xs.map e) = true) (h2 : okT (xs.map e) = true) (hl : xs.length ≤ 16777216) : bSort [eL e xs] = some (eL e (xs.mergeSort fun a b => D.le (e a) (e b))) := by
  show (if okO (xs.map e) && okT (xs.map e) && fits (xs.map e).length then some (D.list ((xs.map e).mergeSort D.le)) else none) = _
  rw [h1, h2, fits_le' (by rw [List.length_map]; exact hl), eL, List.map_mergeSort (f := e) (s := D.le) fun a _ b _ => rfl]
  rfl
theorem okO_of [DecidableEq α] {xs : List α} (n : Nat) (hn : n ≤ 58) (hs : ∀ x, sh n (e x) = true) (ha : ∀ x y, PySem.W.alike (e x).py (e y).py = true) (hN : ∀ x, (e x).isN = false) : okO (xs.map e) = true := by
  unfold okO
  rw [Bool.and_eq_true, Bool.and_eq_true]
  refine ⟨⟨shs_map (e := e) (fun x => sh_up hn (hs x)) xs, List.all_eq_true.mpr fun x hx => List.all_eq_true.mpr fun y hy => ?_⟩, List.all_eq_true.mpr fun x hx => ?_⟩
  · obtain ⟨i, _, rfl⟩ := List.mem_map.mp hx
    obtain ⟨j, _, rfl⟩ := List.mem_map.mp hy
    exact ha i j
  · obtain ⟨i, _, rfl⟩ := List.mem_map.mp hx
    rw [hN]
    rfl
/-! ### comprehensions that draw -/
def Al {α β : Type} (Q : α → β → Prop) (xs : List α) (ys : List β) : Prop := ys.length = xs.length ∧ ∀ (i : Nat) x y, xs[i]? = some x → ys[i]? = some y → Q x y
theorem t_mapS {vs : List Nat} {fI : EF (List D × LV)} {h : TgF} {el : EF U} {xs : List α} {Q : α → β → Prop} {r : α → Slots} {lv : LV} {S : O → Stor} {o0 : O} (hf : fI ρ s = .ok (xs.map e, lv) (S o0)) (hz : xs.length ≤ 16777216) (hS : ∀ o, (S o).length = (S o0).length) (hlv : ∀ o acc, lvOk lv (S o ++ [.lst acc])) (hh : ∀ x, h (e x) (wipeS ρ vs) = some (r x)) (h0 : Row o0)
    (he : ∀ x ∈ xs, ∀ o, Row o → ∀ acc, ∃ y o', Row o' ∧ Q x y ∧ el (r x) (S o ++ [.lst acc]) = .ok (.d (e' y)) (S o' ++ [.lst acc])) :
    ∃ ys o', Row o' ∧ Al Q xs ys ∧ eLc false vs fI h eYes el ρ s = .ok (.d (eL e' ys)) (S o') := by
  obtain ⟨acc', st', e1, ⟨o, ys, ho, hy, hq, rfl, rfl⟩, _⟩ := compL_inv (h := h) (c := eYes) (e := el) (ρ := wipeS ρ vs) (n := (S o0).length) (lv := lv) (ds := xs.map e) (st := S o0 ++ [.lst []]) (acc := []) 0 (fun k acc st' => ∃ o ys, Row o ∧ ys.length = (xs.take k).length ∧ (∀ (i : Nat) x y, xs[i]? = some x → ys[i]? = some y → Q x y) ∧ st' = S o ++ [.lst acc] ∧ acc = ys.map e')
    (fun k acc st' z => by
      obtain ⟨o, ys, ho, hy, hq, rfl, _⟩ := z
      exact ⟨hlv o acc, by rw [← hS o]; simp⟩)
    (fun j d acc st' hj z => by
      obtain ⟨o, ys, ho, hy, hq, rfl, rfl⟩ := z
      rw [List.getElem?_map] at hj
      cases hx : xs[j]? with
      | none => rw [hx] at hj; cases hj
      | some x =>
        rw [hx] at hj
        cases hj
        have hm := List.mem_of_getElem? hx
        have hl : j < xs.length := (List.getElem?_eq_some_iff.mp hx).1
        obtain ⟨y, o', ho', hxy, e2⟩ := he x hm o ho (ys.map e')
        refine ⟨_, true, _, hh x, rfl, fun _ => ⟨e' y, _, e2, ?_, o', ys ++ [y], ho', ?_, ?_, ?_, ?_⟩, fun hp => by cases hp⟩
        · rw [← hS o']
          simp
        · rw [List.length_append, hy]
          simp
          omega
        · intro i x1 y1 h1 h2
          rw [List.length_take] at hy
          by_cases hi : i < ys.length
          · rw [List.getElem?_append_left hi] at h2
            exact hq i x1 y1 h1 h2
          · rw [List.getElem?_append_right (by omega)] at h2
            have : i = ys.length := by
              rcases Nat.lt_or_ge (i - ys.length) 1 with h3 | h3
              · omega
              · rw [List.getElem?_eq_none (by simpa using h3)] at h2; cases h2
            subst this
            rw [Nat.sub_self] at h2
            cases h2
            have : ys.length = j := by omega
            rw [this, hx] at h1
            cases h1
            exact hxy
        · rw [← hS o']
          simp
        · simp)
    ⟨o0, [], h0, by simp, fun _ _ _ _ h => by simp at h, rfl, rfl⟩ (by simp)
  refine ⟨ys, o, ho, ⟨by simpa using hy, hq⟩, ?_⟩
  unfold eLc
  rw [hf]
  simp only [R.bind_ok]
  rw [if_pos (show fits (xs.map e).length = true from decide_eq_true (by rw [List.length_map]; exact hz))]
  rw [e1]
  simp [finL, ← hS o]
theorem run_PX {Q : β → Prop} {up : O → Stor} {us : List U} (h : Wp g (us.map some ++ List.replicate (n - us.length) none) s fun r => ∃ v o', Row o' ∧ Q v ∧ PR s.length (up o') (e' v) r) : ∃ v o', Row o' ∧ Q v ∧ runF n g us s = .ok (.d (e' v)) (up o') := by
  obtain ⟨v, o', h1, h2, h3⟩ := h.run
  exact ⟨v, o', h1, h2, run_PR ⟨h3⟩⟩
theorem run_PP {Q : Prop} {v : D} {us : List U} (h : Wp g (us.map some ++ List.replicate (n - us.length) none) s fun r => PR s.length s v r ∧ Q) : runF n g us s = .ok (.d v) s ∧ Q := ⟨run_PR ⟨h.run.1⟩, h.run.2⟩
theorem run_PQ {Q : β → Prop} {us : List U} (h : Wp g (us.map some ++ List.replicate (n - us.length) none) s fun r => ∃ v, Q v ∧ PR s.length s (e' v) r) : ∃ v, Q v ∧ runF n g us s = .ok (.d (e' v)) s := by
  obtain ⟨v, h2, h3⟩ := h.run
  exact ⟨v, h2, run_PR ⟨h3⟩⟩
end
end MM
set_option maxRecDepth 100000
set_option synthInstance.maxSize 100000
/-! T4: kinds in order; rows sorted; more of tuples -/
namespace MM
open PySem
theorem cut_take {α : Type} {xs : List α} {k : Int} (h : 0 ≤ k) : cut xs none (some k) = xs.take k.toNat := by
  unfold cut HT.sIx
  simp only [show ¬ k < 0 by omega, if_false, Nat.sub_zero, List.drop_zero]
  rcases Nat.le_total k.toNat xs.length with h | h
  · rw [Nat.min_eq_left h]
  · rw [Nat.min_eq_right h, List.take_of_length_le (Nat.le_refl _), List.take_of_length_le h]
theorem cut_drop {α : Type} {xs : List α} {k : Int} (h : 0 ≤ k) : cut xs (some k) none = xs.drop k.toNat := by
  unfold cut HT.sIx
  simp only [show ¬ k < 0 by omega, if_false]
  rcases Nat.le_total k.toNat xs.length with h | h
  · rw [Nat.min_eq_left h, List.take_of_length_le (by simp)]
  · rw [Nat.min_eq_right h]
    simp
    exact h
theorem cut_mem {α : Type} {xs : List α} {a b : Option Int} {x : α} (h : x ∈ cut xs a b) : x ∈ xs := by
  unfold cut at h
  exact List.mem_of_mem_drop (List.mem_of_mem_take h)
theorem cut_len {α : Type} {xs : List α} {a b : Option Int} : (cut xs a b).length ≤ xs.length := by
  unfold cut
  simp
  omega
class Ak {α : Type} (e : α → D) : Prop where
  ak : ∀ x y, PySem.W.alike (e x).py (e y).py = true
section
variable {α β γ δ : Type} {e : α → D} {f : β → D} {g : γ → D} {h : δ → D}
theorem ak_all [Ak e] : ∀ xs ys : List α, PySem.W.alikeAll (pys (xs.map e)) (pys (ys.map e)) = true
  | [], _ => by simp [pys, PySem.W.alikeAll]
  | _ :: _, [] => by simp [pys, PySem.W.alikeAll]
  | x :: xs, y :: ys => by simp [pys, PySem.W.alikeAll, Ak.ak (e := e) x y, ak_all xs ys]
instance : Ak D.int := ⟨fun _ _ => by simp [D.py, PySem.W.alike]⟩
instance : Ak D.bool := ⟨fun _ _ => by simp [D.py, PySem.W.alike]⟩
instance : Ak D.str := ⟨fun _ _ => by simp [D.py, PySem.W.alike]⟩
instance [Ak e] : Ak (eL e) := ⟨fun x y => by simp [eL, D.py, PySem.W.alike, ak_all x y]⟩
instance [Ak e] : Ak (eT e) := ⟨fun x y => by simp [eT, D.py, PySem.W.alike, ak_all x y]⟩
instance [Ak e] [Ak f] : Ak (eP2 e f) := ⟨fun x y => by simp [eP2, D.py, pys, PySem.W.alike, PySem.W.alikeAll, Ak.ak (e := e), Ak.ak (e := f)]⟩
instance [Ak e] [Ak f] [Ak g] : Ak (eP3 e f g) := ⟨fun x y => by simp [eP3, D.py, pys, PySem.W.alike, PySem.W.alikeAll, Ak.ak (e := e), Ak.ak (e := f), Ak.ak (e := g)]⟩
instance [Ak e] [Ak f] [Ak g] [Ak h] : Ak (eP4 e f g h) := ⟨fun x y => by simp [eP4, D.py, pys, PySem.W.alike, PySem.W.alikeAll, Ak.ak (e := e), Ak.ak (e := f), Ak.ak (e := g), Ak.ak (e := h)]⟩
/-- all of them filled tuples, or none of them a tuple -/
class Ot {α : Type} (e : α → D) : Prop where
  ot : (∀ x, ∃ y ys, e x = .tuple (y :: ys)) ∨ ∀ x ys, e x ≠ .tuple ys
instance : Ot D.int := ⟨.inr fun _ _ h => by cases h⟩
instance : Ot D.bool := ⟨.inr fun _ _ h => by cases h⟩
instance : Ot D.str := ⟨.inr fun _ _ h => by cases h⟩
instance : Ot (eL e) := ⟨.inr fun _ _ h => by cases h⟩
instance : Ot (eP2 e f) := ⟨.inl fun x => ⟨_, _, rfl⟩⟩
instance : Ot (eP3 e f g) := ⟨.inl fun x => ⟨_, _, rfl⟩⟩
instance : Ot (eP4 e f g h) := ⟨.inl fun x => ⟨_, _, rfl⟩⟩
theorem okT_of [Ot e] (xs : List α) : okT (xs.map e) = true := by
  unfold okT
  rw [Bool.or_eq_true]
  rcases Ot.ot (e := e) with h | h
  · left
    rw [List.all_eq_true]
    intro d hd
    obtain ⟨x, _, rfl⟩ := List.mem_map.mp hd
    obtain ⟨y, ys, e1⟩ := h x
    rw [e1]
  · right
    rw [List.all_eq_true]
    intro d hd
    obtain ⟨x, _, rfl⟩ := List.mem_map.mp hd
    cases q : e x with
    | tuple ys => exact absurd q (h x ys)
    | _ => rfl
/-- the order of a kind -/
def leD (e : α → D) (a b : α) : Bool := D.le (e a) (e b)
theorem t_sort [DecidableEq α] [Fa e] [Nn e] [Ak e] [Ot e] {xs : List α} {ρ : Slots} {s s1 : Stor} {fa : EF U} (ha : fa ρ s = .ok (.d (eL e xs)) s1) (hl : xs.length ≤ 16777216) (hd : Fa.dep e ≤ 58 := by decide) : eArgs (eCons fa eNil) (kB bSort) ρ s = .ok (.d (eL e (xs.mergeSort (leD e)))) s1 :=
  t_b1 ha (b_sort (okO_of _ hd Fa.sh Ak.ak (Fa.isN Nn.nn)) (okT_of xs) hl)
theorem le_fst [Ak f] {p q : Int × β} (hle : leD (eP2 D.int f) p q = true) : p.1 ≤ q.1 := by
  rcases Int.lt_or_le q.1 p.1 with hlt | hle2
  · exfalso
    have ha : PySem.W.alike (PyData.int q.1) (PyData.int p.1) = true := by simp [PySem.W.alike]
    have hb := Ak.ak (e := f) q.2 p.2
    unfold leD D.le D.lt at hle
    simp only [eP2, D.py, pys] at hle
    rw [PySem.W.dataLt_pair ha hb] at hle
    have he : ¬ PyData.eqv (PyData.int q.1) (PyData.int p.1) = true := by
      simp [PyData.eqv]
      omega
    rw [if_neg he, PySem.W.dataLt_int] at hle
    simp [hlt] at hle
  · exact hle2
theorem le_total (a b : α) : (leD e a b || leD e b a) = true := by
  unfold leD D.le D.lt PySem.W.dataLt
  cases h1 : PyProof.Rows.lexLt PyProof.Rows.itemOrd (PySem.W.keyToks (e b).py) (PySem.W.keyToks (e a).py) with
  | false => rfl
  | true =>
    cases h2 : PyProof.Rows.lexLt PyProof.Rows.itemOrd (PySem.W.keyToks (e a).py) (PySem.W.keyToks (e b).py) with
    | false => rfl
    | true =>
      have := PyProof.Rows.lex_trans _ _ _ h1 h2
      rw [PyProof.Rows.lex_irrefl] at this
      cases this
theorem le_trans' (a b c : α) (h1 : leD e a b = true) (h2 : leD e b c = true) : leD e a c = true := by
  unfold leD D.le D.lt PySem.W.dataLt at h1 h2 ⊢
  cases h3 : PyProof.Rows.lexLt PyProof.Rows.itemOrd (PySem.W.keyToks (e c).py) (PySem.W.keyToks (e a).py) with
  | false => rfl
  | true =>
    rcases PyProof.Rows.lex_negTrans _ (PySem.W.keyToks (e b).py) _ h3 with h | h
    · rw [h] at h2; cases h2
    · rw [h] at h1; cases h1
theorem sorted_of (xs : List α) : (xs.mergeSort (leD e)).Pairwise fun a b => leD e a b = true := List.pairwise_mergeSort le_trans' le_total xs
end
end MM
set_option maxRecDepth 100000
set_option synthInstance.maxSize 100000
/-! T5: while, the least of rows, values that may be None, chains of == -/
namespace MM
open PySem
section
variable {α β σ τ : Type} {ρ : Slots} {s s1 s2 : Stor} {fa fb fc fd : EF U} {e : α → D} {f : β → D}
/-- while test, at most n turns -/
def whR (test : σ → Bool) (step : σ → LS σ τ) : Nat → σ → LS σ τ
  | 0, v => .nx v
  | n + 1, v => if test v = true then (match step v with
    | .nx w => whR test step n w
    | .bk w => .bk w
    | .rt t => .rt t) else .nx v
theorem w_wh {c : EF Bool} {g : SF} {inj : σ → Slots} {sto : σ → Stor} {s0 : σ} {test : σ → Bool} {step : σ → LS σ τ} {Pt : τ → RS → Prop} {k : σ → τ} {Pk : τ → RS → Prop} (I : σ → Prop) (μ : σ → Nat) (n : Nat) (i0 : I s0) (hn : μ s0 < n)
    (ht : ∀ v, I v → c (inj v) (sto v) = .ok (test v) (sto v)) (hb : ∀ v, I v → test v = true → Wp g (inj v) (sto v) (PL' inj sto Pt (step v)) ∧ ∀ w, step v = .nx w → I w ∧ μ w < μ v)
    (hk : ∀ v, Pk (k v) (.nx (inj v) (sto v))) (hbad : ∀ t, ¬ Pk t .bad) (hrt : ∀ t u s, Pt t (.rt u s) → Pk t (.rt u s)) (hx : ∀ t c fs ρ s, Pt t (.exc c fs ρ s) → Pk t (.exc c fs ρ s)) :
    Wp (sWhile c g) (inj s0) (sto s0) (Pk (lsK k (whR test step n s0))) := by
  have go : ∀ (n : Nat) (v : σ), I v → μ v < n → Pk (lsK k (whR test step n v)) (whileL c g n (inj v) (sto v)) := by
    intro n
    induction n with
    | zero => intro v _ h; omega
    | succ n ih =>
      intro v hv hm
      unfold whileL
      rw [ht v hv]
      simp only [R.stm_ok]
      unfold whR
      cases q : test v with
      | false => simp only [Bool.false_eq_true, if_false]; exact hk v
      | true =>
        simp only [if_true]
        obtain ⟨h1, h2⟩ := hb v hv q
        replace h1 := h1.run
        cases qs : step v with
        | nx w =>
          rw [qs] at h1
          obtain ⟨i1, m1⟩ := h2 w qs
          have := ih w i1 (by omega)
          cases q2 : g (inj v) (sto v) with
          | nx ρ' s' => rw [q2] at h1; obtain ⟨rfl, rfl⟩ := h1; exact this
          | ct ρ' s' => rw [q2] at h1; obtain ⟨rfl, rfl⟩ := h1; exact this
          | bk _ _ => rw [q2] at h1; exact h1.elim
          | rt _ _ => rw [q2] at h1; exact h1.elim
          | exc _ _ _ _ => rw [q2] at h1; exact h1.elim
          | bad => rw [q2] at h1; exact h1.elim
        | bk w =>
          rw [qs] at h1
          cases q2 : g (inj v) (sto v) with
          | bk ρ' s' => rw [q2] at h1; obtain ⟨rfl, rfl⟩ := h1; exact hk w
          | nx _ _ => rw [q2] at h1; exact h1.elim
          | ct _ _ => rw [q2] at h1; exact h1.elim
          | rt _ _ => rw [q2] at h1; exact h1.elim
          | exc _ _ _ _ => rw [q2] at h1; exact h1.elim
          | bad => rw [q2] at h1; exact h1.elim
        | rt t =>
          rw [qs] at h1
          cases q2 : g (inj v) (sto v) with
          | rt u s' => rw [q2] at h1; exact hrt t u s' h1
          | exc c fs ρ' s' => rw [q2] at h1; exact hx t c fs ρ' s' h1
          | nx _ _ => rw [q2] at h1; exact h1.elim
          | ct _ _ => rw [q2] at h1; exact h1.elim
          | bk _ _ => rw [q2] at h1; exact h1.elim
          | bad => rw [q2] at h1; exact h1.elim
  have h := go n s0 i0 hn
  refine ⟨?_⟩
  rw [sWhile_of rfl fun z => hbad _ (by rw [z] at h; exact h)]
  exact h
/-- x or (), x None or a tuple -/
theorem t_orN {o : Option (List α)} (ha : fa ρ s = .ok (.d (eO (eT e) o)) s1) (hb : fb ρ s1 = .ok (.d (.tuple [])) s1) : eOrV fa fb ρ s = .ok (.d (eT e (o.getD []))) s1 := by
  unfold eOrV
  rw [ha]
  simp only [R.bind_ok]
  cases o with
  | none => exact hb
  | some xs =>
    cases xs with
    | nil => exact hb
    | cons x xs => rfl
/-- a value that is not None here -/
theorem t_some [Inhabited α] {o : Option α} (ha : fa ρ s = .ok (.d (eO e o)) s1) (h : o.isSome = true) : fa ρ s = .ok (.d (e (o.getD default))) s1 := by
  cases o with
  | none => cases h
  | some x => exact ha
theorem t_chainE [DecidableEq α] [Fa e] {a b c : α} (ha : fa ρ s = .ok (.d (e a)) s1) (hb : fb ρ s1 = .ok (.d (e b)) s2) (hc : fc ρ s2 = .ok (.d (e c)) s2) (hd : Fa.dep e ≤ 60 := by decide) : eChain (g2 dEq) (g2 dEq) fa fb fc ρ s = .ok (.d (.bool (decide (a = b) && decide (b = c)))) s2 := by
  unfold eChain
  rw [ha]
  simp only [R.bind_ok]
  rw [hb]
  simp only [R.bind_ok, g2_d, k_eq (e := e) a b hd, uB]
  by_cases h : a = b
  · simp only [h, decide_true, if_true, hc, R.bind_ok, g2_d, k_eq (e := e) b c hd, Bool.true_and]
  · simp only [h, decide_false, Bool.false_and]
    rfl
/-! the least, the greatest of rows -/
def mnG [Inhabited α] (e : α → D) : List α → α
  | [] => default
  | x :: xs => xs.foldl (fun a y => if D.lt (e y) (e a) = true then y else a) x
def mxG [Inhabited α] (e : α → D) : List α → α
  | [] => default
  | x :: xs => xs.foldl (fun a y => if D.lt (e a) (e y) = true then y else a) x
theorem mnD_map : ∀ (xs : List α) (x : α), mnD (e x) (xs.map e) = e (xs.foldl (fun a y => if D.lt (e y) (e a) = true then y else a) x)
  | [], x => rfl
  | y :: xs, x => by
    unfold mnD
    rw [List.map_cons, List.foldl_cons, List.foldl_cons]
    by_cases h : D.lt (e y) (e x) = true
    · simp only [h, if_true]
      exact mnD_map xs y
    · simp only [h, if_false]
      exact mnD_map xs x
theorem mxD_map : ∀ (xs : List α) (x : α), mxD (e x) (xs.map e) = e (xs.foldl (fun a y => if D.lt (e a) (e y) = true then y else a) x)
  | [], x => rfl
  | y :: xs, x => by
    unfold mxD
    rw [List.map_cons, List.foldl_cons, List.foldl_cons]
    by_cases h : D.lt (e x) (e y) = true
    · simp only [h, if_true]
      exact mxD_map xs y
    · simp only [h, if_false]
      exact mxD_map xs x
theorem b_minG [DecidableEq α] [Inhabited α] [Fa e] [Nn e] [Ak e] {xs : List α} (h : 0 < xs.length) (hd : Fa.dep e ≤ 58 := by decide) : bMinD [eL e xs] = some (e (mnG e xs)) := by
  cases xs with
  | nil => exact absurd h (Nat.lt_irrefl 0)
  | cons x xs =>
    show (if okO ((x :: xs).map e) then some (mnD (e x) (xs.map e)) else none) = _
    rw [okO_of (Fa.dep e) hd Fa.sh Ak.ak (fun x => Fa.isN Nn.nn x), if_pos rfl, mnD_map]
    rfl
theorem b_maxG [DecidableEq α] [Inhabited α] [Fa e] [Nn e] [Ak e] {xs : List α} (h : 0 < xs.length) (hd : Fa.dep e ≤ 58 := by decide) : bMaxD [eL e xs] = some (e (mxG e xs)) := by
  cases xs with
  | nil => exact absurd h (Nat.lt_irrefl 0)
  | cons x xs =>
    show (if okO ((x :: xs).map e) then some (mxD (e x) (xs.map e)) else none) = _
    rw [okO_of (Fa.dep e) hd Fa.sh Ak.ak (fun x => Fa.isN Nn.nn x), if_pos rfl, mxD_map]
    rfl
end
end MM
namespace MM
section
variable {α σ τ : Type}
theorem lsR_ind {step : σ → α → LS σ τ} {k : σ → τ} (I : Nat → σ → Prop) (P : τ → Prop) {s0 : σ} {xs : List α} (h0 : I 0 s0)
    (hs : ∀ i v x, xs[i]? = some x → I i v → (∀ w, step v x = .nx w → I (i + 1) w) ∧ (∀ w, step v x = .bk w → P (k w)) ∧ ∀ t, step v x = .rt t → P t) (hk : ∀ v, I xs.length v → P (k v)) : P (lsK k (lsR step s0 xs)) := by
  have go : ∀ (ys : List α) (j : Nat) (v : σ), ys = xs.drop j → j ≤ xs.length → I j v → P (lsK k (lsR step v ys)) := by
    intro ys
    induction ys with
    | nil =>
      intro j v hj hl hi
      have : j = xs.length := by
        have := congrArg List.length hj
        simp at this
        omega
      subst this
      exact hk v hi
    | cons x ys ih =>
      intro j v hj hl hi
      have hx0 : xs[j]? = some x := by
        have : (xs.drop j)[0]? = some x := by rw [← hj]; rfl
        simpa using this
      have hjl : j < xs.length := (List.getElem?_eq_some_iff.mp hx0).1
      have hys : ys = xs.drop (j + 1) := by
        have : (xs.drop j).tail = ys := by rw [← hj]; rfl
        rw [← this]
        simp
      obtain ⟨h1, h2, h3⟩ := hs j v x hx0 hi
      unfold lsR
      cases q : step v x with
      | nx w => exact ih (j + 1) w hys (by omega) (h1 w q)
      | bk w => exact h2 w q
      | rt t => exact h3 t q
  exact go xs 0 s0 (by simp) (Nat.zero_le _) h0
theorem whR_ind {test : σ → Bool} {step : σ → LS σ τ} {k : σ → τ} (I : σ → Prop) (μ : σ → Nat) (P : τ → Prop)
    (hs : ∀ v, I v → test v = true → (∀ w, step v = .nx w → I w ∧ μ w < μ v) ∧ (∀ w, step v = .bk w → P (k w)) ∧ ∀ t, step v = .rt t → P t) (hk : ∀ v, I v → test v = false → P (k v)) :
    ∀ (n : Nat) (v : σ), I v → μ v < n → P (lsK k (whR test step n v)) := by
  intro n
  induction n with
  | zero => intro v _ h; omega
  | succ n ih =>
    intro v hv hm
    unfold whR
    cases q : test v with
    | false => simp only [Bool.false_eq_true, if_false]; exact hk v hv q
    | true =>
      simp only [if_true]
      obtain ⟨h1, h2, h3⟩ := hs v hv q
      cases qs : step v with
      | nx w => exact ih w (h1 w qs).1 (by have := (h1 w qs).2; omega)
      | bk w => exact h2 w qs
      | rt t => exact h3 t qs
theorem lsK_of {k : σ → τ} {r : LS σ τ} {z : τ} (h : lsK k r = z) : (∃ v, (r = .nx v ∨ r = .bk v) ∧ k v = z) ∨ r = .rt z := by
  cases r with
  | nx v => exact .inl ⟨v, .inl rfl, h⟩
  | bk v => exact .inl ⟨v, .inr rfl, h⟩
  | rt t => exact .inr (by rw [show t = z from h])
/-- what a walk that ends in nx has done -/
theorem lsK_nx {α β : Type} {k : σ → LS α β} {r : LS σ (LS α β)} {w : α} (h : lsK k r = .nx w) : (∃ v, (r = .nx v ∨ r = .bk v) ∧ k v = .nx w) ∨ r = .rt (.nx w) := by
  cases r with
  | nx v => exact .inl ⟨v, .inl rfl, h⟩
  | bk v => exact .inl ⟨v, .inr rfl, h⟩
  | rt t => exact .inr (by rw [show t = LS.nx w from h])
theorem whR_rt {test : σ → Bool} {step : σ → LS σ τ} {t : τ} : ∀ {n : Nat} {v : σ}, whR test step n v = .rt t → ∃ v, step v = .rt t
  | 0, v, h => by cases h
  | n + 1, v, h => by
    unfold whR at h
    by_cases q : test v = true
    · rw [if_pos q] at h
      cases qs : step v with
      | nx w => rw [qs] at h; exact whR_rt h
      | bk w => rw [qs] at h; cases h
      | rt t => rw [qs] at h; cases h; exact ⟨v, qs⟩
    · rw [if_neg q] at h
      cases h
theorem lsR_rt {step : σ → α → LS σ τ} {t : τ} : ∀ {xs : List α} {v : σ}, lsR step v xs = .rt t → ∃ v x, x ∈ xs ∧ step v x = .rt t
  | [], v, h => by cases h
  | x :: xs, v, h => by
    unfold lsR at h
    cases qs : step v x with
    | nx w =>
      rw [qs] at h
      obtain ⟨v', x', h1, h2⟩ := lsR_rt h
      exact ⟨v', x', List.mem_cons_of_mem _ h1, h2⟩
    | bk w => rw [qs] at h; cases h
    | rt t => rw [qs] at h; cases h; exact ⟨v, x, List.mem_cons_self, qs⟩
end
theorem Wp.imp {ρ : Slots} {s : Stor} {g : SF} {P Q : RS → Prop} (h : Wp g ρ s P) (f : ∀ r, P r → Q r) : Wp g ρ s Q := ⟨f _ h.run⟩
theorem Wp.nx2 {ρ : Slots} {s : Stor} {g : SF} {P : RS → Prop} {Q : Prop} (h : Wp g ρ s P) (e : P ((RS.nx ρ s).andThen g) = Q := by rfl) : Q := e ▸ h.run
section
variable {σ τ : Type} {ρ : Slots} {s L L' : Stor} {g : SF} {P : RS → Prop} {inj : σ → Slots} {sto : σ → Stor} {J : σ → Prop} {is : List Nat} {n : Nat} {v : σ}
theorem cut_pj (hl : lowS n (wipeL is ρ) = true) (hρ : wipeL is ρ = inj v) (hs : s.take n = sto v) (hJ : J v) : PJ inj sto J v (cutR n (wipeR is (.nx ρ s))) := by
  show PJ inj sto J v (if lowS n (wipeL is ρ) = true then RS.nx (wipeL is ρ) (s.take n) else .bad)
  rw [if_pos hl]
  exact ⟨⟨hρ, hs⟩, hJ⟩
theorem cut_pl {Pt : τ → RS → Prop} (hl : lowS n (wipeL is ρ) = true) (hρ : wipeL is ρ = inj v) (hs : s.take n = sto v) : PL' inj sto Pt (.nx v) (cutR n (wipeR is (.nx ρ s))) := by
  show PL' inj sto Pt (.nx v) (if lowS n (wipeL is ρ) = true then RS.nx (wipeL is ρ) (s.take n) else .bad)
  rw [if_pos hl]
  exact ⟨hρ, hs⟩
theorem w_frz {α : Type} {e : α → D} {i c : Nat} {b : Stor} {xs : List α} (hρ : ρ[i]? = some (some (.loc (n + c)))) (hL : L[c]? = some (.lst (xs.map e))) (h' : L.set c .dead = L') (k : Wp g (ρ.set i (some (.d (eL e xs)))) (b ++ L') P) (hb : b.length = n := by simp) : Wp (sFrz i g) ρ (b ++ L) P := by
  refine ⟨?_⟩
  unfold sFrz
  rw [hρ]
  simp only [st_at hL hb]
  have := k.run
  rw [← h', ← st_set rfl hb] at this
  exact this
theorem k_sort {α : Type} {e : α → D} [DecidableEq α] [Fa e] [Nn e] [Ak e] [Ot e] {xs : List α} (hl : xs.length ≤ 16777216) (hd : Fa.dep e ≤ 58 := by decide) : bSort [eL e xs] = some (eL e (xs.mergeSort (leD e))) := b_sort (okO_of _ hd Fa.sh Ak.ak (Fa.isN Nn.nn)) (okT_of xs) hl
end
/-! the rest of a division -/
theorem md {t n : Int} (h : 0 < n) : 0 ≤ t % n ∧ t % n < n := ⟨Int.emod_nonneg _ (by omega), Int.emod_lt_of_pos _ h⟩
theorem dv {t n : Int} (h : 0 < n) : t - t / n * n = t % n := by
  rw [Int.mul_comm]
  have := Int.emod_def t n
  omega
grind_pattern md => t % n
grind_pattern dv => t / n
theorem someGet {α : Type} [Inhabited α] {o : Option α} (h : o.isSome = true) : o = some (o.getD default) := by
  cases o with
  | none => cases h
  | some x => rfl
theorem mn_mem : ∀ {xs : List Int}, 0 < xs.length → mnI xs ∈ xs
  | x :: xs, _ => by
    have go : ∀ (xs : List Int) (x : Int), xs.foldl (fun a y => if y < a then y else a) x ∈ x :: xs := by
      intro xs
      induction xs with
      | nil => intro x; simp
      | cons y ys ih =>
        intro x
        rw [List.foldl_cons]
        have := ih (if y < x then y else x)
        by_cases h : y < x
        · rw [if_pos h] at this ⊢
          exact List.mem_cons_of_mem _ this
        · rw [if_neg h] at this ⊢
          rcases List.mem_cons.mp this with e | e
          · rw [e]; exact List.mem_cons_self
          · exact List.mem_cons_of_mem _ (List.mem_cons_of_mem _ e)
    exact go xs x
theorem gt_mem {α : Type} [Inhabited α] {xs : List α} {i : Int} (h : -(xs.length : Int) ≤ i ∧ i < xs.length) : gt xs i ∈ xs := by
  obtain ⟨k, hk, hl⟩ := ix_in h
  unfold gt L2.atI
  rw [hk]
  simp [hl]
end MM
set_option maxRecDepth 100000
set_option synthInstance.maxSize 100000
/-! T7: plain facts of lists: the first that passes, least of rows and sorted rows -/
namespace MM
open PySem
section
variable {α β σ τ : Type}
/-- the first item that passes -/
theorem ls_first {p : α → Bool} {f : α → τ} {step : Unit → α → LS Unit τ} {k : Unit → τ} {z : τ} (hk : k () = z) (hs : ∀ x, step () x = if p x = true then .rt (f x) else .nx ()) : ∀ xs : List α, lsK k (lsR step () xs) = ((xs.filter p).head?.map f).getD z
  | [] => hk
  | x :: xs => by
    unfold lsR
    rw [hs]
    by_cases h : p x = true
    · rw [if_pos h, List.filter_cons_of_pos h]
      rfl
    · rw [if_neg h, List.filter_cons_of_neg h]
      exact ls_first hk hs xs
theorem gt_nat [Inhabited α] {xs : List α} {i : Int} (h : 0 ≤ i ∧ i < xs.length) : gt xs i = xs[i.toNat]'(by omega) := by
  unfold gt
  rw [atI_pos _ h.1, List.getElem?_eq_getElem (by omega)]
  rfl
theorem gt_zero [Inhabited α] (xs : List α) : gt xs 0 = xs.head?.getD default := by
  cases xs with
  | nil => rfl
  | cons x xs =>
    rw [gt_nat (by simp)]
    rfl
theorem rg_get {a b : Int} {i : Nat} (h : i < (rg a b).length) : (rg a b)[i] = a + (i : Int) := by
  simp only [rg, List.getElem_map, List.getElem_range]
theorem gt_last [Inhabited α] (xs : List α) (x : α) : gt (xs ++ [x]) (-1) = x := by
  unfold gt L2.atI L2.ixN
  rw [List.length_append, if_neg (by omega), if_pos (by simp; omega)]
  show ((xs ++ [x])[(-1 + ((xs.length + [x].length : Nat) : Int)).toNat]?).getD default = x
  rw [show (-1 + ((xs.length + [x].length : Nat) : Int)).toNat = xs.length by simp; omega]
  simp
theorem gt_app [Inhabited α] {xs ys : List α} {i : Int} (h : 0 ≤ i ∧ i < xs.length) : gt (xs ++ ys) i = gt xs i := by
  rw [gt_nat (by simp; omega), gt_nat h, List.getElem_append_left]
theorem gt_len [Inhabited α] (xs : List α) (x : α) (ys : List α) : gt (xs ++ x :: ys) xs.length = x := by
  rw [gt_nat (by simp; omega)]
  simp
theorem head_map_some (xs : List α) : gt (xs.map some ++ [none]) 0 = xs.head? := by
  cases xs with
  | nil => rfl
  | cons x xs =>
    rw [gt_nat (by simp; omega)]
    rfl
theorem last_none (xs : List α) : gt ([none] ++ xs.map some) (-1) = xs.getLast? := by
  rcases List.eq_nil_or_concat xs with rfl | ⟨ys, y, rfl⟩
  · rfl
  · rw [List.concat_eq_append, List.map_append]
    simp only [List.map_cons, List.map_nil]
    rw [← List.append_assoc, gt_last]
    simp
theorem gt_rgm {n i : Int} [Inhabited α] (f : Int → α) (h : 0 ≤ i ∧ i < n) : gt ((rg 0 n).map f) i = f i := by
  rw [gt_nat (by rw [List.length_map, rg_len]; omega), List.getElem_map, rg_get]
  congr 1
  omega
theorem rg_split {a b c : Int} (h1 : a ≤ b) (h2 : b ≤ c) : rg a c = rg a b ++ rg b c := by
  apply List.ext_getElem
  · rw [List.length_append, rg_len, rg_len, rg_len]
    omega
  · intro i g1 g2
    rw [rg_len] at g1
    by_cases hi : i < (rg a b).length
    · rw [List.getElem_append_left hi, rg_get, rg_get]
    · rw [List.getElem_append_right (by omega), rg_get, rg_get]
      rw [rg_len] at hi ⊢
      omega
theorem enm_mem {xs : List α} {p : Int × α} (h : p ∈ enm xs) : 0 ≤ p.1 ∧ p.1 < xs.length := by
  unfold enm at h
  obtain ⟨q, hq, rfl⟩ := List.mem_map.mp h
  have := (List.mem_zipIdx hq)
  simp at this
  dsimp only
  omega
grind_pattern enm_mem => p ∈ enm xs
theorem at_lt {xs : List α} {i : Nat} {x : α} (h : xs[i]? = some x) : i < xs.length := (List.getElem?_eq_some_iff.mp h).1
theorem enm_snd {xs : List α} {p : Int × α} (h : p ∈ enm xs) : p.2 ∈ xs := by
  unfold enm at h
  obtain ⟨q, hq, rfl⟩ := List.mem_map.mp h
  exact List.fst_mem_of_mem_zipIdx hq
theorem enm_gt [Inhabited α] {xs : List α} {p : Int × α} (h : p ∈ enm xs) : gt xs p.1 = p.2 := by
  have hb := enm_mem h
  rw [gt_nat hb]
  unfold enm at h
  obtain ⟨q, hq, rfl⟩ := List.mem_map.mp h
  have := List.mem_zipIdx hq
  simp at this
  dsimp only
  simp [this.2]
theorem fold_flat (f : α → List β) : ∀ (xs : List α) (v : List β), xs.foldl (fun a x => a ++ f x) v = v ++ xs.flatMap f
  | [], v => by simp
  | x :: xs, v => by
    rw [List.foldl_cons, fold_flat f xs, List.flatMap_cons, List.append_assoc]
theorem flat_len (f : α → List β) (n : Nat) : ∀ (xs : List α), (∀ x ∈ xs, (f x).length = n) → (xs.flatMap f).length = xs.length * n
  | [], _ => by simp
  | x :: xs, h => by
    rw [List.flatMap_cons, List.length_append, h x List.mem_cons_self, flat_len f n xs fun y hy => h y (List.mem_cons_of_mem _ hy), List.length_cons, Nat.add_mul, Nat.one_mul, Nat.add_comm]
theorem fold_last {p : α → Bool} {step : Option α → α → Option α} (hs : ∀ v x, step v x = if p x = true then some x else v) : ∀ (xs : List α) (v : Option α), xs.foldl step v = ((xs.filter p).getLast?).or v
  | [], v => rfl
  | x :: xs, v => by
    rw [List.foldl_cons, hs, fold_last hs xs]
    by_cases h : p x = true
    · rw [if_pos h, List.filter_cons_of_pos h, List.getLast?_cons]
      cases (xs.filter p).getLast? <;> rfl
    · rw [if_neg h, List.filter_cons_of_neg h]
/-- what a fold that appends makes -/
theorem fold_app {p : α → Bool} {q : α → β} {step : List β → α → List β} (hs : ∀ v x, step v x = if p x = true then v ++ [q x] else v) : ∀ (xs : List α) (v : List β), xs.foldl step v = v ++ (xs.filter p).map q
  | [], v => by simp
  | x :: xs, v => by
    rw [List.foldl_cons, hs, fold_app hs xs]
    by_cases h : p x = true
    · rw [if_pos h, List.filter_cons_of_pos h]
      simp
    · rw [if_neg h, List.filter_cons_of_neg h]
theorem foldl_ext {step step' : β → α → β} (xs : List α) (v : β) (h : ∀ v x, x ∈ xs → step v x = step' v x) : xs.foldl step v = xs.foldl step' v := by
  induction xs generalizing v with
  | nil => rfl
  | cons x xs ih =>
    rw [List.foldl_cons, List.foldl_cons, h v x List.mem_cons_self]
    exact ih _ fun v y hy => h v y (List.mem_cons_of_mem _ hy)
theorem filter_none {p : α → Bool} {xs : List α} (h : ∀ x ∈ xs, p x = false) (q : α → β) : (xs.filter p).map q = [] := by
  rw [List.filter_eq_nil_iff.mpr fun x hx => by rw [h x hx]; simp]
  rfl
/-! the least of rows -/
variable {e : α → D}
theorem mnG_spec [Inhabited α] : ∀ {xs : List α}, 0 < xs.length → mnG e xs ∈ xs ∧ ∀ y ∈ xs, leD e (mnG e xs) y = true
  | x :: xs, _ => by
    have go : ∀ (xs : List α) (x : α), (xs.foldl (fun a y => if D.lt (e y) (e a) = true then y else a) x ∈ x :: xs) ∧ ∀ y ∈ x :: xs, leD e (xs.foldl (fun a y => if D.lt (e y) (e a) = true then y else a) x) y = true := by
      intro xs
      induction xs with
      | nil =>
        intro x
        refine ⟨List.mem_cons_self, fun y hy => ?_⟩
        rw [List.mem_singleton.mp hy]
        have := le_total (e := e) x x
        simpa using this
      | cons z zs ih =>
        intro x
        rw [List.foldl_cons]
        by_cases h : D.lt (e z) (e x) = true
        · rw [if_pos h]
          obtain ⟨h1, h2⟩ := ih z
          refine ⟨List.mem_cons_of_mem _ h1, fun y hy => ?_⟩
          rcases List.mem_cons.mp hy with rfl | hy
          · refine le_trans' _ z _ (h2 z List.mem_cons_self) ?_
            have := le_total (e := e) z y
            rcases Bool.or_eq_true_iff.mp this with t | t
            · exact t
            · unfold leD D.le at t
              rw [h] at t
              cases t
          · exact h2 y hy
        · rw [if_neg h]
          obtain ⟨h1, h2⟩ := ih x
          refine ⟨?_, fun y hy => ?_⟩
          · rcases List.mem_cons.mp h1 with q | q
            · rw [q]; exact List.mem_cons_self
            · exact List.mem_cons_of_mem _ (List.mem_cons_of_mem _ q)
          · rcases List.mem_cons.mp hy with rfl | hy
            · exact h2 y List.mem_cons_self
            · rcases List.mem_cons.mp hy with rfl | hy
              · refine le_trans' _ x _ (h2 x List.mem_cons_self) ?_
                unfold leD D.le
                simpa using h
              · exact h2 y (List.mem_cons_of_mem _ hy)
    exact go xs x
/-- the least is the first when sorted, where the order tells all apart -/
theorem mnG_sort [Inhabited α] (anti : ∀ a b, leD e a b = true → leD e b a = true → a = b) {xs : List α} (h : 0 < xs.length) : gt (xs.mergeSort (leD e)) 0 = mnG e xs := by
  obtain ⟨h1, h2⟩ := mnG_spec (e := e) h
  have hs := sorted_of (e := e) xs
  have hp : (xs.mergeSort (leD e)).Perm xs := List.mergeSort_perm xs _
  cases q : xs.mergeSort (leD e) with
  | nil =>
    rw [q] at hp
    have := hp.length_eq
    simp at this
    omega
  | cons y ys =>
    rw [q] at hs hp
    rw [show gt (y :: ys) 0 = y from gt_zero (y :: ys)]
    have hy : y ∈ xs := hp.mem_iff.mp List.mem_cons_self
    have hm : mnG e xs ∈ y :: ys := hp.mem_iff.mpr h1
    refine anti _ _ ?_ (h2 y hy)
    rcases List.mem_cons.mp hm with r | r
    · rw [r]
      have := le_total (e := e) y y
      simpa using this
    · exact (List.pairwise_cons.mp hs).1 _ r
theorem lt_pair {p q : Int × Int} : D.lt (eP2 D.int D.int p) (eP2 D.int D.int q) = decide (p.1 < q.1 ∨ (p.1 = q.1 ∧ p.2 < q.2)) := by
  have ha : PySem.W.alike (PyData.int p.1) (PyData.int q.1) = true := by simp [PySem.W.alike]
  have hb : PySem.W.alike (PyData.int p.2) (PyData.int q.2) = true := by simp [PySem.W.alike]
  unfold D.lt
  simp only [eP2, D.py, pys]
  rw [PySem.W.dataLt_pair ha hb, PySem.W.dataLt_int, PySem.W.dataLt_int]
  by_cases h : p.1 = q.1
  · simp [PyData.eqv, h]
    intro _
    omega
  · simp [PyData.eqv, h]
theorem anti_pair (a b : Int × Int) (h1 : leD (eP2 D.int D.int) a b = true) (h2 : leD (eP2 D.int D.int) b a = true) : a = b := by
  unfold leD D.le at h1 h2
  rw [lt_pair] at h1 h2
  simp at h1 h2
  have e1 : a.1 = b.1 := by omega
  have e2 : a.2 = b.2 := by omega
  exact Prod.ext e1 e2
end
end MM
set_option maxRecDepth 100000
set_option synthInstance.maxSize 100000
/-! T8: texts, zip, str(x) -/
namespace MM
open PySem
section
variable {α β γ δ ε : Type} [DecidableEq α] [DecidableEq β] [DecidableEq γ] [DecidableEq δ] [DecidableEq ε] {e : α → D} {f : β → D} {g : γ → D} {h : δ → D} {k : ε → D}
instance [Fa e] [Fa f] [Fa g] [Fa h] [Fa k] : Fa (eP5 e f g h k) := ⟨max (Fa.dep e) (max (Fa.dep f) (max (Fa.dep g) (max (Fa.dep h) (Fa.dep k)))) + 1, fun p => by
  simp only [eP5, MM.sh, shs, Bool.and_true, Bool.and_eq_true]
  exact ⟨sh_up (by omega) (Fa.sh p.1), sh_up (by omega) (Fa.sh p.2.1), sh_up (by omega) (Fa.sh p.2.2.1), sh_up (by omega) (Fa.sh p.2.2.2.1), sh_up (by omega) (Fa.sh p.2.2.2.2)⟩, fun p q => by
  simp only [eP5, D.eqv, eqvs, Bool.and_true, Fa.eqv]
  rw [Bool.eq_iff_iff]
  simp [Prod.ext_iff], true, fun _ _ => rfl⟩
instance [Fa e] [Fa f] [Fa g] [Fa h] [Fa k] : Nn (eP5 e f g h k) := ⟨rfl⟩
end
section
variable {α β γ δ ε : Type} {e : α → D} {f : β → D} {g : γ → D} {h : δ → D} {k : ε → D}
instance [Ak e] [Ak f] [Ak g] [Ak h] [Ak k] : Ak (eP5 e f g h k) := ⟨fun x y => by simp [eP5, D.py, pys, PySem.W.alike, PySem.W.alikeAll, Ak.ak (e := e), Ak.ak (e := f), Ak.ak (e := g), Ak.ak (e := h), Ak.ak (e := k)]⟩
instance : Ot (eP5 e f g h k) := ⟨.inl fun x => ⟨_, _, rfl⟩⟩
end
/-- the signs of a text, each a text -/
def chars (s : Str) : List Str := s.cps.toList.map fun c => ⟨#[c]⟩
/-- s[i] -/
def chS (s : Str) (i : Int) : Str := ⟨#[(L2.atI s.cps.toList i).getD 0]⟩
section
variable {α β : Type} {ρ : Slots} {s s1 s2 s3 : Stor} {fa fb : EF U} {e : α → D} {f : β → D} {x y : Str} {i : Int}
theorem chars_len (s : Str) : (chars s).length = s.length := by simp [chars, Str.length]
grind_pattern chars_len => (chars s).length
theorem t_addS (ha : fa ρ s = .ok (.d (.str x)) s1) (hb : fb ρ s1 = .ok (.d (.str y)) s2) (h : x.length + y.length ≤ 16777216) : eBin (g2 dAdd) fa fb ρ s = .ok (.d (.str (x ++ y))) s2 := bin_o ha hb (g2_o (by
  show (if fits (x.length + y.length) then some (D.str (x ++ y)) else none) = _
  rw [if_pos (fits_le' h)]))
theorem t_ixS (ha : fa ρ s = .ok (.d (.str x)) s1) (hb : fb ρ s1 = .ok (.d (.int i)) s2) (h : -(x.length : Int) ≤ i ∧ i < x.length) (hl : x.length ≤ 16777216) : eBin (g2 dIx) fa fb ρ s = .ok (.d (.str (chS x i))) s2 := bin_o ha hb (g2_o (by
  show (if fits x.length then (L2.atI x.cps.toList i).map fun c => D.str ⟨#[c]⟩ else none) = _
  rw [if_pos (fits_le' hl)]
  unfold chS
  obtain ⟨k, hk, hlt⟩ := ix_in (m := x.cps.toList.length) (i := i) (by rw [Array.length_toList]; exact h)
  unfold L2.atI
  rw [hk]
  simp only [Option.bind_some, List.getElem?_eq_getElem hlt]
  rfl))
theorem t_slS {fl fh : EF (Option Int)} {lo hi : Option Int} (ha : fa ρ s = .ok (.d (.str x)) s1) (hl : fl ρ s1 = .ok lo s2) (hh : fh ρ s2 = .ok hi s3) (hx : x.length ≤ 16777216) : eSl fa fl fh ρ s = .ok (.d (.str (L2.cutS x lo hi))) s3 := by
  unfold eSl
  rw [ha]
  simp only [R.bind_ok]
  rw [hl]
  simp only [R.bind_ok]
  rw [hh]
  show (if fits x.length then MM.R.ok (U.d (.str (L2.cutS x lo hi))) s3 else .bad) = _
  rw [if_pos (fits_le' hx)]
theorem t_lenS (ha : fa ρ s = .ok (.d (.str x)) s1) (h : x.length ≤ 16777216) : eArgs (eCons fa eNil) (kB bLen) ρ s = .ok (.d (.int x.length)) s1 := t_b1 ha (by
  show (if fits x.length then some (D.int x.length) else none) = _
  rw [if_pos (fits_le' h)])
theorem t_inS (ha : fa ρ s = .ok (.d (.str x)) s1) (hb : fb ρ s1 = .ok (.d (.str y)) s2) : eBin (g2 dIn) fa fb ρ s = .ok (.d (.bool (strIn x y))) s2 := bin_o ha hb (g2_o rfl)
theorem t_ninS (ha : fa ρ s = .ok (.d (.str x)) s1) (hb : fb ρ s1 = .ok (.d (.str y)) s2) : eBin (g2 dNin) fa fb ρ s = .ok (.d (.bool (!strIn x y))) s2 := bin_o ha hb (g2_o rfl)
theorem i_str (h : fa ρ s = .ok (.d (.str x)) s1) : nl (eItems fa) ρ s = .ok ((chars x).map .str, none) s1 := nl_o (items_o h (by
  show some (x.cps.toList.map fun c => D.str ⟨#[c]⟩) = _
  rw [chars, List.map_map]
  rfl))
/-- str(i) -/
def stI (i : Int) : Str := (toString i : String)
theorem log_small {n : Nat} (h : n < 2 ^ 62) : n.log2 < 1920 := by
  by_cases h0 : n = 0
  · subst h0; decide
  · exact Nat.lt_of_lt_of_le ((Nat.log2_lt h0).mpr h) (by decide)
theorem t_strI (ha : fa ρ s = .ok (.d (.int i)) s1) (h : -4611686018427387904 < i ∧ i < 4611686018427387904) : eArgs (eCons fa eNil) (kB bStr) ρ s = .ok (.d (.str (stI i))) s1 := t_b1 ha (by
  show (if decide (i.natAbs.log2 < 1920) then some (D.str (toString i : String)) else none) = _
  rw [if_pos (decide_eq_true (log_small (by omega)))]
  rfl)
theorem t_strS (ha : fa ρ s = .ok (.d (.str x)) s1) : eArgs (eCons fa eNil) (kB bStr) ρ s = .ok (.d (.str x)) s1 := t_b1 ha rfl
theorem c_addN {α : Type} {e : α → D} {xs ys : List α} {b L : Stor} {n c : Nat} (ha : fa ρ (b ++ L) = .ok (.d (eL e xs)) (b ++ L)) (hb2 : fb ρ (b ++ L) = .ok (.d (eL e ys)) (b ++ L)) (hz : xs.length + ys.length ≤ 16777216) (hc : L.length = c) (hb : b.length = n := by simp) : eBin kAddN fa fb ρ (b ++ L) = .ok (.loc (n + c)) (b ++ (L ++ [.lst ((xs ++ ys).map e)])) := bin_o ha hb2 (by
  show (if fits ((xs.map e).length + (ys.map e).length) then MM.R.ok (U.loc (b ++ L).length) ((b ++ L) ++ [.lst (xs.map e ++ ys.map e)]) else .bad) = _
  rw [if_pos (fits_le' (by rw [List.length_map, List.length_map]; exact hz)), List.length_append, hb, hc, List.append_assoc, ← List.map_append])
/-- t * n -/
def repT {α : Type} (xs : List α) (n : Int) : List α := (List.replicate n.toNat xs).flatten
theorem repT_len {α : Type} (xs : List α) (n : Int) : (repT xs n).length = n.toNat * xs.length := by
  unfold repT
  rw [List.length_flatten, List.map_replicate, List.sum_replicate_nat]
theorem t_repT {α : Type} {e : α → D} {xs : List α} {n : Int} (ha : fa ρ s = .ok (.d (eT e xs)) s1) (hb : fb ρ s1 = .ok (.d (.int n)) s2) (h : 1 ≤ xs.length ∧ xs.length ≤ 1000 ∧ 2 ≤ n ∧ n ≤ 1000) : eBin (g2 dMul) fa fb ρ s = .ok (.d (eT e (repT xs n))) s2 := bin_o ha hb (g2_o (by
  have hne : (xs.map e).isEmpty = false := by
    cases xs with
    | nil => simp at h
    | cons x xs => rfl
  show (if _ then some (D.tuple (List.replicate n.toNat (xs.map e)).flatten) else none) = _
  rw [if_pos (by simp [hne]; omega)]
  unfold repT
  rw [eT, List.map_flatten, List.map_replicate]))
/-! zip -/
theorem zip_map (xs : List α) (ys : List β) : zipD (xs.map e) (ys.map f) = (xs.zip ys).map (eP2 e f) := by
  unfold zipD
  rw [List.zip_map, List.map_map]
  rfl
theorem i_zip {fs : EF (List U)} {xs : List α} {ys : List β} (h : fs ρ s = .ok [.d (eT e xs), .d (eT f ys)] s1) : nl (eZipI fs) ρ s = .ok ((xs.zip ys).map (eP2 e f), none) s1 := nl_o (by
  unfold eZipI
  rw [h]
  show MM.R.ok (zipD (xs.map e) (ys.map f)) s1 = _
  rw [zip_map])
end
end MM
set_option maxRecDepth 100000
set_option synthInstance.maxSize 100000
/-! T9: names -/
namespace MM
open PySem
def LETS : Str := "abcdefghijklmnopqrstuvwxyz"
def FIGS : Str := "0123456789"
def okC (c : Str) : Bool := strIn c LETS || strIn c FIGS
def isNm (s : Str) : Bool := (decide (1 ≤ s.length) && decide (s.length ≤ 12)) && strIn (chS s 0) LETS && (chars s).all okC
theorem sig_ok : ∀ k ∈ List.range 36, (let s : Str := "abcdefghijklmnopqrstuvwxyz0123456789"; okC (chS s (k : Nat)) && (decide (26 ≤ k) || strIn (chS s (k : Nat)) LETS)) = true := by decide +kernel
theorem st_ok : ∀ k ∈ List.range 100, ((chars (stI (k : Nat))).all okC && decide (1 ≤ (stI (k : Nat)).length ∧ (stI (k : Nat)).length ≤ 2)) = true := by decide +kernel
theorem st_len4 : ∀ k ∈ List.range 1000, (stI (k : Nat)).length ≤ 3 := by decide +kernel
theorem st_len {i : Int} (h : 0 ≤ i ∧ i < 1000) : (stI i).length ≤ 3 := by
  have := st_len4 i.toNat (List.mem_range.mpr (by omega))
  rwa [show ((i.toNat : Nat) : Int) = i by omega] at this
theorem st_nodup : ((List.range 100).map fun k => stI (k : Nat)).Nodup := by decide +kernel
theorem pigeon {α : Type} [DecidableEq α] : ∀ {L M : List α}, L.Nodup → (∀ x ∈ L, x ∈ M) → L.length ≤ M.length
  | [], _, _, _ => Nat.zero_le _
  | x :: L, M, hn, h => by
    obtain ⟨h1, h2⟩ := List.nodup_cons.mp hn
    have hx := h x List.mem_cons_self
    have := pigeon (L := L) (M := M.erase x) h2 fun y hy => (List.mem_erase_of_ne (fun e => h1 (by rw [← e]; exact hy))).mpr (h y (List.mem_cons_of_mem _ hy))
    rw [List.length_erase_of_mem hx] at this
    have hp := List.length_pos_of_mem hx
    rw [List.length_cons]
    omega
theorem pigeon2 {α : Type} [DecidableEq α] {L M : List α} (hn : L.Nodup) (h : M.length < L.length) : ∃ x ∈ L, x ∉ M := by
  refine Classical.byContradiction fun hc => ?_
  have := pigeon hn fun x hx => Classical.byContradiction fun hm => hc ⟨x, hx, hm⟩
  omega
theorem len_app (x y : Str) : (x ++ y).length = x.length + y.length := by
  show (x.cps ++ y.cps).size = _
  rw [Array.size_append]
  rfl
theorem chars_app (x y : Str) : chars (x ++ y) = chars x ++ chars y := by
  show ((x.cps ++ y.cps).toList.map fun c => (⟨#[c]⟩ : Str)) = _
  rw [Array.toList_append, List.map_append]
  rfl
theorem app_inj {x y z : Str} (h : x ++ y = x ++ z) : y = z := by
  have e : x.cps ++ y.cps = x.cps ++ z.cps := congrArg Str.cps h
  have e2 := congrArg Array.toList e
  rw [Array.toList_append, Array.toList_append] at e2
  have e3 := List.append_cancel_left e2
  cases y
  cases z
  have := Array.ext' e3
  dsimp only at this
  rw [this]
theorem chS_nat {s : Str} {i : Nat} (h : i < s.cps.toList.length) : chS s (i : Int) = ⟨#[s.cps.toList[i]]⟩ := by
  unfold chS
  rw [atI_pos _ (by omega), show ((i : Int)).toNat = i by omega, List.getElem?_eq_getElem h]
  rfl
theorem len_list (s : Str) : s.cps.toList.length = s.length := by simp [Str.length]
theorem chS_app {x y : Str} (h : 1 ≤ x.length) : chS (x ++ y) 0 = chS x 0 := by
  have l1 : 0 < x.cps.toList.length := by rw [len_list]; exact h
  have l2 : 0 < (x ++ y).cps.toList.length := by rw [len_list, len_app]; omega
  have e1 := chS_nat l2
  have e2 := chS_nat l1
  rw [show ((0 : Nat) : Int) = 0 by rfl] at e1 e2
  rw [e1, e2]
  have e : (x ++ y).cps.toList = x.cps.toList ++ y.cps.toList := Array.toList_append
  have : (x ++ y).cps.toList[0] = x.cps.toList[0] := by
    simp only [e]
    exact List.getElem_append_left l1
  rw [this]
theorem chS_one (s : Str) (i : Int) : (chS s i).length = 1 ∧ chars (chS s i) = [chS s i] ∧ chS (chS s i) 0 = chS s i := ⟨rfl, rfl, rfl⟩
/-- a name as it grows -/
structure NmI (s : Str) : Prop where
  l : 1 ≤ s.length
  h : strIn (chS s 0) LETS = true
  c : (chars s).all okC = true
def SIGS : Str := "abcdefghijklmnopqrstuvwxyz0123456789"
theorem sig_c {i : Int} (h : 0 ≤ i ∧ i < 36) : okC (chS SIGS i) = true ∧ (i < 26 → strIn (chS SIGS i) LETS = true) := by
  have := sig_ok i.toNat (List.mem_range.mpr (by omega))
  rw [show ((i.toNat : Nat) : Int) = i by omega] at this
  dsimp only at this
  rw [Bool.and_eq_true, Bool.or_eq_true, decide_eq_true_eq] at this
  refine ⟨this.1, fun h2 => ?_⟩
  rcases this.2 with q | q
  · omega
  · exact q
theorem nm_one {i : Int} (h : 0 ≤ i ∧ i < 26) : NmI (chS SIGS i) := by
  have := sig_c (i := i) ⟨h.1, by omega⟩
  exact ⟨Nat.le_refl _, (this.2 h.2), by rw [(chS_one SIGS i).2.1]; simp [this.1]⟩
theorem nm_add {s t : Str} (h : NmI s) (ht : (chars t).all okC = true) : NmI (s ++ t) := ⟨by rw [len_app]; have := h.l; omega, by rw [chS_app h.l]; exact h.h, by rw [chars_app, List.all_append, h.c, ht]; rfl⟩
theorem nm_sig {s : Str} {i : Int} (h : NmI s) (hi : 0 ≤ i ∧ i < 36) : NmI (s ++ chS SIGS i) ∧ (s ++ chS SIGS i).length = s.length + 1 := ⟨nm_add h (by rw [(chS_one SIGS i).2.1]; simp [(sig_c hi).1]), by rw [len_app]; rfl⟩
theorem st_c {i : Int} (h : 0 ≤ i ∧ i < 100) : (chars (stI i)).all okC = true ∧ (stI i).length ≤ 2 := by
  have := st_ok i.toNat (List.mem_range.mpr (by omega))
  rw [show ((i.toNat : Nat) : Int) = i by omega, Bool.and_eq_true, decide_eq_true_eq] at this
  exact ⟨this.1, this.2.2⟩
theorem nm_st {s : Str} {i : Int} (h : NmI s) (hi : 0 ≤ i ∧ i < 100) : NmI (s ++ stI i) ∧ (s ++ stI i).length ≤ s.length + 2 := ⟨nm_add h (st_c hi).1, by rw [len_app]; have := (st_c hi).2; omega⟩
theorem nm_cut {s : Str} (h : NmI s) : NmI (L2.cutS s none (some 9)) ∧ (L2.cutS s none (some 9)).length ≤ 9 := by
  have e : L2.cutS s none (some 9) = ⟨(s.cps.toList.take 9).toArray⟩ := by
    have hl := h.l
    unfold L2.cutS
    have h1 : HT.sIx s.length 0 none = 0 := rfl
    have h2 : HT.sIx s.length s.length (some 9) = min 9 s.length := by
      simp only [HT.sIx]
      rw [if_neg (by omega)]
      rfl
    rw [h1, h2]
    simp only [List.drop_zero, Nat.sub_zero]
    congr 2
    by_cases hc : s.length ≤ 9
    · rw [Nat.min_eq_right hc, List.take_of_length_le (by simp [Str.length]), List.take_of_length_le (by simpa [Str.length] using hc)]
    · rw [Nat.min_eq_left (by omega)]
  rw [e]
  have hlen : ((⟨(s.cps.toList.take 9).toArray⟩ : Str)).length = min 9 s.length := by
    show (s.cps.toList.take 9).toArray.size = _
    simp [Str.length]
  refine ⟨⟨by rw [hlen]; have := h.l; omega, ?_, ?_⟩, by rw [hlen]; omega⟩
  · have hp : 0 < s.cps.toList.length := by rw [len_list]; exact h.l
    have e1 := chS_nat (s := s) (i := 0) hp
    have e2 := chS_nat (s := ⟨(s.cps.toList.take 9).toArray⟩) (i := 0) (by rw [len_list, hlen, ← len_list]; omega)
    rw [show ((0 : Nat) : Int) = 0 by rfl] at e1 e2
    have hh := h.h
    rw [e1] at hh
    rw [e2]
    have : (s.cps.toList.take 9).toArray.toList[0]'(by rw [List.toList_toArray, List.length_take]; omega) = s.cps.toList[0] := by
      simp only [List.toList_toArray]
      exact List.getElem_take
    rw [this]
    exact hh
  · have hc := h.c
    unfold chars at hc ⊢
    rw [List.all_map, List.all_eq_true] at hc ⊢
    intro c hm
    exact hc c (List.mem_of_mem_take (by simpa using hm))
theorem isNm_of {s : Str} (h : NmI s) (hl : s.length ≤ 12) : isNm s = true := by
  unfold isNm
  rw [h.h, h.c]
  simp [h.l, hl]
/-- the names tried in turn -/
def spare (name : Str) : List Str := [name] ++ (rg 0 100).map fun t => L2.cutS name none (some 9) ++ stI t
theorem spare_ok {name : Str} (h : NmI name) (hl : name.length ≤ 12) {x : Str} (hx : x ∈ spare name) : isNm x = true := by
  rcases List.mem_append.mp hx with hx | hx
  · rw [List.mem_singleton.mp hx]
    exact isNm_of h hl
  · obtain ⟨t, ht, rfl⟩ := List.mem_map.mp hx
    rw [rg_mem] at ht
    have hc := nm_cut h
    have hs := nm_st hc.1 ht
    exact isNm_of hs.1 (by omega)
theorem st_list (p : Str) : ((rg 0 100).map fun t => p ++ stI t).Nodup := by
  have e : ((rg 0 100).map fun t => p ++ stI t) = (((List.range 100).map fun k => stI (k : Nat))).map fun t => p ++ t := by
    unfold rg
    rw [List.map_map, List.map_map]
    refine List.map_congr_left fun k _ => ?_
    simp
  rw [e]
  exact List.Pairwise.map _ (fun x y h q => h (app_inj q)) st_nodup
theorem spare_new {name : Str} {found : List Str} (hf : found.length < 100) : 0 < ((spare name).filter fun x => !inB x found).length := by
  obtain ⟨x, hx, hn⟩ := pigeon2 (st_list (L2.cutS name none (some 9))) (M := found) (by rw [List.length_map, rg_len]; exact hf)
  refine List.length_pos_of_mem (a := x) (List.mem_filter.mpr ⟨List.mem_append.mpr (.inr hx), ?_⟩)
  rw [Bool.not_eq_true', ← Bool.not_eq_true, inB_iff]
  exact hn
theorem strange_new {p : Str} {names : List Str} {n : Int} (hn : 100 ≤ n) (hf : names.length < 100) : 0 < ((((rg 0 n).map fun t => p ++ stI t)).filter fun x => !inB x names).length := by
  obtain ⟨x, hx, hm⟩ := pigeon2 (st_list p) (M := names) (by rw [List.length_map, rg_len]; exact hf)
  obtain ⟨t, ht, rfl⟩ := List.mem_map.mp hx
  rw [rg_mem] at ht
  refine List.length_pos_of_mem (a := p ++ stI t) (List.mem_filter.mpr ⟨List.mem_map.mpr ⟨t, (rg_mem _ _ _).mpr (by omega), rfl⟩, ?_⟩)
  rw [Bool.not_eq_true', ← Bool.not_eq_true, inB_iff]
  exact hm
theorem SIGS_len : SIGS.length = 36 := by decide +kernel
theorem q_len : (Str.ofString "q").length = 1 := by decide +kernel
theorem strange_not {L names : List Str} (h : 0 < (L.filter fun x => !inB x names).length) : gt ((L.filter fun x => !inB x names).map fun y => y) 0 ∉ names := by
  rw [List.map_id']
  have := (List.mem_filter.mp (gt_mem (xs := L.filter fun x => !inB x names) (i := 0) (by omega))).2
  rw [Bool.not_eq_true', ← Bool.not_eq_true, inB_iff] at this
  exact this
theorem names_step {name : Str} {found sp : List Str} (hn : NmI name) (hl : name.length ≤ 12) (hf : found.length < 100) (h1 : found.Nodup) (h2 : ∀ n ∈ found, isNm n = true) (hs : sp = [name] ++ (rg 0 100).map fun t => L2.cutS name none (some 9) ++ stI t) :
    (found ++ [gt ((sp.filter fun y => !inB y found).map fun y => y) 0]).Nodup ∧ ∀ n ∈ found ++ [gt ((sp.filter fun y => !inB y found).map fun y => y) 0], isNm n = true := by
  have hp : 0 < (sp.filter fun y => !inB y found).length := by rw [hs]; exact spare_new (name := name) hf
  have hnot := strange_not hp
  have hm : gt ((sp.filter fun y => !inB y found).map fun y => y) 0 ∈ spare name := by
    rw [List.map_id']
    have := (List.mem_filter.mp (gt_mem (xs := sp.filter fun y => !inB y found) (i := 0) (by omega))).1
    rw [hs] at this ⊢
    exact this
  refine ⟨List.nodup_append.mpr ⟨h1, by simp, fun a ha b hb => ?_⟩, fun n hn' => ?_⟩
  · rw [List.mem_singleton.mp hb]
    exact fun e => hnot (e ▸ ha)
  · rcases List.mem_append.mp hn' with q | q
    · exact h2 n q
    · rw [List.mem_singleton.mp q]
      exact spare_ok hn hl hm
end MM
set_option maxRecDepth 100000
/-! TX: what is refused: try in which the body raises; data whose kinds are mixed -/
namespace MM
open PySem PySem.Spec PyProof.Rows L2
section
variable {q : ClV} {qs : List ClV} {gb a b : SF} {c : Nat} {fs : List (Str × D)} {ρ ρ' ρ2 : Slots} {s s' s2 : Stor} {P : RS → Prop}
theorem tryL_x (h : gb ρ s = .exc c fs ρ' s') : sTryL qs gb ρ s = trL c fs ρ' s' qs := by
  unfold sTryL
  rw [h]
theorem w_ref (hgb : gb ρ s = .exc c fs ρ' s') (hT : q.test c = some true) (hrun : ∀ a d, (q.run a d c (putX ρ' (.exc a d c fs) q.slot) s').wipeO q.slot = .nx ρ2 s2) (hP : P (.nx ρ2 s2)) : Wp (sTryL (q :: qs) gb) ρ s P := by
  refine ⟨?_⟩
  rw [tryL_x hgb, tr_hit hT hrun]
  exact hP
theorem w_refM {q2 : ClV} (hgb : gb ρ s = .exc c fs ρ' s') (hM : q2.test c = some false) (hT : q.test c = some true) (hrun : ∀ a d, (q.run a d c (putX ρ' (.exc a d c fs) q.slot) s').wipeO q.slot = .nx ρ2 s2) (hP : P (.nx ρ2 s2)) : Wp (sTryL (q2 :: q :: qs) gb) ρ s P := by
  refine ⟨?_⟩
  rw [tryL_x hgb, tr_miss hM, tr_hit hT hrun]
  exact hP
/-- the hand of a clause that only asks whether the error tells what is due -/
theorem hd_ask {ce : EF Bool} {i : Nat} {ρx : Slots} (hc : ce ρx s = .ok false s) (hw : RS.wipeO (some i) (.nx ρx s) = .nx ρ2 s) : (sIf ce (sRet (eC (.bool false))) sNil ρx s).wipeO (some i) = .nx ρ2 s := by
  have : sIf ce (sRet (eC (.bool false))) sNil ρx s = .nx ρx s := by
    unfold sIf
    rw [hc]
    rfl
  rw [this]
  exact hw
theorem x_sq (h : a ρ s = .exc c fs ρ' s') : sSeq a b ρ s = .exc c fs ρ' s' := by
  unfold sSeq
  rw [h]
  rfl
variable {fa : EF U} {ft : EF (List U)} {ga gc : EF Bool} {g1 g2 : SF}
theorem x_consE (h : fa ρ s = .exc c fs s2) : eCons fa ft ρ s = .exc c fs s2 := by unfold eCons; rw [h]; rfl
theorem x_consT {u : U} {s1 : Stor} (h1 : fa ρ s = .ok u s1) (h : ft ρ s1 = .exc c fs s2) : eCons fa ft ρ s = .exc c fs s2 := by unfold eCons; rw [h1]; show R.bind (ft ρ s1) _ = _; rw [h]; rfl
theorem x_argsE {k : List U → Stor → R U} (h : ft ρ s = .exc c fs s2) : eArgs ft k ρ s = .exc c fs s2 := by unfold eArgs; rw [h]; rfl
theorem x_truE (h : fa ρ s = .exc c fs s2) : eTru fa ρ s = .exc c fs s2 := by unfold eTru; rw [h]; rfl
theorem x_notE (h : ga ρ s = .exc c fs s2) : eNotT ga ρ s = .exc c fs s2 := by unfold eNotT; rw [h]; rfl
theorem x_orE (h : ga ρ s = .exc c fs s2) : eOrT ga gc ρ s = .exc c fs s2 := by unfold eOrT; rw [h]; rfl
theorem x_ifE (h : ga ρ s = .exc c fs s2) : sIf ga g1 g2 ρ s = .exc c fs ρ s2 := by unfold sIf; rw [h]; rfl
theorem x_ifT {s1 : Stor} (hc : ga ρ s = .ok true s1) (h : g1 ρ s1 = .exc c fs ρ' s2) : sIf ga g1 g2 ρ s = .exc c fs ρ' s2 := by unfold sIf; rw [hc]; exact h
theorem x_ifF {s1 : Stor} (hc : ga ρ s = .ok false s1) (h : g2 ρ s1 = .exc c fs ρ' s2) : sIf ga g1 g2 ρ s = .exc c fs ρ' s2 := by unfold sIf; rw [hc]; exact h
theorem x_exE (h : fa ρ s = .exc c fs s2) : sEx fa ρ s = .exc c fs ρ s2 := by unfold sEx; rw [h]; rfl
theorem x_setE {i : Nat} (h : fa ρ s = .exc c fs s2) : sSet i fa ρ s = .exc c fs ρ s2 := by unfold sSet; rw [h]; rfl
theorem x_parE {is : List Nat} (h : ft ρ s = .exc c fs s2) : sPar is ft ρ s = .exc c fs ρ s2 := by unfold sPar; rw [h]; rfl
theorem x_retE (h : fa ρ s = .exc c fs s2) : sRet fa ρ s = .exc c fs ρ s2 := by unfold sRet; rw [h]; rfl
theorem rt_of {ds : List D} (h : fa ρ s = .ok (.d (.tuple ds)) s) : sRet fa ρ s = .rt (.d (.tuple ds)) s := by unfold sRet; rw [h]; rfl
theorem w_x (h : a ρ s = .exc c fs ρ' s') (k : P (.exc c fs ρ' s')) : Wp a ρ s P := by
  refine ⟨?_⟩
  rw [h]
  exact k
theorem w_try_nx {g1 : SF} (h : gb ρ s = .nx ρ' s') (k : P (.nx ρ' s')) : Wp (sTryL qs gb) ρ s P := by
  refine ⟨?_⟩
  unfold sTryL
  rw [h]
  exact k
theorem w_try_rt {u : U} (h : gb ρ s = .rt u s') (k : P (.rt u s')) : Wp (sTryL qs gb) ρ s P := by
  refine ⟨?_⟩
  unfold sTryL
  rw [h]
  exact k
end
theorem toDT {α : Type} {e : α → D} {xs : List α} : eT e xs = eT (fun x : D => x) (xs.map e) := by simp [eT]
theorem toDT2 {xs : List D} : D.tuple xs = eT (fun x : D => x) xs := by simp [eT]
theorem toDL {α : Type} {e : α → D} {xs : List α} : eL e xs = eL (fun x : D => x) (xs.map e) := by simp [eL]
theorem t_slP {ρ : Slots} {s s1 s2 s3 : Stor} {fa : EF U} {fl fh : EF (Option Int)} {lo hi : Option Int} {ds es : List D} (ha : fa ρ s = .ok (.d (.tuple ds)) s1) (hl : fl ρ s1 = .ok lo s2) (hh : fh ρ s2 = .ok hi s3) (h : cut ds lo hi = es) : eSl fa fl fh ρ s = .ok (.d (.tuple es)) s3 := by
  have q := t_slT (fa := fa) (e := fun x : D => x) (xs := ds) (by rw [eT, List.map_id']; exact ha) hl hh
  rw [eT, List.map_id', h] at q
  exact q
/-- a comprehension that keeps what draws say -/
theorem t_selS {α : Type} {e : α → D} {ρ : Slots} {s : Stor} {vs : List Nat} {fI : EF (List D × LV)} {h : TgF} {c : EF Bool} {el : EF U} {xs : List α} {r : α → Slots} {lv : LV} {S : O → Stor} {o0 : O} (hf : fI ρ s = .ok (xs.map e, lv) (S o0)) (hz : xs.length ≤ 16777216) (hS : ∀ o, (S o).length = (S o0).length) (hlv : ∀ o acc, lvOk lv (S o ++ [.lst acc])) (hh : ∀ x, h (e x) (wipeS ρ vs) = some (r x)) (h0 : Row o0)
    (hc : ∀ x ∈ xs, ∀ o, Row o → ∀ acc, ∃ b o', Row o' ∧ c (r x) (S o ++ [.lst acc]) = .ok b (S o' ++ [.lst acc])) (he : ∀ x s, el (r x) s = .ok (.d (e x)) s) :
    ∃ ys o', Row o' ∧ ys.Sublist xs ∧ eLc false vs fI h c el ρ s = .ok (.d (eL e ys)) (S o') := by
  obtain ⟨acc', st', e1, ⟨o, ys, ho, hy, rfl, rfl⟩, _⟩ := compL_inv (h := h) (c := c) (e := el) (ρ := wipeS ρ vs) (n := (S o0).length) (lv := lv) (ds := xs.map e) (st := S o0 ++ [.lst []]) (acc := []) 0 (fun k acc st' => ∃ o ys, Row o ∧ ys.Sublist (xs.take k) ∧ st' = S o ++ [.lst acc] ∧ acc = ys.map e)
    (fun k acc st' z => by
      obtain ⟨o, ys, ho, hy, rfl, _⟩ := z
      exact ⟨hlv o acc, by rw [← hS o]; simp⟩)
    (fun j d acc st' hj z => by
      obtain ⟨o, ys, ho, hy, rfl, rfl⟩ := z
      rw [List.getElem?_map] at hj
      cases hx : xs[j]? with
      | none => rw [hx] at hj; cases hj
      | some x =>
        rw [hx] at hj
        cases hj
        have hm := List.mem_of_getElem? hx
        have ht : xs.take (0 + j + 1) = xs.take (0 + j) ++ [x] := by rw [Nat.zero_add, List.take_add_one, hx]; rfl
        obtain ⟨b, o', ho', e2⟩ := hc x hm o ho (ys.map e)
        refine ⟨_, b, _, hh x, e2, fun hb => ⟨e x, _, he x _, ?_, o', ys ++ [x], ho', ?_, ?_, ?_⟩, fun hb => ⟨o', ys, ho', ?_, rfl, rfl⟩⟩
        · rw [← hS o']
          simp
        · rw [ht]
          exact List.Sublist.append hy (List.Sublist.refl _)
        · rw [← hS o']
          simp
        · simp
        · rw [ht]
          exact hy.trans (List.sublist_append_left _ _))
    ⟨o0, [], h0, by simp, rfl, rfl⟩ (by simp)
  refine ⟨ys, o, ho, by simpa using hy, ?_⟩
  unfold eLc
  rw [hf]
  simp only [R.bind_ok]
  rw [if_pos (show fits (xs.map e).length = true from decide_eq_true (by rw [List.length_map]; exact hz))]
  rw [e1]
  simp [finL, ← hS o]
theorem t_repL {α : Type} {e : α → D} {ρ : Slots} {s s1 s2 : Stor} {fa fb : EF U} {xs : List α} {n : Int} (ha : fa ρ s = .ok (.d (eL e xs)) s1) (hb : fb ρ s1 = .ok (.d (.int n)) s2) (h : xs.length ≤ 1000 ∧ 0 ≤ n ∧ n ≤ 1000) : eBin (g2 dMul) fa fb ρ s = .ok (.d (eL e (repT xs n))) s2 := bin_o ha hb (g2_o (by
  have hf : (xs.map e).length * n.toNat ≤ 16777216 := by
    rw [List.length_map]
    have := Nat.mul_le_mul h.1 (show n.toNat ≤ 1000 by omega)
    omega
  show (if decide (-(2 ^ 63) ≤ n) && decide (n < 2 ^ 63) && fits ((xs.map e).length * n.toNat) then some (D.list (List.replicate n.toNat (xs.map e)).flatten) else none) = _
  rw [if_pos (by
    simp only [Bool.and_eq_true, decide_eq_true_eq]
    exact ⟨⟨by omega, by omega⟩, decide_eq_true hf⟩)]
  unfold repT
  rw [eL, List.map_flatten, List.map_replicate]))
theorem t_andVS {ρ : Slots} {s s1 s2 : Stor} {fa fb : EF U} {a b : Bool} (h : fa ρ s = .ok (.d (.bool a)) s1) (ha : a = true) (h2 : fb ρ s1 = .ok (.d (.bool b)) s2) : eAndV fa fb ρ s = .ok (.d (.bool (a && b))) s2 := by
  subst ha
  unfold eAndV
  rw [h]
  exact h2
/-! repr of small data -/
theorem repr_none : ∃ z, bRepr .none = some (.str z) := ⟨_, by unfold bRepr reprD; rw [if_pos (by decide +kernel)]; rfl⟩
theorem repr_true : ∃ z, bRepr (.bool true) = some (.str z) := ⟨_, by unfold bRepr reprD; rw [if_pos (by decide +kernel)]; rfl⟩
theorem repr_false : ∃ z, bRepr (.bool false) = some (.str z) := ⟨_, by unfold bRepr reprD; rw [if_pos (by decide +kernel)]; rfl⟩
end MM
set_option maxRecDepth 100000
set_option autoImplicit false
/-! TS: subsets by size, in order -/
namespace MM
open PySem
theorem pys_ints : ∀ xs : List Int, pys (xs.map D.int) = xs.map PyData.int
  | [] => rfl
  | x :: xs => by rw [List.map_cons, pys, pys_ints xs]; rfl
theorem lt_ints (xs ys : List Int) : D.lt (eL D.int xs) (eL D.int ys) = decide (xs < ys) := by
  unfold D.lt
  simp only [eL, D.py]
  rw [pys_ints, pys_ints, PySem.W.dataLt_list]
  exact PySem.W.dataLt_ints xs ys
theorem lt_sized (p q : Int × List Int) : D.lt (eP2 D.int (eL D.int) p) (eP2 D.int (eL D.int) q) = decide (p.1 < q.1 ∨ (p.1 = q.1 ∧ p.2 < q.2)) := by
  have ha : PySem.W.alike (PyData.int p.1) (PyData.int q.1) = true := by simp [PySem.W.alike]
  have hb : PySem.W.alike (eL D.int p.2).py (eL D.int q.2).py = true := Ak.ak (e := eL D.int) p.2 q.2
  have hl := lt_ints p.2 q.2
  have hv := Fa.eqv (e := eL D.int) p.2 q.2
  unfold D.lt at hl ⊢
  simp only [eP2, D.py, pys]
  rw [PySem.W.dataLt_pair ha (by simpa [eL, D.py] using hb), PySem.W.dataLt_int]
  have hl' : PySem.W.dataLt (PyData.list (pys (p.2.map D.int))) (PyData.list (pys (q.2.map D.int))) = decide (p.2 < q.2) := by simpa [eL, D.py] using hl
  rw [hl']
  have hq : PyData.eqv (PyData.list (pys (p.2.map D.int))) (PyData.list (pys (q.2.map D.int))) = decide (p.2 = q.2) := by
    rw [pys_ints, pys_ints, ← PySem.W.ked_eqvAll]
    simp [PyData.eqv]
  rw [hq]
  by_cases h : p.1 = q.1
  · have h1 : PyData.eqv (.int p.1) (.int q.1) = true := by simp [PyData.eqv, h]
    rw [if_pos h1]
    by_cases c : p.2 = q.2
    · rw [if_pos (decide_eq_true c)]
      simp [h, c, List.lt_irrefl]
    · rw [if_neg (by simp [c])]
      simp [h]
  · have h1 : ¬ PyData.eqv (.int p.1) (.int q.1) = true := by simp [PyData.eqv, h]
    rw [if_neg h1]
    simp [h]
theorem anti_sized (a b : Int × List Int) (h1 : leD (eP2 D.int (eL D.int)) a b = true) (h2 : leD (eP2 D.int (eL D.int)) b a = true) : a = b := by
  unfold leD D.le at h1 h2
  rw [lt_sized] at h1 h2
  simp only [Bool.not_eq_true', decide_eq_false_iff_not, not_or, not_and] at h1 h2
  have e1 : a.1 = b.1 := by omega
  have e2 : a.2 = b.2 := List.le_antisymm (h1.2 e1.symm) (h2.2 e1)
  exact Prod.ext e1 e2
/-! increasing rows -/
structure Inc (m : Int) (r : List Int) : Prop where
  p : r.Pairwise (· < ·)
  b : ∀ x ∈ r, 0 ≤ x ∧ x < m
def nx (r : List Int) : Int := match r.getLast? with
  | some x => x + 1
  | none => 0
theorem nx_app (r : List Int) (j : Int) : nx (r ++ [j]) = j + 1 := by simp [nx]
theorem inc_le {m : Int} {r : List Int} (h : Inc m r) : 0 ≤ nx r ∧ ∀ x ∈ r, x < nx r := by
  rcases List.eq_nil_or_concat r with rfl | ⟨s, j, rfl⟩
  · exact ⟨by simp [nx], fun x hx => by cases hx⟩
  · simp only [List.concat_eq_append] at h ⊢
    rw [nx_app]
    have hj := h.b j (by simp)
    refine ⟨by omega, fun x hx => ?_⟩
    rcases List.mem_append.mp hx with hx | hx
    · have := (List.pairwise_append.mp h.p).2.2 x hx j (by simp)
      omega
    · rw [List.mem_singleton.mp hx]; omega
theorem inc_app {m : Int} {r : List Int} {j : Int} : Inc m (r ++ [j]) ↔ Inc m r ∧ nx r ≤ j ∧ j < m := by
  constructor
  · intro h
    have hp := List.pairwise_append.mp h.p
    have hr : Inc m r := ⟨hp.1, fun x hx => h.b x (List.mem_append_left _ hx)⟩
    have hj := h.b j (by simp)
    refine ⟨hr, ?_, hj.2⟩
    rcases List.eq_nil_or_concat r with rfl | ⟨s, k, rfl⟩
    · simpa [nx] using hj.1
    · simp only [List.concat_eq_append] at hp ⊢
      rw [nx_app]
      have := hp.2.2 k (by simp) j (by simp)
      omega
  · rintro ⟨hr, h1, h2⟩
    have hl := inc_le hr
    refine ⟨List.pairwise_append.mpr ⟨hr.p, by simp, fun a ha b hb => ?_⟩, fun x hx => ?_⟩
    · rw [List.mem_singleton.mp hb]
      have := hl.2 a ha
      omega
    · rcases List.mem_append.mp hx with hx | hx
      · exact hr.b x hx
      · rw [List.mem_singleton.mp hx]; omega
def cmb (m : Int) : Nat → List (List Int)
  | 0 => [[]]
  | t + 1 => (cmb m t).flatMap fun r => (rg (nx r) m).map fun j => r ++ [j]
theorem mem_cmb {m : Int} : ∀ {t : Nat} {r : List Int}, r ∈ cmb m t ↔ r.length = t ∧ Inc m r
  | 0, r => by
    rw [cmb, List.mem_singleton]
    constructor
    · rintro rfl
      exact ⟨rfl, by simp, fun x hx => by cases hx⟩
    · intro h
      exact List.eq_nil_of_length_eq_zero h.1
  | t + 1, r => by
    rw [cmb, List.mem_flatMap]
    constructor
    · rintro ⟨s, hs, hr⟩
      obtain ⟨j, hj, rfl⟩ := List.mem_map.mp hr
      obtain ⟨h1, h2⟩ := mem_cmb.mp hs
      have := (rg_mem _ _ _).mp hj
      exact ⟨by simp [h1], inc_app.mpr ⟨h2, this.1, this.2⟩⟩
    · rintro ⟨h1, h2⟩
      rcases List.eq_nil_or_concat r with rfl | ⟨s, j, rfl⟩
      · simp at h1
      · simp only [List.concat_eq_append] at h1 h2 ⊢
        obtain ⟨h3, h4⟩ := inc_app.mp h2
        exact ⟨s, mem_cmb.mpr ⟨by simpa using h1, h3⟩, List.mem_map.mpr ⟨j, (rg_mem _ _ _).mpr h4, rfl⟩⟩
theorem lt_app : ∀ {r s : List Int} (x y : List Int), r.length = s.length → r < s → r ++ x < s ++ y
  | [], [], _, _, _, h => absurd h (List.lt_irrefl _)
  | a :: r, b :: s, x, y, hl, h => by
    rw [List.cons_append, List.cons_append, List.cons_lt_cons_iff]
    rcases List.cons_lt_cons_iff.mp h with h2 | ⟨rfl, h2⟩
    · exact .inl h2
    · exact .inr ⟨rfl, lt_app x y (by simpa using hl) h2⟩
theorem lt_snoc : ∀ {r : List Int} {a b : Int}, a < b → r ++ [a] < r ++ [b]
  | [], a, b, h => List.cons_lt_cons_iff.mpr (.inl h)
  | c :: r, a, b, h => by
    rw [List.cons_append, List.cons_append, List.cons_lt_cons_iff]
    exact .inr ⟨rfl, lt_snoc h⟩
theorem rg_sorted (a b : Int) : (rg a b).Pairwise (· < ·) := by
  unfold rg
  rw [List.pairwise_map]
  exact List.Pairwise.imp (fun h => by omega) List.pairwise_lt_range
theorem cmb_sorted (m : Int) : ∀ t : Nat, (cmb m t).Pairwise (· < ·)
  | 0 => by simp [cmb]
  | t + 1 => by
    rw [cmb, List.pairwise_flatMap]
    refine ⟨fun r _ => ?_, ?_⟩
    · rw [List.pairwise_map]
      exact (rg_sorted _ _).imp fun h => lt_snoc h
    · have h := cmb_sorted m t
      refine List.Pairwise.imp_of_mem (fun {r s} hr hs h => ?_) h
      intro x hx y hy
      obtain ⟨i, _, rfl⟩ := List.mem_map.mp hx
      obtain ⟨j, _, rfl⟩ := List.mem_map.mp hy
      exact lt_app _ _ (by rw [(mem_cmb.mp hr).1, (mem_cmb.mp hs).1]) h
/-! all subsets -/
def sbs : Nat → List (List Int)
  | 0 => [[]]
  | k + 1 => sbs k ++ (sbs k).map fun r => r ++ [(k : Int)]
theorem mem_sbs : ∀ {k : Nat} {r : List Int}, r ∈ sbs k ↔ Inc k r
  | 0, r => by
    rw [sbs, List.mem_singleton]
    constructor
    · rintro rfl
      exact ⟨by simp, fun x hx => by cases hx⟩
    · intro h
      cases r with
      | nil => rfl
      | cons x r =>
        have := h.b x (List.mem_cons_self ..)
        omega
  | k + 1, r => by
    rw [sbs, List.mem_append]
    constructor
    · rintro (h | h)
      · have := mem_sbs.mp h
        exact ⟨this.p, fun x hx => by have := this.b x hx; omega⟩
      · obtain ⟨s, hs, rfl⟩ := List.mem_map.mp h
        have hi := mem_sbs.mp hs
        have h3 : Inc ((k : Int) + 1) s := ⟨hi.p, fun x hx => by have := hi.b x hx; omega⟩
        refine inc_app.mpr ⟨by simpa using h3, ?_, by omega⟩
        rcases List.eq_nil_or_concat s with rfl | ⟨u, j, rfl⟩
        · simp [nx]
        · simp only [List.concat_eq_append] at hi ⊢
          rw [nx_app]
          have := hi.b j (by simp)
          omega
    · intro h
      by_cases c : ∀ x ∈ r, x < k
      · exact .inl (mem_sbs.mpr ⟨h.p, fun x hx => ⟨(h.b x hx).1, c x hx⟩⟩)
      · refine .inr ?_
        rcases List.eq_nil_or_concat r with rfl | ⟨u, j, rfl⟩
        · exact absurd (fun x hx => by cases hx) c
        · simp only [List.concat_eq_append] at h c ⊢
          obtain ⟨h1, h2, h3⟩ := inc_app.mp h
          have hl := inc_le h1
          have hj : j = k := by
            apply Classical.byContradiction
            intro hne
            apply c
            intro x hx
            rcases List.mem_append.mp hx with hx | hx
            · have := hl.2 x hx
              omega
            · rw [List.mem_singleton.mp hx]
              omega
          subst hj
          exact List.mem_map.mpr ⟨u, mem_sbs.mpr ⟨h1.p, fun x hx => ⟨(h1.b x hx).1, by have := hl.2 x hx; omega⟩⟩, rfl⟩
theorem nodup_sbs : ∀ k : Nat, (sbs k).Nodup
  | 0 => by simp [sbs]
  | k + 1 => by
    rw [sbs, List.nodup_append]
    refine ⟨nodup_sbs k, ?_, fun a ha b hb e => ?_⟩
    · exact List.Pairwise.map _ (fun a b h e => h (List.append_cancel_right e)) (nodup_sbs k)
    · obtain ⟨s, hs, rfl⟩ := List.mem_map.mp hb
      have := (mem_sbs.mp ha).b k (by rw [e]; simp)
      omega
theorem inc_len {m : Int} (hm : 0 ≤ m) {r : List Int} (h : Inc m r) : (r.length : Int) ≤ m := by
  have hn : r.Nodup := h.p.imp fun h => by omega
  have := pigeon hn (M := rg 0 m) fun x hx => (rg_mem _ _ _).mpr (h.b x hx)
  rw [rg_len] at this
  omega
theorem sized_eq (m : Nat) : ((((sbs m).map fun r => ((r.length : Int), r)).mergeSort (leD (eP2 D.int (eL D.int)))).map fun p => p.2) = (rg 0 ((m : Int) + 1)).flatMap fun s => cmb m s.toNat := by
  have hL : (((sbs m).map fun r => ((r.length : Int), r)).mergeSort (leD (eP2 D.int (eL D.int)))) = (rg 0 ((m : Int) + 1)).flatMap fun s => (cmb m s.toNat).map fun r => (s, r) := by
    have hs : ((rg 0 ((m : Int) + 1)).flatMap fun s => (cmb m s.toNat).map fun r => (s, r)).Pairwise fun a b => a.1 < b.1 ∨ a.1 = b.1 ∧ a.2 < b.2 := by
      rw [List.pairwise_flatMap]
      refine ⟨fun s _ => ?_, ?_⟩
      · rw [List.pairwise_map]
        exact (cmb_sorted _ _).imp fun h => .inr ⟨rfl, h⟩
      · refine (rg_sorted _ _).imp fun {s u} h => ?_
        intro x hx y hy
        obtain ⟨_, _, rfl⟩ := List.mem_map.mp hx
        obtain ⟨_, _, rfl⟩ := List.mem_map.mp hy
        exact .inl h
    refine List.Perm.eq_of_pairwise (le := fun a b => leD (eP2 D.int (eL D.int)) a b = true) (fun a b _ _ h1 h2 => anti_sized a b h1 h2) (sorted_of _) ?_ ?_
    · refine hs.imp fun {a b} h => ?_
      unfold leD D.le
      rw [lt_sized]
      simp only [Bool.not_eq_true', decide_eq_false_iff_not, not_or, not_and]
      rcases h with h | ⟨h1, h2⟩
      · exact ⟨by omega, fun e => by omega⟩
      · exact ⟨by omega, fun _ h3 => List.lt_asymm h2 h3⟩
    · refine (List.mergeSort_perm _ _).trans ?_
      rw [List.perm_ext_iff_of_nodup]
      · rintro ⟨s, r⟩
        simp only [List.mem_map, List.mem_flatMap, Prod.mk.injEq]
        constructor
        · rintro ⟨u, hu, rfl, rfl⟩
          have hi := mem_sbs.mp hu
          have hl := inc_len (by omega) hi
          exact ⟨_, (rg_mem _ _ _).mpr ⟨by omega, by omega⟩, u, mem_cmb.mpr ⟨by simp, hi⟩, rfl, rfl⟩
        · rintro ⟨u, hu, v, hv, rfl, rfl⟩
          obtain ⟨h1, h2⟩ := mem_cmb.mp hv
          have := (rg_mem _ _ _).mp hu
          exact ⟨v, mem_sbs.mpr h2, by omega, rfl⟩
      · exact List.Pairwise.map _ (fun a b h e => h (congrArg Prod.snd e)) (nodup_sbs m)
      · refine hs.imp fun {a b} h e => ?_
        subst e
        rcases h with h | ⟨_, h⟩
        · omega
        · exact List.lt_irrefl _ h
  rw [hL, List.map_flatMap]
  congr 1
  funext s
  rw [List.map_map]
  exact List.map_id' _
/-! what walks make of it -/
theorem rg_snoc (t : Nat) : rg 0 ((t + 1 : Nat) : Int) = rg 0 (t : Int) ++ [(t : Int)] := by
  rw [rg_split (a := 0) (b := (t : Int)) (c := ((t + 1 : Nat) : Int)) (by omega) (by omega)]
  congr 1
  unfold rg
  have : (((t + 1 : Nat) : Int) - (t : Int)).toNat = 1 := by omega
  rw [this]
  simp [List.range_succ]
theorem subsets_eq (t : Nat) : (rg 0 (t : Int)).foldl (fun (v : List (List Int)) x => v ++ v.map fun y => y ++ [x]) [[]] = sbs t := by
  induction t with
  | zero => rfl
  | succ t ih =>
    rw [rg_snoc, List.foldl_append, ih]
    rfl
theorem drop_rg {α : Type} [Inhabited α] (names : List α) (k : Nat) : names.drop k = (rg (k : Int) (names.length : Int)).map (gt names) := by
  apply List.ext_getElem
  · rw [List.length_drop, List.length_map, rg_len]
    omega
  · intro i h1 h2
    rw [List.length_drop] at h1
    rw [List.getElem_drop, List.getElem_map, rg_get, gt_nat (by omega)]
    congr 1
section
variable {α : Type} [Inhabited α] [DecidableEq α]
theorem idx_gt {names : List α} (hn : names.Nodup) {j : Int} (h : 0 ≤ j ∧ j < names.length) : (names.idxOf (gt names j) : Int) = j := by
  rw [gt_nat h, hn.idxOf_getElem]
  omega
def bgn (names x : List α) : Int := if (decide ((0 : Int) < (x.length : Int))) = true then ((names.idxOf (gt x (-(1 : Int))) : Int) + (1 : Int)) else (0 : Int)
theorem bgn_eq {names : List α} (hn : names.Nodup) {r : List Int} (h : Inc names.length r) : bgn names (r.map (gt names)) = nx r := by
  unfold bgn
  rcases List.eq_nil_or_concat r with rfl | ⟨s, j, rfl⟩
  · simp [nx]
  · simp only [List.concat_eq_append] at h ⊢
    have hj := h.b j (by simp)
    rw [if_pos (by simp), nx_app, List.map_append, List.map_cons, List.map_nil, gt_last, idx_gt hn hj]
theorem chs_eq {names : List α} (hn : names.Nodup) (t : Nat) : (rg 0 (t : Int)).foldl (fun (v : List (List α)) _ => v.flatMap fun x => (cut names (some (bgn names x)) none).map fun y => x ++ [y]) [[]] = (cmb names.length t).map fun r => r.map (gt names) := by
  induction t with
  | zero => rfl
  | succ t ih =>
    rw [rg_snoc, List.foldl_append, ih]
    show ((cmb names.length t).map fun r => r.map (gt names)).flatMap _ = _
    rw [cmb, List.map_flatMap, List.flatMap_map]
    have : ∀ r ∈ cmb names.length t, (cut names (some (bgn names (r.map (gt names)))) none).map (fun y => r.map (gt names) ++ [y]) = ((rg (nx r) (names.length : Int)).map fun j => r ++ [j]).map fun r => r.map (gt names) := by
      intro r hr
      have hi := (mem_cmb.mp hr).2
      have h0 := (inc_le hi).1
      rw [bgn_eq hn hi, cut_drop h0, drop_rg, Int.toNat_of_nonneg h0, List.map_map, List.map_map]
      apply List.map_congr_left
      intro j _
      simp
    have fc : ∀ {β γ : Type} {f g : β → List γ} {l : List β}, (∀ x ∈ l, f x = g x) → l.flatMap f = l.flatMap g := by
      intro β γ f g l h
      induction l with
      | nil => rfl
      | cons x l ih2 => rw [List.flatMap_cons, List.flatMap_cons, h x (List.mem_cons_self ..), ih2 fun y hy => h y (List.mem_cons_of_mem _ hy)]
    exact fc this
end
/-- the first that passes, over rows of rows -/
theorem ls_flat {α β τ : Type} {g : α → List β} {p : β → Bool} {f : β → τ} {step : Unit → α → LS Unit τ} {k : Unit → τ} {z : τ} (hk : k () = z) (hs : ∀ x, step () x = (((g x).filter p).head?.map fun y => LS.rt (f y)).getD (LS.nx ())) : ∀ xs : List α, lsK k (lsR step () xs) = (((xs.flatMap g).filter p).head?.map f).getD z
  | [] => by simp [lsR, lsK, hk]
  | x :: xs => by
    have ih := ls_flat hk hs xs
    rw [lsR, hs x, List.flatMap_cons, List.filter_append]
    cases q : (g x).filter p with
    | nil =>
      simp only [List.head?_nil, Option.map_none, Option.getD_none, List.nil_append]
      exact ih
    | cons a l => simp [lsK]
/-! rows with keys, increasing rows, walks that gather -/
theorem filt_one {α β : Type} [DecidableEq β] (f : α → β) : ∀ {l : List α}, (l.map f).Nodup → ∀ {r : α}, r ∈ l → l.filter (fun y => decide (f y = f r)) = [r]
  | [], _, r, hr => by cases hr
  | x :: l, hn, r, hr => by
    rw [List.map_cons, List.nodup_cons] at hn
    rw [List.filter_cons]
    rcases List.mem_cons.mp hr with rfl | hr
    · rw [if_pos (by simp)]
      congr 1
      exact List.filter_eq_nil_iff.mpr fun y hy q => hn.1 (by
        have : f y = f r := by simpa using q
        rw [← this]
        exact List.mem_map_of_mem hy)
    · have hne : ¬ f x = f r := fun q => hn.1 (q ▸ List.mem_map_of_mem hr)
      rw [if_neg (by simpa using hne)]
      exact filt_one f hn.2 hr
theorem sorted_ext {l1 l2 : List Int} (h1 : l1.Pairwise (· < ·)) (h2 : l2.Pairwise (· < ·)) (h : ∀ x, x ∈ l1 ↔ x ∈ l2) : l1 = l2 := by
  refine List.Perm.eq_of_pairwise (le := fun a b : Int => a < b) (fun a b _ _ h1 h2 => by omega) h1 h2 ?_
  rw [List.perm_ext_iff_of_nodup (h1.imp fun h => by omega) (h2.imp fun h => by omega)]
  exact h
theorem filter_rg {a b l h : Int} {p : Int → Bool} (hl : a ≤ l) (hh : h < b) (hp : ∀ x, a ≤ x → x < b → (p x = true ↔ l ≤ x ∧ x ≤ h)) : (rg a b).filter p = rg l (h + 1) := by
  refine sorted_ext ((rg_sorted a b).sublist List.filter_sublist) (rg_sorted _ _) fun x => ?_
  rw [List.mem_filter, rg_mem, rg_mem]
  constructor
  · rintro ⟨⟨h1, h2⟩, h3⟩
    have := (hp x h1 h2).mp h3
    omega
  · intro h1
    exact ⟨by omega, (hp x (by omega) (by omega)).mpr (by omega)⟩
theorem gt_rg_first {l h : Int} (c : l < h) : gt (rg l h) 0 = l := by
  rw [gt_nat (by rw [rg_len]; omega), rg_get]
  simp
theorem gt_rg_last {l h : Int} (c : l ≤ h) : gt (rg l (h + 1)) (-1) = h := by
  rw [rg_split (a := l) (b := h) (c := h + 1) c (by omega)]
  have : rg h (h + 1) = [h] := by
    unfold rg
    have : (h + 1 - h).toNat = 1 := by omega
    rw [this]
    simp [List.range_succ]
  rw [this, gt_last]
theorem fold_map {α β : Type} (f : α → β) (xs : List α) : xs.foldl (fun a x => a ++ [f x]) [] = xs.map f := by
  have := fold_flat (fun x => [f x]) xs []
  rw [List.nil_append, ← List.map_eq_flatMap] at this
  exact this
theorem foldl_congr {α β : Type} {f g : β → α → β} : ∀ {l : List α} {a : β}, (∀ b, ∀ x ∈ l, f b x = g b x) → l.foldl f a = l.foldl g a
  | [], _, _ => rfl
  | x :: l, a, h => by
    rw [List.foldl_cons, List.foldl_cons, h a x (List.mem_cons_self ..), foldl_congr fun b y hy => h b y (List.mem_cons_of_mem _ hy)]
theorem flat_congr {α β : Type} {f g : α → List β} : ∀ {l : List α}, (∀ x ∈ l, f x = g x) → l.flatMap f = l.flatMap g
  | [], _ => rfl
  | x :: l, h => by
    rw [List.flatMap_cons, List.flatMap_cons, h x (List.mem_cons_self ..), flat_congr fun y hy => h y (List.mem_cons_of_mem _ hy)]
theorem inv_map {α β : Type} {f : α → β} {l : List α} {i : Nat} {x : α} {c : List β} (h : c = (l.take i).map f) (hx : l[i]? = some x) : c ++ [f x] = (l.take (i + 1)).map f := by
  rw [List.take_add_one, hx, h]
  simp
theorem inv_filt {α β : Type} {f : α → β} {p : α → Bool} {l : List α} {i : Nat} {x : α} {c : List β} (h : c = ((l.take i).filter p).map f) (hx : l[i]? = some x) : c ++ (rg 0 (if p x = true then 1 else 0)).map (fun _ => f x) = ((l.take (i + 1)).filter p).map f := by
  rw [List.take_add_one, hx, h, List.filter_append, List.map_append]
  congr 1
  cases q : p x
  · rw [if_neg (by simp)]
    simp [q, rg]
  · rw [if_pos rfl]
    simp [q, rg, List.range_succ]
theorem inv_ships {α β : Type} {key : β → α} {ns : List α} {i : Nat} {x : α} {c : List β} {w : β} {P : β → Prop} (h : c.map key = ns.take i ∧ ∀ w ∈ c, P w) (hx : ns[i]? = some x) (e : key w = x) (hw : P w) : (c ++ [w]).map key = ns.take (i + 1) ∧ ∀ v ∈ c ++ [w], P v := by
  refine ⟨by rw [List.take_add_one, hx, List.map_append, h.1, List.map_cons, e]; rfl, fun v hv => ?_⟩
  rcases List.mem_append.mp hv with q | q
  · exact h.2 v q
  · have e2 : v = w := List.mem_singleton.mp q
    subst e2
    exact hw
theorem nd_cut {α : Type} {ns : List α} (h : ns.Nodup) (a b : Option Int) : (cut ns a b).Nodup := by
  unfold cut
  exact List.Pairwise.sublist ((List.take_sublist _ _).trans (List.drop_sublist _ _)) h
theorem cut_sub {α : Type} (ns : List α) (a b : Option Int) : (cut ns a b).Sublist ns := by
  unfold cut
  exact (List.take_sublist _ _).trans (List.drop_sublist _ _)
theorem al_imp {α β : Type} {Q R : α → β → Prop} {xs : List α} {ys : List β} (h : Al Q xs ys) (f : ∀ x y, Q x y → R x y) : Al R xs ys := ⟨h.1, fun i x y h1 h2 => f x y (h.2 i x y h1 h2)⟩
theorem al_map {α β γ : Type} {Q : α → β → Prop} {xs : List α} {ys : List β} (h : Al Q xs ys) (f : α → γ) (g : β → γ) (hq : ∀ x y, Q x y → g y = f x) : ys.map g = xs.map f := by
  apply List.ext_getElem
  · simp [h.1]
  · intro i h1 h2
    simp only [List.length_map] at h1 h2
    simp only [List.getElem_map]
    exact hq _ _ (h.2 i _ _ (List.getElem?_eq_getElem h2) (List.getElem?_eq_getElem h1))
theorem al_mem {α β : Type} {Q : α → β → Prop} {xs : List α} {ys : List β} (h : Al Q xs ys) {y : β} (hy : y ∈ ys) : ∃ x ∈ xs, Q x y := by
  obtain ⟨i, hi, rfl⟩ := List.getElem_of_mem hy
  have hx : i < xs.length := by rw [← h.1]; exact hi
  exact ⟨xs[i], List.getElem_mem hx, h.2 i _ _ (List.getElem?_eq_getElem hx) (List.getElem?_eq_getElem hi)⟩
theorem any_lsR {α : Type} {p : α → Bool} {step : Unit → α → LS Unit Bool} {k : Unit → Bool} (hk : k () = true) (hs : ∀ x, step () x = if p x = true then .rt false else .nx ()) : ∀ xs : List α, lsK k (lsR step () xs) = !(xs.any p) := fun xs => by
  rw [ls_first (f := fun _ => false) (z := true) hk hs]
  cases q : xs.any p with
  | true =>
    obtain ⟨x, hx, hp⟩ := List.any_eq_true.mp q
    have hf : x ∈ xs.filter p := List.mem_filter.mpr ⟨hx, hp⟩
    cases r : xs.filter p with
    | nil => rw [r] at hf; cases hf
    | cons a l => rfl
  | false =>
    have : xs.filter p = [] := List.filter_eq_nil_iff.mpr fun x hx => by
      have := List.any_eq_false.mp q x hx
      exact this
    rw [this]
    rfl
theorem mn_fold_le : ∀ (xs : List Int) (x : Int), xs.foldl (fun a y => if y < a then y else a) x ≤ x ∧ ∀ y ∈ xs, xs.foldl (fun a y => if y < a then y else a) x ≤ y
  | [], x => ⟨Int.le_refl _, fun y hy => by cases hy⟩
  | z :: xs, x => by
    obtain ⟨h1, h2⟩ := mn_fold_le xs (if z < x then z else x)
    rw [List.foldl_cons]
    have : (if z < x then z else x) ≤ x ∧ (if z < x then z else x) ≤ z := by split <;> omega
    refine ⟨by omega, fun y hy => ?_⟩
    rcases List.mem_cons.mp hy with rfl | hy
    · omega
    · exact h2 y hy
theorem mn_le {xs : List Int} {y : Int} (h : y ∈ xs) : mnI xs ≤ y := by
  cases xs with
  | nil => cases h
  | cons x xs =>
    obtain ⟨h1, h2⟩ := mn_fold_le xs x
    rcases List.mem_cons.mp h with rfl | h
    · exact h1
    · exact h2 y h
theorem mn_eq {xs : List Int} {m : Int} (h : m ∈ xs) (hm : ∀ y ∈ xs, m ≤ y) : mnI xs = m := by
  have h1 := mn_le h
  have h2 := hm _ (mn_mem (List.length_pos_of_mem h))
  omega
theorem mx_fold_le : ∀ (xs : List Int) (x : Int), x ≤ xs.foldl (fun a y => if a < y then y else a) x ∧ (∀ y ∈ xs, y ≤ xs.foldl (fun a y => if a < y then y else a) x) ∧ (xs.foldl (fun a y => if a < y then y else a) x = x ∨ xs.foldl (fun a y => if a < y then y else a) x ∈ xs)
  | [], x => ⟨Int.le_refl _, (fun y hy => by cases hy), .inl rfl⟩
  | z :: xs, x => by
    obtain ⟨h1, h2, h3⟩ := mx_fold_le xs (if x < z then z else x)
    rw [List.foldl_cons]
    have : x ≤ (if x < z then z else x) ∧ z ≤ (if x < z then z else x) ∧ ((if x < z then z else x) = x ∨ (if x < z then z else x) = z) := by split <;> omega
    refine ⟨by omega, fun y hy => ?_, ?_⟩
    · rcases List.mem_cons.mp hy with rfl | hy
      · omega
      · exact h2 y hy
    · rcases h3 with h3 | h3
      · rw [h3]
        rcases this.2.2 with e | e
        · exact .inl e
        · exact .inr (by rw [e]; exact List.mem_cons_self ..)
      · exact .inr (List.mem_cons_of_mem _ h3)
theorem mx_eq {xs : List Int} {m : Int} (h : m ∈ xs) (hm : ∀ y ∈ xs, y ≤ m) : mxI xs = m := by
  cases xs with
  | nil => cases h
  | cons x xs =>
    obtain ⟨h1, h2, h3⟩ := mx_fold_le xs x
    have q : mxI (x :: xs) = xs.foldl (fun a y => if a < y then y else a) x := rfl
    rw [q]
    have h4 : m ≤ xs.foldl (fun a y => if a < y then y else a) x := by
      rcases List.mem_cons.mp h with rfl | h
      · exact h1
      · exact h2 m h
    have h5 : xs.foldl (fun a y => if a < y then y else a) x ≤ m := by
      rcases h3 with h3 | h3
      · rw [h3]; exact hm _ (List.mem_cons_self ..)
      · exact hm _ (List.mem_cons_of_mem _ h3)
    omega
theorem mx_mem {xs : List Int} (h : 0 < xs.length) : mxI xs ∈ xs ∧ ∀ y ∈ xs, y ≤ mxI xs := by
  cases xs with
  | nil => simp at h
  | cons x xs =>
    obtain ⟨h1, h2, h3⟩ := mx_fold_le xs x
    have q : mxI (x :: xs) = xs.foldl (fun a y => if a < y then y else a) x := rfl
    rw [q]
    refine ⟨?_, fun y hy => ?_⟩
    · rcases h3 with h3 | h3
      · rw [h3]; exact List.mem_cons_self ..
      · exact List.mem_cons_of_mem _ h3
    · rcases List.mem_cons.mp hy with rfl | hy
      · exact h1
      · exact h2 y hy
/-- the first of those of least key -/
theorem first_min {α : Type} [Inhabited α] {xs : List α} (f : α → Int) (h : 0 < xs.length) : gt xs (mnG (eP2 D.int D.int) ((enm xs).map fun y => (f y.2, y.1))).2 = gt ((xs.filter fun y => decide (f y = mnI (xs.map f))).map fun y => y) 0 := by
  have hl : 0 < ((enm xs).map fun y => (f y.2, y.1)).length := by rw [List.length_map, enm_len]; exact h
  obtain ⟨hm, hle⟩ := mnG_spec (e := eP2 D.int D.int) hl
  generalize mnG (eP2 D.int D.int) ((enm xs).map fun y => (f y.2, y.1)) = m at hm hle
  obtain ⟨y, hy, rfl⟩ := List.mem_map.mp hm
  have hb := enm_mem hy
  have hg := enm_gt hy
  have hle' : ∀ (j : Nat) (hj : j < xs.length), f y.2 < f xs[j] ∨ (f y.2 = f xs[j] ∧ y.1 ≤ (j : Int)) := by
    intro j hj
    have hz : ((j : Int), xs[j]) ∈ enm xs := by
      refine List.mem_of_getElem? (i := j) ?_
      rw [List.getElem?_eq_getElem (by rw [enm_len]; exact hj)]
      simp [enm]
    have := hle _ (List.mem_map_of_mem hz)
    unfold leD D.le at this
    rw [lt_pair] at this
    simp at this
    omega
  have hk : y.1.toNat < xs.length := by omega
  have ek : xs[y.1.toNat] = y.2 := by rw [← hg, gt_nat hb]
  have hmn : mnI (xs.map f) = f y.2 := by
    refine mn_eq (List.mem_map_of_mem (enm_snd hy)) fun z hz => ?_
    obtain ⟨w, hw, rfl⟩ := List.mem_map.mp hz
    obtain ⟨j, hj, rfl⟩ := List.getElem_of_mem hw
    have := hle' j hj
    omega
  rw [hmn, List.map_id']
  have e : xs = xs.take y.1.toNat ++ xs[y.1.toNat] :: xs.drop (y.1.toNat + 1) := by
    rw [← List.drop_eq_getElem_cons hk, List.take_append_drop]
  have hf : (xs.take y.1.toNat).filter (fun z => decide (f z = f y.2)) = [] := List.filter_eq_nil_iff.mpr fun z hz q => by
    obtain ⟨j, hj, rfl⟩ := List.getElem_of_mem hz
    rw [List.length_take] at hj
    rw [List.getElem_take] at q
    have := hle' j (by omega)
    have q : f xs[j] = f y.2 := by simpa using q
    omega
  have e2 : xs.filter (fun z => decide (f z = f y.2)) = y.2 :: (xs.drop (y.1.toNat + 1)).filter (fun z => decide (f z = f y.2)) := by
    conv => lhs; rw [e]
    rw [List.filter_append, hf, List.nil_append, ek, List.filter_cons, if_pos (by simp)]
  rw [e2]
  show gt xs y.1 = _
  rw [hg, gt_nat (by simp)]
  rfl
end MM
set_option maxRecDepth 100000
set_option autoImplicit false
/-! TD: range downwards, dicts with texts as keys -/
namespace MM
open PySem PySem.Spec PyProof.Rows L2
def rgW (a b : Int) : List Int := (List.range (a - b).toNat).map fun (k : Nat) => a + (k : Int) * (-1)
theorem rgW_mem (a b x : Int) : x ∈ rgW a b ↔ b < x ∧ x ≤ a := by
  unfold rgW
  rw [List.mem_map]
  constructor
  · rintro ⟨k, hk, rfl⟩
    have := List.mem_range.mp hk
    omega
  · intro h
    exact ⟨(a - x).toNat, List.mem_range.mpr (by omega), by omega⟩
theorem rgW_len (a b : Int) : (rgW a b).length = (a - b).toNat := by simp [rgW]
theorem rgW_rev (n : Nat) (b : Int) : rgW (b + n) b = (rg (b + 1) (b + n + 1)).reverse := by
  apply List.ext_getElem
  · rw [rgW_len, List.length_reverse, rg_len]; omega
  · intro i h1 h2
    rw [rgW_len] at h1
    rw [List.getElem_reverse, rg_get, rg_len]
    simp [rgW]
    omega
section
variable {ρ : Slots} {s s1 s2 : Stor} {fa fb : EF U}
theorem i_rg3 {fs : EF (List U)} {a b : Int} (h : fs ρ s = .ok [.d (.int a), .d (.int b), .d (.int (-1))] s1) (ha : -4611686018427387904 ≤ a ∧ a < 4611686018427387904) (hb : -4611686018427387904 ≤ b ∧ b < 4611686018427387904) : nl (eRangeD fs) ρ s = .ok ((rgW a b).map .int, none) s1 := nl_o (by
  unfold eRangeD
  rw [h]
  show (if inR a && inR b && decide ((-1 : Int) = -1) then R.ok ((List.range (a - b).toNat).map fun (k : Nat) => D.int (a + k * (-1))) s1 else R.bad) = _
  rw [inR_of ha, inR_of hb]
  simp [rgW])
/-! dicts with texts as keys -/
def eDs {α : Type} (e : α → D) (l : List (Str × α)) : D := .dict (l.map fun p => (.str p.1, e p.2))
def lk {α : Type} [Inhabited α] (l : List (Str × α)) (n : Str) : α := ((l.filter fun p => decide (p.1 = n)).head?.map fun p => p.2).getD default
theorem prs_of {α : Type} (e : α → D) : ∀ l : List (Str × α), prsOf (l.map (eP2 .str e)) = some (l.map fun p => (.inr p.1, e p.2))
  | [] => rfl
  | (n, x) :: l => by
    rw [List.map_cons]
    show (match kOf (.str n), prsOf (l.map (eP2 .str e)) with
      | some key, some l => some ((key, e x) :: l)
      | _, _ => none) = _
    rw [prs_of e l]
    rfl
theorem t_dictS {α : Type} {e : α → D} {l : List (Str × α)} (ha : fa ρ s = .ok (.d (eL (eP2 .str e) l)) s1) (hn : (l.map fun p => p.1).Nodup) : eArgs (eCons fa eNil) (kB bDictP) ρ s = .ok (.d (eDs e l)) s1 := t_b1 ha (by
  show (match prsOf (l.map (eP2 .str e)) with
    | some l => if decide ((l.map fun p : Key × D => p.1).Nodup) then some (D.dict (l.map fun p : Key × D => (kD p.1, p.2))) else none
    | none => none) = _
  rw [prs_of e l]
  have h2 : ((l.map fun p => ((Sum.inr p.1 : Key), e p.2)).map (·.1)).Nodup := by
    rw [List.map_map]
    have : (((fun p : Key × D => p.1) ∘ fun p : Str × α => ((Sum.inr p.1 : Key), e p.2))) = (fun n : Str => (Sum.inr n : Key)) ∘ fun p => p.1 := rfl
    rw [this, ← List.map_map]
    exact List.Pairwise.map _ (fun a b h e => h (Sum.inr.inj e)) hn
  dsimp only
  rw [if_pos (decide_eq_true h2), List.map_map]
  rfl)
theorem dget_map {α : Type} (e : α → D) (n : Str) : ∀ l : List (Str × α), dget (l.map fun p => (D.str p.1, e p.2)) (.inr n) = ((l.filter fun p => decide (p.1 = n)).head?.map fun p => e p.2)
  | [] => rfl
  | (m, x) :: l => by
    rw [List.map_cons, List.filter_cons]
    show (if (some (Sum.inr m) : Option Key) = some (Sum.inr n) then some (e x) else dget (l.map fun p => (D.str p.1, e p.2)) (.inr n)) = _
    by_cases c : m = n
    · subst c
      rw [if_pos rfl, if_pos (by simp)]
      rfl
    · rw [if_neg (fun q => c (Sum.inr.inj (Option.some.inj q))), if_neg (by simpa using c), dget_map e n l]
theorem t_dixS {α : Type} [Inhabited α] {e : α → D} {l : List (Str × α)} {n : Str} (ha : fa ρ s = .ok (.d (eDs e l)) s1) (hb : fb ρ s1 = .ok (.d (.str n)) s2) (h : n ∈ l.map fun p => p.1) : eBin (g2 dIxK) fa fb ρ s = .ok (.d (e (lk l n))) s2 := bin_o ha hb (g2_o (by
  show dget (l.map fun p => (D.str p.1, e p.2)) (.inr n) = _
  rw [dget_map]
  obtain ⟨p, hp, rfl⟩ := List.mem_map.mp h
  have hm : p ∈ l.filter fun q => decide (q.1 = p.1) := List.mem_filter.mpr ⟨hp, by simp⟩
  unfold lk
  cases q : l.filter fun q => decide (q.1 = p.1) with
  | nil => rw [q] at hm; cases hm
  | cons a l => rfl))
theorem lk_of {α : Type} [Inhabited α] {l : List (Str × α)} (hn : (l.map fun p => p.1).Nodup) {p : Str × α} (hp : p ∈ l) : lk l p.1 = p.2 := by
  unfold lk
  rw [filt_one (fun p : Str × α => p.1) hn hp]
  rfl
end
end MM
set_option maxRecDepth 100000
set_option synthInstance.maxSize 100000
/-! T6D: l.index(x) -/
namespace MM
open PySem
section
variable {α : Type} {ρ : Slots} {s s1 s2 : Stor} {fa fb : EF U} {e : α → D}
theorem idx_mapL [DecidableEq α] [Fa e] {a : α} : ∀ {xs : List α}, a ∈ xs → (xs.map e).findIdx? (fun y => y.eqv (e a)) = some (xs.idxOf a)
  | x :: xs, h => by
    rw [List.map_cons, List.findIdx?_cons, Fa.eqv, List.idxOf_cons]
    by_cases hx : x = a
    · simp [hx]
    · have hm : a ∈ xs := by
        rcases List.mem_cons.mp h with h | h
        · exact absurd h.symm hx
        · exact h
      rw [idx_mapL hm]
      have hb : (x == a) = false := by simpa using hx
      simp [hx, hb]
theorem t_lix [DecidableEq α] [Fa e] {xs : List α} {a : α} (ha : fa ρ s = .ok (.d (eL e xs)) s1) (hb : fb ρ s1 = .ok (.d (e a)) s2) (h : a ∈ xs) (hd : Fa.dep e ≤ 60 := by decide) : eLIx fa (eCons fb eNil) ρ s = .ok (.d (.int (xs.idxOf a : Nat))) s2 := by
  unfold eLIx
  rw [ha]
  simp only [R.bind_ok]
  rw [show eCons fb eNil ρ s1 = .ok [.d (e a)] s2 from cons_o hb rfl]
  simp only [R.bind_ok, rds_d, rds_nil]
  have : dLdx (.list (xs.map e)) (e a) = some (.int (xs.idxOf a : Nat)) := by
    show (if sh 60 (e a) && shs 60 (xs.map e) then ((xs.map e).findIdx? fun y => y.eqv (e a)).map fun (i : Nat) => D.int i else none) = _
    rw [sh_up hd (Fa.sh a), shs_up hd (shs_map Fa.sh xs), idx_mapL h]
    rfl
  rw [this]
end
end MM
set_option maxRecDepth 100000
set_option autoImplicit false
/-! TE: dicts with whole numbers as keys, data or to change; l.index(x) -/
namespace MM
open PySem PySem.Spec PyProof.Rows L2
def dsI {α : Type} (e : α → D) (l : List (Int × α)) : List (D × D) := l.map fun p => (.int p.1, e p.2)
def eDi {α : Type} (e : α → D) (l : List (Int × α)) : D := .dict (dsI e l)
/-- what the dict holds at a key -/
def lkO {α : Type} (l : List (Int × α)) (k : Int) : Option α := (l.find? fun p => decide (p.1 = k)).map fun p => p.2
def lkI {α : Type} [Inhabited α] (l : List (Int × α)) (k : Int) : α := (lkO l k).getD default
abbrev keysI {α : Type} (l : List (Int × α)) : List Int := l.map fun p => p.1
/-- d[k] = v -/
def putI {α : Type} (l : List (Int × α)) (k : Int) (v : α) : List (Int × α) := if k ∈ keysI l then l.map fun p => if p.1 = k then (p.1, v) else p else l ++ [(k, v)]
theorem lkO_some {α : Type} {l : List (Int × α)} {k : Int} : (lkO l k).isSome = decide (k ∈ keysI l) := by
  unfold lkO
  rw [Option.isSome_map, Bool.eq_iff_iff, List.find?_isSome, decide_eq_true_eq]
  constructor
  · rintro ⟨p, hp, e⟩
    exact List.mem_map.mpr ⟨p, hp, of_decide_eq_true e⟩
  · intro h
    obtain ⟨p, hp, e⟩ := List.mem_map.mp h
    exact ⟨p, hp, decide_eq_true e⟩
theorem lkI_some {α : Type} [Inhabited α] {l : List (Int × α)} {k : Int} (h : k ∈ keysI l) : lkO l k = some (lkI l k) := by
  have := lkO_some (l := l) (k := k)
  rw [decide_eq_true h] at this
  obtain ⟨x, hx⟩ := Option.isSome_iff_exists.mp this
  rw [lkI, hx]
  rfl
theorem putI_new {α : Type} {l : List (Int × α)} {k : Int} (h : k ∉ keysI l) (v : α) : putI l k v = l ++ [(k, v)] := if_neg h
theorem dget_I {α : Type} (e : α → D) (k : Int) : ∀ l : List (Int × α), dget (dsI e l) (.inl k) = (lkO l k).map e
  | [] => rfl
  | (m, x) :: l => by
    have ih := dget_I e k l
    unfold lkO
    rw [List.find?_cons]
    show (if (some (Sum.inl m) : Option Key) = some (Sum.inl k) then some (e x) else dget (dsI e l) (.inl k)) = _
    by_cases c : m = k
    · subst c
      rw [if_pos rfl]
      simp
    · rw [if_neg (fun q => c (Sum.inl.inj (Option.some.inj q))), ih]
      have : decide (m = k) = false := by simpa using c
      simp only [this]
      rfl
theorem dput_I {α : Type} (e : α → D) (l : List (Int × α)) (k : Int) (v : α) : dput (dsI e l) (.inl k) (e v) = dsI e (putI l k v) := by
  unfold dput putI
  rw [dget_I, Option.isSome_map, lkO_some]
  by_cases c : k ∈ keysI l
  · rw [decide_eq_true c, if_pos rfl, if_pos c]
    unfold dsI
    rw [List.map_map, List.map_map]
    refine List.map_congr_left fun p hp => ?_
    show (if (some (Sum.inl p.1) : Option Key) = some (Sum.inl k) then (D.int p.1, e v) else (D.int p.1, e p.2)) = _
    by_cases q : p.1 = k
    · rw [if_pos (by rw [q])]
      simp [q]
    · rw [if_neg (fun z => q (Sum.inl.inj (Option.some.inj z)))]
      simp [q]
  · rw [decide_eq_false c, if_neg (by decide), if_neg c]
    unfold dsI
    rw [List.map_append]
    rfl
theorem all_I {α : Type} (e : α → D) (l : List (Int × α)) : (dsI e l).all intK = true := by
  unfold dsI
  rw [List.all_map, List.all_eq_true]
  exact fun _ _ => rfl
section
variable {α : Type} {e : α → D} {ρ : Slots} {s s1 s2 s3 : Stor} {fa fb fc : EF U} {l : List (Int × α)} {k : Int}
theorem t_dixI [Inhabited α] (ha : fa ρ s = .ok (.d (eDi e l)) s1) (hb : fb ρ s1 = .ok (.d (.int k)) s2) (h : k ∈ keysI l) : eBin (g2 dIxK) fa fb ρ s = .ok (.d (e (lkI l k))) s2 := bin_o ha hb (g2_o (by
  show dget (dsI e l) (.inl k) = _
  rw [dget_I, lkI_some h]
  rfl))
theorem t_dinI (ha : fa ρ s = .ok (.d (.int k)) s1) (hb : fb ρ s1 = .ok (.d (eDi e l)) s2) : eBin (g2 (dHas false)) fa fb ρ s = .ok (.d (.bool (decide (k ∈ keysI l)))) s2 := bin_o ha hb (g2_o (by
  show some (D.bool (xor false (dget (dsI e l) (.inl k)).isSome)) = _
  rw [dget_I, Option.isSome_map, lkO_some, Bool.false_xor]))
theorem t_dninI (ha : fa ρ s = .ok (.d (.int k)) s1) (hb : fb ρ s1 = .ok (.d (eDi e l)) s2) : eBin (g2 (dHas true)) fa fb ρ s = .ok (.d (.bool (!decide (k ∈ keysI l)))) s2 := bin_o ha hb (g2_o (by
  show some (D.bool (xor true (dget (dsI e l) (.inl k)).isSome)) = _
  rw [dget_I, Option.isSome_map, lkO_some, Bool.true_xor]))
theorem t_get2 {x : α} (ha : fa ρ s = .ok (.d (eDi e l)) s1) (hb : fb ρ s1 = .ok (.d (.int k)) s2) (hc : fc ρ s2 = .ok (.d (e x)) s3) : eGet2 fa fb fc ρ s = .ok (.d (e ((lkO l k).getD x))) s3 := by
  unfold eGet2
  rw [ha]
  show ((fb ρ s1).bind fun k st2 => (fc ρ st2).bind fun w st3 => kGet2 (.d (eDi e l)) k w st3) = _
  rw [hb]
  show ((fc ρ s2).bind fun w st3 => kGet2 (.d (eDi e l)) (.d (.int k)) w st3) = _
  rw [hc]
  show (match dget (dsI e l) (.inl k) with
    | some z => (R.ok (U.d z) s3 : R U)
    | none => .ok (.d (e x)) s3) = _
  rw [dget_I]
  cases lkO l k <;> rfl
theorem i_its (ha : fa ρ s = .ok (.d (eDi e l)) s1) : nl (eItemsD fa) ρ s = .ok (l.map (eP2 .int e), none) s1 := nl_o (by
  unfold eItemsD
  rw [ha]
  show (if (dsI e l).all intK = true then R.ok (dIts (dsI e l)) s1 else R.bad) = _
  rw [if_pos (all_I e l)]
  unfold dIts dsI
  rw [List.map_map]
  rfl)
theorem t_keys (ha : fa ρ s = .ok (.d (eDi e l)) s1) : eArgs (eCons fa eNil) (kB bKeys) ρ s = .ok (.d (eL .int (keysI l))) s1 := t_b1 ha (by
  show (if (dsI e l).all intK = true then some (D.list ((dsI e l).map (·.1))) else none) = _
  rw [if_pos (all_I e l)]
  unfold dsI
  rw [List.map_map]
  show some (D.list _) = some (D.list _)
  rw [List.map_map]
  rfl)
theorem prs_ofI (e : α → D) : ∀ l : List (Int × α), prsOf (l.map (eP2 .int e)) = some (l.map fun p => (.inl p.1, e p.2))
  | [] => rfl
  | (n, x) :: l => by
    rw [List.map_cons]
    show (match kOf (.int n), prsOf (l.map (eP2 .int e)) with
      | some key, some l => some ((key, e x) :: l)
      | _, _ => none) = _
    rw [prs_ofI e l]
    rfl
theorem t_dictI (ha : fa ρ s = .ok (.d (eL (eP2 .int e) l)) s1) (hn : (keysI l).Nodup) : eArgs (eCons fa eNil) (kB bDictP) ρ s = .ok (.d (eDi e l)) s1 := t_b1 ha (by
  show (match prsOf (l.map (eP2 .int e)) with
    | some l => if decide ((l.map fun p : Key × D => p.1).Nodup) then some (D.dict (l.map fun p : Key × D => (kD p.1, p.2))) else none
    | none => none) = _
  rw [prs_ofI e l]
  have h2 : ((l.map fun p => ((Sum.inl p.1 : Key), e p.2)).map (·.1)).Nodup := by
    rw [List.map_map]
    have : (((fun p : Key × D => p.1) ∘ fun p : Int × α => ((Sum.inl p.1 : Key), e p.2))) = (fun n : Int => (Sum.inl n : Key)) ∘ fun p => p.1 := rfl
    rw [this, ← List.map_map]
    exact List.Pairwise.map _ (fun a b h e => h (Sum.inl.inj e)) hn
  dsimp only
  rw [if_pos (decide_eq_true h2), List.map_map]
  rfl)
theorem all_some [Inhabited α] {xs : List (Option α)} (h : ∀ x ∈ xs, x.isSome = true) : xs.map (eO e) = (xs.map fun x => x.getD default).map e := by
  rw [List.map_map]
  refine List.map_congr_left fun x hx => ?_
  have := h x hx
  cases x with
  | none => cases this
  | some v => rfl
theorem t_allS [Inhabited α] {xs : List (Option α)} (ha : fa ρ s = .ok (.d (eT (eO e) xs)) s1) (h : ∀ x ∈ xs, x.isSome = true) : fa ρ s = .ok (.d (eT e (xs.map fun x => x.getD default))) s1 := by
  rw [ha]
  show R.ok (U.d (D.tuple (xs.map (eO e)))) s1 = R.ok (U.d (D.tuple _)) s1
  rw [all_some h]
theorem t_allSL [Inhabited α] {xs : List (Option α)} (ha : fa ρ s = .ok (.d (eL (eO e) xs)) s1) (h : ∀ x ∈ xs, x.isSome = true) : fa ρ s = .ok (.d (eL e (xs.map fun x => x.getD default))) s1 := by
  rw [ha]
  show R.ok (U.d (D.list (xs.map (eO e)))) s1 = R.ok (U.d (D.list _)) s1
  rw [all_some h]
/-! to change -/
variable {b L L' : Stor} {n c i : Nat} {g : SF} {P : RS → Prop}
theorem c_dic0 (hc : L.length = c) (hb : b.length = n := by simp) : eDic0 ρ (b ++ L) = .ok (.loc (n + c)) (b ++ (L ++ [.dic (dsI e [])])) := by
  show R.ok (U.loc (b ++ L).length) ((b ++ L) ++ [.dic []]) = _
  rw [List.length_append, hc, hb, List.append_assoc]
  rfl
theorem c_dicN {fs : EF (List U)} (h : fs ρ (b ++ L) = .ok [.d (.list [])] (b ++ L)) (hc : L.length = c) (hb : b.length = n := by simp) : eArgs fs kDicN ρ (b ++ L) = .ok (.loc (n + c)) (b ++ (L ++ [.dic (dsI e [])])) := by
  rw [args_o h (show kDicN [.d (.list [])] (b ++ L) = R.ok (U.loc (b ++ L).length) ((b ++ L) ++ [.dic []]) from rfl), List.length_append, hc, hb, List.append_assoc]
  rfl
theorem c_dput {fi fv : EF U} {v : α} {s : Stor} (hρ : ρ[i]? = some (some (.loc (n + c)))) (hL : L[c]? = some (.dic (dsI e l))) (hv : fv ρ s = .ok (.d (e v)) (b ++ L)) (hi : fi ρ (b ++ L) = .ok (.d (.int k)) (b ++ L)) (hz : l.length < 16777216)
    (h' : L.set c (.dic (dsI e (putI l k v))) = L') (hb : b.length = n := by simp) : sDPutF (eV i) fi fv ρ s = .nx ρ (b ++ L') := by
  unfold sDPutF
  rw [hv]
  simp only [R.stm_ok]
  rw [eV_o hρ]
  simp only [R.stm_ok]
  rw [hi]
  simp only [R.stm_ok, st_at hL hb]
  show (match kOf (.int k) with
      | some key => if (dsI e l).length < 16777216 then RS.nx ρ ((b ++ L).set (n + c) (.dic (dput (dsI e l) key (e v)))) else .bad
      | none => .bad) = _
  show (if (dsI e l).length < 16777216 then RS.nx ρ ((b ++ L).set (n + c) (.dic (dput (dsI e l) (.inl k) (e v)))) else .bad) = _
  rw [if_pos (by unfold dsI; rw [List.length_map]; exact hz), dput_I, st_set h' hb]
theorem w_frzD (hρ : ρ[i]? = some (some (.loc (n + c)))) (hL : L[c]? = some (.dic (dsI e l))) (h' : L.set c .dead = L') (k : Wp g (ρ.set i (some (.d (eDi e l)))) (b ++ L') P) (hb : b.length = n := by simp) : Wp (sFrzD i g) ρ (b ++ L) P := by
  refine ⟨?_⟩
  unfold sFrzD
  rw [hρ]
  simp only [st_at hL hb]
  have := k.run
  rw [← h', ← st_set rfl hb] at this
  exact this
end
end MM
set_option maxRecDepth 100000
set_option maxHeartbeats 4000000
set_option autoImplicit false
namespace K09
open PySem MM
section
variable {i n : Nat} {test : Nat → Option Bool} {gb : SF} {gs : Addr → Addr → Nat → SF} {gN : Addr → SF} {ρ ρ' : Slots} {st st' : Stor} {c : Nat} {fs : List (Str × D)} {r : RS}
theorem tryN_exc (h : gb ρ st = .exc c fs ρ' st') (ht : test c = some true) (hs : ∀ a d, (gs a d c (ρ'.set i (some (.d (.exc a d c fs)))) st').wipe i = r) : sTryN i n test gb gs gN ρ st = r := by
  unfold sTryN
  rw [h]
  dsimp only
  rw [ht]
  exact indep_eq hs
theorem tryN_bk (h : gb ρ st = .bk ρ' st') (hs : ∀ a d, (gN a (ρ'.set i (some (.d (.exc a d n [])))) st').wipe i = r) : sTryN i n test gb gs gN ρ st = r := by
  unfold sTryN
  rw [h]
  exact indep_eq hs
end
section
variable {ρ : Slots} {s : Stor} {a d : Addr} {c i : Nat} {f : Str × D} {fs : List (Str × D)} {b r : Bool} {g g1 h2 : SF} {u : U} {P : RS → Prop}
theorem is_E {o : Option Bool} (h : ρ[i]? = some (some (.d (.exc a d c (f :: fs))))) (ho : o = some b) : eIsE a d c o (eV i) ρ s = .ok (.d (.bool b)) s := by
  unfold eIsE
  rw [eV_o h, ho]
  simp
theorem is_N (h : ρ[i]? = some (some (.d (.exc a d c [])))) : eIsN a c (some b) (eV i) ρ s = .ok (.d (.bool b)) s := by
  unfold eIsN
  rw [eV_o h]
  simp
theorem nq_nx {ρ1 : Slots} {s1 : Stor} {r : RS} (h : g1 ρ s = .nx ρ1 s1) (k : h2 ρ1 s1 = r) : sSeqN g1 h2 ρ s = r := by
  unfold sSeqN
  rw [h]
  exact k
theorem nq_exc {ρ1 : Slots} {s1 : Stor} {c : Nat} {fs : List (Str × D)} (h : g1 ρ s = .exc c fs ρ1 s1) : sSeqN g1 h2 ρ s = .exc c fs ρ1 s1 := by
  unfold sSeqN
  rw [h]
theorem if_f {ga : EF Bool} (h : ga ρ s = .ok false s) : sIf ga g sNil ρ s = .nx ρ s := by unfold sIf; rw [h]; rfl
theorem if_t {ga : EF Bool} {r : RS} (h : ga ρ s = .ok true s) (k : g ρ s = r) : sIf ga g h2 ρ s = r := by unfold sIf; rw [h]; exact k
theorem qn {n k : Int} {b : Bool} {fa : EF U} (h : fa ρ s = .ok (.d (.int n)) s) (hb : decide (n = k) = b) : asB (eBin (g2 dEq) fa (eC (.int k))) ρ s = .ok b s := by
  rw [← hb]
  exact t_asB (t_eq (e := D.int) h rfl)
theorem inq {n : Int} {b : Bool} {fa : EF U} (h : fa ρ s = .ok (.d (.int n)) s) (hb : inB n [0, 1, 3, 6, 7] = b) : asB (eBin (g2 dIn) fa (eArgs (eCons (eC (.int 0)) (eCons (eC (.int 1)) (eCons (eC (.int 3)) (eCons (eC (.int 6)) (eCons (eC (.int 7)) eNil))))) kLst)) ρ s = .ok b s := by
  rw [← hb]
  exact t_asB (t_in (e := D.int) (xs := [0, 1, 3, 6, 7]) h (t_lst (ds := [.int 0, .int 1, .int 3, .int 6, .int 7]) (cons_o rfl (cons_o rfl (cons_o rfl (cons_o rfl (cons_o rfl rfl))))) rfl))
end
section
variable {ρ : Slots} {s s1 s2 : Stor} {fa fb : EF U}
theorem add_lst {xs ys : List D} (ha : fa ρ s = .ok (.d (.list xs)) s1) (hb : fb ρ s1 = .ok (.d (.list ys)) s2) (h : xs.length + ys.length ≤ 16777216) : eBin (g2 dAdd) fa fb ρ s = .ok (.d (.list (xs ++ ys))) s2 := bin_o ha hb (g2_o (by
  show (if fits (xs.length + ys.length) then some (D.list (xs ++ ys)) else none) = _
  rw [if_pos (fits_le' h)]))
theorem t_as' {ga : EF Bool} {a b : Bool} (ha : ga ρ s = .ok a s) (h : a = b) : ga ρ s = .ok b s := h ▸ ha
end
def kindsD (n : Int) : List D := (rg 0 10).map fun k => .bool (decide (k = n))
def dueD (n : Int) (v nm : D) : D := if n = 8 then .tuple [v, nm] else if n = 9 then .none else v
def toldD (n : Int) (v nm : D) : D := .tuple [.list (kindsD n), dueD n v nm]
theorem raised_0 (v nm : D) (st : Stor) : F__law_raised [.d (.int 0), .d v, .d nm] st = .ok (.d (toldD 0 v nm)) st := by
  refine run_PR (g := B__law_raised) (n := 6) ⟨?_⟩
  have h : B__law_raised [some (.d (.int 0)), some (.d v), some (.d nm), none, none, none] st = .rt (.d (toldD 0 v nm)) st := by
    unfold B__law_raised B__law_raised_0
    refine tryN_exc (c := 0) (fs := [("value", v)]) (nq_exc (if_t (qn (eV_o rfl) rfl) rfl)) rfl fun a d => ?_
    refine Wp.run (P := fun r => r.wipe 3 = .rt (.d (toldD 0 v nm)) st) (g := sSeq _ _) ?_
    exact w_sq (sSet_o (t_lst (ds := [.bool true, .bool false, .bool false, .bool false, .bool false]) (cons_o (is_E rfl rfl) (cons_o (is_E rfl rfl) (cons_o (is_E rfl rfl) (cons_o (is_E rfl rfl) (cons_o (is_E rfl rfl) rfl))))) rfl)) (w_sq (sSet_o (add_lst (eV_o rfl) (t_lst (ds := [.bool false, .bool false, .bool false, .bool false, .bool false]) (cons_o (is_E rfl rfl) (cons_o (is_E rfl rfl) (cons_o (is_E rfl rfl) (cons_o (is_E rfl rfl) (cons_o (is_E rfl rfl) rfl))))) rfl) (by decide))) (w_sq (if_f (t_as' (t_orT (a := false) (b := false) (t_notT (b := true) (t_tru (is_E rfl rfl))) fun _ => t_orT (a := false) (b := false) (t_tru (is_E rfl rfl)) fun _ => t_tru (is_E rfl rfl)) rfl)) (w_sq (sSet_o rfl) (w_sq (if_t (inq (eV_o rfl) rfl) (sSet_o (t_xf rfl rfl))) (w_sq (if_f (qn (eV_o rfl) rfl)) (w_sq (if_f (qn (eV_o rfl) rfl)) (w_sq (if_f (qn (eV_o rfl) rfl)) (w_sq (if_f (qn (eV_o rfl) rfl)) (w_ret (t_tup (ds := [_, _]) (cons_o (eV_o rfl) (cons_o (eV_o rfl) rfl)) rfl) rfl)))))))))
  show PR _ _ _ (B__law_raised [some (.d (.int 0)), some (.d v), some (.d nm), none, none, none] st)
  rw [h]
  exact ⟨rfl, by simp⟩
theorem raised_1 (v nm : D) (st : Stor) : F__law_raised [.d (.int 1), .d v, .d nm] st = .ok (.d (toldD 1 v nm)) st := by
  refine run_PR (g := B__law_raised) (n := 6) ⟨?_⟩
  have h : B__law_raised [some (.d (.int 1)), some (.d v), some (.d nm), none, none, none] st = .rt (.d (toldD 1 v nm)) st := by
    unfold B__law_raised B__law_raised_0
    refine tryN_exc (c := 1) (fs := [("value", v)]) (nq_nx (if_f (qn (eV_o rfl) rfl)) (nq_exc (if_t (qn (eV_o rfl) rfl) rfl))) rfl fun a d => ?_
    refine Wp.run (P := fun r => r.wipe 3 = .rt (.d (toldD 1 v nm)) st) (g := sSeq _ _) ?_
    exact w_sq (sSet_o (t_lst (ds := [.bool false, .bool true, .bool false, .bool false, .bool false]) (cons_o (is_E rfl rfl) (cons_o (is_E rfl rfl) (cons_o (is_E rfl rfl) (cons_o (is_E rfl rfl) (cons_o (is_E rfl rfl) rfl))))) rfl)) (w_sq (sSet_o (add_lst (eV_o rfl) (t_lst (ds := [.bool false, .bool false, .bool false, .bool false, .bool false]) (cons_o (is_E rfl rfl) (cons_o (is_E rfl rfl) (cons_o (is_E rfl rfl) (cons_o (is_E rfl rfl) (cons_o (is_E rfl rfl) rfl))))) rfl) (by decide))) (w_sq (if_f (t_as' (t_orT (a := false) (b := false) (t_notT (b := true) (t_tru (is_E rfl rfl))) fun _ => t_orT (a := false) (b := false) (t_tru (is_E rfl rfl)) fun _ => t_tru (is_E rfl rfl)) rfl)) (w_sq (sSet_o rfl) (w_sq (if_t (inq (eV_o rfl) rfl) (sSet_o (t_xf rfl rfl))) (w_sq (if_f (qn (eV_o rfl) rfl)) (w_sq (if_f (qn (eV_o rfl) rfl)) (w_sq (if_f (qn (eV_o rfl) rfl)) (w_sq (if_f (qn (eV_o rfl) rfl)) (w_ret (t_tup (ds := [_, _]) (cons_o (eV_o rfl) (cons_o (eV_o rfl) rfl)) rfl) rfl)))))))))
  show PR _ _ _ (B__law_raised [some (.d (.int 1)), some (.d v), some (.d nm), none, none, none] st)
  rw [h]
  exact ⟨rfl, by simp⟩
theorem raised_2 (v nm : D) (st : Stor) : F__law_raised [.d (.int 2), .d v, .d nm] st = .ok (.d (toldD 2 v nm)) st := by
  refine run_PR (g := B__law_raised) (n := 6) ⟨?_⟩
  have h : B__law_raised [some (.d (.int 2)), some (.d v), some (.d nm), none, none, none] st = .rt (.d (toldD 2 v nm)) st := by
    unfold B__law_raised B__law_raised_0
    refine tryN_exc (c := 2) (fs := [("index", v)]) (nq_nx (if_f (qn (eV_o rfl) rfl)) (nq_nx (if_f (qn (eV_o rfl) rfl)) (nq_exc (if_t (qn (eV_o rfl) rfl) rfl)))) rfl fun a d => ?_
    refine Wp.run (P := fun r => r.wipe 3 = .rt (.d (toldD 2 v nm)) st) (g := sSeq _ _) ?_
    exact w_sq (sSet_o (t_lst (ds := [.bool false, .bool false, .bool true, .bool false, .bool false]) (cons_o (is_E rfl rfl) (cons_o (is_E rfl rfl) (cons_o (is_E rfl rfl) (cons_o (is_E rfl rfl) (cons_o (is_E rfl rfl) rfl))))) rfl)) (w_sq (sSet_o (add_lst (eV_o rfl) (t_lst (ds := [.bool false, .bool false, .bool false, .bool false, .bool false]) (cons_o (is_E rfl rfl) (cons_o (is_E rfl rfl) (cons_o (is_E rfl rfl) (cons_o (is_E rfl rfl) (cons_o (is_E rfl rfl) rfl))))) rfl) (by decide))) (w_sq (if_f (t_as' (t_orT (a := false) (b := false) (t_notT (b := true) (t_tru (is_E rfl rfl))) fun _ => t_orT (a := false) (b := false) (t_tru (is_E rfl rfl)) fun _ => t_tru (is_E rfl rfl)) rfl)) (w_sq (sSet_o rfl) (w_sq (if_f (inq (eV_o rfl) rfl)) (w_sq (if_t (qn (eV_o rfl) rfl) (sSet_o (t_xf rfl rfl))) (w_sq (if_f (qn (eV_o rfl) rfl)) (w_sq (if_f (qn (eV_o rfl) rfl)) (w_sq (if_f (qn (eV_o rfl) rfl)) (w_ret (t_tup (ds := [_, _]) (cons_o (eV_o rfl) (cons_o (eV_o rfl) rfl)) rfl) rfl)))))))))
  show PR _ _ _ (B__law_raised [some (.d (.int 2)), some (.d v), some (.d nm), none, none, none] st)
  rw [h]
  exact ⟨rfl, by simp⟩
theorem raised_3 (v nm : D) (st : Stor) : F__law_raised [.d (.int 3), .d v, .d nm] st = .ok (.d (toldD 3 v nm)) st := by
  refine run_PR (g := B__law_raised) (n := 6) ⟨?_⟩
  have h : B__law_raised [some (.d (.int 3)), some (.d v), some (.d nm), none, none, none] st = .rt (.d (toldD 3 v nm)) st := by
    unfold B__law_raised B__law_raised_0
    refine tryN_exc (c := 3) (fs := [("value", v)]) (nq_nx (if_f (qn (eV_o rfl) rfl)) (nq_nx (if_f (qn (eV_o rfl) rfl)) (nq_nx (if_f (qn (eV_o rfl) rfl)) (nq_exc (if_t (qn (eV_o rfl) rfl) rfl))))) rfl fun a d => ?_
    refine Wp.run (P := fun r => r.wipe 3 = .rt (.d (toldD 3 v nm)) st) (g := sSeq _ _) ?_
    exact w_sq (sSet_o (t_lst (ds := [.bool false, .bool false, .bool false, .bool true, .bool false]) (cons_o (is_E rfl rfl) (cons_o (is_E rfl rfl) (cons_o (is_E rfl rfl) (cons_o (is_E rfl rfl) (cons_o (is_E rfl rfl) rfl))))) rfl)) (w_sq (sSet_o (add_lst (eV_o rfl) (t_lst (ds := [.bool false, .bool false, .bool false, .bool false, .bool false]) (cons_o (is_E rfl rfl) (cons_o (is_E rfl rfl) (cons_o (is_E rfl rfl) (cons_o (is_E rfl rfl) (cons_o (is_E rfl rfl) rfl))))) rfl) (by decide))) (w_sq (if_f (t_as' (t_orT (a := false) (b := false) (t_notT (b := true) (t_tru (is_E rfl rfl))) fun _ => t_orT (a := false) (b := false) (t_tru (is_E rfl rfl)) fun _ => t_tru (is_E rfl rfl)) rfl)) (w_sq (sSet_o rfl) (w_sq (if_t (inq (eV_o rfl) rfl) (sSet_o (t_xf rfl rfl))) (w_sq (if_f (qn (eV_o rfl) rfl)) (w_sq (if_f (qn (eV_o rfl) rfl)) (w_sq (if_f (qn (eV_o rfl) rfl)) (w_sq (if_f (qn (eV_o rfl) rfl)) (w_ret (t_tup (ds := [_, _]) (cons_o (eV_o rfl) (cons_o (eV_o rfl) rfl)) rfl) rfl)))))))))
  show PR _ _ _ (B__law_raised [some (.d (.int 3)), some (.d v), some (.d nm), none, none, none] st)
  rw [h]
  exact ⟨rfl, by simp⟩
theorem raised_4 (v nm : D) (st : Stor) : F__law_raised [.d (.int 4), .d v, .d nm] st = .ok (.d (toldD 4 v nm)) st := by
  refine run_PR (g := B__law_raised) (n := 6) ⟨?_⟩
  have h : B__law_raised [some (.d (.int 4)), some (.d v), some (.d nm), none, none, none] st = .rt (.d (toldD 4 v nm)) st := by
    unfold B__law_raised B__law_raised_0
    refine tryN_exc (c := 4) (fs := [("line", v)]) (nq_nx (if_f (qn (eV_o rfl) rfl)) (nq_nx (if_f (qn (eV_o rfl) rfl)) (nq_nx (if_f (qn (eV_o rfl) rfl)) (nq_nx (if_f (qn (eV_o rfl) rfl)) (nq_exc (if_t (qn (eV_o rfl) rfl) rfl)))))) rfl fun a d => ?_
    refine Wp.run (P := fun r => r.wipe 3 = .rt (.d (toldD 4 v nm)) st) (g := sSeq _ _) ?_
    exact w_sq (sSet_o (t_lst (ds := [.bool false, .bool false, .bool false, .bool false, .bool true]) (cons_o (is_E rfl rfl) (cons_o (is_E rfl rfl) (cons_o (is_E rfl rfl) (cons_o (is_E rfl rfl) (cons_o (is_E rfl rfl) rfl))))) rfl)) (w_sq (sSet_o (add_lst (eV_o rfl) (t_lst (ds := [.bool false, .bool false, .bool false, .bool false, .bool false]) (cons_o (is_E rfl rfl) (cons_o (is_E rfl rfl) (cons_o (is_E rfl rfl) (cons_o (is_E rfl rfl) (cons_o (is_E rfl rfl) rfl))))) rfl) (by decide))) (w_sq (if_f (t_as' (t_orT (a := false) (b := false) (t_notT (b := true) (t_tru (is_E rfl rfl))) fun _ => t_orT (a := false) (b := false) (t_tru (is_E rfl rfl)) fun _ => t_tru (is_E rfl rfl)) rfl)) (w_sq (sSet_o rfl) (w_sq (if_f (inq (eV_o rfl) rfl)) (w_sq (if_f (qn (eV_o rfl) rfl)) (w_sq (if_t (qn (eV_o rfl) rfl) (sSet_o (t_xf rfl rfl))) (w_sq (if_f (qn (eV_o rfl) rfl)) (w_sq (if_f (qn (eV_o rfl) rfl)) (w_ret (t_tup (ds := [_, _]) (cons_o (eV_o rfl) (cons_o (eV_o rfl) rfl)) rfl) rfl)))))))))
  show PR _ _ _ (B__law_raised [some (.d (.int 4)), some (.d v), some (.d nm), none, none, none] st)
  rw [h]
  exact ⟨rfl, by simp⟩
theorem raised_5 (v nm : D) (st : Stor) : F__law_raised [.d (.int 5), .d v, .d nm] st = .ok (.d (toldD 5 v nm)) st := by
  refine run_PR (g := B__law_raised) (n := 6) ⟨?_⟩
  have h : B__law_raised [some (.d (.int 5)), some (.d v), some (.d nm), none, none, none] st = .rt (.d (toldD 5 v nm)) st := by
    unfold B__law_raised B__law_raised_0
    refine tryN_exc (c := 5) (fs := [("limit", v)]) (nq_nx (if_f (qn (eV_o rfl) rfl)) (nq_nx (if_f (qn (eV_o rfl) rfl)) (nq_nx (if_f (qn (eV_o rfl) rfl)) (nq_nx (if_f (qn (eV_o rfl) rfl)) (nq_nx (if_f (qn (eV_o rfl) rfl)) (nq_exc (if_t (qn (eV_o rfl) rfl) rfl))))))) rfl fun a d => ?_
    refine Wp.run (P := fun r => r.wipe 3 = .rt (.d (toldD 5 v nm)) st) (g := sSeq _ _) ?_
    exact w_sq (sSet_o (t_lst (ds := [.bool false, .bool false, .bool false, .bool false, .bool false]) (cons_o (is_E rfl rfl) (cons_o (is_E rfl rfl) (cons_o (is_E rfl rfl) (cons_o (is_E rfl rfl) (cons_o (is_E rfl rfl) rfl))))) rfl)) (w_sq (sSet_o (add_lst (eV_o rfl) (t_lst (ds := [.bool true, .bool false, .bool false, .bool false, .bool false]) (cons_o (is_E rfl rfl) (cons_o (is_E rfl rfl) (cons_o (is_E rfl rfl) (cons_o (is_E rfl rfl) (cons_o (is_E rfl rfl) rfl))))) rfl) (by decide))) (w_sq (if_f (t_as' (t_orT (a := false) (b := false) (t_notT (b := true) (t_tru (is_E rfl rfl))) fun _ => t_orT (a := false) (b := false) (t_tru (is_E rfl rfl)) fun _ => t_tru (is_E rfl rfl)) rfl)) (w_sq (sSet_o rfl) (w_sq (if_f (inq (eV_o rfl) rfl)) (w_sq (if_f (qn (eV_o rfl) rfl)) (w_sq (if_f (qn (eV_o rfl) rfl)) (w_sq (if_t (qn (eV_o rfl) rfl) (sSet_o (t_xf rfl rfl))) (w_sq (if_f (qn (eV_o rfl) rfl)) (w_ret (t_tup (ds := [_, _]) (cons_o (eV_o rfl) (cons_o (eV_o rfl) rfl)) rfl) rfl)))))))))
  show PR _ _ _ (B__law_raised [some (.d (.int 5)), some (.d v), some (.d nm), none, none, none] st)
  rw [h]
  exact ⟨rfl, by simp⟩
theorem raised_6 (v nm : D) (st : Stor) : F__law_raised [.d (.int 6), .d v, .d nm] st = .ok (.d (toldD 6 v nm)) st := by
  refine run_PR (g := B__law_raised) (n := 6) ⟨?_⟩
  have h : B__law_raised [some (.d (.int 6)), some (.d v), some (.d nm), none, none, none] st = .rt (.d (toldD 6 v nm)) st := by
    unfold B__law_raised B__law_raised_0
    refine tryN_exc (c := 6) (fs := [("value", v)]) (nq_nx (if_f (qn (eV_o rfl) rfl)) (nq_nx (if_f (qn (eV_o rfl) rfl)) (nq_nx (if_f (qn (eV_o rfl) rfl)) (nq_nx (if_f (qn (eV_o rfl) rfl)) (nq_nx (if_f (qn (eV_o rfl) rfl)) (nq_nx (if_f (qn (eV_o rfl) rfl)) (nq_exc (if_t (qn (eV_o rfl) rfl) rfl)))))))) rfl fun a d => ?_
    refine Wp.run (P := fun r => r.wipe 3 = .rt (.d (toldD 6 v nm)) st) (g := sSeq _ _) ?_
    exact w_sq (sSet_o (t_lst (ds := [.bool false, .bool false, .bool false, .bool false, .bool false]) (cons_o (is_E rfl rfl) (cons_o (is_E rfl rfl) (cons_o (is_E rfl rfl) (cons_o (is_E rfl rfl) (cons_o (is_E rfl rfl) rfl))))) rfl)) (w_sq (sSet_o (add_lst (eV_o rfl) (t_lst (ds := [.bool false, .bool true, .bool false, .bool false, .bool false]) (cons_o (is_E rfl rfl) (cons_o (is_E rfl rfl) (cons_o (is_E rfl rfl) (cons_o (is_E rfl rfl) (cons_o (is_E rfl rfl) rfl))))) rfl) (by decide))) (w_sq (if_f (t_as' (t_orT (a := false) (b := false) (t_notT (b := true) (t_tru (is_E rfl rfl))) fun _ => t_orT (a := false) (b := false) (t_tru (is_E rfl rfl)) fun _ => t_tru (is_E rfl rfl)) rfl)) (w_sq (sSet_o rfl) (w_sq (if_t (inq (eV_o rfl) rfl) (sSet_o (t_xf rfl rfl))) (w_sq (if_f (qn (eV_o rfl) rfl)) (w_sq (if_f (qn (eV_o rfl) rfl)) (w_sq (if_f (qn (eV_o rfl) rfl)) (w_sq (if_f (qn (eV_o rfl) rfl)) (w_ret (t_tup (ds := [_, _]) (cons_o (eV_o rfl) (cons_o (eV_o rfl) rfl)) rfl) rfl)))))))))
  show PR _ _ _ (B__law_raised [some (.d (.int 6)), some (.d v), some (.d nm), none, none, none] st)
  rw [h]
  exact ⟨rfl, by simp⟩
theorem raised_7 (v nm : D) (st : Stor) : F__law_raised [.d (.int 7), .d v, .d nm] st = .ok (.d (toldD 7 v nm)) st := by
  refine run_PR (g := B__law_raised) (n := 6) ⟨?_⟩
  have h : B__law_raised [some (.d (.int 7)), some (.d v), some (.d nm), none, none, none] st = .rt (.d (toldD 7 v nm)) st := by
    unfold B__law_raised B__law_raised_0
    refine tryN_exc (c := 7) (fs := [("value", v)]) (nq_nx (if_f (qn (eV_o rfl) rfl)) (nq_nx (if_f (qn (eV_o rfl) rfl)) (nq_nx (if_f (qn (eV_o rfl) rfl)) (nq_nx (if_f (qn (eV_o rfl) rfl)) (nq_nx (if_f (qn (eV_o rfl) rfl)) (nq_nx (if_f (qn (eV_o rfl) rfl)) (nq_nx (if_f (qn (eV_o rfl) rfl)) (nq_exc (if_t (qn (eV_o rfl) rfl) rfl))))))))) rfl fun a d => ?_
    refine Wp.run (P := fun r => r.wipe 3 = .rt (.d (toldD 7 v nm)) st) (g := sSeq _ _) ?_
    exact w_sq (sSet_o (t_lst (ds := [.bool false, .bool false, .bool false, .bool false, .bool false]) (cons_o (is_E rfl rfl) (cons_o (is_E rfl rfl) (cons_o (is_E rfl rfl) (cons_o (is_E rfl rfl) (cons_o (is_E rfl rfl) rfl))))) rfl)) (w_sq (sSet_o (add_lst (eV_o rfl) (t_lst (ds := [.bool false, .bool false, .bool true, .bool false, .bool false]) (cons_o (is_E rfl rfl) (cons_o (is_E rfl rfl) (cons_o (is_E rfl rfl) (cons_o (is_E rfl rfl) (cons_o (is_E rfl rfl) rfl))))) rfl) (by decide))) (w_sq (if_f (t_as' (t_orT (a := false) (b := false) (t_notT (b := true) (t_tru (is_E rfl rfl))) fun _ => t_orT (a := false) (b := false) (t_tru (is_E rfl rfl)) fun _ => t_tru (is_E rfl rfl)) rfl)) (w_sq (sSet_o rfl) (w_sq (if_t (inq (eV_o rfl) rfl) (sSet_o (t_xf rfl rfl))) (w_sq (if_f (qn (eV_o rfl) rfl)) (w_sq (if_f (qn (eV_o rfl) rfl)) (w_sq (if_f (qn (eV_o rfl) rfl)) (w_sq (if_f (qn (eV_o rfl) rfl)) (w_ret (t_tup (ds := [_, _]) (cons_o (eV_o rfl) (cons_o (eV_o rfl) rfl)) rfl) rfl)))))))))
  show PR _ _ _ (B__law_raised [some (.d (.int 7)), some (.d v), some (.d nm), none, none, none] st)
  rw [h]
  exact ⟨rfl, by simp⟩
theorem raised_8 (v nm : D) (st : Stor) : F__law_raised [.d (.int 8), .d v, .d nm] st = .ok (.d (toldD 8 v nm)) st := by
  refine run_PR (g := B__law_raised) (n := 6) ⟨?_⟩
  have h : B__law_raised [some (.d (.int 8)), some (.d v), some (.d nm), none, none, none] st = .rt (.d (toldD 8 v nm)) st := by
    unfold B__law_raised B__law_raised_0
    refine tryN_exc (c := 8) (fs := [("names", nm), ("reason", v)]) (nq_nx (if_f (qn (eV_o rfl) rfl)) (nq_nx (if_f (qn (eV_o rfl) rfl)) (nq_nx (if_f (qn (eV_o rfl) rfl)) (nq_nx (if_f (qn (eV_o rfl) rfl)) (nq_nx (if_f (qn (eV_o rfl) rfl)) (nq_nx (if_f (qn (eV_o rfl) rfl)) (nq_nx (if_f (qn (eV_o rfl) rfl)) (nq_nx (if_f (qn (eV_o rfl) rfl)) (nq_exc (if_t (qn (eV_o rfl) rfl) rfl)))))))))) rfl fun a d => ?_
    refine Wp.run (P := fun r => r.wipe 3 = .rt (.d (toldD 8 v nm)) st) (g := sSeq _ _) ?_
    exact w_sq (sSet_o (t_lst (ds := [.bool false, .bool false, .bool false, .bool false, .bool false]) (cons_o (is_E rfl rfl) (cons_o (is_E rfl rfl) (cons_o (is_E rfl rfl) (cons_o (is_E rfl rfl) (cons_o (is_E rfl rfl) rfl))))) rfl)) (w_sq (sSet_o (add_lst (eV_o rfl) (t_lst (ds := [.bool false, .bool false, .bool false, .bool true, .bool false]) (cons_o (is_E rfl rfl) (cons_o (is_E rfl rfl) (cons_o (is_E rfl rfl) (cons_o (is_E rfl rfl) (cons_o (is_E rfl rfl) rfl))))) rfl) (by decide))) (w_sq (if_f (t_as' (t_orT (a := false) (b := false) (t_notT (b := true) (t_tru (is_E rfl rfl))) fun _ => t_orT (a := false) (b := false) (t_tru (is_E rfl rfl)) fun _ => t_tru (is_E rfl rfl)) rfl)) (w_sq (sSet_o rfl) (w_sq (if_f (inq (eV_o rfl) rfl)) (w_sq (if_f (qn (eV_o rfl) rfl)) (w_sq (if_f (qn (eV_o rfl) rfl)) (w_sq (if_f (qn (eV_o rfl) rfl)) (w_sq (if_t (qn (eV_o rfl) rfl) (sSet_o (t_tup (ds := [_, _]) (cons_o (t_xf rfl rfl) (cons_o (t_xf rfl rfl) rfl)) rfl))) (w_ret (t_tup (ds := [_, _]) (cons_o (eV_o rfl) (cons_o (eV_o rfl) rfl)) rfl) rfl)))))))))
  show PR _ _ _ (B__law_raised [some (.d (.int 8)), some (.d v), some (.d nm), none, none, none] st)
  rw [h]
  exact ⟨rfl, by simp⟩
theorem raised_9 (v nm : D) (st : Stor) : F__law_raised [.d (.int 9), .d v, .d nm] st = .ok (.d (toldD 9 v nm)) st := by
  refine run_PR (g := B__law_raised) (n := 6) ⟨?_⟩
  have h : B__law_raised [some (.d (.int 9)), some (.d v), some (.d nm), none, none, none] st = .rt (.d (toldD 9 v nm)) st := by
    unfold B__law_raised B__law_raised_0
    refine tryN_bk (nq_nx (if_f (qn (eV_o rfl) rfl)) (nq_nx (if_f (qn (eV_o rfl) rfl)) (nq_nx (if_f (qn (eV_o rfl) rfl)) (nq_nx (if_f (qn (eV_o rfl) rfl)) (nq_nx (if_f (qn (eV_o rfl) rfl)) (nq_nx (if_f (qn (eV_o rfl) rfl)) (nq_nx (if_f (qn (eV_o rfl) rfl)) (nq_nx (if_f (qn (eV_o rfl) rfl)) (nq_nx (if_f (qn (eV_o rfl) rfl)) rfl))))))))) fun a d => ?_
    refine Wp.run (P := fun r => r.wipe 3 = .rt (.d (toldD 9 v nm)) st) (g := sSeq _ _) ?_
    exact w_sq (sSet_o (t_lst (ds := [.bool false, .bool false, .bool false, .bool false, .bool false]) (cons_o (is_N rfl) (cons_o (is_N rfl) (cons_o (is_N rfl) (cons_o (is_N rfl) (cons_o (is_N rfl) rfl))))) rfl)) (w_sq (sSet_o (add_lst (eV_o rfl) (t_lst (ds := [.bool false, .bool false, .bool false, .bool false, .bool true]) (cons_o (is_N rfl) (cons_o (is_N rfl) (cons_o (is_N rfl) (cons_o (is_N rfl) (cons_o (is_N rfl) rfl))))) rfl) (by decide))) (w_sq (if_f (t_as' (t_orT (a := false) (b := false) (t_notT (b := true) (t_tru (is_N rfl))) fun _ => t_orT (a := false) (b := false) (t_tru (is_N rfl)) fun _ => t_tru (is_N rfl)) rfl)) (w_sq (sSet_o rfl) (w_sq (if_f (inq (eV_o rfl) rfl)) (w_sq (if_f (qn (eV_o rfl) rfl)) (w_sq (if_f (qn (eV_o rfl) rfl)) (w_sq (if_f (qn (eV_o rfl) rfl)) (w_sq (if_f (qn (eV_o rfl) rfl)) (w_ret (t_tup (ds := [_, _]) (cons_o (eV_o rfl) (cons_o (eV_o rfl) rfl)) rfl) rfl)))))))))
  show PR _ _ _ (B__law_raised [some (.d (.int 9)), some (.d v), some (.d nm), none, none, none] st)
  rw [h]
  exact ⟨rfl, by simp⟩
theorem t__law_raised0 (n : Int) (hn : 0 ≤ n ∧ n < 10) (v nm : D) (st : Stor) : F__law_raised [.d (.int n), .d v, .d nm] st = .ok (.d (toldD n v nm)) st := by
  have : n = 0 ∨ n = 1 ∨ n = 2 ∨ n = 3 ∨ n = 4 ∨ n = 5 ∨ n = 6 ∨ n = 7 ∨ n = 8 ∨ n = 9 := by omega
  rcases this with rfl | rfl | rfl | rfl | rfl | rfl | rfl | rfl | rfl | rfl
  · exact raised_0 v nm st
  · exact raised_1 v nm st
  · exact raised_2 v nm st
  · exact raised_3 v nm st
  · exact raised_4 v nm st
  · exact raised_5 v nm st
  · exact raised_6 v nm st
  · exact raised_7 v nm st
  · exact raised_8 v nm st
  · exact raised_9 v nm st
end K09

set_option maxRecDepth 100000
namespace K09
open PySem MM
section
variable {S st : Stor} {i : Nat} {o : O} {up : O → Stor}
abbrev post__law_taken (v_many : Int) (r : Int) : Prop := 0 ≤ r ∧ r < v_many
theorem taken {st : Stor} {i : Nat} {many : Int} {o : O} (hi : st[i]? = some o) (h : Row o) (h0 : 0 < many) (h1 : many < 1073741824) :
    ∃ x o', Row o' ∧ (0 ≤ x ∧ x < many) ∧ F__law_taken [.loc i, .d (.int many)] st = .ok (.d (.int x)) (st.set i o') := by
  obtain ⟨ns, a, b, c, rfl, ha, hc⟩ := h
  have hl : i < st.length := (List.getElem?_eq_some_iff.mp hi).1
  have m1 : decide (0 < many) = true := decide_eq_true h0
  have m2 : decide (many < 1073741824) = true := decide_eq_true h1
  have hr := rd_lst hi
  have hs : ∀ ds, (st.set i (O.lst ds))[i]? = some (O.lst ds) := fun ds => List.getElem?_set_self hl
  have hrs : ∀ ds, rd (st.set i (O.lst ds)) (.loc i) = some (.list ds) := fun ds => rd_set hl
  unfold F__law_taken runF
  by_cases c0 : 0 < c
  · have c1 : decide (0 < c) = true := decide_eq_true c0
    refine ⟨c % many, .lst [.scr ns, .int a, .int b, .int (c / many)], ⟨ns, a, b, _, rfl, ha, Int.ediv_nonneg hc (by omega)⟩, ⟨Int.emod_nonneg _ (by omega), Int.emod_lt_of_pos _ h0⟩, ?_⟩
    simp [B__law_taken, B__law_taken_0, sWp, wipeL, sSeq, sIf, asB, eBin, eV, eC, g2, hr, hi, dIx, atI_lit, ixN_lit, dCmp, c1, c0, sSet, sSub, sRet, eArgs, eCons, eNil, kB, rds, bInt, dMod, dDiv, m1, m2, h0, h1, uB]
    exact List.take_of_length_le (by simp)
  · have c1 : decide (0 < c) = false := decide_eq_false c0
    have tk : ∀ o : O, List.take st.length (st.set i o) = st.set i o := fun o => List.take_of_length_le (by simp)
    have bm : ∀ z : Int, decide (0 < (2147483647 : Int)) = true := fun _ => by decide
    by_cases c2 : (ns.length : Int) < a + 1
    · refine ⟨(b * 48271 + 11) % 2147483647 / 7 % many, .lst [.scr ns, .int (a + 1), .int ((b * 48271 + 11) % 2147483647), .int c], ⟨ns, a + 1, _, c, rfl, by omega, hc⟩, ⟨Int.emod_nonneg _ (by omega), Int.emod_lt_of_pos _ h0⟩, ?_⟩
      simp [B__law_taken, B__law_taken_0, B__law_taken_1, B__law_taken_2, sWp, wipeL, sSeq, sIf, sNil, asB, eBin, eV, eC, g2, hr, hi, hs, hrs, dIx, atI_lit, ixN_lit, dCmp, c1, c0, c2, sSet, sSub, sRet, eArgs, eCons, eNil, kB, rds, bInt, bLen, dAdd, dMul, dMod, dDiv, m1, m2, h0, h1, uB, cMul, tk]
    · have ha1 : a.toNat < ns.length := by omega
      have hat : L2.atI ns a = some ns[a.toNat] := by
        rw [atI_pos _ ha]
        exact List.getElem?_eq_getElem ha1
      generalize ns[a.toNat] = cell at hat
      have p10 : dPow (.int 10) (.int 18) = some (.int 1000000000000000000) := by rfl
      by_cases c3 : (1000000000000000000 : Int) ≤ cell
      · refine ⟨cell % many, .lst [.scr ns, .int (a + 1), .int ((b * 48271 + cell + 11) % 2147483647), .int (cell / many)], ⟨ns, a + 1, _, _, rfl, by omega, Int.ediv_nonneg (by omega) (by omega)⟩, ⟨Int.emod_nonneg _ (by omega), Int.emod_lt_of_pos _ h0⟩, ?_⟩
        simp only [B__law_taken, B__law_taken_0, B__law_taken_1, B__law_taken_2, B__law_taken_3, B__law_taken_4, B__law_taken_5, B__law_taken_6]
        simp [sWp, wipeL, sSeq, sIf, sNil, asB, eBin, eV, eC, g2, hr, hi, hs, hrs, dIx, atI_lit, ixN_lit, dCmp, c1, c0, c2, sSet, sSub, sRet, eArgs, eCons, eNil, kB, rds, bInt, bLen, dAdd, dSub, dMul, dMod, dDiv, m1, m2, h0, h1, uB, cMul, tk, hat, p10, c3]
      · refine ⟨cell % many, .lst [.scr ns, .int (a + 1), .int ((b * 48271 + cell + 11) % 2147483647), .int c], ⟨ns, a + 1, _, _, rfl, by omega, hc⟩, ⟨Int.emod_nonneg _ (by omega), Int.emod_lt_of_pos _ h0⟩, ?_⟩
        simp only [B__law_taken, B__law_taken_0, B__law_taken_1, B__law_taken_2, B__law_taken_3, B__law_taken_4, B__law_taken_5, B__law_taken_6]
        simp [sWp, wipeL, sSeq, sIf, sNil, asB, eBin, eV, eC, g2, hr, hi, hs, hrs, dIx, atI_lit, ixN_lit, dCmp, c1, c0, c2, sSet, sSub, sRet, eArgs, eCons, eNil, kB, rds, bInt, bLen, dAdd, dSub, dMul, dMod, dDiv, m1, m2, h0, h1, uB, cMul, tk, hat, p10, c3]
theorem t__law_taken (H : RwOk S i o up) (h : Row o) (v_many : Int) (hpre : 0 < v_many ∧ v_many < 1073741824) : ∃ x o', Row o' ∧ post__law_taken v_many x ∧ F__law_taken [.loc i, .d (.int v_many)] S = .ok (.d (.int x)) (up o') := by
  obtain ⟨x, o', a, b, c⟩ := taken H.get h hpre.1 hpre.2
  rw [H.set] at c
  exact ⟨x, o', a, b, c⟩
theorem rw_at (H : RwOk S i o up) : up o = S := by
  obtain ⟨h, e⟩ := List.getElem?_eq_some_iff.mp H.get
  rw [← H.set o, ← e]
  exact List.set_getElem_self h
theorem rw_st (H : RwOk S i o up) (o2 : O) : RwOk (up o2) i o2 up := by
  have hl := (List.getElem?_eq_some_iff.mp H.get).1
  constructor
  · rw [← H.set o2]; exact List.getElem?_set_self hl
  · intro o'; rw [← H.set o2, List.set_set, H.set]
/-! rows drawn as lists or tuples -/
end
/-! plain data -/
def plP : Nat → D → Prop
  | _, .none => True
  | _, .bool _ => True
  | _, .int _ => True
  | _, .str _ => True
  | n + 1, .list xs => xs.length ≤ 16777216 ∧ ∀ x ∈ xs, plP n x
  | n + 1, .tuple xs => xs.length ≤ 16777216 ∧ ∀ x ∈ xs, plP n x
  | _, _ => False
theorem alike_key {F : FM} {z : D} {xs : List D} (hz : z = .list xs ∨ z = .tuple xs) (hl : xs.length ≤ 16777216) (st : Stor) (ih : ∀ x ∈ xs, ∀ st, F [.d x, .d x] st = .ok (.d (.bool true)) st) :
    eLc false [2] (nl (eRange1 (eCons (eArgs (eCons (eV 1) eNil) (kB bLen)) eNil))) (tName 2) (eNotT (eTru (eArgs (eCons (eBin (g2 dIx) (eV 0) (eV 2)) (eCons (eBin (g2 dIx) (eV 1) (eV 2)) eNil)) (kLen 2 F)))) (eV 2) [some (.d z), some (.d z), none] st = .ok (.d (.list [])) st := by
  have hb : bLen [z] = some (.int xs.length) := by rcases hz with rfl | rfl <;> rfl
  have h2 := t_comp (ρ := [some (.d z), some (.d z), none]) (s := st) (vs := [2]) (h := tName 2) (e := D.int) (e' := D.int) (c := eNotT (eTru (eArgs (eCons (eBin (g2 dIx) (eV 0) (eV 2)) (eCons (eBin (g2 dIx) (eV 1) (eV 2)) eNil)) (kLen 2 F)))) (el := eV 2) (p := fun _ => false) (q := fun (i : Int) => i) (lv := none) (i_rg1 (fs := eCons (eArgs (eCons (eV 1) eNil) (kB bLen)) eNil) (cons_o (t_b1 (eV_o rfl) hb) rfl) (by omega)) (by rw [rg_len]; omega) (fun _ => True.intro) (fun _ => rfl) (fun k hk acc => ?_) (fun k hk h => by cases h)
  · rw [List.filter_eq_nil_iff.mpr (fun _ _ => by simp)] at h2
    exact h2
  · rw [rg_mem] at hk
    have hk2 : k.toNat < xs.length := by omega
    have hx : dIx z (.int k) = some xs[k.toNat] := by
      have ha : L2.atI xs k = some xs[k.toNat] := by
        rw [atI_pos _ hk.1]
        exact List.getElem?_eq_getElem hk2
      rcases hz with rfl | rfl <;> exact ha
    exact t_notT (t_tru (args_o (cons_o (bin_o rfl rfl (g2_o hx)) (cons_o (bin_o rfl rfl (g2_o hx)) rfl)) (len_o rfl (ih _ (List.getElem_mem hk2) _))))
theorem dEq_bb' (a b : Bool) : dEq (.bool a) (.bool b) = some (.bool (a == b)) := by cases a <;> cases b <;> rfl
theorem v_alike : ∀ (n : Nat) (x : D), plP n x → ∀ st, F__law_alike (n + 1) [.d x, .d x] st = .ok (.d (.bool true)) st := by
  intro n
  induction n with
  | zero =>
    intro x hx st
    cases x <;> first
      | exact hx.elim
      | skip
    · exact run_PR (g := B__law_alike _) (n := 3) (w_gd (t := false) (t_tru (t_isi (eV_o rfl) rfl)) (fun h => by cases h) fun _ => w_gd (t := true) (t_orT (a := true) (b := true) (t_asB (bin_o rfl rfl (g2_o rfl))) (fun h => by cases h)) (fun _ => w_ret (t_andV (a := true) (b := true) (bin_o rfl rfl (g2_o rfl)) fun _ => bin_o (t_isi (eV_o rfl) rfl) (t_isi (eV_o rfl) rfl) (g2_o rfl)) ⟨rfl, by simp⟩) (fun h => by cases h))
    · exact run_PR (g := B__law_alike _) (n := 3) (w_gd (t := false) (t_tru (t_isi (eV_o rfl) rfl)) (fun h => by cases h) fun _ => w_gd (t := false) (t_orT (a := false) (b := false) (t_asB (bin_o rfl rfl (g2_o rfl))) (fun _ => t_tru (t_isi (eV_o rfl) rfl))) (fun h => by cases h) fun _ => w_ret (t_andV (a := true) (b := true) (t_isi (eV_o rfl) rfl) fun _ => t_andV (a := true) (b := true) (bin_o (t_isi (eV_o rfl) rfl) (t_isi (eV_o rfl) rfl) (g2_o rfl)) fun _ => bin_o rfl rfl (g2_o (by simp [dEq, sh, D.eqv]))) ⟨rfl, by simp⟩)
    · exact run_PR (g := B__law_alike _) (n := 3) (w_gd (t := false) (t_tru (t_isi (eV_o rfl) rfl)) (fun h => by cases h) fun _ => w_gd (t := false) (t_orT (a := false) (b := false) (t_asB (bin_o rfl rfl (g2_o rfl))) (fun _ => t_tru (t_isi (eV_o rfl) rfl))) (fun h => by cases h) fun _ => w_ret (t_andV (a := true) (b := true) (t_isi (eV_o rfl) rfl) fun _ => t_andV (a := true) (b := true) (bin_o (t_isi (eV_o rfl) rfl) (t_isi (eV_o rfl) rfl) (g2_o rfl)) fun _ => bin_o rfl rfl (g2_o (by simp [dEq, sh, D.eqv]))) ⟨rfl, by simp⟩)
    · exact run_PR (g := B__law_alike _) (n := 3) (w_gd (t := false) (t_tru (t_isi (eV_o rfl) rfl)) (fun h => by cases h) fun _ => w_gd (t := true) (t_orT (a := false) (b := true) (t_asB (bin_o rfl rfl (g2_o rfl))) (fun _ => t_tru (t_isi (eV_o rfl) rfl))) (fun _ => w_ret (t_andV (a := true) (b := true) (bin_o rfl rfl (g2_o (by simp [dEq, sh, D.eqv]))) fun _ => bin_o (t_isi (eV_o rfl) rfl) (t_isi (eV_o rfl) rfl) (g2_o rfl)) ⟨rfl, by simp⟩) (fun h => by cases h))
  | succ n ihn =>
    intro x hx st
    have seq : ∀ (z : D) (xs : List D), z = .list xs ∨ z = .tuple xs → xs.length ≤ 16777216 → (∀ x ∈ xs, plP n x) → F__law_alike (n + 1 + 1) [.d z, .d z] st = .ok (.d (.bool true)) st := by
      intro z xs hz hl hm
      have key := alike_key (F := F__law_alike (n + 1)) hz hl st fun x h => ihn x (hm x h)
      have i1 : bIsi ["tuple", "list"] z = some (.bool true) := by rcases hz with rfl | rfl <;> rfl
      have i2 : ∃ b, bIsi ["list"] z = some (.bool b) := by rcases hz with rfl | rfl <;> exact ⟨_, rfl⟩
      have hb : bLen [z] = some (.int xs.length) := by rcases hz with rfl | rfl <;> rfl
      obtain ⟨b, i2⟩ := i2
      exact run_PR (g := B__law_alike _) (n := 3) (w_gd (t := true) (t_tru (t_isi (eV_o rfl) i1)) (fun _ => w_gd (t := false) (t_orT (a := false) (b := false) (t_notT (b := true) (t_tru (t_isi (eV_o rfl) i1))) fun _ => t_asB (b := false) (bin_o (t_isi (eV_o rfl) i2) (t_isi (eV_o rfl) i2) (g2_o (by cases b <;> rfl)))) (fun h => by cases h) fun _ => w_gd (t := false) (t_asB (b := false) (bin_o (t_b1 (eV_o rfl) hb) (t_b1 (eV_o rfl) hb) (g2_o (by simp [dNe, sh, D.eqv])))) (fun h => by cases h) fun _ => w_ret (bin_o key rfl (g2_o rfl)) ⟨rfl, by simp⟩) (fun h => by cases h))
    cases x with
    | list xs => exact seq _ xs (.inl rfl) hx.1 hx.2
    | tuple xs => exact seq _ xs (.inr rfl) hx.1 hx.2
    | none => exact run_PR (g := B__law_alike _) (n := 3) (w_gd (t := false) (t_tru (t_isi (eV_o rfl) rfl)) (fun h => by cases h) fun _ => w_gd (t := true) (t_orT (a := true) (b := true) (t_asB (bin_o rfl rfl (g2_o rfl))) (fun h => by cases h)) (fun _ => w_ret (t_andV (a := true) (b := true) (bin_o rfl rfl (g2_o rfl)) fun _ => bin_o (t_isi (eV_o rfl) rfl) (t_isi (eV_o rfl) rfl) (g2_o rfl)) ⟨rfl, by simp⟩) (fun h => by cases h))
    | bool b => exact run_PR (g := B__law_alike _) (n := 3) (w_gd (t := false) (t_tru (t_isi (eV_o rfl) rfl)) (fun h => by cases h) fun _ => w_gd (t := false) (t_orT (a := false) (b := false) (t_asB (bin_o rfl rfl (g2_o rfl))) (fun _ => t_tru (t_isi (eV_o rfl) rfl))) (fun h => by cases h) fun _ => w_ret (t_andV (a := true) (b := true) (t_isi (eV_o rfl) rfl) fun _ => t_andV (a := true) (b := true) (bin_o (t_isi (eV_o rfl) rfl) (t_isi (eV_o rfl) rfl) (g2_o rfl)) fun _ => bin_o rfl rfl (g2_o (by simp [dEq, sh, D.eqv]))) ⟨rfl, by simp⟩)
    | int b => exact run_PR (g := B__law_alike _) (n := 3) (w_gd (t := false) (t_tru (t_isi (eV_o rfl) rfl)) (fun h => by cases h) fun _ => w_gd (t := false) (t_orT (a := false) (b := false) (t_asB (bin_o rfl rfl (g2_o rfl))) (fun _ => t_tru (t_isi (eV_o rfl) rfl))) (fun h => by cases h) fun _ => w_ret (t_andV (a := true) (b := true) (t_isi (eV_o rfl) rfl) fun _ => t_andV (a := true) (b := true) (bin_o (t_isi (eV_o rfl) rfl) (t_isi (eV_o rfl) rfl) (g2_o rfl)) fun _ => bin_o rfl rfl (g2_o (by simp [dEq, sh, D.eqv]))) ⟨rfl, by simp⟩)
    | str b => exact run_PR (g := B__law_alike _) (n := 3) (w_gd (t := false) (t_tru (t_isi (eV_o rfl) rfl)) (fun h => by cases h) fun _ => w_gd (t := true) (t_orT (a := false) (b := true) (t_asB (bin_o rfl rfl (g2_o rfl))) (fun _ => t_tru (t_isi (eV_o rfl) rfl))) (fun _ => w_ret (t_andV (a := true) (b := true) (bin_o rfl rfl (g2_o (by simp [dEq, sh, D.eqv]))) fun _ => bin_o (t_isi (eV_o rfl) rfl) (t_isi (eV_o rfl) rfl) (g2_o rfl)) ⟨rfl, by simp⟩) (fun h => by cases h))
    | dict _ => exact hx.elim
    | ins _ _ => exact hx.elim
    | fn _ => exact hx.elim
    | exc _ _ _ _ => exact hx.elim
    | scr _ => exact hx.elim
theorem t_alike {α : Type} {e : α → D} {x y : α} (n : Nat) (h : x = y) (hp : plP n (e x)) (st : Stor) : F__law_alike (n + 1) [.d (e x), .d (e y)] st = .ok (.d (.bool true)) st := by
  subst h
  exact v_alike n _ hp st
theorem plP_up : ∀ {n : Nat} {x : D}, plP n x → plP (n + 1) x := by
  intro n
  induction n with
  | zero => intro x h; cases x <;> first | trivial | exact h.elim
  | succ n ih =>
    intro x h
    cases x with
    | list xs => exact ⟨h.1, fun y hy => ih (h.2 y hy)⟩
    | tuple xs => exact ⟨h.1, fun y hy => ih (h.2 y hy)⟩
    | none => trivial
    | bool _ => trivial
    | int _ => trivial
    | str _ => trivial
    | dict _ => exact h.elim
    | ins _ _ => exact h.elim
    | fn _ => exact h.elim
    | exc _ _ _ _ => exact h.elim
    | scr _ => exact h.elim
theorem plP_le {n m : Nat} {x : D} (h : n ≤ m) (hp : plP n x) : plP m x := by
  induction m with
  | zero =>
    have : n = 0 := by omega
    subst this
    exact hp
  | succ m ih =>
    by_cases c : n = m + 1
    · subst c; exact hp
    · exact plP_up (ih (by omega))
end K09
set_option maxRecDepth 100000
set_option synthInstance.maxSize 100000
set_option autoImplicit false
namespace K09
open PySem MM
section
variable {S : Stor} {i : Nat} {o : O} {up : O → Stor}
theorem t__law_pick (H : RwOk S i o up) (h : Row o) (ks : List D) (hpre : 0 < ks.length ∧ ks.length < 1073741824) : ∃ y o', Row o' ∧ y ∈ ks ∧ F__law_pick [.loc i, .d (.list ks)] S = .ok (.d y) (up o') := by
  obtain ⟨d, o1, r1, ⟨p1, p2⟩, e1⟩ := t__law_taken H h ks.length ⟨by omega, by omega⟩
  have hk : d.toNat < ks.length := by omega
  have hx : dIx (.list ks) (.int d) = some ks[d.toNat] := by
    show L2.atI ks d = _
    rw [atI_pos _ p1]
    exact List.getElem?_eq_getElem hk
  have ht : (up o1).take S.length = up o1 := List.take_of_length_le (by rw [← H.set o1]; simp)
  exact ⟨_, o1, r1, List.getElem_mem hk, run_PR (g := B__law_pick) (n := 2) (w_ret (bin_o (eV_o rfl) (t_call (cons_o (eV_o rfl) (cons_o (t_b1 (eV_o rfl) rfl) rfl)) rfl e1) (g2_o hx)) ⟨rfl, ht⟩)⟩
theorem t__law_pickE {α : Type} (H : RwOk S i o up) (h : Row o) (e : α → D) (ks : List α) (hpre : 0 < ks.length ∧ ks.length < 1073741824) : ∃ y o', Row o' ∧ y ∈ ks ∧ F__law_pick [.loc i, .d (eL e ks)] S = .ok (.d (e y)) (up o') := by
  obtain ⟨y, o', h1, h2, h3⟩ := t__law_pick H h (ks.map e) (by rw [List.length_map]; exact hpre)
  obtain ⟨x, hx, rfl⟩ := List.mem_map.mp h2
  exact ⟨x, o', h1, hx, h3⟩
end
theorem rw_eq {S : Stor} {i : Nat} {o : O} {up : O → Stor} (H : RwOk S i o up) : S = up o := (rw_at H).symm
theorem tryL_exc {qs : List ClV} {gb : SF} {ρ ρ' : Slots} {s s' : Stor} {c : Nat} {fs : List (Str × D)} (h : gb ρ s = .exc c fs ρ' s') : sTryL qs gb ρ s = trL c fs ρ' s' qs := by
  unfold sTryL
  rw [h]
/-! what raises passes on -/
section
variable {ρ : Slots} {s s1 : Stor} {c : Nat} {fs : List (Str × D)} {fa : EF U} {ft : EF (List U)} {ga gb : EF Bool} {g1 g2 : SF}
theorem x_cons (h : fa ρ s = .exc c fs s1) : eCons fa ft ρ s = .exc c fs s1 := by unfold eCons; rw [h]; rfl
theorem x_args {k : List U → Stor → R U} (h : ft ρ s = .exc c fs s1) : eArgs ft k ρ s = .exc c fs s1 := by unfold eArgs; rw [h]; rfl
theorem x_tru (h : fa ρ s = .exc c fs s1) : eTru fa ρ s = .exc c fs s1 := by unfold eTru; rw [h]; rfl
theorem x_notT (h : ga ρ s = .exc c fs s1) : eNotT ga ρ s = .exc c fs s1 := by unfold eNotT; rw [h]; rfl
theorem x_orT (h : ga ρ s = .exc c fs s1) : eOrT ga gb ρ s = .exc c fs s1 := by unfold eOrT; rw [h]; rfl
theorem x_if (h : ga ρ s = .exc c fs s1) : sIf ga g1 g2 ρ s = .exc c fs ρ s1 := by unfold sIf; rw [h]; rfl
theorem x_ex (h : fa ρ s = .exc c fs s1) : sEx fa ρ s = .exc c fs ρ s1 := by unfold sEx; rw [h]; rfl
end
end K09
set_option maxRecDepth 100000
set_option maxHeartbeats 4000000
set_option synthInstance.maxSize 100000
set_option autoImplicit false
namespace K09
open PySem MM
def m__law_raised (n : Int) (v nm : D) : D := toldD n v nm
structure zOk (z : D) : Prop where
  ne : dNe z z = some (.bool false)
  is : ∃ b, bIsi ["bool"] z = some (.bool b)
theorem pick_v {i : Int} {v : D} (h : v ∈ [((fun _ : Unit => D.none) ()), (D.int (7 : Int)), (D.str ("x" : PySem.Str)), (D.tuple [(D.int (1 : Int)), (D.int (2 : Int))]), (D.bool true), (D.int i)]) : v = .none ∨ v = .int 7 ∨ v = .str "x" ∨ v = .tuple [.int 1, .int 2] ∨ v = .bool true ∨ v = .int i := by
  simp only [List.mem_cons, List.not_mem_nil, or_false] at h
  exact h
theorem ne_of {z : D} (h1 : sh 60 z = true) (h2 : z.eqv z = true) : dNe z z = some (.bool false) := by
  unfold dNe
  rw [h1, h2]
  rfl
theorem v_ok {i : Int} {v : D} (h : v ∈ [((fun _ : Unit => D.none) ()), (D.int (7 : Int)), (D.str ("x" : PySem.Str)), (D.tuple [(D.int (1 : Int)), (D.int (2 : Int))]), (D.bool true), (D.int i)]) : (sh 59 v = true ∧ v.eqv v = true) ∧ ∃ b, bIsi ["bool"] v = some (.bool b) := by
  rcases pick_v h with rfl | rfl | rfl | rfl | rfl | rfl
  · exact ⟨⟨rfl, rfl⟩, _, rfl⟩
  · exact ⟨⟨rfl, rfl⟩, _, rfl⟩
  · exact ⟨⟨rfl, by simp [D.eqv]⟩, _, rfl⟩
  · exact ⟨⟨rfl, rfl⟩, _, rfl⟩
  · exact ⟨⟨rfl, rfl⟩, _, rfl⟩
  · exact ⟨⟨rfl, by simp [D.eqv]⟩, _, rfl⟩
theorem v_zok {i : Int} {v : D} (h : v ∈ [((fun _ : Unit => D.none) ()), (D.int (7 : Int)), (D.str ("x" : PySem.Str)), (D.tuple [(D.int (1 : Int)), (D.int (2 : Int))]), (D.bool true), (D.int i)]) : zOk v := ⟨ne_of (sh_up (by decide) (v_ok h).1.1) (v_ok h).1.2, (v_ok h).2⟩
theorem nm_ok {nm : D} (h : nm ∈ [(D.tuple []), (D.tuple [(D.str ("a" : PySem.Str))])]) : sh 59 nm = true ∧ nm.eqv nm = true := by
  simp only [List.mem_cons, List.not_mem_nil, or_false] at h
  rcases h with rfl | rfl
  · exact ⟨rfl, rfl⟩
  · exact ⟨rfl, by simp [D.eqv, eqvs]⟩
theorem pair_zok {i : Int} {v nm : D} (h : v ∈ [((fun _ : Unit => D.none) ()), (D.int (7 : Int)), (D.str ("x" : PySem.Str)), (D.tuple [(D.int (1 : Int)), (D.int (2 : Int))]), (D.bool true), (D.int i)]) (hn : nm ∈ [(D.tuple []), (D.tuple [(D.str ("a" : PySem.Str))])]) : zOk (.tuple [v, nm]) :=
  ⟨ne_of (by simp [sh, shs, (v_ok h).1.1, (nm_ok hn).1]) (by simp [D.eqv, eqvs, (v_ok h).1.2, (nm_ok hn).2]), _, rfl⟩
def ksB (n : Int) : List Bool := (rg 0 10).map fun k => decide (k = n)
theorem kinds_eq (n : Int) : D.list (kindsD n) = eL D.bool (ksB n) := by
  unfold kindsD ksB eL
  rw [List.map_map]
  rfl
abbrev SLb (ns : List Int) (k : Nat) (n : Int) (v nm told : D) (x6 : Option U) : Slots := [some (U.d (D.scr ns)), some (U.loc k), some (U.d (D.int n)), some (U.d v), some (U.d nm), some (U.d told), x6, none, none]
section
variable {ns : List Int} {k : Nat} {n : Int} {v nm z : D} {S : Stor} {P : RS → Prop}
theorem bodyC (h9 : n < 9 → dueD n v nm = z ∧ zOk z) (hk : ∀ u, P (.nx (SLb ns k n v nm (toldD n v nm) u) S)) : Wp (sIf (eAndT (asB (eBin (g2 (dCmp fun i j => decide (i < j))) (eV 2) (eC (.int 9)))) (eOrT (asB (eBin (g2 dNe) (eBin (g2 dIx) (eV 5) (eC (.int 1))) (eV 6))) (asB (eBin (g2 dNe) (eUn (g1 (bIsi ["bool"])) (eBin (g2 dIx) (eV 5) (eC (.int 1)))) (eUn (g1 (bIsi ["bool"])) (eV 6)))))) (sRet (eC (.bool false))) sNil) (SLb ns k n v nm (toldD n v nm) (some (U.d z))) S P := by
  have ht : ∀ s, eBin (g2 dIx) (eV 5) (eC (.int 1)) (SLb ns k n v nm (toldD n v nm) (some (U.d z))) s = .ok (.d (dueD n v nm)) s := fun s => t_ixP (ds := [.list (kindsD n), dueD n v nm]) (eV_o rfl) rfl rfl
  refine w_ifc (t := false) (t_as' (t_andT (a := decide (n < 9)) (b := false) (t_asB (t_cmp (eV_o rfl) rfl)) fun h => ?_) (by simp)) (fun h => by cases h) fun _ => w_nil (hk _)
  obtain ⟨e, hz⟩ := h9 (of_decide_eq_true h)
  rw [e] at ht
  obtain ⟨b, hb⟩ := hz.is
  refine t_orT (a := false) (b := false) (t_asB (bin_o (ht _) (eV_o rfl) (g2_o hz.ne))) fun _ => t_asB (t_as (t_ne (e := D.bool) (a := b) (b := b) (t_un (ht _) hb) (t_un (eV_o rfl) hb)) (by simp))
theorem body3 {d : Int} (hv : v ∈ [((fun _ : Unit => D.none) ()), (D.int (7 : Int)), (D.str ("x" : PySem.Str)), (D.tuple [(D.int (1 : Int)), (D.int (2 : Int))]), (D.bool true), (D.int d)]) (hn : nm ∈ [(D.tuple []), (D.tuple [(D.str ("a" : PySem.Str))])]) (hk : ∀ u, P (.nx (SLb ns k n v nm (toldD n v nm) u) S)) : Wp (sSeq (sIf (eOrT (asB (eBin (g2 dIs) (eV 5) (eC .none))) (asB (eBin (g2 dNe) (eBin (g2 dIx) (eV 5) (eC (.int 0))) (eLc false [8] (nl (eRange1 (eCons (eC (.int 10)) eNil))) (tName 8) eYes (eBin (g2 dEq) (eV 8) (eV 2)))))) (sRet (eC (.bool false))) sNil) (sSeq (sSet 6 (eV 3)) (sSeq (sIf (asB (eBin (g2 dEq) (eV 2) (eC (.int 8)))) (sSet 6 (eArgs (eCons (eV 3) (eCons (eV 4) eNil)) kTup)) sNil) (sIf (eAndT (asB (eBin (g2 (dCmp fun i j => decide (i < j))) (eV 2) (eC (.int 9)))) (eOrT (asB (eBin (g2 dNe) (eBin (g2 dIx) (eV 5) (eC (.int 1))) (eV 6))) (asB (eBin (g2 dNe) (eUn (g1 (bIsi ["bool"])) (eBin (g2 dIx) (eV 5) (eC (.int 1)))) (eUn (g1 (bIsi ["bool"])) (eV 6)))))) (sRet (eC (.bool false))) sNil)))) (SLb ns k n v nm (toldD n v nm) none) S P := by
  have h0 : ∀ s, eBin (g2 dIx) (eV 5) (eC (.int 0)) (SLb ns k n v nm (toldD n v nm) none) s = .ok (.d (eL D.bool (ksB n))) s := fun s => by
    rw [← kinds_eq]
    exact t_ixP (ds := [.list (kindsD n), dueD n v nm]) (eV_o rfl) rfl rfl
  have hc : eLc false [8] (nl (eRange1 (eCons (eC (.int 10)) eNil))) (tName 8) eYes (eBin (g2 dEq) (eV 8) (eV 2)) (SLb ns k n v nm (toldD n v nm) none) S = .ok (.d (eL D.bool (ksB n))) S :=
    t_map (e := D.int) (e' := D.bool) (q := fun k => decide (k = n)) (lv := none) (r := fun x => [some (U.d (D.scr ns)), some (U.loc k), some (U.d (D.int n)), some (U.d v), some (U.d nm), some (U.d (toldD n v nm)), none, none, some (U.d (D.int x))]) (i_rg1 (cons_o rfl rfl) (by omega)) (by rw [rg_len]; omega) (fun _ => trivial) (fun _ => rfl) fun x _ acc => t_eq (e := D.int) (eV_o rfl) (eV_o rfl)
  refine w_sq (if_f (t_as' (t_orT (a := false) (b := false) (t_asB (bin_o (eV_o rfl) rfl (g2_o rfl))) fun _ => t_asB (t_as (t_ne (e := eL D.bool) (a := ksB n) (b := ksB n) (h0 _) hc) (by simp))) rfl)) (w_sq (sSet_o (eV_o rfl)) ?_)
  by_cases h8 : n = 8
  · refine w_sq (if_t (qn (b := true) (eV_o rfl) (by simp [h8])) (sSet_o (t_tup (ds := [v, nm]) (cons_o (eV_o rfl) (cons_o (eV_o rfl) rfl)) rfl))) (bodyC (z := .tuple [v, nm]) (fun _ => ⟨by unfold dueD; rw [if_pos h8], pair_zok hv hn⟩) hk)
  · refine w_sq (if_f (qn (b := false) (eV_o rfl) (by simp [h8]))) (bodyC (z := v) (fun h => ⟨by unfold dueD; rw [if_neg h8, if_neg (by omega)], v_zok hv⟩) hk)
end
theorem end2 {ns : List Int} {st : Stor} {row : O} {P : RS → Prop} (hk : P (.rt (.d (.bool true)) (st ++ [row]))) : Wp (sSeq B_law_2 (sSeq B_law_3 B_law_4)) [some (U.d (D.scr ns)), some (U.loc (st.length + 0)), none, none, none, none, none, none, none] (st ++ [row]) P := by
  have e1 : ∀ {names : List Str} {rev : Bool} {f : Str} {fk : EF (List U)} {us : List U} {z : D} {ds : List D} {ρ : Slots} {s : Stor}, fk ρ s = .ok us s → ofUs us = some ds → ds.length = names.length → (names.zip (pr rev ds)).reverse.lookup f = some z → eKwf names rev f fk ρ s = .ok (.d z) s := fun h1 h2 h3 h4 => by
    unfold eKwf
    rw [h1]
    show (match ofUs _ with | some ds => _ | none => _) = _
    rw [h2]
    dsimp only
    rw [if_pos h3, h4]
  refine w_sq (sSet_o (t_lst (ds := [.int 1, .str "a", .int 4, .int 5, .int 6]) (cons_o (e1 (cons_o rfl rfl) rfl rfl rfl) (cons_o (e1 (cons_o rfl rfl) rfl rfl rfl) (cons_o (e1 (cons_o rfl rfl) rfl rfl rfl) (cons_o (e1 (cons_o rfl rfl) rfl rfl rfl) (cons_o (e1 (cons_o rfl rfl) rfl rfl rfl) rfl))))) rfl)) (w_sq (sSet_o (add_lst (eV_o rfl) (t_lst (ds := [.int 7, .int 8, .int 9, .int 11, .str "s"]) (cons_o (e1 (cons_o rfl rfl) rfl rfl rfl) (cons_o (e1 (cons_o rfl rfl) rfl rfl rfl) (cons_o (e1 (cons_o rfl rfl) rfl rfl rfl) (cons_o (e1 (cons_o rfl (cons_o rfl rfl)) rfl rfl rfl) (cons_o (e1 (cons_o rfl (cons_o rfl rfl)) rfl rfl rfl) rfl))))) rfl) (by decide))) (w_ret (t_call (cons_o (eV_o rfl) (cons_o (t_lst (ds := [.int 1, .str "a", .int 4, .int 5, .int 6, .int 7, .int 8, .int 9, .int 11, .str "s"]) (cons_o rfl (cons_o rfl (cons_o rfl (cons_o rfl (cons_o rfl (cons_o rfl (cons_o rfl (cons_o rfl (cons_o rfl (cons_o rfl rfl)))))))))) rfl) rfl)) rfl (v_alike 2 _ (by simp [plP]) _)) hk))
end K09
namespace K09
open PySem MM
theorem t__law_raised (n : Int) (v nm : D) (hn : 0 ≤ n ∧ n < 10) (st : Stor) : F__law_raised [.d (.int n), .d v, .d nm] st = .ok (.d (m__law_raised n v nm)) st := t__law_raised0 n hn v nm st
end K09
set_option maxRecDepth 100000
set_option synthInstance.maxSize 100000
set_option maxHeartbeats 400000
set_option autoImplicit false
namespace K09
open PySem MM
/-! law -/
abbrev post_law (v_script : (List Int)) (r : Bool) : Prop := r = true
theorem t_law_1l3 (st : Stor)  (v_script : (List Int)) (row_1 : O) (c_row_1 : O) (i_1 : Nat) (x_1 : Int) (d_1 : Int) (o_1 : O) (d_2 : D) (o_2 : O) (value_1 : D) (d_3 : D) (o_3 : O) (named_1 : D) (told_1 : D) (h2 : Row row_1) (h4 : (rg (0 : Int) (10 : Int))[i_1]? = some x_1) (h3 : (Row c_row_1)) (h5 : x_1 ∈ (rg (0 : Int) (10 : Int))) (h6 : Row c_row_1) (h7 : Row o_1) (h8 : 0 ≤ d_1 ∧ d_1 < (1000000000 : Int)) (h10 : Row o_2) (h11 : d_2 ∈ [((fun _ : Unit => D.none) ()), (D.int (7 : Int)), (D.str ("x" : PySem.Str)), (D.tuple [(D.int (1 : Int)), (D.int (2 : Int))]), (D.bool true), (D.int d_1)]) (h13 : value_1 = d_2) (h14 : Row o_3) (h15 : d_3 ∈ [(D.tuple []), (D.tuple [(D.str ("a" : PySem.Str))])]) (h17 : named_1 = d_3) (h18 : told_1 = (m__law_raised x_1 value_1 named_1)) : Wp (sSeq (sIf (eOrT (asB (eBin (g2 dIs) (eV 5) (eC .none))) (asB (eBin (g2 dNe) (eBin (g2 dIx) (eV 5) (eC (.int 0))) (eLc false [8] (nl (eRange1 (eCons (eC (.int 10)) eNil))) (tName 8) eYes (eBin (g2 dEq) (eV 8) (eV 2)))))) (sRet (eC (.bool false))) sNil) (sSeq (sSet 6 (eV 3)) (sSeq (sIf (asB (eBin (g2 dEq) (eV 2) (eC (.int 8)))) (sSet 6 (eArgs (eCons (eV 3) (eCons (eV 4) eNil)) kTup)) sNil) (sIf (eAndT (asB (eBin (g2 (dCmp fun i j => decide (i < j))) (eV 2) (eC (.int 9)))) (eOrT (asB (eBin (g2 dNe) (eBin (g2 dIx) (eV 5) (eC (.int 1))) (eV 6))) (asB (eBin (g2 dNe) (eUn (g1 (bIsi ["bool"])) (eBin (g2 dIx) (eV 5) (eC (.int 1)))) (eUn (g1 (bIsi ["bool"])) (eV 6)))))) (sRet (eC (.bool false))) sNil)))) [some (U.d (D.scr v_script)), some (U.loc (st.length + 0)), some (U.d (D.int x_1)), some (U.d value_1), some (U.d named_1), some (U.d told_1), none, none, none] (st ++ [o_3]) (fun r => PI (fun (v : O) => [some (U.d (D.scr v_script)), some (U.loc (st.length + 0)), none, none, none, none, none, none, none]) (fun (v : O) => (st ++ [v])) (fun (v : O) => (Row v)) (fun r => ∃ v, post_law v_script v ∧ PR st.length st (D.bool v) (RS.andThen r (sSeq B_law_2 (sSeq B_law_3 B_law_4)))) (wipeR [2, 3, 4, 5, 6] r)) :=
  (by subst told_1 value_1 named_1; exact body3 (d := d_1) (by assumption) (by assumption) fun u => ⟨_, rfl, rfl, by assumption⟩)
theorem t_law_1l2 (st : Stor)  (v_script : (List Int)) (row_1 : O) (c_row_1 : O) (i_1 : Nat) (x_1 : Int) (d_1 : Int) (o_1 : O) (d_2 : D) (o_2 : O) (value_1 : D) (d_3 : D) (o_3 : O) (named_1 : D) (h2 : Row row_1) (h4 : (rg (0 : Int) (10 : Int))[i_1]? = some x_1) (h3 : (Row c_row_1)) (h5 : x_1 ∈ (rg (0 : Int) (10 : Int))) (h6 : Row c_row_1) (h7 : Row o_1) (h8 : 0 ≤ d_1 ∧ d_1 < (1000000000 : Int)) (h10 : Row o_2) (h11 : d_2 ∈ [((fun _ : Unit => D.none) ()), (D.int (7 : Int)), (D.str ("x" : PySem.Str)), (D.tuple [(D.int (1 : Int)), (D.int (2 : Int))]), (D.bool true), (D.int d_1)]) (h13 : value_1 = d_2) (h14 : Row o_3) (h15 : d_3 ∈ [(D.tuple []), (D.tuple [(D.str ("a" : PySem.Str))])]) (h17 : named_1 = d_3) : Wp (sSeq (sSet 5 (eArgs (eCons (eV 2) (eCons (eV 3) (eCons (eV 4) eNil))) (kLen 3 F__law_raised))) (sSeq (sIf (eOrT (asB (eBin (g2 dIs) (eV 5) (eC .none))) (asB (eBin (g2 dNe) (eBin (g2 dIx) (eV 5) (eC (.int 0))) (eLc false [8] (nl (eRange1 (eCons (eC (.int 10)) eNil))) (tName 8) eYes (eBin (g2 dEq) (eV 8) (eV 2)))))) (sRet (eC (.bool false))) sNil) (sSeq (sSet 6 (eV 3)) (sSeq (sIf (asB (eBin (g2 dEq) (eV 2) (eC (.int 8)))) (sSet 6 (eArgs (eCons (eV 3) (eCons (eV 4) eNil)) kTup)) sNil) (sIf (eAndT (asB (eBin (g2 (dCmp fun i j => decide (i < j))) (eV 2) (eC (.int 9)))) (eOrT (asB (eBin (g2 dNe) (eBin (g2 dIx) (eV 5) (eC (.int 1))) (eV 6))) (asB (eBin (g2 dNe) (eUn (g1 (bIsi ["bool"])) (eBin (g2 dIx) (eV 5) (eC (.int 1)))) (eUn (g1 (bIsi ["bool"])) (eV 6)))))) (sRet (eC (.bool false))) sNil))))) [some (U.d (D.scr v_script)), some (U.loc (st.length + 0)), some (U.d (D.int x_1)), some (U.d value_1), some (U.d named_1), none, none, none, none] (st ++ [o_3]) (fun r => PI (fun (v : O) => [some (U.d (D.scr v_script)), some (U.loc (st.length + 0)), none, none, none, none, none, none, none]) (fun (v : O) => (st ++ [v])) (fun (v : O) => (Row v)) (fun r => ∃ v, post_law v_script v ∧ PR st.length st (D.bool v) (RS.andThen r (sSeq B_law_2 (sSeq B_law_3 B_law_4)))) (wipeR [2, 3, 4, 5, 6] r)) :=
  (w_sq (sSet_o (t_call (cons_o (eV_o rfl) (cons_o (eV_o rfl) (cons_o (eV_o rfl) rfl))) rfl (t__law_raised x_1 value_1 named_1 (by /-4-/ first | omega | grind [rg_mem]) _))) (t_law_1l3 st  v_script row_1 c_row_1 i_1 x_1 d_1 o_1 d_2 o_2 value_1 d_3 o_3 named_1 (m__law_raised x_1 value_1 named_1) h2 h4 h3 h5 h6 h7 h8 h10 h11 h13 h14 h15 h17 rfl))
theorem t_law_1l1 (st : Stor)  (v_script : (List Int)) (row_1 : O) (c_row_1 : O) (i_1 : Nat) (x_1 : Int) (d_1 : Int) (o_1 : O) (d_2 : D) (o_2 : O) (value_1 : D) (h2 : Row row_1) (h4 : (rg (0 : Int) (10 : Int))[i_1]? = some x_1) (h3 : (Row c_row_1)) (h5 : x_1 ∈ (rg (0 : Int) (10 : Int))) (h6 : Row c_row_1) (h7 : Row o_1) (h8 : 0 ≤ d_1 ∧ d_1 < (1000000000 : Int)) (h10 : Row o_2) (h11 : d_2 ∈ [((fun _ : Unit => D.none) ()), (D.int (7 : Int)), (D.str ("x" : PySem.Str)), (D.tuple [(D.int (1 : Int)), (D.int (2 : Int))]), (D.bool true), (D.int d_1)]) (h13 : value_1 = d_2) : Wp (sSeq (sSet 4 (eArgs (eCons (eV 1) (eCons (eArgs (eCons (eArgs eNil kTup) (eCons (eArgs (eCons (eC (.str "a")) eNil) kTup) eNil)) kLst) eNil)) (kLen 2 F__law_pick))) (sSeq (sSet 5 (eArgs (eCons (eV 2) (eCons (eV 3) (eCons (eV 4) eNil))) (kLen 3 F__law_raised))) (sSeq (sIf (eOrT (asB (eBin (g2 dIs) (eV 5) (eC .none))) (asB (eBin (g2 dNe) (eBin (g2 dIx) (eV 5) (eC (.int 0))) (eLc false [8] (nl (eRange1 (eCons (eC (.int 10)) eNil))) (tName 8) eYes (eBin (g2 dEq) (eV 8) (eV 2)))))) (sRet (eC (.bool false))) sNil) (sSeq (sSet 6 (eV 3)) (sSeq (sIf (asB (eBin (g2 dEq) (eV 2) (eC (.int 8)))) (sSet 6 (eArgs (eCons (eV 3) (eCons (eV 4) eNil)) kTup)) sNil) (sIf (eAndT (asB (eBin (g2 (dCmp fun i j => decide (i < j))) (eV 2) (eC (.int 9)))) (eOrT (asB (eBin (g2 dNe) (eBin (g2 dIx) (eV 5) (eC (.int 1))) (eV 6))) (asB (eBin (g2 dNe) (eUn (g1 (bIsi ["bool"])) (eBin (g2 dIx) (eV 5) (eC (.int 1)))) (eUn (g1 (bIsi ["bool"])) (eV 6)))))) (sRet (eC (.bool false))) sNil)))))) [some (U.d (D.scr v_script)), some (U.loc (st.length + 0)), some (U.d (D.int x_1)), some (U.d value_1), none, none, none, none, none] (st ++ [o_2]) (fun r => PI (fun (v : O) => [some (U.d (D.scr v_script)), some (U.loc (st.length + 0)), none, none, none, none, none, none, none]) (fun (v : O) => (st ++ [v])) (fun (v : O) => (Row v)) (fun r => ∃ v, post_law v_script v ∧ PR st.length st (D.bool v) (RS.andThen r (sSeq B_law_2 (sSeq B_law_3 B_law_4)))) (wipeR [2, 3, 4, 5, 6] r)) :=
  (by
  obtain ⟨d_3, o_3, h14, h15, h16⟩ := t__law_pick (S := (st ++ [o_2])) (o := o_2) (up := (fun o_3 => (st ++ [o_3]))) (rw_own (n := st.length) (c := 0) rfl rfl) h10 [(D.tuple []), (D.tuple [(D.str ("a" : PySem.Str))])] (by /-3-/ first | omega | grind [rg_mem])
  exact (w_sq (sSet_o (t_call (cons_o (eV_o rfl) (cons_o (t_lst (cons_o (t_tup rfl rfl) (cons_o (t_tup (cons_o rfl rfl) rfl) rfl)) rfl) rfl)) rfl h16)) (t_law_1l2 st  v_script row_1 c_row_1 i_1 x_1 d_1 o_1 d_2 o_2 value_1 d_3 o_3 d_3 h2 h4 h3 h5 h6 h7 h8 h10 h11 h13 h14 h15 rfl)))
theorem t_law_1l0 (st : Stor)  (v_script : (List Int)) (row_1 : O) (c_row_1 : O) (i_1 : Nat) (x_1 : Int) (h2 : Row row_1) (h4 : (rg (0 : Int) (10 : Int))[i_1]? = some x_1) (h3 : (Row c_row_1)) (h5 : x_1 ∈ (rg (0 : Int) (10 : Int))) (h6 : Row c_row_1) : Wp (sSeq (sSet 3 (eArgs (eCons (eV 1) (eCons (eArgs (eCons (eC .none) (eCons (eC (.int 7)) (eCons (eC (.str "x")) (eCons (eArgs (eCons (eC (.int 1)) (eCons (eC (.int 2)) eNil)) kTup) (eCons (eC (.bool true)) (eCons (eArgs (eCons (eV 1) (eCons (eBin (g2 dPow) (eC (.int 10)) (eC (.int 9))) eNil)) (kLen 2 F__law_taken)) eNil)))))) kLst) eNil)) (kLen 2 F__law_pick))) (sSeq (sSet 4 (eArgs (eCons (eV 1) (eCons (eArgs (eCons (eArgs eNil kTup) (eCons (eArgs (eCons (eC (.str "a")) eNil) kTup) eNil)) kLst) eNil)) (kLen 2 F__law_pick))) (sSeq (sSet 5 (eArgs (eCons (eV 2) (eCons (eV 3) (eCons (eV 4) eNil))) (kLen 3 F__law_raised))) (sSeq (sIf (eOrT (asB (eBin (g2 dIs) (eV 5) (eC .none))) (asB (eBin (g2 dNe) (eBin (g2 dIx) (eV 5) (eC (.int 0))) (eLc false [8] (nl (eRange1 (eCons (eC (.int 10)) eNil))) (tName 8) eYes (eBin (g2 dEq) (eV 8) (eV 2)))))) (sRet (eC (.bool false))) sNil) (sSeq (sSet 6 (eV 3)) (sSeq (sIf (asB (eBin (g2 dEq) (eV 2) (eC (.int 8)))) (sSet 6 (eArgs (eCons (eV 3) (eCons (eV 4) eNil)) kTup)) sNil) (sIf (eAndT (asB (eBin (g2 (dCmp fun i j => decide (i < j))) (eV 2) (eC (.int 9)))) (eOrT (asB (eBin (g2 dNe) (eBin (g2 dIx) (eV 5) (eC (.int 1))) (eV 6))) (asB (eBin (g2 dNe) (eUn (g1 (bIsi ["bool"])) (eBin (g2 dIx) (eV 5) (eC (.int 1)))) (eUn (g1 (bIsi ["bool"])) (eV 6)))))) (sRet (eC (.bool false))) sNil))))))) [some (U.d (D.scr v_script)), some (U.loc (st.length + 0)), some (U.d (D.int x_1)), none, none, none, none, none, none] (st ++ [c_row_1]) (fun r => PI (fun (v : O) => [some (U.d (D.scr v_script)), some (U.loc (st.length + 0)), none, none, none, none, none, none, none]) (fun (v : O) => (st ++ [v])) (fun (v : O) => (Row v)) (fun r => ∃ v, post_law v_script v ∧ PR st.length st (D.bool v) (RS.andThen r (sSeq B_law_2 (sSeq B_law_3 B_law_4)))) (wipeR [2, 3, 4, 5, 6] r)) :=
  (by
  obtain ⟨d_1, o_1, h7, h8, h9⟩ := t__law_taken (S := (st ++ [c_row_1])) (o := c_row_1) (up := (fun o_1 => (st ++ [o_1]))) (rw_own (n := st.length) (c := 0) rfl rfl) h6 (1000000000 : Int) (by /-1-/ first | omega | grind [rg_mem])
  obtain ⟨d_2, o_2, h10, h11, h12⟩ := t__law_pick (S := (st ++ [o_1])) (o := o_1) (up := (fun o_2 => (st ++ [o_2]))) (rw_own (n := st.length) (c := 0) rfl rfl) h7 [((fun _ : Unit => D.none) ()), (D.int (7 : Int)), (D.str ("x" : PySem.Str)), (D.tuple [(D.int (1 : Int)), (D.int (2 : Int))]), (D.bool true), (D.int d_1)] (by /-2-/ first | omega | grind [rg_mem])
  exact (w_sq (sSet_o (t_call (cons_o (eV_o rfl) (cons_o (t_lst (cons_o rfl (cons_o rfl (cons_o rfl (cons_o (t_tup (cons_o rfl (cons_o rfl rfl)) rfl) (cons_o rfl (cons_o (t_call (cons_o (eV_o rfl) (cons_o (bin_o rfl rfl (g2_o rfl)) rfl)) rfl h9) rfl)))))) rfl) rfl)) rfl h12)) (t_law_1l1 st  v_script row_1 c_row_1 i_1 x_1 d_1 o_1 d_2 o_2 d_2 h2 h4 h3 h5 h6 h7 h8 h10 h11 rfl)))
theorem t_law_2 (st : Stor)  (v_script : (List Int)) (row_1 : O) (row_2 : O) (h2 : Row row_1) (h19 : (Row row_2)) (h20 : Row row_2) : Wp (sSeq B_law_2 (sSeq B_law_3 B_law_4)) [some (U.d (D.scr v_script)), some (U.loc (st.length + 0)), none, none, none, none, none, none, none] (st ++ [row_2]) (fun r => ∃ v, post_law v_script v ∧ PR st.length st (D.bool v) r) :=
  (end2 ⟨true, rfl, rfl, by simp⟩)
theorem t_law_1 (st : Stor)  (v_script : (List Int)) (row_1 : O) (h2 : Row row_1) : Wp (sSeq B_law_1 (sSeq B_law_2 (sSeq B_law_3 B_law_4))) [some (U.d (D.scr v_script)), some (U.loc (st.length + 0)), none, none, none, none, none, none, none] (st ++ [row_1]) (fun r => ∃ v, post_law v_script v ∧ PR st.length st (D.bool v) r) :=
  (w_invT (P := fun r => ∃ v, post_law v_script v ∧ PR st.length st (D.bool v) r) (fI := (nl (eRange1 (eCons (eC (.int 10)) eNil)))) (h := (tName 2)) (e := D.int) (inj := (fun (v : O) => [some (U.d (D.scr v_script)), some (U.loc (st.length + 0)), none, none, none, none, none, none, none])) (sto := (fun (v : O) => (st ++ [v]))) (s0 := row_1) (lv := none) (fun (i_1 : Nat) (v : O) => (Row v)) (i_rg1 (cons_o rfl rfl) (by /-0-/ first | omega | grind [rg_mem])) (fun _ => True.intro) (fun _ _ => rfl) h2 (fun i_1 v x_1 h4 h3 => (w_wp (t_law_1l0 st  v_script row_1 v i_1 x_1 h2 h4 h3 (List.mem_of_getElem? h4) h3))) (fun v h19 => (t_law_2 st  v_script row_1 v h2 h19 h19)))
theorem t_law_0 (st : Stor)  (v_script : (List Int))  : Wp (sSeq B_law_0 (sSeq B_law_1 (sSeq B_law_2 (sSeq B_law_3 B_law_4)))) [some (U.d (D.scr v_script)), none, none, none, none, none, none, none, none] (st ++ []) (fun r => ∃ v, post_law v_script v ∧ PR st.length st (D.bool v) r) :=
  (w_sq (sSet_o (c_new (b := st) (L := []) (n := st.length) (xs := [(D.scr v_script), (D.int (0 : Int)), (D.int (53 : Int)), (D.int (0 : Int))]) (e := fun x => x) (cons_o (eV_o rfl) (cons_o rfl (cons_o rfl (cons_o rfl rfl)))) rfl (by simp) rfl)) (t_law_1 st  v_script (O.lst [(D.scr v_script), (D.int (0 : Int)), (D.int (53 : Int)), (D.int (0 : Int))]) ⟨_, _, _, _, rfl, by decide, by decide⟩))
theorem t_law (v_script : (List Int))  (st : Stor) : ∃ v, post_law v_script v ∧ F_law [.d (D.scr v_script)] st = .ok (.d (D.bool v)) st := run_PQ (g := B_law) (n := 9) (Q := post_law v_script) (by
  have h := (t_law_0 st  v_script )
  rw [List.append_nil] at h
  exact h)
end K09
set_option maxRecDepth 100000
namespace K09
open PySem MM
theorem plain (ns : List Int) (_ : ns.length ≤ 63) : ∃ st, F_law [.d (.scr ns)] [] = .ok (.d (.bool true)) st := by
  obtain ⟨v, h1, h2⟩ := t_law ns []
  have : v = true := h1
  subst this
  exact ⟨_, h2⟩
end K09
set_option maxRecDepth 100000
set_option maxHeartbeats 100000000
namespace K09
open PySem PySem.Spec PyProof.Rows L2 MM
theorem all_mk {w : World} {K : PySem.W.Frag} {h : Heap} {mg : PySem.Str → Option Value} {fa : Addr} (X : K.In h) (G : h.Ns mainGlobals mg) (hfa : mg "law" = some (.ref fa))
    {C_NothingToUndo C_ChartError : Addr}
    {f__law_alike : Addr} {od__law_alike an__law_alike : Option Addr} {sl__law_alike : Array (Option Value)} {oc__law_alike kV__law_alike dc__law_alike pm__law_alike cd__law_alike ct__law_alike : Value}
    {f__law_taken : Addr} {od__law_taken an__law_taken : Option Addr} {sl__law_taken : Array (Option Value)} {oc__law_taken kV__law_taken dc__law_taken pm__law_taken cd__law_taken ct__law_taken : Value}
    {f__law_pick : Addr} {od__law_pick an__law_pick : Option Addr} {sl__law_pick : Array (Option Value)} {oc__law_pick kV__law_pick dc__law_pick pm__law_pick cd__law_pick ct__law_pick : Value}
    {f__law_raised : Addr} {od__law_raised an__law_raised : Option Addr} {sl__law_raised : Array (Option Value)} {oc__law_raised kV__law_raised dc__law_raised pm__law_raised cd__law_raised ct__law_raised : Value}
    {f_law : Addr} {od_law an_law : Option Addr} {sl_law : Array (Option Value)} {oc_law kV_law dc_law pm_law cd_law ct_law : Value}
    {C_BadNumber N_BadNumber e_BadNumber cc_BadNumber cda_BadNumber : Addr} {nm_BadNumber q_BadNumber : PySem.Str} {bs_BadNumber bm_BadNumber : List Value} {sn_BadNumber : List PySem.Str} {sub_BadNumber : List Value} {ab_BadNumber : Bool} {col_BadNumber : Option Bool} {dd_BadNumber : Option Addr} {m0_BadNumber m1_BadNumber m2_BadNumber m3_BadNumber m5_BadNumber : Option Value}
    {eoc_BadNumber ekV_BadNumber edc_BadNumber epm_BadNumber ect_BadNumber : Value} {eod_BadNumber ean_BadNumber : Option Addr} {esl_BadNumber : Array (Option Value)} {ccl_BadNumber cl_BadNumber : Value} {cdd_BadNumber cld_BadNumber : Option Addr} {vs_BadNumber : Array Value} {ccs_BadNumber csl_BadNumber : Array (Option Value)} {file_BadNumber : PySem.Str} {tf_BadNumber : Tok} {cdD_BadNumber : ClassData}
    {C_BadName N_BadName e_BadName cc_BadName cda_BadName : Addr} {nm_BadName q_BadName : PySem.Str} {bs_BadName bm_BadName : List Value} {sn_BadName : List PySem.Str} {sub_BadName : List Value} {ab_BadName : Bool} {col_BadName : Option Bool} {dd_BadName : Option Addr} {m0_BadName m1_BadName m2_BadName m3_BadName m5_BadName : Option Value}
    {eoc_BadName ekV_BadName edc_BadName epm_BadName ect_BadName : Value} {eod_BadName ean_BadName : Option Addr} {esl_BadName : Array (Option Value)} {ccl_BadName cl_BadName : Value} {cdd_BadName cld_BadName : Option Addr} {vs_BadName : Array Value} {ccs_BadName csl_BadName : Array (Option Value)} {file_BadName : PySem.Str} {tf_BadName : Tok} {cdD_BadName : ClassData}
    {C_BadItem N_BadItem e_BadItem cc_BadItem cda_BadItem : Addr} {nm_BadItem q_BadItem : PySem.Str} {bs_BadItem bm_BadItem : List Value} {sn_BadItem : List PySem.Str} {sub_BadItem : List Value} {ab_BadItem : Bool} {col_BadItem : Option Bool} {dd_BadItem : Option Addr} {m0_BadItem m1_BadItem m2_BadItem m3_BadItem m5_BadItem : Option Value}
    {eoc_BadItem ekV_BadItem edc_BadItem epm_BadItem ect_BadItem : Value} {eod_BadItem ean_BadItem : Option Addr} {esl_BadItem : Array (Option Value)} {ccl_BadItem cl_BadItem : Value} {cdd_BadItem cld_BadItem : Option Addr} {vs_BadItem : Array Value} {ccs_BadItem csl_BadItem : Array (Option Value)} {file_BadItem : PySem.Str} {tf_BadItem : Tok} {cdD_BadItem : ClassData}
    {C_BadEvent N_BadEvent e_BadEvent cc_BadEvent cda_BadEvent : Addr} {nm_BadEvent q_BadEvent : PySem.Str} {bs_BadEvent bm_BadEvent : List Value} {sn_BadEvent : List PySem.Str} {sub_BadEvent : List Value} {ab_BadEvent : Bool} {col_BadEvent : Option Bool} {dd_BadEvent : Option Addr} {m0_BadEvent m1_BadEvent m2_BadEvent m3_BadEvent m5_BadEvent : Option Value}
    {eoc_BadEvent ekV_BadEvent edc_BadEvent epm_BadEvent ect_BadEvent : Value} {eod_BadEvent ean_BadEvent : Option Addr} {esl_BadEvent : Array (Option Value)} {ccl_BadEvent cl_BadEvent : Value} {cdd_BadEvent cld_BadEvent : Option Addr} {vs_BadEvent : Array Value} {ccs_BadEvent csl_BadEvent : Array (Option Value)} {file_BadEvent : PySem.Str} {tf_BadEvent : Tok} {cdD_BadEvent : ClassData}
    {C_BadNote N_BadNote e_BadNote cc_BadNote cda_BadNote : Addr} {nm_BadNote q_BadNote : PySem.Str} {bs_BadNote bm_BadNote : List Value} {sn_BadNote : List PySem.Str} {sub_BadNote : List Value} {ab_BadNote : Bool} {col_BadNote : Option Bool} {dd_BadNote : Option Addr} {m0_BadNote m1_BadNote m2_BadNote m3_BadNote m5_BadNote : Option Value}
    {eoc_BadNote ekV_BadNote edc_BadNote epm_BadNote ect_BadNote : Value} {eod_BadNote ean_BadNote : Option Addr} {esl_BadNote : Array (Option Value)} {ccl_BadNote cl_BadNote : Value} {cdd_BadNote cld_BadNote : Option Addr} {vs_BadNote : Array Value} {ccs_BadNote csl_BadNote : Array (Option Value)} {file_BadNote : PySem.Str} {tf_BadNote : Tok} {cdD_BadNote : ClassData}
    {C_TooMany N_TooMany e_TooMany cc_TooMany cda_TooMany : Addr} {nm_TooMany q_TooMany : PySem.Str} {bs_TooMany bm_TooMany : List Value} {sn_TooMany : List PySem.Str} {sub_TooMany : List Value} {ab_TooMany : Bool} {col_TooMany : Option Bool} {dd_TooMany : Option Addr} {m0_TooMany m1_TooMany m2_TooMany m3_TooMany m5_TooMany : Option Value}
    {eoc_TooMany ekV_TooMany edc_TooMany epm_TooMany ect_TooMany : Value} {eod_TooMany ean_TooMany : Option Addr} {esl_TooMany : Array (Option Value)} {ccl_TooMany cl_TooMany : Value} {cdd_TooMany cld_TooMany : Option Addr} {vs_TooMany : Array Value} {ccs_TooMany csl_TooMany : Array (Option Value)} {file_TooMany : PySem.Str} {tf_TooMany : Tok} {cdD_TooMany : ClassData}
    {C_Unknown N_Unknown e_Unknown cc_Unknown cda_Unknown : Addr} {nm_Unknown q_Unknown : PySem.Str} {bs_Unknown bm_Unknown : List Value} {sn_Unknown : List PySem.Str} {sub_Unknown : List Value} {ab_Unknown : Bool} {col_Unknown : Option Bool} {dd_Unknown : Option Addr} {m0_Unknown m1_Unknown m2_Unknown m3_Unknown m5_Unknown : Option Value}
    {eoc_Unknown ekV_Unknown edc_Unknown epm_Unknown ect_Unknown : Value} {eod_Unknown ean_Unknown : Option Addr} {esl_Unknown : Array (Option Value)} {ccl_Unknown cl_Unknown : Value} {cdd_Unknown cld_Unknown : Option Addr} {vs_Unknown : Array Value} {ccs_Unknown csl_Unknown : Array (Option Value)} {file_Unknown : PySem.Str} {tf_Unknown : Tok} {cdD_Unknown : ClassData}
    {C_Taken N_Taken e_Taken cc_Taken cda_Taken : Addr} {nm_Taken q_Taken : PySem.Str} {bs_Taken bm_Taken : List Value} {sn_Taken : List PySem.Str} {sub_Taken : List Value} {ab_Taken : Bool} {col_Taken : Option Bool} {dd_Taken : Option Addr} {m0_Taken m1_Taken m2_Taken m3_Taken m5_Taken : Option Value}
    {eoc_Taken ekV_Taken edc_Taken epm_Taken ect_Taken : Value} {eod_Taken ean_Taken : Option Addr} {esl_Taken : Array (Option Value)} {ccl_Taken cl_Taken : Value} {cdd_Taken cld_Taken : Option Addr} {vs_Taken : Array Value} {ccs_Taken csl_Taken : Array (Option Value)} {file_Taken : PySem.Str} {tf_Taken : Tok} {cdD_Taken : ClassData}
    {C_Refused N_Refused e_Refused cc_Refused cda_Refused : Addr} {nm_Refused q_Refused : PySem.Str} {bs_Refused bm_Refused : List Value} {sn_Refused : List PySem.Str} {sub_Refused : List Value} {ab_Refused : Bool} {col_Refused : Option Bool} {dd_Refused : Option Addr} {m0_Refused m1_Refused m2_Refused m3_Refused m5_Refused : Option Value}
    {eoc_Refused ekV_Refused edc_Refused epm_Refused ect_Refused : Value} {eod_Refused ean_Refused : Option Addr} {esl_Refused : Array (Option Value)} {ccl_Refused cl_Refused : Value} {cdd_Refused cld_Refused : Option Addr} {vs_Refused : Array Value} {ccs_Refused csl_Refused : Array (Option Value)} {file_Refused : PySem.Str} {tf_Refused : Tok} {cdD_Refused : ClassData}
    (a__law_alike : PySem.W.nsIn K mainGlobals "_law_alike" = some (some (.ref f__law_alike)))
    (l__law_alike : K.lookup f__law_alike = some ⟨oc__law_alike, od__law_alike, .func (PySem.W.fnOf "_law_alike" "_law_alike" (defArgs s__law_alike) (defBody s__law_alike) (defScope s__law_alike) .none kV__law_alike dc__law_alike pm__law_alike an__law_alike cd__law_alike ct__law_alike), sl__law_alike⟩)
    (c__law_alike : PySem.W.codeIn K cd__law_alike "_law_alike" = true)
    (k__law_alike : PySem.W.keepIn K (.ref f__law_alike) = true)
    (a__law_taken : PySem.W.nsIn K mainGlobals "_law_taken" = some (some (.ref f__law_taken)))
    (l__law_taken : K.lookup f__law_taken = some ⟨oc__law_taken, od__law_taken, .func (PySem.W.fnOf "_law_taken" "_law_taken" (defArgs s__law_taken) (defBody s__law_taken) (defScope s__law_taken) .none kV__law_taken dc__law_taken pm__law_taken an__law_taken cd__law_taken ct__law_taken), sl__law_taken⟩)
    (c__law_taken : PySem.W.codeIn K cd__law_taken "_law_taken" = true)
    (k__law_taken : PySem.W.keepIn K (.ref f__law_taken) = true)
    (a__law_pick : PySem.W.nsIn K mainGlobals "_law_pick" = some (some (.ref f__law_pick)))
    (l__law_pick : K.lookup f__law_pick = some ⟨oc__law_pick, od__law_pick, .func (PySem.W.fnOf "_law_pick" "_law_pick" (defArgs s__law_pick) (defBody s__law_pick) (defScope s__law_pick) .none kV__law_pick dc__law_pick pm__law_pick an__law_pick cd__law_pick ct__law_pick), sl__law_pick⟩)
    (c__law_pick : PySem.W.codeIn K cd__law_pick "_law_pick" = true)
    (k__law_pick : PySem.W.keepIn K (.ref f__law_pick) = true)
    (a__law_raised : PySem.W.nsIn K mainGlobals "_law_raised" = some (some (.ref f__law_raised)))
    (l__law_raised : K.lookup f__law_raised = some ⟨oc__law_raised, od__law_raised, .func (PySem.W.fnOf "_law_raised" "_law_raised" (defArgs s__law_raised) (defBody s__law_raised) (defScope s__law_raised) .none kV__law_raised dc__law_raised pm__law_raised an__law_raised cd__law_raised ct__law_raised), sl__law_raised⟩)
    (c__law_raised : PySem.W.codeIn K cd__law_raised "_law_raised" = true)
    (k__law_raised : PySem.W.keepIn K (.ref f__law_raised) = true)
    (a_law : PySem.W.nsIn K mainGlobals "law" = some (some (.ref f_law)))
    (l_law : K.lookup f_law = some ⟨oc_law, od_law, .func (PySem.W.fnOf "law" "law" (defArgs s_law) (defBody s_law) (defScope s_law) .none kV_law dc_law pm_law an_law cd_law ct_law), sl_law⟩)
    (c_law : PySem.W.codeIn K cd_law "law" = true)
    (k_law : PySem.W.keepIn K (.ref f_law) = true)
    (a_BadNumber : PySem.W.nsIn K mainGlobals "BadNumber" = some (some (.ref C_BadNumber)))
    (x_BadNumber : K.lookup C_BadNumber = some (excClassObj nm_BadNumber q_BadNumber C_BadNumber N_BadNumber bs_BadNumber bm_BadNumber true sn_BadNumber sub_BadNumber ab_BadNumber col_BadNumber dd_BadNumber m0_BadNumber m1_BadNumber m2_BadNumber m3_BadNumber m5_BadNumber "ValueError.__new__"))
    (rv_BadNumber : PySem.HandSPX.refsVE bm_BadNumber = true)
    (sa_BadNumber : PySem.W.findIn K (.ref C_BadNumber) "__setattr__" = some (some (.builtin "object.__setattr__")))
    (ga_BadNumber : PySem.W.findIn K (.ref C_BadNumber) "__getattribute__" = some (some (.builtin "BaseException.__getattribute__")))
    (gg_BadNumber : PySem.W.findIn K (.ref C_BadNumber) "__getattr__" = some none)
    (eC_BadNumber : PySem.W.subIn K (.ref C_BadNumber) (.type "BaseException") = some true)
    (tC_BadNumber : PySem.W.typeIn K (.ref C_BadNumber) = some (.type "type"))
    (kC_BadNumber : PySem.W.keepIn K (.ref C_BadNumber) = true)
    (hC_BadNumber : PySem.W.hasDictIn K C_BadNumber = true)
    (nf_BadNumber_value : PySem.W.findIn K (.ref C_BadNumber) "value" = some none)
    (iI_BadNumber : PySem.W.findIn K (.ref C_BadNumber) "__init__" = some (some (.ref e_BadNumber)))
    (tI_BadNumber : PySem.W.typeIn K (.ref e_BadNumber) = some (.type "function"))
    (l_BadNumber : K.lookup e_BadNumber = some ⟨eoc_BadNumber, eod_BadNumber, .func (PySem.W.ksFn "__init__" "BadNumber.__init__" (defArgs i_BadNumber) (defBody i_BadNumber) (defScope i_BadNumber) .none ekV_BadNumber edc_BadNumber epm_BadNumber ean_BadNumber (.ref cda_BadNumber) ect_BadNumber cc_BadNumber), esl_BadNumber⟩)
    (ci_BadNumber : PySem.W.codeIn K (.ref cda_BadNumber) "BadNumber.__init__" = true)
    (co_BadNumber : K.lookup cda_BadNumber = some ⟨ccl_BadNumber, cdd_BadNumber, .fields vs_BadNumber, ccs_BadNumber⟩)
    (cv_BadNumber : vs_BadNumber[2]? = some (.str file_BadNumber tf_BadNumber))
    (cf_BadNumber : ((PySem.Challenge.pw_chartways_k09_errors.main.file : PySem.Str) == file_BadNumber) = true)
    (ce_BadNumber : K.lookup cc_BadNumber = some ⟨cl_BadNumber, cld_BadNumber, .cell (some (.ref C_BadNumber)), csl_BadNumber⟩)
    (cls_BadNumber : PySem.W.clsIn K C_BadNumber = some cdD_BadNumber)
    (ms_BadNumber : PySem.W.mroIn K C_BadNumber (.ref C_BadNumber) = some true)
    (sI_BadNumber : PySem.W.ks_superIn K C_BadNumber C_BadNumber "__init__" = some (some (.builtin "ValueError.__init__")))
    (sv_BadNumber : PySem.W.subIn K (.ref C_BadNumber) (.type "ValueError") = some true)
    (ic_BadNumber : PySem.W.isClsIn K C_BadNumber = true)
    (sS_BadNumber : PySem.W.subIn K (.ref C_BadNumber) (.ref C_BadNumber) = some true)
    (a_BadName : PySem.W.nsIn K mainGlobals "BadName" = some (some (.ref C_BadName)))
    (x_BadName : K.lookup C_BadName = some (excClassObj nm_BadName q_BadName C_BadName N_BadName bs_BadName bm_BadName true sn_BadName sub_BadName ab_BadName col_BadName dd_BadName m0_BadName m1_BadName m2_BadName m3_BadName m5_BadName "ValueError.__new__"))
    (rv_BadName : PySem.HandSPX.refsVE bm_BadName = true)
    (sa_BadName : PySem.W.findIn K (.ref C_BadName) "__setattr__" = some (some (.builtin "object.__setattr__")))
    (ga_BadName : PySem.W.findIn K (.ref C_BadName) "__getattribute__" = some (some (.builtin "BaseException.__getattribute__")))
    (gg_BadName : PySem.W.findIn K (.ref C_BadName) "__getattr__" = some none)
    (eC_BadName : PySem.W.subIn K (.ref C_BadName) (.type "BaseException") = some true)
    (tC_BadName : PySem.W.typeIn K (.ref C_BadName) = some (.type "type"))
    (kC_BadName : PySem.W.keepIn K (.ref C_BadName) = true)
    (hC_BadName : PySem.W.hasDictIn K C_BadName = true)
    (nf_BadName_value : PySem.W.findIn K (.ref C_BadName) "value" = some none)
    (iI_BadName : PySem.W.findIn K (.ref C_BadName) "__init__" = some (some (.ref e_BadName)))
    (tI_BadName : PySem.W.typeIn K (.ref e_BadName) = some (.type "function"))
    (l_BadName : K.lookup e_BadName = some ⟨eoc_BadName, eod_BadName, .func (PySem.W.ksFn "__init__" "BadName.__init__" (defArgs i_BadName) (defBody i_BadName) (defScope i_BadName) .none ekV_BadName edc_BadName epm_BadName ean_BadName (.ref cda_BadName) ect_BadName cc_BadName), esl_BadName⟩)
    (ci_BadName : PySem.W.codeIn K (.ref cda_BadName) "BadName.__init__" = true)
    (co_BadName : K.lookup cda_BadName = some ⟨ccl_BadName, cdd_BadName, .fields vs_BadName, ccs_BadName⟩)
    (cv_BadName : vs_BadName[2]? = some (.str file_BadName tf_BadName))
    (cf_BadName : ((PySem.Challenge.pw_chartways_k09_errors.main.file : PySem.Str) == file_BadName) = true)
    (ce_BadName : K.lookup cc_BadName = some ⟨cl_BadName, cld_BadName, .cell (some (.ref C_BadName)), csl_BadName⟩)
    (cls_BadName : PySem.W.clsIn K C_BadName = some cdD_BadName)
    (ms_BadName : PySem.W.mroIn K C_BadName (.ref C_BadName) = some true)
    (sI_BadName : PySem.W.ks_superIn K C_BadName C_BadName "__init__" = some (some (.builtin "ValueError.__init__")))
    (sv_BadName : PySem.W.subIn K (.ref C_BadName) (.type "ValueError") = some true)
    (ic_BadName : PySem.W.isClsIn K C_BadName = true)
    (sS_BadName : PySem.W.subIn K (.ref C_BadName) (.ref C_BadName) = some true)
    (a_BadItem : PySem.W.nsIn K mainGlobals "BadItem" = some (some (.ref C_BadItem)))
    (x_BadItem : K.lookup C_BadItem = some (excClassObj nm_BadItem q_BadItem C_BadItem N_BadItem bs_BadItem bm_BadItem true sn_BadItem sub_BadItem ab_BadItem col_BadItem dd_BadItem m0_BadItem m1_BadItem m2_BadItem m3_BadItem m5_BadItem "ValueError.__new__"))
    (rv_BadItem : PySem.HandSPX.refsVE bm_BadItem = true)
    (sa_BadItem : PySem.W.findIn K (.ref C_BadItem) "__setattr__" = some (some (.builtin "object.__setattr__")))
    (ga_BadItem : PySem.W.findIn K (.ref C_BadItem) "__getattribute__" = some (some (.builtin "BaseException.__getattribute__")))
    (gg_BadItem : PySem.W.findIn K (.ref C_BadItem) "__getattr__" = some none)
    (eC_BadItem : PySem.W.subIn K (.ref C_BadItem) (.type "BaseException") = some true)
    (tC_BadItem : PySem.W.typeIn K (.ref C_BadItem) = some (.type "type"))
    (kC_BadItem : PySem.W.keepIn K (.ref C_BadItem) = true)
    (hC_BadItem : PySem.W.hasDictIn K C_BadItem = true)
    (nf_BadItem_index : PySem.W.findIn K (.ref C_BadItem) "index" = some none)
    (iI_BadItem : PySem.W.findIn K (.ref C_BadItem) "__init__" = some (some (.ref e_BadItem)))
    (tI_BadItem : PySem.W.typeIn K (.ref e_BadItem) = some (.type "function"))
    (l_BadItem : K.lookup e_BadItem = some ⟨eoc_BadItem, eod_BadItem, .func (PySem.W.ksFn "__init__" "BadItem.__init__" (defArgs i_BadItem) (defBody i_BadItem) (defScope i_BadItem) .none ekV_BadItem edc_BadItem epm_BadItem ean_BadItem (.ref cda_BadItem) ect_BadItem cc_BadItem), esl_BadItem⟩)
    (ci_BadItem : PySem.W.codeIn K (.ref cda_BadItem) "BadItem.__init__" = true)
    (co_BadItem : K.lookup cda_BadItem = some ⟨ccl_BadItem, cdd_BadItem, .fields vs_BadItem, ccs_BadItem⟩)
    (cv_BadItem : vs_BadItem[2]? = some (.str file_BadItem tf_BadItem))
    (cf_BadItem : ((PySem.Challenge.pw_chartways_k09_errors.main.file : PySem.Str) == file_BadItem) = true)
    (ce_BadItem : K.lookup cc_BadItem = some ⟨cl_BadItem, cld_BadItem, .cell (some (.ref C_BadItem)), csl_BadItem⟩)
    (cls_BadItem : PySem.W.clsIn K C_BadItem = some cdD_BadItem)
    (ms_BadItem : PySem.W.mroIn K C_BadItem (.ref C_BadItem) = some true)
    (sI_BadItem : PySem.W.ks_superIn K C_BadItem C_BadItem "__init__" = some (some (.builtin "ValueError.__init__")))
    (sv_BadItem : PySem.W.subIn K (.ref C_BadItem) (.type "ValueError") = some true)
    (ic_BadItem : PySem.W.isClsIn K C_BadItem = true)
    (sS_BadItem : PySem.W.subIn K (.ref C_BadItem) (.ref C_BadItem) = some true)
    (a_BadEvent : PySem.W.nsIn K mainGlobals "BadEvent" = some (some (.ref C_BadEvent)))
    (x_BadEvent : K.lookup C_BadEvent = some (excClassObj nm_BadEvent q_BadEvent C_BadEvent N_BadEvent bs_BadEvent bm_BadEvent true sn_BadEvent sub_BadEvent ab_BadEvent col_BadEvent dd_BadEvent m0_BadEvent m1_BadEvent m2_BadEvent m3_BadEvent m5_BadEvent "ValueError.__new__"))
    (rv_BadEvent : PySem.HandSPX.refsVE bm_BadEvent = true)
    (sa_BadEvent : PySem.W.findIn K (.ref C_BadEvent) "__setattr__" = some (some (.builtin "object.__setattr__")))
    (ga_BadEvent : PySem.W.findIn K (.ref C_BadEvent) "__getattribute__" = some (some (.builtin "BaseException.__getattribute__")))
    (gg_BadEvent : PySem.W.findIn K (.ref C_BadEvent) "__getattr__" = some none)
    (eC_BadEvent : PySem.W.subIn K (.ref C_BadEvent) (.type "BaseException") = some true)
    (tC_BadEvent : PySem.W.typeIn K (.ref C_BadEvent) = some (.type "type"))
    (kC_BadEvent : PySem.W.keepIn K (.ref C_BadEvent) = true)
    (hC_BadEvent : PySem.W.hasDictIn K C_BadEvent = true)
    (nf_BadEvent_value : PySem.W.findIn K (.ref C_BadEvent) "value" = some none)
    (iI_BadEvent : PySem.W.findIn K (.ref C_BadEvent) "__init__" = some (some (.ref e_BadEvent)))
    (tI_BadEvent : PySem.W.typeIn K (.ref e_BadEvent) = some (.type "function"))
    (l_BadEvent : K.lookup e_BadEvent = some ⟨eoc_BadEvent, eod_BadEvent, .func (PySem.W.ksFn "__init__" "BadEvent.__init__" (defArgs i_BadEvent) (defBody i_BadEvent) (defScope i_BadEvent) .none ekV_BadEvent edc_BadEvent epm_BadEvent ean_BadEvent (.ref cda_BadEvent) ect_BadEvent cc_BadEvent), esl_BadEvent⟩)
    (ci_BadEvent : PySem.W.codeIn K (.ref cda_BadEvent) "BadEvent.__init__" = true)
    (co_BadEvent : K.lookup cda_BadEvent = some ⟨ccl_BadEvent, cdd_BadEvent, .fields vs_BadEvent, ccs_BadEvent⟩)
    (cv_BadEvent : vs_BadEvent[2]? = some (.str file_BadEvent tf_BadEvent))
    (cf_BadEvent : ((PySem.Challenge.pw_chartways_k09_errors.main.file : PySem.Str) == file_BadEvent) = true)
    (ce_BadEvent : K.lookup cc_BadEvent = some ⟨cl_BadEvent, cld_BadEvent, .cell (some (.ref C_BadEvent)), csl_BadEvent⟩)
    (cls_BadEvent : PySem.W.clsIn K C_BadEvent = some cdD_BadEvent)
    (ms_BadEvent : PySem.W.mroIn K C_BadEvent (.ref C_BadEvent) = some true)
    (sI_BadEvent : PySem.W.ks_superIn K C_BadEvent C_BadEvent "__init__" = some (some (.builtin "ValueError.__init__")))
    (sv_BadEvent : PySem.W.subIn K (.ref C_BadEvent) (.type "ValueError") = some true)
    (ic_BadEvent : PySem.W.isClsIn K C_BadEvent = true)
    (sS_BadEvent : PySem.W.subIn K (.ref C_BadEvent) (.ref C_BadEvent) = some true)
    (a_BadNote : PySem.W.nsIn K mainGlobals "BadNote" = some (some (.ref C_BadNote)))
    (x_BadNote : K.lookup C_BadNote = some (excClassObj nm_BadNote q_BadNote C_BadNote N_BadNote bs_BadNote bm_BadNote true sn_BadNote sub_BadNote ab_BadNote col_BadNote dd_BadNote m0_BadNote m1_BadNote m2_BadNote m3_BadNote m5_BadNote "ValueError.__new__"))
    (rv_BadNote : PySem.HandSPX.refsVE bm_BadNote = true)
    (sa_BadNote : PySem.W.findIn K (.ref C_BadNote) "__setattr__" = some (some (.builtin "object.__setattr__")))
    (ga_BadNote : PySem.W.findIn K (.ref C_BadNote) "__getattribute__" = some (some (.builtin "BaseException.__getattribute__")))
    (gg_BadNote : PySem.W.findIn K (.ref C_BadNote) "__getattr__" = some none)
    (eC_BadNote : PySem.W.subIn K (.ref C_BadNote) (.type "BaseException") = some true)
    (tC_BadNote : PySem.W.typeIn K (.ref C_BadNote) = some (.type "type"))
    (kC_BadNote : PySem.W.keepIn K (.ref C_BadNote) = true)
    (hC_BadNote : PySem.W.hasDictIn K C_BadNote = true)
    (nf_BadNote_line : PySem.W.findIn K (.ref C_BadNote) "line" = some none)
    (iI_BadNote : PySem.W.findIn K (.ref C_BadNote) "__init__" = some (some (.ref e_BadNote)))
    (tI_BadNote : PySem.W.typeIn K (.ref e_BadNote) = some (.type "function"))
    (l_BadNote : K.lookup e_BadNote = some ⟨eoc_BadNote, eod_BadNote, .func (PySem.W.ksFn "__init__" "BadNote.__init__" (defArgs i_BadNote) (defBody i_BadNote) (defScope i_BadNote) .none ekV_BadNote edc_BadNote epm_BadNote ean_BadNote (.ref cda_BadNote) ect_BadNote cc_BadNote), esl_BadNote⟩)
    (ci_BadNote : PySem.W.codeIn K (.ref cda_BadNote) "BadNote.__init__" = true)
    (co_BadNote : K.lookup cda_BadNote = some ⟨ccl_BadNote, cdd_BadNote, .fields vs_BadNote, ccs_BadNote⟩)
    (cv_BadNote : vs_BadNote[2]? = some (.str file_BadNote tf_BadNote))
    (cf_BadNote : ((PySem.Challenge.pw_chartways_k09_errors.main.file : PySem.Str) == file_BadNote) = true)
    (ce_BadNote : K.lookup cc_BadNote = some ⟨cl_BadNote, cld_BadNote, .cell (some (.ref C_BadNote)), csl_BadNote⟩)
    (cls_BadNote : PySem.W.clsIn K C_BadNote = some cdD_BadNote)
    (ms_BadNote : PySem.W.mroIn K C_BadNote (.ref C_BadNote) = some true)
    (sI_BadNote : PySem.W.ks_superIn K C_BadNote C_BadNote "__init__" = some (some (.builtin "ValueError.__init__")))
    (sv_BadNote : PySem.W.subIn K (.ref C_BadNote) (.type "ValueError") = some true)
    (ic_BadNote : PySem.W.isClsIn K C_BadNote = true)
    (sS_BadNote : PySem.W.subIn K (.ref C_BadNote) (.ref C_BadNote) = some true)
    (a_TooMany : PySem.W.nsIn K mainGlobals "TooMany" = some (some (.ref C_TooMany)))
    (x_TooMany : K.lookup C_TooMany = some (excClassObj nm_TooMany q_TooMany C_TooMany N_TooMany bs_TooMany bm_TooMany true sn_TooMany sub_TooMany ab_TooMany col_TooMany dd_TooMany m0_TooMany m1_TooMany m2_TooMany m3_TooMany m5_TooMany "ValueError.__new__"))
    (rv_TooMany : PySem.HandSPX.refsVE bm_TooMany = true)
    (sa_TooMany : PySem.W.findIn K (.ref C_TooMany) "__setattr__" = some (some (.builtin "object.__setattr__")))
    (ga_TooMany : PySem.W.findIn K (.ref C_TooMany) "__getattribute__" = some (some (.builtin "BaseException.__getattribute__")))
    (gg_TooMany : PySem.W.findIn K (.ref C_TooMany) "__getattr__" = some none)
    (eC_TooMany : PySem.W.subIn K (.ref C_TooMany) (.type "BaseException") = some true)
    (tC_TooMany : PySem.W.typeIn K (.ref C_TooMany) = some (.type "type"))
    (kC_TooMany : PySem.W.keepIn K (.ref C_TooMany) = true)
    (hC_TooMany : PySem.W.hasDictIn K C_TooMany = true)
    (nf_TooMany_limit : PySem.W.findIn K (.ref C_TooMany) "limit" = some none)
    (iI_TooMany : PySem.W.findIn K (.ref C_TooMany) "__init__" = some (some (.ref e_TooMany)))
    (tI_TooMany : PySem.W.typeIn K (.ref e_TooMany) = some (.type "function"))
    (l_TooMany : K.lookup e_TooMany = some ⟨eoc_TooMany, eod_TooMany, .func (PySem.W.ksFn "__init__" "TooMany.__init__" (defArgs i_TooMany) (defBody i_TooMany) (defScope i_TooMany) .none ekV_TooMany edc_TooMany epm_TooMany ean_TooMany (.ref cda_TooMany) ect_TooMany cc_TooMany), esl_TooMany⟩)
    (ci_TooMany : PySem.W.codeIn K (.ref cda_TooMany) "TooMany.__init__" = true)
    (co_TooMany : K.lookup cda_TooMany = some ⟨ccl_TooMany, cdd_TooMany, .fields vs_TooMany, ccs_TooMany⟩)
    (cv_TooMany : vs_TooMany[2]? = some (.str file_TooMany tf_TooMany))
    (cf_TooMany : ((PySem.Challenge.pw_chartways_k09_errors.main.file : PySem.Str) == file_TooMany) = true)
    (ce_TooMany : K.lookup cc_TooMany = some ⟨cl_TooMany, cld_TooMany, .cell (some (.ref C_TooMany)), csl_TooMany⟩)
    (cls_TooMany : PySem.W.clsIn K C_TooMany = some cdD_TooMany)
    (ms_TooMany : PySem.W.mroIn K C_TooMany (.ref C_TooMany) = some true)
    (sI_TooMany : PySem.W.ks_superIn K C_TooMany C_TooMany "__init__" = some (some (.builtin "ValueError.__init__")))
    (sv_TooMany : PySem.W.subIn K (.ref C_TooMany) (.type "ValueError") = some true)
    (ic_TooMany : PySem.W.isClsIn K C_TooMany = true)
    (sS_TooMany : PySem.W.subIn K (.ref C_TooMany) (.ref C_TooMany) = some true)
    (a_Unknown : PySem.W.nsIn K mainGlobals "Unknown" = some (some (.ref C_Unknown)))
    (x_Unknown : K.lookup C_Unknown = some (excClassObj nm_Unknown q_Unknown C_Unknown N_Unknown bs_Unknown bm_Unknown true sn_Unknown sub_Unknown ab_Unknown col_Unknown dd_Unknown m0_Unknown m1_Unknown m2_Unknown m3_Unknown m5_Unknown "ValueError.__new__"))
    (rv_Unknown : PySem.HandSPX.refsVE bm_Unknown = true)
    (sa_Unknown : PySem.W.findIn K (.ref C_Unknown) "__setattr__" = some (some (.builtin "object.__setattr__")))
    (ga_Unknown : PySem.W.findIn K (.ref C_Unknown) "__getattribute__" = some (some (.builtin "BaseException.__getattribute__")))
    (gg_Unknown : PySem.W.findIn K (.ref C_Unknown) "__getattr__" = some none)
    (eC_Unknown : PySem.W.subIn K (.ref C_Unknown) (.type "BaseException") = some true)
    (tC_Unknown : PySem.W.typeIn K (.ref C_Unknown) = some (.type "type"))
    (kC_Unknown : PySem.W.keepIn K (.ref C_Unknown) = true)
    (hC_Unknown : PySem.W.hasDictIn K C_Unknown = true)
    (nf_Unknown_value : PySem.W.findIn K (.ref C_Unknown) "value" = some none)
    (iI_Unknown : PySem.W.findIn K (.ref C_Unknown) "__init__" = some (some (.ref e_Unknown)))
    (tI_Unknown : PySem.W.typeIn K (.ref e_Unknown) = some (.type "function"))
    (l_Unknown : K.lookup e_Unknown = some ⟨eoc_Unknown, eod_Unknown, .func (PySem.W.ksFn "__init__" "Unknown.__init__" (defArgs i_Unknown) (defBody i_Unknown) (defScope i_Unknown) .none ekV_Unknown edc_Unknown epm_Unknown ean_Unknown (.ref cda_Unknown) ect_Unknown cc_Unknown), esl_Unknown⟩)
    (ci_Unknown : PySem.W.codeIn K (.ref cda_Unknown) "Unknown.__init__" = true)
    (co_Unknown : K.lookup cda_Unknown = some ⟨ccl_Unknown, cdd_Unknown, .fields vs_Unknown, ccs_Unknown⟩)
    (cv_Unknown : vs_Unknown[2]? = some (.str file_Unknown tf_Unknown))
    (cf_Unknown : ((PySem.Challenge.pw_chartways_k09_errors.main.file : PySem.Str) == file_Unknown) = true)
    (ce_Unknown : K.lookup cc_Unknown = some ⟨cl_Unknown, cld_Unknown, .cell (some (.ref C_Unknown)), csl_Unknown⟩)
    (cls_Unknown : PySem.W.clsIn K C_Unknown = some cdD_Unknown)
    (ms_Unknown : PySem.W.mroIn K C_Unknown (.ref C_Unknown) = some true)
    (sI_Unknown : PySem.W.ks_superIn K C_Unknown C_Unknown "__init__" = some (some (.builtin "ValueError.__init__")))
    (sv_Unknown : PySem.W.subIn K (.ref C_Unknown) (.type "ValueError") = some true)
    (ic_Unknown : PySem.W.isClsIn K C_Unknown = true)
    (sS_Unknown : PySem.W.subIn K (.ref C_Unknown) (.ref C_Unknown) = some true)
    (a_Taken : PySem.W.nsIn K mainGlobals "Taken" = some (some (.ref C_Taken)))
    (x_Taken : K.lookup C_Taken = some (excClassObj nm_Taken q_Taken C_Taken N_Taken bs_Taken bm_Taken true sn_Taken sub_Taken ab_Taken col_Taken dd_Taken m0_Taken m1_Taken m2_Taken m3_Taken m5_Taken "ValueError.__new__"))
    (rv_Taken : PySem.HandSPX.refsVE bm_Taken = true)
    (sa_Taken : PySem.W.findIn K (.ref C_Taken) "__setattr__" = some (some (.builtin "object.__setattr__")))
    (ga_Taken : PySem.W.findIn K (.ref C_Taken) "__getattribute__" = some (some (.builtin "BaseException.__getattribute__")))
    (gg_Taken : PySem.W.findIn K (.ref C_Taken) "__getattr__" = some none)
    (eC_Taken : PySem.W.subIn K (.ref C_Taken) (.type "BaseException") = some true)
    (tC_Taken : PySem.W.typeIn K (.ref C_Taken) = some (.type "type"))
    (kC_Taken : PySem.W.keepIn K (.ref C_Taken) = true)
    (hC_Taken : PySem.W.hasDictIn K C_Taken = true)
    (nf_Taken_value : PySem.W.findIn K (.ref C_Taken) "value" = some none)
    (iI_Taken : PySem.W.findIn K (.ref C_Taken) "__init__" = some (some (.ref e_Taken)))
    (tI_Taken : PySem.W.typeIn K (.ref e_Taken) = some (.type "function"))
    (l_Taken : K.lookup e_Taken = some ⟨eoc_Taken, eod_Taken, .func (PySem.W.ksFn "__init__" "Taken.__init__" (defArgs i_Taken) (defBody i_Taken) (defScope i_Taken) .none ekV_Taken edc_Taken epm_Taken ean_Taken (.ref cda_Taken) ect_Taken cc_Taken), esl_Taken⟩)
    (ci_Taken : PySem.W.codeIn K (.ref cda_Taken) "Taken.__init__" = true)
    (co_Taken : K.lookup cda_Taken = some ⟨ccl_Taken, cdd_Taken, .fields vs_Taken, ccs_Taken⟩)
    (cv_Taken : vs_Taken[2]? = some (.str file_Taken tf_Taken))
    (cf_Taken : ((PySem.Challenge.pw_chartways_k09_errors.main.file : PySem.Str) == file_Taken) = true)
    (ce_Taken : K.lookup cc_Taken = some ⟨cl_Taken, cld_Taken, .cell (some (.ref C_Taken)), csl_Taken⟩)
    (cls_Taken : PySem.W.clsIn K C_Taken = some cdD_Taken)
    (ms_Taken : PySem.W.mroIn K C_Taken (.ref C_Taken) = some true)
    (sI_Taken : PySem.W.ks_superIn K C_Taken C_Taken "__init__" = some (some (.builtin "ValueError.__init__")))
    (sv_Taken : PySem.W.subIn K (.ref C_Taken) (.type "ValueError") = some true)
    (ic_Taken : PySem.W.isClsIn K C_Taken = true)
    (sS_Taken : PySem.W.subIn K (.ref C_Taken) (.ref C_Taken) = some true)
    (a_Refused : PySem.W.nsIn K mainGlobals "Refused" = some (some (.ref C_Refused)))
    (x_Refused : K.lookup C_Refused = some (excClassObj nm_Refused q_Refused C_Refused N_Refused bs_Refused bm_Refused true sn_Refused sub_Refused ab_Refused col_Refused dd_Refused m0_Refused m1_Refused m2_Refused m3_Refused m5_Refused "ValueError.__new__"))
    (rv_Refused : PySem.HandSPX.refsVE bm_Refused = true)
    (sa_Refused : PySem.W.findIn K (.ref C_Refused) "__setattr__" = some (some (.builtin "object.__setattr__")))
    (ga_Refused : PySem.W.findIn K (.ref C_Refused) "__getattribute__" = some (some (.builtin "BaseException.__getattribute__")))
    (gg_Refused : PySem.W.findIn K (.ref C_Refused) "__getattr__" = some none)
    (eC_Refused : PySem.W.subIn K (.ref C_Refused) (.type "BaseException") = some true)
    (tC_Refused : PySem.W.typeIn K (.ref C_Refused) = some (.type "type"))
    (kC_Refused : PySem.W.keepIn K (.ref C_Refused) = true)
    (hC_Refused : PySem.W.hasDictIn K C_Refused = true)
    (nf_Refused_reason : PySem.W.findIn K (.ref C_Refused) "reason" = some none)
    (nf_Refused_names : PySem.W.findIn K (.ref C_Refused) "names" = some none)
    (iI_Refused : PySem.W.findIn K (.ref C_Refused) "__init__" = some (some (.ref e_Refused)))
    (tI_Refused : PySem.W.typeIn K (.ref e_Refused) = some (.type "function"))
    (l_Refused : K.lookup e_Refused = some ⟨eoc_Refused, eod_Refused, .func (PySem.W.ksFn "__init__" "Refused.__init__" (defArgs i_Refused) (defBody i_Refused) (defScope i_Refused) .none ekV_Refused edc_Refused epm_Refused ean_Refused (.ref cda_Refused) ect_Refused cc_Refused), esl_Refused⟩)
    (ci_Refused : PySem.W.codeIn K (.ref cda_Refused) "Refused.__init__" = true)
    (co_Refused : K.lookup cda_Refused = some ⟨ccl_Refused, cdd_Refused, .fields vs_Refused, ccs_Refused⟩)
    (cv_Refused : vs_Refused[2]? = some (.str file_Refused tf_Refused))
    (cf_Refused : ((PySem.Challenge.pw_chartways_k09_errors.main.file : PySem.Str) == file_Refused) = true)
    (ce_Refused : K.lookup cc_Refused = some ⟨cl_Refused, cld_Refused, .cell (some (.ref C_Refused)), csl_Refused⟩)
    (cls_Refused : PySem.W.clsIn K C_Refused = some cdD_Refused)
    (ms_Refused : PySem.W.mroIn K C_Refused (.ref C_Refused) = some true)
    (sI_Refused : PySem.W.ks_superIn K C_Refused C_Refused "__init__" = some (some (.builtin "ValueError.__init__")))
    (sv_Refused : PySem.W.subIn K (.ref C_Refused) (.type "ValueError") = some true)
    (ic_Refused : PySem.W.isClsIn K C_Refused = true)
    (sS_Refused : PySem.W.subIn K (.ref C_Refused) (.ref C_Refused) = some true)
    (ss_BadName_BadNumber : PySem.W.subIn K (.ref C_BadName) (.ref C_BadNumber) = some false)
    (ss_BadItem_BadNumber : PySem.W.subIn K (.ref C_BadItem) (.ref C_BadNumber) = some false)
    (ss_BadEvent_BadNumber : PySem.W.subIn K (.ref C_BadEvent) (.ref C_BadNumber) = some false)
    (ss_BadNote_BadNumber : PySem.W.subIn K (.ref C_BadNote) (.ref C_BadNumber) = some false)
    (ss_TooMany_BadNumber : PySem.W.subIn K (.ref C_TooMany) (.ref C_BadNumber) = some false)
    (ss_Unknown_BadNumber : PySem.W.subIn K (.ref C_Unknown) (.ref C_BadNumber) = some false)
    (ss_Taken_BadNumber : PySem.W.subIn K (.ref C_Taken) (.ref C_BadNumber) = some false)
    (ss_Refused_BadNumber : PySem.W.subIn K (.ref C_Refused) (.ref C_BadNumber) = some false)
    (ss_BadNumber_BadName : PySem.W.subIn K (.ref C_BadNumber) (.ref C_BadName) = some false)
    (ss_BadItem_BadName : PySem.W.subIn K (.ref C_BadItem) (.ref C_BadName) = some false)
    (ss_BadEvent_BadName : PySem.W.subIn K (.ref C_BadEvent) (.ref C_BadName) = some false)
    (ss_BadNote_BadName : PySem.W.subIn K (.ref C_BadNote) (.ref C_BadName) = some false)
    (ss_TooMany_BadName : PySem.W.subIn K (.ref C_TooMany) (.ref C_BadName) = some false)
    (ss_Unknown_BadName : PySem.W.subIn K (.ref C_Unknown) (.ref C_BadName) = some false)
    (ss_Taken_BadName : PySem.W.subIn K (.ref C_Taken) (.ref C_BadName) = some false)
    (ss_Refused_BadName : PySem.W.subIn K (.ref C_Refused) (.ref C_BadName) = some false)
    (ss_BadNumber_BadItem : PySem.W.subIn K (.ref C_BadNumber) (.ref C_BadItem) = some false)
    (ss_BadName_BadItem : PySem.W.subIn K (.ref C_BadName) (.ref C_BadItem) = some false)
    (ss_BadEvent_BadItem : PySem.W.subIn K (.ref C_BadEvent) (.ref C_BadItem) = some false)
    (ss_BadNote_BadItem : PySem.W.subIn K (.ref C_BadNote) (.ref C_BadItem) = some false)
    (ss_TooMany_BadItem : PySem.W.subIn K (.ref C_TooMany) (.ref C_BadItem) = some false)
    (ss_Unknown_BadItem : PySem.W.subIn K (.ref C_Unknown) (.ref C_BadItem) = some false)
    (ss_Taken_BadItem : PySem.W.subIn K (.ref C_Taken) (.ref C_BadItem) = some false)
    (ss_Refused_BadItem : PySem.W.subIn K (.ref C_Refused) (.ref C_BadItem) = some false)
    (ss_BadNumber_BadEvent : PySem.W.subIn K (.ref C_BadNumber) (.ref C_BadEvent) = some false)
    (ss_BadName_BadEvent : PySem.W.subIn K (.ref C_BadName) (.ref C_BadEvent) = some false)
    (ss_BadItem_BadEvent : PySem.W.subIn K (.ref C_BadItem) (.ref C_BadEvent) = some false)
    (ss_BadNote_BadEvent : PySem.W.subIn K (.ref C_BadNote) (.ref C_BadEvent) = some false)
    (ss_TooMany_BadEvent : PySem.W.subIn K (.ref C_TooMany) (.ref C_BadEvent) = some false)
    (ss_Unknown_BadEvent : PySem.W.subIn K (.ref C_Unknown) (.ref C_BadEvent) = some false)
    (ss_Taken_BadEvent : PySem.W.subIn K (.ref C_Taken) (.ref C_BadEvent) = some false)
    (ss_Refused_BadEvent : PySem.W.subIn K (.ref C_Refused) (.ref C_BadEvent) = some false)
    (ss_BadNumber_BadNote : PySem.W.subIn K (.ref C_BadNumber) (.ref C_BadNote) = some false)
    (ss_BadName_BadNote : PySem.W.subIn K (.ref C_BadName) (.ref C_BadNote) = some false)
    (ss_BadItem_BadNote : PySem.W.subIn K (.ref C_BadItem) (.ref C_BadNote) = some false)
    (ss_BadEvent_BadNote : PySem.W.subIn K (.ref C_BadEvent) (.ref C_BadNote) = some false)
    (ss_TooMany_BadNote : PySem.W.subIn K (.ref C_TooMany) (.ref C_BadNote) = some false)
    (ss_Unknown_BadNote : PySem.W.subIn K (.ref C_Unknown) (.ref C_BadNote) = some false)
    (ss_Taken_BadNote : PySem.W.subIn K (.ref C_Taken) (.ref C_BadNote) = some false)
    (ss_Refused_BadNote : PySem.W.subIn K (.ref C_Refused) (.ref C_BadNote) = some false)
    (ss_BadNumber_TooMany : PySem.W.subIn K (.ref C_BadNumber) (.ref C_TooMany) = some false)
    (ss_BadName_TooMany : PySem.W.subIn K (.ref C_BadName) (.ref C_TooMany) = some false)
    (ss_BadItem_TooMany : PySem.W.subIn K (.ref C_BadItem) (.ref C_TooMany) = some false)
    (ss_BadEvent_TooMany : PySem.W.subIn K (.ref C_BadEvent) (.ref C_TooMany) = some false)
    (ss_BadNote_TooMany : PySem.W.subIn K (.ref C_BadNote) (.ref C_TooMany) = some false)
    (ss_Unknown_TooMany : PySem.W.subIn K (.ref C_Unknown) (.ref C_TooMany) = some false)
    (ss_Taken_TooMany : PySem.W.subIn K (.ref C_Taken) (.ref C_TooMany) = some false)
    (ss_Refused_TooMany : PySem.W.subIn K (.ref C_Refused) (.ref C_TooMany) = some false)
    (ss_BadNumber_Unknown : PySem.W.subIn K (.ref C_BadNumber) (.ref C_Unknown) = some false)
    (ss_BadName_Unknown : PySem.W.subIn K (.ref C_BadName) (.ref C_Unknown) = some false)
    (ss_BadItem_Unknown : PySem.W.subIn K (.ref C_BadItem) (.ref C_Unknown) = some false)
    (ss_BadEvent_Unknown : PySem.W.subIn K (.ref C_BadEvent) (.ref C_Unknown) = some false)
    (ss_BadNote_Unknown : PySem.W.subIn K (.ref C_BadNote) (.ref C_Unknown) = some false)
    (ss_TooMany_Unknown : PySem.W.subIn K (.ref C_TooMany) (.ref C_Unknown) = some false)
    (ss_Taken_Unknown : PySem.W.subIn K (.ref C_Taken) (.ref C_Unknown) = some false)
    (ss_Refused_Unknown : PySem.W.subIn K (.ref C_Refused) (.ref C_Unknown) = some false)
    (ss_BadNumber_Taken : PySem.W.subIn K (.ref C_BadNumber) (.ref C_Taken) = some false)
    (ss_BadName_Taken : PySem.W.subIn K (.ref C_BadName) (.ref C_Taken) = some false)
    (ss_BadItem_Taken : PySem.W.subIn K (.ref C_BadItem) (.ref C_Taken) = some false)
    (ss_BadEvent_Taken : PySem.W.subIn K (.ref C_BadEvent) (.ref C_Taken) = some false)
    (ss_BadNote_Taken : PySem.W.subIn K (.ref C_BadNote) (.ref C_Taken) = some false)
    (ss_TooMany_Taken : PySem.W.subIn K (.ref C_TooMany) (.ref C_Taken) = some false)
    (ss_Unknown_Taken : PySem.W.subIn K (.ref C_Unknown) (.ref C_Taken) = some false)
    (ss_Refused_Taken : PySem.W.subIn K (.ref C_Refused) (.ref C_Taken) = some false)
    (ss_BadNumber_Refused : PySem.W.subIn K (.ref C_BadNumber) (.ref C_Refused) = some false)
    (ss_BadName_Refused : PySem.W.subIn K (.ref C_BadName) (.ref C_Refused) = some false)
    (ss_BadItem_Refused : PySem.W.subIn K (.ref C_BadItem) (.ref C_Refused) = some false)
    (ss_BadEvent_Refused : PySem.W.subIn K (.ref C_BadEvent) (.ref C_Refused) = some false)
    (ss_BadNote_Refused : PySem.W.subIn K (.ref C_BadNote) (.ref C_Refused) = some false)
    (ss_TooMany_Refused : PySem.W.subIn K (.ref C_TooMany) (.ref C_Refused) = some false)
    (ss_Unknown_Refused : PySem.W.subIn K (.ref C_Unknown) (.ref C_Refused) = some false)
    (ss_Taken_Refused : PySem.W.subIn K (.ref C_Taken) (.ref C_Refused) = some false)
    (opq : PySem.W.nsIn K PySem.cStatics "thirdparty.any" = some none)
    (sup : PySem.W.nsIn K mainGlobals "super" = some none)
    (z_LookupError : PySem.W.nsIn K mainGlobals "LookupError" = some none)
    (z_RuntimeError : PySem.W.nsIn K mainGlobals "RuntimeError" = some none)
    (z_ValueError : PySem.W.nsIn K mainGlobals "ValueError" = some none)
    (z_bool : PySem.W.nsIn K mainGlobals "bool" = some none)
    (z_int : PySem.W.nsIn K mainGlobals "int" = some none)
    (z_isinstance : PySem.W.nsIn K mainGlobals "isinstance" = some none)
    (z_len : PySem.W.nsIn K mainGlobals "len" = some none)
    (z_list : PySem.W.nsIn K mainGlobals "list" = some none)
    (z_range : PySem.W.nsIn K mainGlobals "range" = some none)
    (z_str : PySem.W.nsIn K mainGlobals "str" = some none)
    (z_tuple : PySem.W.nsIn K mainGlobals "tuple" = some none)
    (a_NothingToUndo : PySem.W.nsIn K mainGlobals "NothingToUndo" = some (some (.ref C_NothingToUndo)))
    (eC_NothingToUndo : PySem.W.subIn K (.ref C_NothingToUndo) (.type "BaseException") = some true)
    (tC_NothingToUndo : PySem.W.typeIn K (.ref C_NothingToUndo) = some (.type "type"))
    (ic_NothingToUndo : PySem.W.isClsIn K C_NothingToUndo = true)
    (a_ChartError : PySem.W.nsIn K mainGlobals "ChartError" = some (some (.ref C_ChartError)))
    (eC_ChartError : PySem.W.subIn K (.ref C_ChartError) (.type "BaseException") = some true)
    (tC_ChartError : PySem.W.typeIn K (.ref C_ChartError) = some (.type "type"))
    (ic_ChartError : PySem.W.isClsIn K C_ChartError = true)
    (qx_NothingToUndo : PySem.W.excIn K C_NothingToUndo [.type "ValueError", .type "Exception", .type "BaseException", .type "object"] "ValueError.__new__" = true)
    (kC_NothingToUndo : PySem.W.keepIn K (.ref C_NothingToUndo) = true)
    (ga_NothingToUndo : PySem.W.findIn K (.ref C_NothingToUndo) "__getattribute__" = some (some (.builtin "BaseException.__getattribute__")))
    (gg_NothingToUndo : PySem.W.findIn K (.ref C_NothingToUndo) "__getattr__" = some none)
    (hC_NothingToUndo : PySem.W.hasDictIn K C_NothingToUndo = true)
    (sS_NothingToUndo : PySem.W.subIn K (.ref C_NothingToUndo) (.ref C_NothingToUndo) = some true)
    (spc : PySem.W.specialIn K (.builtin "object.__class__") "__get__" = some (some (.builtin "getset_descriptor.__get__")))
    (tkc : PySem.W.takesIn K (.builtin "object.__class__") = some true)
    (su_BadNumber : PySem.W.subIn K (.ref C_BadNumber) (.ref C_ChartError) = some true)
    (kx_BadNumber : PySem.W.findIn K (.ref C_BadNumber) "__class__" = some (some (.builtin "object.__class__")))
    (mo_BadNumber : PySem.W.mroIn K C_BadNumber (.type "object") = some true)
    (sb_BadNumber_ValueError : PySem.W.subIn K (.ref C_BadNumber) (.type "ValueError") = some true)
    (sb_BadNumber_LookupError : PySem.W.subIn K (.ref C_BadNumber) (.type "LookupError") = some false)
    (sb_BadNumber_RuntimeError : PySem.W.subIn K (.ref C_BadNumber) (.type "RuntimeError") = some false)
    (ss_BadNumber_NothingToUndo : PySem.W.subIn K (.ref C_BadNumber) (.ref C_NothingToUndo) = some false)
    (nf_BadNumber_index : PySem.W.findIn K (.ref C_BadNumber) "index" = some none)
    (nf_BadNumber_line : PySem.W.findIn K (.ref C_BadNumber) "line" = some none)
    (nf_BadNumber_limit : PySem.W.findIn K (.ref C_BadNumber) "limit" = some none)
    (nf_BadNumber_reason : PySem.W.findIn K (.ref C_BadNumber) "reason" = some none)
    (nf_BadNumber_names : PySem.W.findIn K (.ref C_BadNumber) "names" = some none)
    (su_BadName : PySem.W.subIn K (.ref C_BadName) (.ref C_ChartError) = some true)
    (kx_BadName : PySem.W.findIn K (.ref C_BadName) "__class__" = some (some (.builtin "object.__class__")))
    (mo_BadName : PySem.W.mroIn K C_BadName (.type "object") = some true)
    (sb_BadName_ValueError : PySem.W.subIn K (.ref C_BadName) (.type "ValueError") = some true)
    (sb_BadName_LookupError : PySem.W.subIn K (.ref C_BadName) (.type "LookupError") = some false)
    (sb_BadName_RuntimeError : PySem.W.subIn K (.ref C_BadName) (.type "RuntimeError") = some false)
    (ss_BadName_NothingToUndo : PySem.W.subIn K (.ref C_BadName) (.ref C_NothingToUndo) = some false)
    (nf_BadName_index : PySem.W.findIn K (.ref C_BadName) "index" = some none)
    (nf_BadName_line : PySem.W.findIn K (.ref C_BadName) "line" = some none)
    (nf_BadName_limit : PySem.W.findIn K (.ref C_BadName) "limit" = some none)
    (nf_BadName_reason : PySem.W.findIn K (.ref C_BadName) "reason" = some none)
    (nf_BadName_names : PySem.W.findIn K (.ref C_BadName) "names" = some none)
    (su_BadItem : PySem.W.subIn K (.ref C_BadItem) (.ref C_ChartError) = some true)
    (kx_BadItem : PySem.W.findIn K (.ref C_BadItem) "__class__" = some (some (.builtin "object.__class__")))
    (mo_BadItem : PySem.W.mroIn K C_BadItem (.type "object") = some true)
    (sb_BadItem_ValueError : PySem.W.subIn K (.ref C_BadItem) (.type "ValueError") = some true)
    (sb_BadItem_LookupError : PySem.W.subIn K (.ref C_BadItem) (.type "LookupError") = some false)
    (sb_BadItem_RuntimeError : PySem.W.subIn K (.ref C_BadItem) (.type "RuntimeError") = some false)
    (ss_BadItem_NothingToUndo : PySem.W.subIn K (.ref C_BadItem) (.ref C_NothingToUndo) = some false)
    (nf_BadItem_value : PySem.W.findIn K (.ref C_BadItem) "value" = some none)
    (nf_BadItem_line : PySem.W.findIn K (.ref C_BadItem) "line" = some none)
    (nf_BadItem_limit : PySem.W.findIn K (.ref C_BadItem) "limit" = some none)
    (nf_BadItem_reason : PySem.W.findIn K (.ref C_BadItem) "reason" = some none)
    (nf_BadItem_names : PySem.W.findIn K (.ref C_BadItem) "names" = some none)
    (su_BadEvent : PySem.W.subIn K (.ref C_BadEvent) (.ref C_ChartError) = some true)
    (kx_BadEvent : PySem.W.findIn K (.ref C_BadEvent) "__class__" = some (some (.builtin "object.__class__")))
    (mo_BadEvent : PySem.W.mroIn K C_BadEvent (.type "object") = some true)
    (sb_BadEvent_ValueError : PySem.W.subIn K (.ref C_BadEvent) (.type "ValueError") = some true)
    (sb_BadEvent_LookupError : PySem.W.subIn K (.ref C_BadEvent) (.type "LookupError") = some false)
    (sb_BadEvent_RuntimeError : PySem.W.subIn K (.ref C_BadEvent) (.type "RuntimeError") = some false)
    (ss_BadEvent_NothingToUndo : PySem.W.subIn K (.ref C_BadEvent) (.ref C_NothingToUndo) = some false)
    (nf_BadEvent_index : PySem.W.findIn K (.ref C_BadEvent) "index" = some none)
    (nf_BadEvent_line : PySem.W.findIn K (.ref C_BadEvent) "line" = some none)
    (nf_BadEvent_limit : PySem.W.findIn K (.ref C_BadEvent) "limit" = some none)
    (nf_BadEvent_reason : PySem.W.findIn K (.ref C_BadEvent) "reason" = some none)
    (nf_BadEvent_names : PySem.W.findIn K (.ref C_BadEvent) "names" = some none)
    (su_BadNote : PySem.W.subIn K (.ref C_BadNote) (.ref C_ChartError) = some true)
    (kx_BadNote : PySem.W.findIn K (.ref C_BadNote) "__class__" = some (some (.builtin "object.__class__")))
    (mo_BadNote : PySem.W.mroIn K C_BadNote (.type "object") = some true)
    (sb_BadNote_ValueError : PySem.W.subIn K (.ref C_BadNote) (.type "ValueError") = some true)
    (sb_BadNote_LookupError : PySem.W.subIn K (.ref C_BadNote) (.type "LookupError") = some false)
    (sb_BadNote_RuntimeError : PySem.W.subIn K (.ref C_BadNote) (.type "RuntimeError") = some false)
    (ss_BadNote_NothingToUndo : PySem.W.subIn K (.ref C_BadNote) (.ref C_NothingToUndo) = some false)
    (nf_BadNote_value : PySem.W.findIn K (.ref C_BadNote) "value" = some none)
    (nf_BadNote_index : PySem.W.findIn K (.ref C_BadNote) "index" = some none)
    (nf_BadNote_limit : PySem.W.findIn K (.ref C_BadNote) "limit" = some none)
    (nf_BadNote_reason : PySem.W.findIn K (.ref C_BadNote) "reason" = some none)
    (nf_BadNote_names : PySem.W.findIn K (.ref C_BadNote) "names" = some none)
    (su_TooMany : PySem.W.subIn K (.ref C_TooMany) (.ref C_ChartError) = some true)
    (kx_TooMany : PySem.W.findIn K (.ref C_TooMany) "__class__" = some (some (.builtin "object.__class__")))
    (mo_TooMany : PySem.W.mroIn K C_TooMany (.type "object") = some true)
    (sb_TooMany_ValueError : PySem.W.subIn K (.ref C_TooMany) (.type "ValueError") = some true)
    (sb_TooMany_LookupError : PySem.W.subIn K (.ref C_TooMany) (.type "LookupError") = some false)
    (sb_TooMany_RuntimeError : PySem.W.subIn K (.ref C_TooMany) (.type "RuntimeError") = some false)
    (ss_TooMany_NothingToUndo : PySem.W.subIn K (.ref C_TooMany) (.ref C_NothingToUndo) = some false)
    (nf_TooMany_value : PySem.W.findIn K (.ref C_TooMany) "value" = some none)
    (nf_TooMany_index : PySem.W.findIn K (.ref C_TooMany) "index" = some none)
    (nf_TooMany_line : PySem.W.findIn K (.ref C_TooMany) "line" = some none)
    (nf_TooMany_reason : PySem.W.findIn K (.ref C_TooMany) "reason" = some none)
    (nf_TooMany_names : PySem.W.findIn K (.ref C_TooMany) "names" = some none)
    (su_Unknown : PySem.W.subIn K (.ref C_Unknown) (.ref C_ChartError) = some true)
    (kx_Unknown : PySem.W.findIn K (.ref C_Unknown) "__class__" = some (some (.builtin "object.__class__")))
    (mo_Unknown : PySem.W.mroIn K C_Unknown (.type "object") = some true)
    (sb_Unknown_ValueError : PySem.W.subIn K (.ref C_Unknown) (.type "ValueError") = some true)
    (sb_Unknown_LookupError : PySem.W.subIn K (.ref C_Unknown) (.type "LookupError") = some false)
    (sb_Unknown_RuntimeError : PySem.W.subIn K (.ref C_Unknown) (.type "RuntimeError") = some false)
    (ss_Unknown_NothingToUndo : PySem.W.subIn K (.ref C_Unknown) (.ref C_NothingToUndo) = some false)
    (nf_Unknown_index : PySem.W.findIn K (.ref C_Unknown) "index" = some none)
    (nf_Unknown_line : PySem.W.findIn K (.ref C_Unknown) "line" = some none)
    (nf_Unknown_limit : PySem.W.findIn K (.ref C_Unknown) "limit" = some none)
    (nf_Unknown_reason : PySem.W.findIn K (.ref C_Unknown) "reason" = some none)
    (nf_Unknown_names : PySem.W.findIn K (.ref C_Unknown) "names" = some none)
    (su_Taken : PySem.W.subIn K (.ref C_Taken) (.ref C_ChartError) = some true)
    (kx_Taken : PySem.W.findIn K (.ref C_Taken) "__class__" = some (some (.builtin "object.__class__")))
    (mo_Taken : PySem.W.mroIn K C_Taken (.type "object") = some true)
    (sb_Taken_ValueError : PySem.W.subIn K (.ref C_Taken) (.type "ValueError") = some true)
    (sb_Taken_LookupError : PySem.W.subIn K (.ref C_Taken) (.type "LookupError") = some false)
    (sb_Taken_RuntimeError : PySem.W.subIn K (.ref C_Taken) (.type "RuntimeError") = some false)
    (ss_Taken_NothingToUndo : PySem.W.subIn K (.ref C_Taken) (.ref C_NothingToUndo) = some false)
    (nf_Taken_index : PySem.W.findIn K (.ref C_Taken) "index" = some none)
    (nf_Taken_line : PySem.W.findIn K (.ref C_Taken) "line" = some none)
    (nf_Taken_limit : PySem.W.findIn K (.ref C_Taken) "limit" = some none)
    (nf_Taken_reason : PySem.W.findIn K (.ref C_Taken) "reason" = some none)
    (nf_Taken_names : PySem.W.findIn K (.ref C_Taken) "names" = some none)
    (su_Refused : PySem.W.subIn K (.ref C_Refused) (.ref C_ChartError) = some true)
    (kx_Refused : PySem.W.findIn K (.ref C_Refused) "__class__" = some (some (.builtin "object.__class__")))
    (mo_Refused : PySem.W.mroIn K C_Refused (.type "object") = some true)
    (sb_Refused_ValueError : PySem.W.subIn K (.ref C_Refused) (.type "ValueError") = some true)
    (sb_Refused_LookupError : PySem.W.subIn K (.ref C_Refused) (.type "LookupError") = some false)
    (sb_Refused_RuntimeError : PySem.W.subIn K (.ref C_Refused) (.type "RuntimeError") = some false)
    (ss_Refused_NothingToUndo : PySem.W.subIn K (.ref C_Refused) (.ref C_NothingToUndo) = some false)
    (nf_Refused_value : PySem.W.findIn K (.ref C_Refused) "value" = some none)
    (nf_Refused_index : PySem.W.findIn K (.ref C_Refused) "index" = some none)
    (nf_Refused_line : PySem.W.findIn K (.ref C_Refused) "line" = some none)
    (nf_Refused_limit : PySem.W.findIn K (.ref C_Refused) "limit" = some none)
    (su_NothingToUndo : PySem.W.subIn K (.ref C_NothingToUndo) (.ref C_ChartError) = some true)
    (kx_NothingToUndo : PySem.W.findIn K (.ref C_NothingToUndo) "__class__" = some (some (.builtin "object.__class__")))
    (mo_NothingToUndo : PySem.W.mroIn K C_NothingToUndo (.type "object") = some true)
    (sb_NothingToUndo_ValueError : PySem.W.subIn K (.ref C_NothingToUndo) (.type "ValueError") = some true)
    (sb_NothingToUndo_LookupError : PySem.W.subIn K (.ref C_NothingToUndo) (.type "LookupError") = some false)
    (sb_NothingToUndo_RuntimeError : PySem.W.subIn K (.ref C_NothingToUndo) (.type "RuntimeError") = some false)
    (ss_NothingToUndo_BadNumber : PySem.W.subIn K (.ref C_NothingToUndo) (.ref C_BadNumber) = some false)
    (ss_NothingToUndo_BadName : PySem.W.subIn K (.ref C_NothingToUndo) (.ref C_BadName) = some false)
    (ss_NothingToUndo_BadItem : PySem.W.subIn K (.ref C_NothingToUndo) (.ref C_BadItem) = some false)
    (ss_NothingToUndo_BadEvent : PySem.W.subIn K (.ref C_NothingToUndo) (.ref C_BadEvent) = some false)
    (ss_NothingToUndo_BadNote : PySem.W.subIn K (.ref C_NothingToUndo) (.ref C_BadNote) = some false)
    (ss_NothingToUndo_TooMany : PySem.W.subIn K (.ref C_NothingToUndo) (.ref C_TooMany) = some false)
    (ss_NothingToUndo_Unknown : PySem.W.subIn K (.ref C_NothingToUndo) (.ref C_Unknown) = some false)
    (ss_NothingToUndo_Taken : PySem.W.subIn K (.ref C_NothingToUndo) (.ref C_Taken) = some false)
    (ss_NothingToUndo_Refused : PySem.W.subIn K (.ref C_NothingToUndo) (.ref C_Refused) = some false) :
    ∃ (fd : FuncData) (T : Nat → Addr), (∀ (s : Shared) (u : Value), BindsTo s fd ⟨[u], []⟩ [("script", u)]) ∧ ∀ base : Heap, K.In base → base.Ns mainGlobals mg → FnG PySem.Challenge.pw_chartways_k09_errors w K mg base (L2.CX PySem.Challenge.pw_chartways_k09_errors w) 4 fa fd ["script"] (spM K T 1 F_law) := by
  have e := hfa.symm.trans (PySem.W.mg_of X G a_law)
  have e2 : f_law = fa := by
    cases e
    rfl
  subst e2
  let T : Nat → Addr := fun n => match n with | 0 => C_BadNumber | 1 => C_BadName | 2 => C_BadItem | 3 => C_BadEvent | 4 => C_BadNote | 5 => C_TooMany | 6 => C_Unknown | 7 => C_Taken | 8 => C_Refused | 9 => C_NothingToUndo | 30 => C_ChartError | _ => 0
  have ox_BadNumber : OexC K C_BadNumber := ⟨⟨nm_BadNumber, q_BadNumber, N_BadNumber, bs_BadNumber, bm_BadNumber, sn_BadNumber, sub_BadNumber, ab_BadNumber, col_BadNumber, dd_BadNumber, m0_BadNumber, m1_BadNumber, m2_BadNumber, m3_BadNumber, m5_BadNumber, x_BadNumber, rv_BadNumber⟩, sa_BadNumber, eC_BadNumber, tC_BadNumber, kC_BadNumber⟩
  have sp_BadNumber : SupC PySem.Challenge.pw_chartways_k09_errors K mg C_BadNumber e_BadNumber cc_BadNumber cda_BadNumber "BadNumber.__init__" (inClass (top 2) 0) _ := ⟨ox_BadNumber, ⟨_, _, _, _, _, _, _, _, rfl, l_BadNumber⟩, ci_BadNumber, ⟨_, _, _, _, _, _, co_BadNumber, cv_BadNumber, cf_BadNumber⟩, ⟨_, _, _, ce_BadNumber⟩, ⟨_, cls_BadNumber⟩, ms_BadNumber, PySem.W.mg_none_of X G sup, opq, sI_BadNumber, sv_BadNumber, by decide +kernel⟩
  have ox_BadName : OexC K C_BadName := ⟨⟨nm_BadName, q_BadName, N_BadName, bs_BadName, bm_BadName, sn_BadName, sub_BadName, ab_BadName, col_BadName, dd_BadName, m0_BadName, m1_BadName, m2_BadName, m3_BadName, m5_BadName, x_BadName, rv_BadName⟩, sa_BadName, eC_BadName, tC_BadName, kC_BadName⟩
  have sp_BadName : SupC PySem.Challenge.pw_chartways_k09_errors K mg C_BadName e_BadName cc_BadName cda_BadName "BadName.__init__" (inClass (top 3) 0) _ := ⟨ox_BadName, ⟨_, _, _, _, _, _, _, _, rfl, l_BadName⟩, ci_BadName, ⟨_, _, _, _, _, _, co_BadName, cv_BadName, cf_BadName⟩, ⟨_, _, _, ce_BadName⟩, ⟨_, cls_BadName⟩, ms_BadName, PySem.W.mg_none_of X G sup, opq, sI_BadName, sv_BadName, by decide +kernel⟩
  have ox_BadItem : OexC K C_BadItem := ⟨⟨nm_BadItem, q_BadItem, N_BadItem, bs_BadItem, bm_BadItem, sn_BadItem, sub_BadItem, ab_BadItem, col_BadItem, dd_BadItem, m0_BadItem, m1_BadItem, m2_BadItem, m3_BadItem, m5_BadItem, x_BadItem, rv_BadItem⟩, sa_BadItem, eC_BadItem, tC_BadItem, kC_BadItem⟩
  have sp_BadItem : SupC PySem.Challenge.pw_chartways_k09_errors K mg C_BadItem e_BadItem cc_BadItem cda_BadItem "BadItem.__init__" (inClass (top 4) 0) _ := ⟨ox_BadItem, ⟨_, _, _, _, _, _, _, _, rfl, l_BadItem⟩, ci_BadItem, ⟨_, _, _, _, _, _, co_BadItem, cv_BadItem, cf_BadItem⟩, ⟨_, _, _, ce_BadItem⟩, ⟨_, cls_BadItem⟩, ms_BadItem, PySem.W.mg_none_of X G sup, opq, sI_BadItem, sv_BadItem, by decide +kernel⟩
  have ox_BadEvent : OexC K C_BadEvent := ⟨⟨nm_BadEvent, q_BadEvent, N_BadEvent, bs_BadEvent, bm_BadEvent, sn_BadEvent, sub_BadEvent, ab_BadEvent, col_BadEvent, dd_BadEvent, m0_BadEvent, m1_BadEvent, m2_BadEvent, m3_BadEvent, m5_BadEvent, x_BadEvent, rv_BadEvent⟩, sa_BadEvent, eC_BadEvent, tC_BadEvent, kC_BadEvent⟩
  have sp_BadEvent : SupC PySem.Challenge.pw_chartways_k09_errors K mg C_BadEvent e_BadEvent cc_BadEvent cda_BadEvent "BadEvent.__init__" (inClass (top 5) 0) _ := ⟨ox_BadEvent, ⟨_, _, _, _, _, _, _, _, rfl, l_BadEvent⟩, ci_BadEvent, ⟨_, _, _, _, _, _, co_BadEvent, cv_BadEvent, cf_BadEvent⟩, ⟨_, _, _, ce_BadEvent⟩, ⟨_, cls_BadEvent⟩, ms_BadEvent, PySem.W.mg_none_of X G sup, opq, sI_BadEvent, sv_BadEvent, by decide +kernel⟩
  have ox_BadNote : OexC K C_BadNote := ⟨⟨nm_BadNote, q_BadNote, N_BadNote, bs_BadNote, bm_BadNote, sn_BadNote, sub_BadNote, ab_BadNote, col_BadNote, dd_BadNote, m0_BadNote, m1_BadNote, m2_BadNote, m3_BadNote, m5_BadNote, x_BadNote, rv_BadNote⟩, sa_BadNote, eC_BadNote, tC_BadNote, kC_BadNote⟩
  have sp_BadNote : SupC PySem.Challenge.pw_chartways_k09_errors K mg C_BadNote e_BadNote cc_BadNote cda_BadNote "BadNote.__init__" (inClass (top 6) 0) _ := ⟨ox_BadNote, ⟨_, _, _, _, _, _, _, _, rfl, l_BadNote⟩, ci_BadNote, ⟨_, _, _, _, _, _, co_BadNote, cv_BadNote, cf_BadNote⟩, ⟨_, _, _, ce_BadNote⟩, ⟨_, cls_BadNote⟩, ms_BadNote, PySem.W.mg_none_of X G sup, opq, sI_BadNote, sv_BadNote, by decide +kernel⟩
  have ox_TooMany : OexC K C_TooMany := ⟨⟨nm_TooMany, q_TooMany, N_TooMany, bs_TooMany, bm_TooMany, sn_TooMany, sub_TooMany, ab_TooMany, col_TooMany, dd_TooMany, m0_TooMany, m1_TooMany, m2_TooMany, m3_TooMany, m5_TooMany, x_TooMany, rv_TooMany⟩, sa_TooMany, eC_TooMany, tC_TooMany, kC_TooMany⟩
  have sp_TooMany : SupC PySem.Challenge.pw_chartways_k09_errors K mg C_TooMany e_TooMany cc_TooMany cda_TooMany "TooMany.__init__" (inClass (top 7) 0) _ := ⟨ox_TooMany, ⟨_, _, _, _, _, _, _, _, rfl, l_TooMany⟩, ci_TooMany, ⟨_, _, _, _, _, _, co_TooMany, cv_TooMany, cf_TooMany⟩, ⟨_, _, _, ce_TooMany⟩, ⟨_, cls_TooMany⟩, ms_TooMany, PySem.W.mg_none_of X G sup, opq, sI_TooMany, sv_TooMany, by decide +kernel⟩
  have ox_Unknown : OexC K C_Unknown := ⟨⟨nm_Unknown, q_Unknown, N_Unknown, bs_Unknown, bm_Unknown, sn_Unknown, sub_Unknown, ab_Unknown, col_Unknown, dd_Unknown, m0_Unknown, m1_Unknown, m2_Unknown, m3_Unknown, m5_Unknown, x_Unknown, rv_Unknown⟩, sa_Unknown, eC_Unknown, tC_Unknown, kC_Unknown⟩
  have sp_Unknown : SupC PySem.Challenge.pw_chartways_k09_errors K mg C_Unknown e_Unknown cc_Unknown cda_Unknown "Unknown.__init__" (inClass (top 8) 0) _ := ⟨ox_Unknown, ⟨_, _, _, _, _, _, _, _, rfl, l_Unknown⟩, ci_Unknown, ⟨_, _, _, _, _, _, co_Unknown, cv_Unknown, cf_Unknown⟩, ⟨_, _, _, ce_Unknown⟩, ⟨_, cls_Unknown⟩, ms_Unknown, PySem.W.mg_none_of X G sup, opq, sI_Unknown, sv_Unknown, by decide +kernel⟩
  have ox_Taken : OexC K C_Taken := ⟨⟨nm_Taken, q_Taken, N_Taken, bs_Taken, bm_Taken, sn_Taken, sub_Taken, ab_Taken, col_Taken, dd_Taken, m0_Taken, m1_Taken, m2_Taken, m3_Taken, m5_Taken, x_Taken, rv_Taken⟩, sa_Taken, eC_Taken, tC_Taken, kC_Taken⟩
  have sp_Taken : SupC PySem.Challenge.pw_chartways_k09_errors K mg C_Taken e_Taken cc_Taken cda_Taken "Taken.__init__" (inClass (top 9) 0) _ := ⟨ox_Taken, ⟨_, _, _, _, _, _, _, _, rfl, l_Taken⟩, ci_Taken, ⟨_, _, _, _, _, _, co_Taken, cv_Taken, cf_Taken⟩, ⟨_, _, _, ce_Taken⟩, ⟨_, cls_Taken⟩, ms_Taken, PySem.W.mg_none_of X G sup, opq, sI_Taken, sv_Taken, by decide +kernel⟩
  have ox_Refused : OexC K C_Refused := ⟨⟨nm_Refused, q_Refused, N_Refused, bs_Refused, bm_Refused, sn_Refused, sub_Refused, ab_Refused, col_Refused, dd_Refused, m0_Refused, m1_Refused, m2_Refused, m3_Refused, m5_Refused, x_Refused, rv_Refused⟩, sa_Refused, eC_Refused, tC_Refused, kC_Refused⟩
  have sp_Refused : SupC PySem.Challenge.pw_chartways_k09_errors K mg C_Refused e_Refused cc_Refused cda_Refused "Refused.__init__" (inClass (top 10) 0) _ := ⟨ox_Refused, ⟨_, _, _, _, _, _, _, _, rfl, l_Refused⟩, ci_Refused, ⟨_, _, _, _, _, _, co_Refused, cv_Refused, cf_Refused⟩, ⟨_, _, _, ce_Refused⟩, ⟨_, cls_Refused⟩, ms_Refused, PySem.W.mg_none_of X G sup, opq, sI_Refused, sv_Refused, by decide +kernel⟩
  have Z : Txt K mg T f__law_alike f__law_taken f__law_pick f__law_raised f_law e_BadNumber e_BadName e_BadItem e_BadEvent e_BadNote e_TooMany e_Unknown e_Taken e_Refused :=
    { m_ChartError := PySem.W.mg_of X G a_ChartError
      te_ChartError := case9b (exm_at eC_ChartError ic_ChartError tC_ChartError su_BadNumber) (exm_at eC_ChartError ic_ChartError tC_ChartError su_BadName) (exm_at eC_ChartError ic_ChartError tC_ChartError su_BadItem) (exm_at eC_ChartError ic_ChartError tC_ChartError su_BadEvent) (exm_at eC_ChartError ic_ChartError tC_ChartError su_BadNote) (exm_at eC_ChartError ic_ChartError tC_ChartError su_TooMany) (exm_at eC_ChartError ic_ChartError tC_ChartError su_Unknown) (exm_at eC_ChartError ic_ChartError tC_ChartError su_Taken) (exm_at eC_ChartError ic_ChartError tC_ChartError su_Refused)
      xf_ChartError := case9 (⟨ga_BadNumber, gg_BadNumber, eC_BadNumber, hC_BadNumber⟩) (⟨ga_BadName, gg_BadName, eC_BadName, hC_BadName⟩) (⟨ga_BadItem, gg_BadItem, eC_BadItem, hC_BadItem⟩) (⟨ga_BadEvent, gg_BadEvent, eC_BadEvent, hC_BadEvent⟩) (⟨ga_BadNote, gg_BadNote, eC_BadNote, hC_BadNote⟩) (⟨ga_TooMany, gg_TooMany, eC_TooMany, hC_TooMany⟩) (⟨ga_Unknown, gg_Unknown, eC_Unknown, hC_Unknown⟩) (⟨ga_Taken, gg_Taken, eC_Taken, hC_Taken⟩) (⟨ga_Refused, gg_Refused, eC_Refused, hC_Refused⟩)
      nf_ChartError_value := case9 (nf_BadNumber_value) (nf_BadName_value) (nf_BadItem_value) (nf_BadEvent_value) (nf_BadNote_value) (nf_TooMany_value) (nf_Unknown_value) (nf_Taken_value) (nf_Refused_value)
      nf_ChartError_index := case9 (nf_BadNumber_index) (nf_BadName_index) (nf_BadItem_index) (nf_BadEvent_index) (nf_BadNote_index) (nf_TooMany_index) (nf_Unknown_index) (nf_Taken_index) (nf_Refused_index)
      nf_ChartError_line := case9 (nf_BadNumber_line) (nf_BadName_line) (nf_BadItem_line) (nf_BadEvent_line) (nf_BadNote_line) (nf_TooMany_line) (nf_Unknown_line) (nf_Taken_line) (nf_Refused_line)
      nf_ChartError_limit := case9 (nf_BadNumber_limit) (nf_BadName_limit) (nf_BadItem_limit) (nf_BadEvent_limit) (nf_BadNote_limit) (nf_TooMany_limit) (nf_Unknown_limit) (nf_Taken_limit) (nf_Refused_limit)
      nf_ChartError_reason := case9 (nf_BadNumber_reason) (nf_BadName_reason) (nf_BadItem_reason) (nf_BadEvent_reason) (nf_BadNote_reason) (nf_TooMany_reason) (nf_Unknown_reason) (nf_Taken_reason) (nf_Refused_reason)
      nf_ChartError_names := case9 (nf_BadNumber_names) (nf_BadName_names) (nf_BadItem_names) (nf_BadEvent_names) (nf_BadNote_names) (nf_TooMany_names) (nf_Unknown_names) (nf_Taken_names) (nf_Refused_names)
      m_NothingToUndo := PySem.W.mg_of X G a_NothingToUndo
      q_NothingToUndo := qx_NothingToUndo
      k_NothingToUndo := kC_NothingToUndo
      r1_NothingToUndo := eC_NothingToUndo
      r2_NothingToUndo := tC_NothingToUndo
      tn := exm_at eC_ChartError ic_ChartError tC_ChartError su_NothingToUndo
      ec := case9 (⟨ga_BadNumber, gg_BadNumber, eC_BadNumber, hC_BadNumber, kx_BadNumber, spc, tkc, mo_BadNumber⟩) (⟨ga_BadName, gg_BadName, eC_BadName, hC_BadName, kx_BadName, spc, tkc, mo_BadName⟩) (⟨ga_BadItem, gg_BadItem, eC_BadItem, hC_BadItem, kx_BadItem, spc, tkc, mo_BadItem⟩) (⟨ga_BadEvent, gg_BadEvent, eC_BadEvent, hC_BadEvent, kx_BadEvent, spc, tkc, mo_BadEvent⟩) (⟨ga_BadNote, gg_BadNote, eC_BadNote, hC_BadNote, kx_BadNote, spc, tkc, mo_BadNote⟩) (⟨ga_TooMany, gg_TooMany, eC_TooMany, hC_TooMany, kx_TooMany, spc, tkc, mo_TooMany⟩) (⟨ga_Unknown, gg_Unknown, eC_Unknown, hC_Unknown, kx_Unknown, spc, tkc, mo_Unknown⟩) (⟨ga_Taken, gg_Taken, eC_Taken, hC_Taken, kx_Taken, spc, tkc, mo_Taken⟩) (⟨ga_Refused, gg_Refused, eC_Refused, hC_Refused, kx_Refused, spc, tkc, mo_Refused⟩)
      ecN := ⟨ga_NothingToUndo, gg_NothingToUndo, eC_NothingToUndo, hC_NothingToUndo, kx_NothingToUndo, spc, tkc, mo_NothingToUndo⟩
      ki_BadNumber := case9k (kit_self) (kit_ne sS_BadName ss_BadName_BadNumber ic_BadNumber tC_BadNumber) (kit_ne sS_BadItem ss_BadItem_BadNumber ic_BadNumber tC_BadNumber) (kit_ne sS_BadEvent ss_BadEvent_BadNumber ic_BadNumber tC_BadNumber) (kit_ne sS_BadNote ss_BadNote_BadNumber ic_BadNumber tC_BadNumber) (kit_ne sS_TooMany ss_TooMany_BadNumber ic_BadNumber tC_BadNumber) (kit_ne sS_Unknown ss_Unknown_BadNumber ic_BadNumber tC_BadNumber) (kit_ne sS_Taken ss_Taken_BadNumber ic_BadNumber tC_BadNumber) (kit_ne sS_Refused ss_Refused_BadNumber ic_BadNumber tC_BadNumber)
      kn_BadNumber := kit_ne sS_NothingToUndo ss_NothingToUndo_BadNumber ic_BadNumber tC_BadNumber
      ki_BadName := case9k (kit_ne sS_BadNumber ss_BadNumber_BadName ic_BadName tC_BadName) (kit_self) (kit_ne sS_BadItem ss_BadItem_BadName ic_BadName tC_BadName) (kit_ne sS_BadEvent ss_BadEvent_BadName ic_BadName tC_BadName) (kit_ne sS_BadNote ss_BadNote_BadName ic_BadName tC_BadName) (kit_ne sS_TooMany ss_TooMany_BadName ic_BadName tC_BadName) (kit_ne sS_Unknown ss_Unknown_BadName ic_BadName tC_BadName) (kit_ne sS_Taken ss_Taken_BadName ic_BadName tC_BadName) (kit_ne sS_Refused ss_Refused_BadName ic_BadName tC_BadName)
      kn_BadName := kit_ne sS_NothingToUndo ss_NothingToUndo_BadName ic_BadName tC_BadName
      ki_BadItem := case9k (kit_ne sS_BadNumber ss_BadNumber_BadItem ic_BadItem tC_BadItem) (kit_ne sS_BadName ss_BadName_BadItem ic_BadItem tC_BadItem) (kit_self) (kit_ne sS_BadEvent ss_BadEvent_BadItem ic_BadItem tC_BadItem) (kit_ne sS_BadNote ss_BadNote_BadItem ic_BadItem tC_BadItem) (kit_ne sS_TooMany ss_TooMany_BadItem ic_BadItem tC_BadItem) (kit_ne sS_Unknown ss_Unknown_BadItem ic_BadItem tC_BadItem) (kit_ne sS_Taken ss_Taken_BadItem ic_BadItem tC_BadItem) (kit_ne sS_Refused ss_Refused_BadItem ic_BadItem tC_BadItem)
      kn_BadItem := kit_ne sS_NothingToUndo ss_NothingToUndo_BadItem ic_BadItem tC_BadItem
      ki_BadEvent := case9k (kit_ne sS_BadNumber ss_BadNumber_BadEvent ic_BadEvent tC_BadEvent) (kit_ne sS_BadName ss_BadName_BadEvent ic_BadEvent tC_BadEvent) (kit_ne sS_BadItem ss_BadItem_BadEvent ic_BadEvent tC_BadEvent) (kit_self) (kit_ne sS_BadNote ss_BadNote_BadEvent ic_BadEvent tC_BadEvent) (kit_ne sS_TooMany ss_TooMany_BadEvent ic_BadEvent tC_BadEvent) (kit_ne sS_Unknown ss_Unknown_BadEvent ic_BadEvent tC_BadEvent) (kit_ne sS_Taken ss_Taken_BadEvent ic_BadEvent tC_BadEvent) (kit_ne sS_Refused ss_Refused_BadEvent ic_BadEvent tC_BadEvent)
      kn_BadEvent := kit_ne sS_NothingToUndo ss_NothingToUndo_BadEvent ic_BadEvent tC_BadEvent
      ki_BadNote := case9k (kit_ne sS_BadNumber ss_BadNumber_BadNote ic_BadNote tC_BadNote) (kit_ne sS_BadName ss_BadName_BadNote ic_BadNote tC_BadNote) (kit_ne sS_BadItem ss_BadItem_BadNote ic_BadNote tC_BadNote) (kit_ne sS_BadEvent ss_BadEvent_BadNote ic_BadNote tC_BadNote) (kit_self) (kit_ne sS_TooMany ss_TooMany_BadNote ic_BadNote tC_BadNote) (kit_ne sS_Unknown ss_Unknown_BadNote ic_BadNote tC_BadNote) (kit_ne sS_Taken ss_Taken_BadNote ic_BadNote tC_BadNote) (kit_ne sS_Refused ss_Refused_BadNote ic_BadNote tC_BadNote)
      kn_BadNote := kit_ne sS_NothingToUndo ss_NothingToUndo_BadNote ic_BadNote tC_BadNote
      ki_TooMany := case9k (kit_ne sS_BadNumber ss_BadNumber_TooMany ic_TooMany tC_TooMany) (kit_ne sS_BadName ss_BadName_TooMany ic_TooMany tC_TooMany) (kit_ne sS_BadItem ss_BadItem_TooMany ic_TooMany tC_TooMany) (kit_ne sS_BadEvent ss_BadEvent_TooMany ic_TooMany tC_TooMany) (kit_ne sS_BadNote ss_BadNote_TooMany ic_TooMany tC_TooMany) (kit_self) (kit_ne sS_Unknown ss_Unknown_TooMany ic_TooMany tC_TooMany) (kit_ne sS_Taken ss_Taken_TooMany ic_TooMany tC_TooMany) (kit_ne sS_Refused ss_Refused_TooMany ic_TooMany tC_TooMany)
      kn_TooMany := kit_ne sS_NothingToUndo ss_NothingToUndo_TooMany ic_TooMany tC_TooMany
      ki_Unknown := case9k (kit_ne sS_BadNumber ss_BadNumber_Unknown ic_Unknown tC_Unknown) (kit_ne sS_BadName ss_BadName_Unknown ic_Unknown tC_Unknown) (kit_ne sS_BadItem ss_BadItem_Unknown ic_Unknown tC_Unknown) (kit_ne sS_BadEvent ss_BadEvent_Unknown ic_Unknown tC_Unknown) (kit_ne sS_BadNote ss_BadNote_Unknown ic_Unknown tC_Unknown) (kit_ne sS_TooMany ss_TooMany_Unknown ic_Unknown tC_Unknown) (kit_self) (kit_ne sS_Taken ss_Taken_Unknown ic_Unknown tC_Unknown) (kit_ne sS_Refused ss_Refused_Unknown ic_Unknown tC_Unknown)
      kn_Unknown := kit_ne sS_NothingToUndo ss_NothingToUndo_Unknown ic_Unknown tC_Unknown
      ki_Taken := case9k (kit_ne sS_BadNumber ss_BadNumber_Taken ic_Taken tC_Taken) (kit_ne sS_BadName ss_BadName_Taken ic_Taken tC_Taken) (kit_ne sS_BadItem ss_BadItem_Taken ic_Taken tC_Taken) (kit_ne sS_BadEvent ss_BadEvent_Taken ic_Taken tC_Taken) (kit_ne sS_BadNote ss_BadNote_Taken ic_Taken tC_Taken) (kit_ne sS_TooMany ss_TooMany_Taken ic_Taken tC_Taken) (kit_ne sS_Unknown ss_Unknown_Taken ic_Taken tC_Taken) (kit_self) (kit_ne sS_Refused ss_Refused_Taken ic_Taken tC_Taken)
      kn_Taken := kit_ne sS_NothingToUndo ss_NothingToUndo_Taken ic_Taken tC_Taken
      ki_Refused := case9k (kit_ne sS_BadNumber ss_BadNumber_Refused ic_Refused tC_Refused) (kit_ne sS_BadName ss_BadName_Refused ic_Refused tC_Refused) (kit_ne sS_BadItem ss_BadItem_Refused ic_Refused tC_Refused) (kit_ne sS_BadEvent ss_BadEvent_Refused ic_Refused tC_Refused) (kit_ne sS_BadNote ss_BadNote_Refused ic_Refused tC_Refused) (kit_ne sS_TooMany ss_TooMany_Refused ic_Refused tC_Refused) (kit_ne sS_Unknown ss_Unknown_Refused ic_Refused tC_Refused) (kit_ne sS_Taken ss_Taken_Refused ic_Refused tC_Refused) (kit_self)
      kn_Refused := kit_ne sS_NothingToUndo ss_NothingToUndo_Refused ic_Refused tC_Refused
      ki_NothingToUndo := case9k (kit_ne sS_BadNumber ss_BadNumber_NothingToUndo ic_NothingToUndo tC_NothingToUndo) (kit_ne sS_BadName ss_BadName_NothingToUndo ic_NothingToUndo tC_NothingToUndo) (kit_ne sS_BadItem ss_BadItem_NothingToUndo ic_NothingToUndo tC_NothingToUndo) (kit_ne sS_BadEvent ss_BadEvent_NothingToUndo ic_NothingToUndo tC_NothingToUndo) (kit_ne sS_BadNote ss_BadNote_NothingToUndo ic_NothingToUndo tC_NothingToUndo) (kit_ne sS_TooMany ss_TooMany_NothingToUndo ic_NothingToUndo tC_NothingToUndo) (kit_ne sS_Unknown ss_Unknown_NothingToUndo ic_NothingToUndo tC_NothingToUndo) (kit_ne sS_Taken ss_Taken_NothingToUndo ic_NothingToUndo tC_NothingToUndo) (kit_ne sS_Refused ss_Refused_NothingToUndo ic_NothingToUndo tC_NothingToUndo)
      kn_NothingToUndo := kit_self
      kb_ValueError := case9 (kit_bt (by decide +kernel) sb_BadNumber_ValueError) (kit_bt (by decide +kernel) sb_BadName_ValueError) (kit_bt (by decide +kernel) sb_BadItem_ValueError) (kit_bt (by decide +kernel) sb_BadEvent_ValueError) (kit_bt (by decide +kernel) sb_BadNote_ValueError) (kit_bt (by decide +kernel) sb_TooMany_ValueError) (kit_bt (by decide +kernel) sb_Unknown_ValueError) (kit_bt (by decide +kernel) sb_Taken_ValueError) (kit_bt (by decide +kernel) sb_Refused_ValueError)
      kbn_ValueError := kit_bt (by decide +kernel) sb_NothingToUndo_ValueError
      kb_LookupError := case9 (kit_bt (by decide +kernel) sb_BadNumber_LookupError) (kit_bt (by decide +kernel) sb_BadName_LookupError) (kit_bt (by decide +kernel) sb_BadItem_LookupError) (kit_bt (by decide +kernel) sb_BadEvent_LookupError) (kit_bt (by decide +kernel) sb_BadNote_LookupError) (kit_bt (by decide +kernel) sb_TooMany_LookupError) (kit_bt (by decide +kernel) sb_Unknown_LookupError) (kit_bt (by decide +kernel) sb_Taken_LookupError) (kit_bt (by decide +kernel) sb_Refused_LookupError)
      kbn_LookupError := kit_bt (by decide +kernel) sb_NothingToUndo_LookupError
      kb_RuntimeError := case9 (kit_bt (by decide +kernel) sb_BadNumber_RuntimeError) (kit_bt (by decide +kernel) sb_BadName_RuntimeError) (kit_bt (by decide +kernel) sb_BadItem_RuntimeError) (kit_bt (by decide +kernel) sb_BadEvent_RuntimeError) (kit_bt (by decide +kernel) sb_BadNote_RuntimeError) (kit_bt (by decide +kernel) sb_TooMany_RuntimeError) (kit_bt (by decide +kernel) sb_Unknown_RuntimeError) (kit_bt (by decide +kernel) sb_Taken_RuntimeError) (kit_bt (by decide +kernel) sb_Refused_RuntimeError)
      kbn_RuntimeError := kit_bt (by decide +kernel) sb_NothingToUndo_RuntimeError
      m__law_alike := PySem.W.mg_of X G a__law_alike
      k__law_alike := k__law_alike
      m__law_pick := PySem.W.mg_of X G a__law_pick
      k__law_pick := k__law_pick
      m__law_raised := PySem.W.mg_of X G a__law_raised
      k__law_raised := k__law_raised
      m__law_taken := PySem.W.mg_of X G a__law_taken
      k__law_taken := k__law_taken
      z_LookupError := PySem.W.mg_none_of X G z_LookupError
      z_RuntimeError := PySem.W.mg_none_of X G z_RuntimeError
      z_ValueError := PySem.W.mg_none_of X G z_ValueError
      z_bool := PySem.W.mg_none_of X G z_bool
      z_int := PySem.W.mg_none_of X G z_int
      z_isinstance := PySem.W.mg_none_of X G z_isinstance
      z_len := PySem.W.mg_none_of X G z_len
      z_list := PySem.W.mg_none_of X G z_list
      z_range := PySem.W.mg_none_of X G z_range
      z_str := PySem.W.mg_none_of X G z_str
      z_tuple := PySem.W.mg_none_of X G z_tuple
      m_BadNumber := PySem.W.mg_of X G a_BadNumber
      ox_BadNumber := ox_BadNumber
      iC_BadNumber := iI_BadNumber
      tI_BadNumber := tI_BadNumber
      m_BadName := PySem.W.mg_of X G a_BadName
      ox_BadName := ox_BadName
      iC_BadName := iI_BadName
      tI_BadName := tI_BadName
      m_BadItem := PySem.W.mg_of X G a_BadItem
      ox_BadItem := ox_BadItem
      iC_BadItem := iI_BadItem
      tI_BadItem := tI_BadItem
      m_BadEvent := PySem.W.mg_of X G a_BadEvent
      ox_BadEvent := ox_BadEvent
      iC_BadEvent := iI_BadEvent
      tI_BadEvent := tI_BadEvent
      m_BadNote := PySem.W.mg_of X G a_BadNote
      ox_BadNote := ox_BadNote
      iC_BadNote := iI_BadNote
      tI_BadNote := tI_BadNote
      m_TooMany := PySem.W.mg_of X G a_TooMany
      ox_TooMany := ox_TooMany
      iC_TooMany := iI_TooMany
      tI_TooMany := tI_TooMany
      m_Unknown := PySem.W.mg_of X G a_Unknown
      ox_Unknown := ox_Unknown
      iC_Unknown := iI_Unknown
      tI_Unknown := tI_Unknown
      m_Taken := PySem.W.mg_of X G a_Taken
      ox_Taken := ox_Taken
      iC_Taken := iI_Taken
      tI_Taken := tI_Taken
      m_Refused := PySem.W.mg_of X G a_Refused
      ox_Refused := ox_Refused
      iC_Refused := iI_Refused
      tI_Refused := tI_Refused }
  have u__law_alike := fun_mk (st := s__law_alike) l__law_alike c__law_alike k__law_alike
  have u__law_taken := fun_mk (st := s__law_taken) l__law_taken c__law_taken k__law_taken
  have u__law_pick := fun_mk (st := s__law_pick) l__law_pick c__law_pick k__law_pick
  have u__law_raised := fun_mk (st := s__law_raised) l__law_raised c__law_raised k__law_raised
  have u_law := fun_mk (st := s_law) l_law c_law k_law
  have b__law_alike := u__law_alike.binds (ps := P__law_alike) fun _ _ _ _ _ _ us hl => match us, hl with | [_, _], _ => rfl
  have b__law_pick := u__law_pick.binds (ps := P__law_pick) fun _ _ _ _ _ _ us hl => match us, hl with | [_, _], _ => rfl
  have b__law_raised := u__law_raised.binds (ps := P__law_raised) fun _ _ _ _ _ _ us hl => match us, hl with | [_, _, _], _ => rfl
  have b__law_taken := u__law_taken.binds (ps := P__law_taken) fun _ _ _ _ _ _ us hl => match us, hl with | [_, _], _ => rfl
  have kb0_BadNumber : KwB K (PySem.W.ksFn "__init__" "BadNumber.__init__" (defArgs (inClass (top 2) 0)) (defBody (inClass (top 2) 0)) (defScope (inClass (top 2) 0)) .none ekV_BadNumber edc_BadNumber epm_BadNumber ean_BadNumber (.ref cda_BadNumber) ect_BadNumber cc_BadNumber) PE_BadNumber ["value"] false := fun s u ws _ hl => match ws, hl with | [_], _ => .of_eq rfl
  have be_BadNumber : Binds K (PySem.W.ksFn "__init__" "BadNumber.__init__" (defArgs (inClass (top 2) 0)) (defBody (inClass (top 2) 0)) (defScope (inClass (top 2) 0)) .none ekV_BadNumber edc_BadNumber epm_BadNumber ean_BadNumber (.ref cda_BadNumber) ect_BadNumber cc_BadNumber) PE_BadNumber [] := .all fun us hl => match us, hl with | [_, _], _ => rfl
  have kb0_BadName : KwB K (PySem.W.ksFn "__init__" "BadName.__init__" (defArgs (inClass (top 3) 0)) (defBody (inClass (top 3) 0)) (defScope (inClass (top 3) 0)) .none ekV_BadName edc_BadName epm_BadName ean_BadName (.ref cda_BadName) ect_BadName cc_BadName) PE_BadName ["value"] false := fun s u ws _ hl => match ws, hl with | [_], _ => .of_eq rfl
  have be_BadName : Binds K (PySem.W.ksFn "__init__" "BadName.__init__" (defArgs (inClass (top 3) 0)) (defBody (inClass (top 3) 0)) (defScope (inClass (top 3) 0)) .none ekV_BadName edc_BadName epm_BadName ean_BadName (.ref cda_BadName) ect_BadName cc_BadName) PE_BadName [] := .all fun us hl => match us, hl with | [_, _], _ => rfl
  have kb0_BadItem : KwB K (PySem.W.ksFn "__init__" "BadItem.__init__" (defArgs (inClass (top 4) 0)) (defBody (inClass (top 4) 0)) (defScope (inClass (top 4) 0)) .none ekV_BadItem edc_BadItem epm_BadItem ean_BadItem (.ref cda_BadItem) ect_BadItem cc_BadItem) PE_BadItem ["index"] false := fun s u ws _ hl => match ws, hl with | [_], _ => .of_eq rfl
  have be_BadItem : Binds K (PySem.W.ksFn "__init__" "BadItem.__init__" (defArgs (inClass (top 4) 0)) (defBody (inClass (top 4) 0)) (defScope (inClass (top 4) 0)) .none ekV_BadItem edc_BadItem epm_BadItem ean_BadItem (.ref cda_BadItem) ect_BadItem cc_BadItem) PE_BadItem [] := .all fun us hl => match us, hl with | [_, _], _ => rfl
  have kb0_BadEvent : KwB K (PySem.W.ksFn "__init__" "BadEvent.__init__" (defArgs (inClass (top 5) 0)) (defBody (inClass (top 5) 0)) (defScope (inClass (top 5) 0)) .none ekV_BadEvent edc_BadEvent epm_BadEvent ean_BadEvent (.ref cda_BadEvent) ect_BadEvent cc_BadEvent) PE_BadEvent ["value"] false := fun s u ws _ hl => match ws, hl with | [_], _ => .of_eq rfl
  have be_BadEvent : Binds K (PySem.W.ksFn "__init__" "BadEvent.__init__" (defArgs (inClass (top 5) 0)) (defBody (inClass (top 5) 0)) (defScope (inClass (top 5) 0)) .none ekV_BadEvent edc_BadEvent epm_BadEvent ean_BadEvent (.ref cda_BadEvent) ect_BadEvent cc_BadEvent) PE_BadEvent [] := .all fun us hl => match us, hl with | [_, _], _ => rfl
  have kb0_BadNote : KwB K (PySem.W.ksFn "__init__" "BadNote.__init__" (defArgs (inClass (top 6) 0)) (defBody (inClass (top 6) 0)) (defScope (inClass (top 6) 0)) .none ekV_BadNote edc_BadNote epm_BadNote ean_BadNote (.ref cda_BadNote) ect_BadNote cc_BadNote) PE_BadNote ["line"] false := fun s u ws _ hl => match ws, hl with | [_], _ => .of_eq rfl
  have be_BadNote : Binds K (PySem.W.ksFn "__init__" "BadNote.__init__" (defArgs (inClass (top 6) 0)) (defBody (inClass (top 6) 0)) (defScope (inClass (top 6) 0)) .none ekV_BadNote edc_BadNote epm_BadNote ean_BadNote (.ref cda_BadNote) ect_BadNote cc_BadNote) PE_BadNote [] := .all fun us hl => match us, hl with | [_, _], _ => rfl
  have kb0_TooMany : KwB K (PySem.W.ksFn "__init__" "TooMany.__init__" (defArgs (inClass (top 7) 0)) (defBody (inClass (top 7) 0)) (defScope (inClass (top 7) 0)) .none ekV_TooMany edc_TooMany epm_TooMany ean_TooMany (.ref cda_TooMany) ect_TooMany cc_TooMany) PE_TooMany ["limit"] false := fun s u ws _ hl => match ws, hl with | [_], _ => .of_eq rfl
  have be_TooMany : Binds K (PySem.W.ksFn "__init__" "TooMany.__init__" (defArgs (inClass (top 7) 0)) (defBody (inClass (top 7) 0)) (defScope (inClass (top 7) 0)) .none ekV_TooMany edc_TooMany epm_TooMany ean_TooMany (.ref cda_TooMany) ect_TooMany cc_TooMany) PE_TooMany [] := .all fun us hl => match us, hl with | [_, _], _ => rfl
  have kb0_Unknown : KwB K (PySem.W.ksFn "__init__" "Unknown.__init__" (defArgs (inClass (top 8) 0)) (defBody (inClass (top 8) 0)) (defScope (inClass (top 8) 0)) .none ekV_Unknown edc_Unknown epm_Unknown ean_Unknown (.ref cda_Unknown) ect_Unknown cc_Unknown) PE_Unknown ["value"] false := fun s u ws _ hl => match ws, hl with | [_], _ => .of_eq rfl
  have be_Unknown : Binds K (PySem.W.ksFn "__init__" "Unknown.__init__" (defArgs (inClass (top 8) 0)) (defBody (inClass (top 8) 0)) (defScope (inClass (top 8) 0)) .none ekV_Unknown edc_Unknown epm_Unknown ean_Unknown (.ref cda_Unknown) ect_Unknown cc_Unknown) PE_Unknown [] := .all fun us hl => match us, hl with | [_, _], _ => rfl
  have kb0_Taken : KwB K (PySem.W.ksFn "__init__" "Taken.__init__" (defArgs (inClass (top 9) 0)) (defBody (inClass (top 9) 0)) (defScope (inClass (top 9) 0)) .none ekV_Taken edc_Taken epm_Taken ean_Taken (.ref cda_Taken) ect_Taken cc_Taken) PE_Taken ["value"] false := fun s u ws _ hl => match ws, hl with | [_], _ => .of_eq rfl
  have be_Taken : Binds K (PySem.W.ksFn "__init__" "Taken.__init__" (defArgs (inClass (top 9) 0)) (defBody (inClass (top 9) 0)) (defScope (inClass (top 9) 0)) .none ekV_Taken edc_Taken epm_Taken ean_Taken (.ref cda_Taken) ect_Taken cc_Taken) PE_Taken [] := .all fun us hl => match us, hl with | [_, _], _ => rfl
  have kb0_Refused : KwB K (PySem.W.ksFn "__init__" "Refused.__init__" (defArgs (inClass (top 10) 0)) (defBody (inClass (top 10) 0)) (defScope (inClass (top 10) 0)) .none ekV_Refused edc_Refused epm_Refused ean_Refused (.ref cda_Refused) ect_Refused cc_Refused) PE_Refused ["reason", "names"] false := fun s u ws _ hl => match ws, hl with | [_, _], _ => .of_eq rfl
  have kb1_Refused : KwB K (PySem.W.ksFn "__init__" "Refused.__init__" (defArgs (inClass (top 10) 0)) (defBody (inClass (top 10) 0)) (defScope (inClass (top 10) 0)) .none ekV_Refused edc_Refused epm_Refused ean_Refused (.ref cda_Refused) ect_Refused cc_Refused) PE_Refused ["names", "reason"] true := fun s u ws _ hl => match ws, hl with | [_, _], _ => .of_eq rfl
  have be_Refused : Binds K (PySem.W.ksFn "__init__" "Refused.__init__" (defArgs (inClass (top 10) 0)) (defBody (inClass (top 10) 0)) (defScope (inClass (top 10) 0)) .none ekV_Refused edc_Refused epm_Refused ean_Refused (.ref cda_Refused) ect_Refused cc_Refused) PE_Refused [] := .all fun us hl => match us, hl with | [_, _, _], _ => rfl
  refine ⟨PySem.W.fnOf "law" "law" (defArgs s_law) (defBody s_law) (defScope s_law) .none kV_law dc_law pm_law an_law cd_law ct_law, T, fun s v => .of_eq rfl, fun base _ _ => ?_⟩
  have E_BadNumber : FnOk PySem.Challenge.pw_chartways_k09_errors w K mg base (L2.CX PySem.Challenge.pw_chartways_k09_errors w) 1 e_BadNumber _ PE_BadNumber (spX (T 0) FE_BadNumber) := ei_BadNumber sp_BadNumber nf_BadNumber_value
  have E_BadName : FnOk PySem.Challenge.pw_chartways_k09_errors w K mg base (L2.CX PySem.Challenge.pw_chartways_k09_errors w) 1 e_BadName _ PE_BadName (spX (T 1) FE_BadName) := ei_BadName sp_BadName nf_BadName_value
  have E_BadItem : FnOk PySem.Challenge.pw_chartways_k09_errors w K mg base (L2.CX PySem.Challenge.pw_chartways_k09_errors w) 1 e_BadItem _ PE_BadItem (spX (T 2) FE_BadItem) := ei_BadItem sp_BadItem nf_BadItem_index
  have E_BadEvent : FnOk PySem.Challenge.pw_chartways_k09_errors w K mg base (L2.CX PySem.Challenge.pw_chartways_k09_errors w) 1 e_BadEvent _ PE_BadEvent (spX (T 3) FE_BadEvent) := ei_BadEvent sp_BadEvent nf_BadEvent_value
  have E_BadNote : FnOk PySem.Challenge.pw_chartways_k09_errors w K mg base (L2.CX PySem.Challenge.pw_chartways_k09_errors w) 1 e_BadNote _ PE_BadNote (spX (T 4) FE_BadNote) := ei_BadNote sp_BadNote nf_BadNote_line
  have E_TooMany : FnOk PySem.Challenge.pw_chartways_k09_errors w K mg base (L2.CX PySem.Challenge.pw_chartways_k09_errors w) 1 e_TooMany _ PE_TooMany (spX (T 5) FE_TooMany) := ei_TooMany sp_TooMany nf_TooMany_limit
  have E_Unknown : FnOk PySem.Challenge.pw_chartways_k09_errors w K mg base (L2.CX PySem.Challenge.pw_chartways_k09_errors w) 1 e_Unknown _ PE_Unknown (spX (T 6) FE_Unknown) := ei_Unknown sp_Unknown nf_Unknown_value
  have E_Taken : FnOk PySem.Challenge.pw_chartways_k09_errors w K mg base (L2.CX PySem.Challenge.pw_chartways_k09_errors w) 1 e_Taken _ PE_Taken (spX (T 7) FE_Taken) := ei_Taken sp_Taken nf_Taken_value
  have E_Refused : FnOk PySem.Challenge.pw_chartways_k09_errors w K mg base (L2.CX PySem.Challenge.pw_chartways_k09_errors w) 1 e_Refused _ PE_Refused (spX (T 8) FE_Refused) := ei_Refused sp_Refused nf_Refused_reason nf_Refused_names
  have G__law_alike := ok__law_alike (P := PySem.Challenge.pw_chartways_k09_errors) (w := w) (base := base) Z u__law_alike b__law_alike
  have G__law_taken := ok__law_taken (P := PySem.Challenge.pw_chartways_k09_errors) (w := w) (base := base) Z u__law_taken
  have G__law_pick := ok__law_pick (P := PySem.Challenge.pw_chartways_k09_errors) (w := w) (base := base) Z u__law_pick b__law_taken G__law_taken
  have G__law_raised := ok__law_raised (P := PySem.Challenge.pw_chartways_k09_errors) (w := w) (base := base) Z u__law_raised be_BadEvent be_BadItem be_BadName be_BadNote be_BadNumber be_Refused be_Taken be_TooMany be_Unknown E_BadEvent E_BadItem E_BadName E_BadNote E_BadNumber E_Refused E_Taken E_TooMany E_Unknown
  have G_law := ok_law (P := PySem.Challenge.pw_chartways_k09_errors) (w := w) (base := base) Z u_law b__law_alike b__law_pick b__law_raised b__law_taken be_BadEvent kb0_BadEvent be_BadItem kb0_BadItem be_BadName kb0_BadName be_BadNote kb0_BadNote be_BadNumber kb0_BadNumber be_Refused kb0_Refused kb1_Refused be_Taken kb0_Taken be_TooMany kb0_TooMany be_Unknown kb0_Unknown G__law_alike G__law_pick G__law_raised G__law_taken E_BadEvent E_BadItem E_BadName E_BadNote E_BadNumber E_Refused E_Taken E_TooMany E_Unknown
  exact G_law
end K09
open PySem PySem.W PyProof.Rows in
set_option maxRecDepth 100000 in
set_option maxHeartbeats 0 in
theorem PySem.Challenge.cw_chartways_k09_errors_holds : PySem.Challenge.rw_chartways_k09_errors.Holds := by
  w_on; o_law; k_head; (case hw => w_witness2)
  k_fill
  refine MM.walkM (l := PySem.Challenge.rw_chartways_k09_errors) (k := 4) (x := "script") (Fl := K09.F_law) rfl rfl ⟨rfl, by decide, by decide⟩ (fun w h Y => PySem.W.kIn_of Y) ?F K09.plain
  case F =>
    intro w mg fa h KX G hmg
    refine' K09.all_mk KX G hmg ?a__law_alike ?l__law_alike ?c__law_alike ?k__law_alike ?a__law_taken ?l__law_taken ?c__law_taken ?k__law_taken ?a__law_pick ?l__law_pick ?c__law_pick ?k__law_pick ?a__law_raised ?l__law_raised ?c__law_raised ?k__law_raised ?a_law ?l_law ?c_law ?k_law ?a_BadNumber ?x_BadNumber ?rv_BadNumber ?sa_BadNumber ?ga_BadNumber ?gg_BadNumber ?eC_BadNumber ?tC_BadNumber ?kC_BadNumber ?hC_BadNumber ?nf_BadNumber_value ?iI_BadNumber ?tI_BadNumber ?l_BadNumber ?ci_BadNumber ?co_BadNumber ?cv_BadNumber ?cf_BadNumber ?ce_BadNumber ?cls_BadNumber ?ms_BadNumber ?sI_BadNumber ?sv_BadNumber ?ic_BadNumber ?sS_BadNumber ?a_BadName ?x_BadName ?rv_BadName ?sa_BadName ?ga_BadName ?gg_BadName ?eC_BadName ?tC_BadName ?kC_BadName ?hC_BadName ?nf_BadName_value ?iI_BadName ?tI_BadName ?l_BadName ?ci_BadName ?co_BadName ?cv_BadName ?cf_BadName ?ce_BadName ?cls_BadName ?ms_BadName ?sI_BadName ?sv_BadName ?ic_BadName ?sS_BadName ?a_BadItem ?x_BadItem ?rv_BadItem ?sa_BadItem ?ga_BadItem ?gg_BadItem ?eC_BadItem ?tC_BadItem ?kC_BadItem ?hC_BadItem ?nf_BadItem_index ?iI_BadItem ?tI_BadItem ?l_BadItem ?ci_BadItem ?co_BadItem ?cv_BadItem ?cf_BadItem ?ce_BadItem ?cls_BadItem ?ms_BadItem ?sI_BadItem ?sv_BadItem ?ic_BadItem ?sS_BadItem ?a_BadEvent ?x_BadEvent ?rv_BadEvent ?sa_BadEvent ?ga_BadEvent ?gg_BadEvent ?eC_BadEvent ?tC_BadEvent ?kC_BadEvent ?hC_BadEvent ?nf_BadEvent_value ?iI_BadEvent ?tI_BadEvent ?l_BadEvent ?ci_BadEvent ?co_BadEvent ?cv_BadEvent ?cf_BadEvent ?ce_BadEvent ?cls_BadEvent ?ms_BadEvent ?sI_BadEvent ?sv_BadEvent ?ic_BadEvent ?sS_BadEvent ?a_BadNote ?x_BadNote ?rv_BadNote ?sa_BadNote ?ga_BadNote ?gg_BadNote ?eC_BadNote ?tC_BadNote ?kC_BadNote ?hC_BadNote ?nf_BadNote_line ?iI_BadNote ?tI_BadNote ?l_BadNote ?ci_BadNote ?co_BadNote ?cv_BadNote ?cf_BadNote ?ce_BadNote ?cls_BadNote ?ms_BadNote ?sI_BadNote ?sv_BadNote ?ic_BadNote ?sS_BadNote ?a_TooMany ?x_TooMany ?rv_TooMany ?sa_TooMany ?ga_TooMany ?gg_TooMany ?eC_TooMany ?tC_TooMany ?kC_TooMany ?hC_TooMany ?nf_TooMany_limit ?iI_TooMany ?tI_TooMany ?l_TooMany ?ci_TooMany ?co_TooMany ?cv_TooMany ?cf_TooMany ?ce_TooMany ?cls_TooMany ?ms_TooMany ?sI_TooMany ?sv_TooMany ?ic_TooMany ?sS_TooMany ?a_Unknown ?x_Unknown ?rv_Unknown ?sa_Unknown ?ga_Unknown ?gg_Unknown ?eC_Unknown ?tC_Unknown ?kC_Unknown ?hC_Unknown ?nf_Unknown_value ?iI_Unknown ?tI_Unknown ?l_Unknown ?ci_Unknown ?co_Unknown ?cv_Unknown ?cf_Unknown ?ce_Unknown ?cls_Unknown ?ms_Unknown ?sI_Unknown ?sv_Unknown ?ic_Unknown ?sS_Unknown ?a_Taken ?x_Taken ?rv_Taken ?sa_Taken ?ga_Taken ?gg_Taken ?eC_Taken ?tC_Taken ?kC_Taken ?hC_Taken ?nf_Taken_value ?iI_Taken ?tI_Taken ?l_Taken ?ci_Taken ?co_Taken ?cv_Taken ?cf_Taken ?ce_Taken ?cls_Taken ?ms_Taken ?sI_Taken ?sv_Taken ?ic_Taken ?sS_Taken ?a_Refused ?x_Refused ?rv_Refused ?sa_Refused ?ga_Refused ?gg_Refused ?eC_Refused ?tC_Refused ?kC_Refused ?hC_Refused ?nf_Refused_reason ?nf_Refused_names ?iI_Refused ?tI_Refused ?l_Refused ?ci_Refused ?co_Refused ?cv_Refused ?cf_Refused ?ce_Refused ?cls_Refused ?ms_Refused ?sI_Refused ?sv_Refused ?ic_Refused ?sS_Refused ?ss_BadName_BadNumber ?ss_BadItem_BadNumber ?ss_BadEvent_BadNumber ?ss_BadNote_BadNumber ?ss_TooMany_BadNumber ?ss_Unknown_BadNumber ?ss_Taken_BadNumber ?ss_Refused_BadNumber ?ss_BadNumber_BadName ?ss_BadItem_BadName ?ss_BadEvent_BadName ?ss_BadNote_BadName ?ss_TooMany_BadName ?ss_Unknown_BadName ?ss_Taken_BadName ?ss_Refused_BadName ?ss_BadNumber_BadItem ?ss_BadName_BadItem ?ss_BadEvent_BadItem ?ss_BadNote_BadItem ?ss_TooMany_BadItem ?ss_Unknown_BadItem ?ss_Taken_BadItem ?ss_Refused_BadItem ?ss_BadNumber_BadEvent ?ss_BadName_BadEvent ?ss_BadItem_BadEvent ?ss_BadNote_BadEvent ?ss_TooMany_BadEvent ?ss_Unknown_BadEvent ?ss_Taken_BadEvent ?ss_Refused_BadEvent ?ss_BadNumber_BadNote ?ss_BadName_BadNote ?ss_BadItem_BadNote ?ss_BadEvent_BadNote ?ss_TooMany_BadNote ?ss_Unknown_BadNote ?ss_Taken_BadNote ?ss_Refused_BadNote ?ss_BadNumber_TooMany ?ss_BadName_TooMany ?ss_BadItem_TooMany ?ss_BadEvent_TooMany ?ss_BadNote_TooMany ?ss_Unknown_TooMany ?ss_Taken_TooMany ?ss_Refused_TooMany ?ss_BadNumber_Unknown ?ss_BadName_Unknown ?ss_BadItem_Unknown ?ss_BadEvent_Unknown ?ss_BadNote_Unknown ?ss_TooMany_Unknown ?ss_Taken_Unknown ?ss_Refused_Unknown ?ss_BadNumber_Taken ?ss_BadName_Taken ?ss_BadItem_Taken ?ss_BadEvent_Taken ?ss_BadNote_Taken ?ss_TooMany_Taken ?ss_Unknown_Taken ?ss_Refused_Taken ?ss_BadNumber_Refused ?ss_BadName_Refused ?ss_BadItem_Refused ?ss_BadEvent_Refused ?ss_BadNote_Refused ?ss_TooMany_Refused ?ss_Unknown_Refused ?ss_Taken_Refused ?opq ?sup ?z_LookupError ?z_RuntimeError ?z_ValueError ?z_bool ?z_int ?z_isinstance ?z_len ?z_list ?z_range ?z_str ?z_tuple ?a_NothingToUndo ?eC_NothingToUndo ?tC_NothingToUndo ?ic_NothingToUndo ?a_ChartError ?eC_ChartError ?tC_ChartError ?ic_ChartError ?qx_NothingToUndo ?kC_NothingToUndo ?ga_NothingToUndo ?gg_NothingToUndo ?hC_NothingToUndo ?sS_NothingToUndo ?spc ?tkc ?su_BadNumber ?kx_BadNumber ?mo_BadNumber ?sb_BadNumber_ValueError ?sb_BadNumber_LookupError ?sb_BadNumber_RuntimeError ?ss_BadNumber_NothingToUndo ?nf_BadNumber_index ?nf_BadNumber_line ?nf_BadNumber_limit ?nf_BadNumber_reason ?nf_BadNumber_names ?su_BadName ?kx_BadName ?mo_BadName ?sb_BadName_ValueError ?sb_BadName_LookupError ?sb_BadName_RuntimeError ?ss_BadName_NothingToUndo ?nf_BadName_index ?nf_BadName_line ?nf_BadName_limit ?nf_BadName_reason ?nf_BadName_names ?su_BadItem ?kx_BadItem ?mo_BadItem ?sb_BadItem_ValueError ?sb_BadItem_LookupError ?sb_BadItem_RuntimeError ?ss_BadItem_NothingToUndo ?nf_BadItem_value ?nf_BadItem_line ?nf_BadItem_limit ?nf_BadItem_reason ?nf_BadItem_names ?su_BadEvent ?kx_BadEvent ?mo_BadEvent ?sb_BadEvent_ValueError ?sb_BadEvent_LookupError ?sb_BadEvent_RuntimeError ?ss_BadEvent_NothingToUndo ?nf_BadEvent_index ?nf_BadEvent_line ?nf_BadEvent_limit ?nf_BadEvent_reason ?nf_BadEvent_names ?su_BadNote ?kx_BadNote ?mo_BadNote ?sb_BadNote_ValueError ?sb_BadNote_LookupError ?sb_BadNote_RuntimeError ?ss_BadNote_NothingToUndo ?nf_BadNote_value ?nf_BadNote_index ?nf_BadNote_limit ?nf_BadNote_reason ?nf_BadNote_names ?su_TooMany ?kx_TooMany ?mo_TooMany ?sb_TooMany_ValueError ?sb_TooMany_LookupError ?sb_TooMany_RuntimeError ?ss_TooMany_NothingToUndo ?nf_TooMany_value ?nf_TooMany_index ?nf_TooMany_line ?nf_TooMany_reason ?nf_TooMany_names ?su_Unknown ?kx_Unknown ?mo_Unknown ?sb_Unknown_ValueError ?sb_Unknown_LookupError ?sb_Unknown_RuntimeError ?ss_Unknown_NothingToUndo ?nf_Unknown_index ?nf_Unknown_line ?nf_Unknown_limit ?nf_Unknown_reason ?nf_Unknown_names ?su_Taken ?kx_Taken ?mo_Taken ?sb_Taken_ValueError ?sb_Taken_LookupError ?sb_Taken_RuntimeError ?ss_Taken_NothingToUndo ?nf_Taken_index ?nf_Taken_line ?nf_Taken_limit ?nf_Taken_reason ?nf_Taken_names ?su_Refused ?kx_Refused ?mo_Refused ?sb_Refused_ValueError ?sb_Refused_LookupError ?sb_Refused_RuntimeError ?ss_Refused_NothingToUndo ?nf_Refused_value ?nf_Refused_index ?nf_Refused_line ?nf_Refused_limit ?su_NothingToUndo ?kx_NothingToUndo ?mo_NothingToUndo ?sb_NothingToUndo_ValueError ?sb_NothingToUndo_LookupError ?sb_NothingToUndo_RuntimeError ?ss_NothingToUndo_BadNumber ?ss_NothingToUndo_BadName ?ss_NothingToUndo_BadItem ?ss_NothingToUndo_BadEvent ?ss_NothingToUndo_BadNote ?ss_NothingToUndo_TooMany ?ss_NothingToUndo_Unknown ?ss_NothingToUndo_Taken ?ss_NothingToUndo_Refused
    (case a__law_alike => k_is)
    (case l__law_alike => k_is)
    (case c__law_alike => k_is)
    (case k__law_alike => k_is)
    (case a__law_taken => k_is)
    (case l__law_taken => k_is)
    (case c__law_taken => k_is)
    (case k__law_taken => k_is)
    (case a__law_pick => k_is)
    (case l__law_pick => k_is)
    (case c__law_pick => k_is)
    (case k__law_pick => k_is)
    (case a__law_raised => k_is)
    (case l__law_raised => k_is)
    (case c__law_raised => k_is)
    (case k__law_raised => k_is)
    (case a_law => k_is)
    (case l_law => k_is)
    (case c_law => k_is)
    (case k_law => k_is)
    (case a_BadNumber => k_is)
    (case x_BadNumber => k_is)
    (case rv_BadNumber => decide +kernel)
    (case sa_BadNumber => k_is)
    (case ga_BadNumber => k_is)
    (case gg_BadNumber => k_is)
    (case eC_BadNumber => k_is)
    (case tC_BadNumber => k_is)
    (case kC_BadNumber => k_is)
    (case hC_BadNumber => k_is)
    (case nf_BadNumber_value => k_is)
    (case iI_BadNumber => k_is)
    (case tI_BadNumber => k_is)
    (case l_BadNumber => k_is)
    (case ci_BadNumber => k_is)
    (case co_BadNumber => k_is)
    (case cv_BadNumber => first | rfl | decide +kernel)
    (case cf_BadNumber => first | rfl | decide +kernel)
    (case ce_BadNumber => k_is)
    (case cls_BadNumber => k_is)
    (case ms_BadNumber => k_is)
    (case sI_BadNumber => ks_is)
    (case sv_BadNumber => k_is)
    (case ic_BadNumber => k_is)
    (case sS_BadNumber => k_is)
    (case a_BadName => k_is)
    (case x_BadName => k_is)
    (case rv_BadName => decide +kernel)
    (case sa_BadName => k_is)
    (case ga_BadName => k_is)
    (case gg_BadName => k_is)
    (case eC_BadName => k_is)
    (case tC_BadName => k_is)
    (case kC_BadName => k_is)
    (case hC_BadName => k_is)
    (case nf_BadName_value => k_is)
    (case iI_BadName => k_is)
    (case tI_BadName => k_is)
    (case l_BadName => k_is)
    (case ci_BadName => k_is)
    (case co_BadName => k_is)
    (case cv_BadName => first | rfl | decide +kernel)
    (case cf_BadName => first | rfl | decide +kernel)
    (case ce_BadName => k_is)
    (case cls_BadName => k_is)
    (case ms_BadName => k_is)
    (case sI_BadName => ks_is)
    (case sv_BadName => k_is)
    (case ic_BadName => k_is)
    (case sS_BadName => k_is)
    (case a_BadItem => k_is)
    (case x_BadItem => k_is)
    (case rv_BadItem => decide +kernel)
    (case sa_BadItem => k_is)
    (case ga_BadItem => k_is)
    (case gg_BadItem => k_is)
    (case eC_BadItem => k_is)
    (case tC_BadItem => k_is)
    (case kC_BadItem => k_is)
    (case hC_BadItem => k_is)
    (case nf_BadItem_index => k_is)
    (case iI_BadItem => k_is)
    (case tI_BadItem => k_is)
    (case l_BadItem => k_is)
    (case ci_BadItem => k_is)
    (case co_BadItem => k_is)
    (case cv_BadItem => first | rfl | decide +kernel)
    (case cf_BadItem => first | rfl | decide +kernel)
    (case ce_BadItem => k_is)
    (case cls_BadItem => k_is)
    (case ms_BadItem => k_is)
    (case sI_BadItem => ks_is)
    (case sv_BadItem => k_is)
    (case ic_BadItem => k_is)
    (case sS_BadItem => k_is)
    (case a_BadEvent => k_is)
    (case x_BadEvent => k_is)
    (case rv_BadEvent => decide +kernel)
    (case sa_BadEvent => k_is)
    (case ga_BadEvent => k_is)
    (case gg_BadEvent => k_is)
    (case eC_BadEvent => k_is)
    (case tC_BadEvent => k_is)
    (case kC_BadEvent => k_is)
    (case hC_BadEvent => k_is)
    (case nf_BadEvent_value => k_is)
    (case iI_BadEvent => k_is)
    (case tI_BadEvent => k_is)
    (case l_BadEvent => k_is)
    (case ci_BadEvent => k_is)
    (case co_BadEvent => k_is)
    (case cv_BadEvent => first | rfl | decide +kernel)
    (case cf_BadEvent => first | rfl | decide +kernel)
    (case ce_BadEvent => k_is)
    (case cls_BadEvent => k_is)
    (case ms_BadEvent => k_is)
    (case sI_BadEvent => ks_is)
    (case sv_BadEvent => k_is)
    (case ic_BadEvent => k_is)
    (case sS_BadEvent => k_is)
    (case a_BadNote => k_is)
    (case x_BadNote => k_is)
    (case rv_BadNote => decide +kernel)
    (case sa_BadNote => k_is)
    (case ga_BadNote => k_is)
    (case gg_BadNote => k_is)
    (case eC_BadNote => k_is)
    (case tC_BadNote => k_is)
    (case kC_BadNote => k_is)
    (case hC_BadNote => k_is)
    (case nf_BadNote_line => k_is)
    (case iI_BadNote => k_is)
    (case tI_BadNote => k_is)
    (case l_BadNote => k_is)
    (case ci_BadNote => k_is)
    (case co_BadNote => k_is)
    (case cv_BadNote => first | rfl | decide +kernel)
    (case cf_BadNote => first | rfl | decide +kernel)
    (case ce_BadNote => k_is)
    (case cls_BadNote => k_is)
    (case ms_BadNote => k_is)
    (case sI_BadNote => ks_is)
    (case sv_BadNote => k_is)
    (case ic_BadNote => k_is)
    (case sS_BadNote => k_is)
    (case a_TooMany => k_is)
    (case x_TooMany => k_is)
    (case rv_TooMany => decide +kernel)
    (case sa_TooMany => k_is)
    (case ga_TooMany => k_is)
    (case gg_TooMany => k_is)
    (case eC_TooMany => k_is)
    (case tC_TooMany => k_is)
    (case kC_TooMany => k_is)
    (case hC_TooMany => k_is)
    (case nf_TooMany_limit => k_is)
    (case iI_TooMany => k_is)
    (case tI_TooMany => k_is)
    (case l_TooMany => k_is)
    (case ci_TooMany => k_is)
    (case co_TooMany => k_is)
    (case cv_TooMany => first | rfl | decide +kernel)
    (case cf_TooMany => first | rfl | decide +kernel)
    (case ce_TooMany => k_is)
    (case cls_TooMany => k_is)
    (case ms_TooMany => k_is)
    (case sI_TooMany => ks_is)
    (case sv_TooMany => k_is)
    (case ic_TooMany => k_is)
    (case sS_TooMany => k_is)
    (case a_Unknown => k_is)
    (case x_Unknown => k_is)
    (case rv_Unknown => decide +kernel)
    (case sa_Unknown => k_is)
    (case ga_Unknown => k_is)
    (case gg_Unknown => k_is)
    (case eC_Unknown => k_is)
    (case tC_Unknown => k_is)
    (case kC_Unknown => k_is)
    (case hC_Unknown => k_is)
    (case nf_Unknown_value => k_is)
    (case iI_Unknown => k_is)
    (case tI_Unknown => k_is)
    (case l_Unknown => k_is)
    (case ci_Unknown => k_is)
    (case co_Unknown => k_is)
    (case cv_Unknown => first | rfl | decide +kernel)
    (case cf_Unknown => first | rfl | decide +kernel)
    (case ce_Unknown => k_is)
    (case cls_Unknown => k_is)
    (case ms_Unknown => k_is)
    (case sI_Unknown => ks_is)
    (case sv_Unknown => k_is)
    (case ic_Unknown => k_is)
    (case sS_Unknown => k_is)
    (case a_Taken => k_is)
    (case x_Taken => k_is)
    (case rv_Taken => decide +kernel)
    (case sa_Taken => k_is)
    (case ga_Taken => k_is)
    (case gg_Taken => k_is)
    (case eC_Taken => k_is)
    (case tC_Taken => k_is)
    (case kC_Taken => k_is)
    (case hC_Taken => k_is)
    (case nf_Taken_value => k_is)
    (case iI_Taken => k_is)
    (case tI_Taken => k_is)
    (case l_Taken => k_is)
    (case ci_Taken => k_is)
    (case co_Taken => k_is)
    (case cv_Taken => first | rfl | decide +kernel)
    (case cf_Taken => first | rfl | decide +kernel)
    (case ce_Taken => k_is)
    (case cls_Taken => k_is)
    (case ms_Taken => k_is)
    (case sI_Taken => ks_is)
    (case sv_Taken => k_is)
    (case ic_Taken => k_is)
    (case sS_Taken => k_is)
    (case a_Refused => k_is)
    (case x_Refused => k_is)
    (case rv_Refused => decide +kernel)
    (case sa_Refused => k_is)
    (case ga_Refused => k_is)
    (case gg_Refused => k_is)
    (case eC_Refused => k_is)
    (case tC_Refused => k_is)
    (case kC_Refused => k_is)
    (case hC_Refused => k_is)
    (case nf_Refused_reason => k_is)
    (case nf_Refused_names => k_is)
    (case iI_Refused => k_is)
    (case tI_Refused => k_is)
    (case l_Refused => k_is)
    (case ci_Refused => k_is)
    (case co_Refused => k_is)
    (case cv_Refused => first | rfl | decide +kernel)
    (case cf_Refused => first | rfl | decide +kernel)
    (case ce_Refused => k_is)
    (case cls_Refused => k_is)
    (case ms_Refused => k_is)
    (case sI_Refused => ks_is)
    (case sv_Refused => k_is)
    (case ic_Refused => k_is)
    (case sS_Refused => k_is)
    (case ss_BadName_BadNumber => k_is)
    (case ss_BadItem_BadNumber => k_is)
    (case ss_BadEvent_BadNumber => k_is)
    (case ss_BadNote_BadNumber => k_is)
    (case ss_TooMany_BadNumber => k_is)
    (case ss_Unknown_BadNumber => k_is)
    (case ss_Taken_BadNumber => k_is)
    (case ss_Refused_BadNumber => k_is)
    (case ss_BadNumber_BadName => k_is)
    (case ss_BadItem_BadName => k_is)
    (case ss_BadEvent_BadName => k_is)
    (case ss_BadNote_BadName => k_is)
    (case ss_TooMany_BadName => k_is)
    (case ss_Unknown_BadName => k_is)
    (case ss_Taken_BadName => k_is)
    (case ss_Refused_BadName => k_is)
    (case ss_BadNumber_BadItem => k_is)
    (case ss_BadName_BadItem => k_is)
    (case ss_BadEvent_BadItem => k_is)
    (case ss_BadNote_BadItem => k_is)
    (case ss_TooMany_BadItem => k_is)
    (case ss_Unknown_BadItem => k_is)
    (case ss_Taken_BadItem => k_is)
    (case ss_Refused_BadItem => k_is)
    (case ss_BadNumber_BadEvent => k_is)
    (case ss_BadName_BadEvent => k_is)
    (case ss_BadItem_BadEvent => k_is)
    (case ss_BadNote_BadEvent => k_is)
    (case ss_TooMany_BadEvent => k_is)
    (case ss_Unknown_BadEvent => k_is)
    (case ss_Taken_BadEvent => k_is)
    (case ss_Refused_BadEvent => k_is)
    (case ss_BadNumber_BadNote => k_is)
    (case ss_BadName_BadNote => k_is)
    (case ss_BadItem_BadNote => k_is)
    (case ss_BadEvent_BadNote => k_is)
    (case ss_TooMany_BadNote => k_is)
    (case ss_Unknown_BadNote => k_is)
    (case ss_Taken_BadNote => k_is)
    (case ss_Refused_BadNote => k_is)
    (case ss_BadNumber_TooMany => k_is)
    (case ss_BadName_TooMany => k_is)
    (case ss_BadItem_TooMany => k_is)
    (case ss_BadEvent_TooMany => k_is)
    (case ss_BadNote_TooMany => k_is)
    (case ss_Unknown_TooMany => k_is)
    (case ss_Taken_TooMany => k_is)
    (case ss_Refused_TooMany => k_is)
    (case ss_BadNumber_Unknown => k_is)
    (case ss_BadName_Unknown => k_is)
    (case ss_BadItem_Unknown => k_is)
    (case ss_BadEvent_Unknown => k_is)
    (case ss_BadNote_Unknown => k_is)
    (case ss_TooMany_Unknown => k_is)
    (case ss_Taken_Unknown => k_is)
    (case ss_Refused_Unknown => k_is)
    (case ss_BadNumber_Taken => k_is)
    (case ss_BadName_Taken => k_is)
    (case ss_BadItem_Taken => k_is)
    (case ss_BadEvent_Taken => k_is)
    (case ss_BadNote_Taken => k_is)
    (case ss_TooMany_Taken => k_is)
    (case ss_Unknown_Taken => k_is)
    (case ss_Refused_Taken => k_is)
    (case ss_BadNumber_Refused => k_is)
    (case ss_BadName_Refused => k_is)
    (case ss_BadItem_Refused => k_is)
    (case ss_BadEvent_Refused => k_is)
    (case ss_BadNote_Refused => k_is)
    (case ss_TooMany_Refused => k_is)
    (case ss_Unknown_Refused => k_is)
    (case ss_Taken_Refused => k_is)
    (case opq => k_is)
    (case sup => k_is)
    (case z_LookupError => k_is)
    (case z_RuntimeError => k_is)
    (case z_ValueError => k_is)
    (case z_bool => k_is)
    (case z_int => k_is)
    (case z_isinstance => k_is)
    (case z_len => k_is)
    (case z_list => k_is)
    (case z_range => k_is)
    (case z_str => k_is)
    (case z_tuple => k_is)
    (case a_NothingToUndo => k_is)
    (case eC_NothingToUndo => k_is)
    (case tC_NothingToUndo => k_is)
    (case ic_NothingToUndo => k_is)
    (case a_ChartError => k_is)
    (case eC_ChartError => k_is)
    (case tC_ChartError => k_is)
    (case ic_ChartError => k_is)
    (case qx_NothingToUndo => k_exc)
    (case kC_NothingToUndo => k_is)
    (case ga_NothingToUndo => k_is)
    (case gg_NothingToUndo => k_is)
    (case hC_NothingToUndo => k_is)
    (case sS_NothingToUndo => k_is)
    (case spc => k_is)
    (case tkc => k_is)
    (case su_BadNumber => k_is)
    (case kx_BadNumber => k_is)
    (case mo_BadNumber => k_is)
    (case sb_BadNumber_ValueError => k_is)
    (case sb_BadNumber_LookupError => k_is)
    (case sb_BadNumber_RuntimeError => k_is)
    (case ss_BadNumber_NothingToUndo => k_is)
    (case nf_BadNumber_index => k_is)
    (case nf_BadNumber_line => k_is)
    (case nf_BadNumber_limit => k_is)
    (case nf_BadNumber_reason => k_is)
    (case nf_BadNumber_names => k_is)
    (case su_BadName => k_is)
    (case kx_BadName => k_is)
    (case mo_BadName => k_is)
    (case sb_BadName_ValueError => k_is)
    (case sb_BadName_LookupError => k_is)
    (case sb_BadName_RuntimeError => k_is)
    (case ss_BadName_NothingToUndo => k_is)
    (case nf_BadName_index => k_is)
    (case nf_BadName_line => k_is)
    (case nf_BadName_limit => k_is)
    (case nf_BadName_reason => k_is)
    (case nf_BadName_names => k_is)
    (case su_BadItem => k_is)
    (case kx_BadItem => k_is)
    (case mo_BadItem => k_is)
    (case sb_BadItem_ValueError => k_is)
    (case sb_BadItem_LookupError => k_is)
    (case sb_BadItem_RuntimeError => k_is)
    (case ss_BadItem_NothingToUndo => k_is)
    (case nf_BadItem_value => k_is)
    (case nf_BadItem_line => k_is)
    (case nf_BadItem_limit => k_is)
    (case nf_BadItem_reason => k_is)
    (case nf_BadItem_names => k_is)
    (case su_BadEvent => k_is)
    (case kx_BadEvent => k_is)
    (case mo_BadEvent => k_is)
    (case sb_BadEvent_ValueError => k_is)
    (case sb_BadEvent_LookupError => k_is)
    (case sb_BadEvent_RuntimeError => k_is)
    (case ss_BadEvent_NothingToUndo => k_is)
    (case nf_BadEvent_index => k_is)
    (case nf_BadEvent_line => k_is)
    (case nf_BadEvent_limit => k_is)
    (case nf_BadEvent_reason => k_is)
    (case nf_BadEvent_names => k_is)
    (case su_BadNote => k_is)
    (case kx_BadNote => k_is)
    (case mo_BadNote => k_is)
    (case sb_BadNote_ValueError => k_is)
    (case sb_BadNote_LookupError => k_is)
    (case sb_BadNote_RuntimeError => k_is)
    (case ss_BadNote_NothingToUndo => k_is)
    (case nf_BadNote_value => k_is)
    (case nf_BadNote_index => k_is)
    (case nf_BadNote_limit => k_is)
    (case nf_BadNote_reason => k_is)
    (case nf_BadNote_names => k_is)
    (case su_TooMany => k_is)
    (case kx_TooMany => k_is)
    (case mo_TooMany => k_is)
    (case sb_TooMany_ValueError => k_is)
    (case sb_TooMany_LookupError => k_is)
    (case sb_TooMany_RuntimeError => k_is)
    (case ss_TooMany_NothingToUndo => k_is)
    (case nf_TooMany_value => k_is)
    (case nf_TooMany_index => k_is)
    (case nf_TooMany_line => k_is)
    (case nf_TooMany_reason => k_is)
    (case nf_TooMany_names => k_is)
    (case su_Unknown => k_is)
    (case kx_Unknown => k_is)
    (case mo_Unknown => k_is)
    (case sb_Unknown_ValueError => k_is)
    (case sb_Unknown_LookupError => k_is)
    (case sb_Unknown_RuntimeError => k_is)
    (case ss_Unknown_NothingToUndo => k_is)
    (case nf_Unknown_index => k_is)
    (case nf_Unknown_line => k_is)
    (case nf_Unknown_limit => k_is)
    (case nf_Unknown_reason => k_is)
    (case nf_Unknown_names => k_is)
    (case su_Taken => k_is)
    (case kx_Taken => k_is)
    (case mo_Taken => k_is)
    (case sb_Taken_ValueError => k_is)
    (case sb_Taken_LookupError => k_is)
    (case sb_Taken_RuntimeError => k_is)
    (case ss_Taken_NothingToUndo => k_is)
    (case nf_Taken_index => k_is)
    (case nf_Taken_line => k_is)
    (case nf_Taken_limit => k_is)
    (case nf_Taken_reason => k_is)
    (case nf_Taken_names => k_is)
    (case su_Refused => k_is)
    (case kx_Refused => k_is)
    (case mo_Refused => k_is)
    (case sb_Refused_ValueError => k_is)
    (case sb_Refused_LookupError => k_is)
    (case sb_Refused_RuntimeError => k_is)
    (case ss_Refused_NothingToUndo => k_is)
    (case nf_Refused_value => k_is)
    (case nf_Refused_index => k_is)
    (case nf_Refused_line => k_is)
    (case nf_Refused_limit => k_is)
    (case su_NothingToUndo => k_is)
    (case kx_NothingToUndo => k_is)
    (case mo_NothingToUndo => k_is)
    (case sb_NothingToUndo_ValueError => k_is)
    (case sb_NothingToUndo_LookupError => k_is)
    (case sb_NothingToUndo_RuntimeError => k_is)
    (case ss_NothingToUndo_BadNumber => k_is)
    (case ss_NothingToUndo_BadName => k_is)
    (case ss_NothingToUndo_BadItem => k_is)
    (case ss_NothingToUndo_BadEvent => k_is)
    (case ss_NothingToUndo_BadNote => k_is)
    (case ss_NothingToUndo_TooMany => k_is)
    (case ss_NothingToUndo_Unknown => k_is)
    (case ss_NothingToUndo_Taken => k_is)
    (case ss_NothingToUndo_Refused => k_is)
