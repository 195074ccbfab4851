import PyProof.Rows.All
import Wide.All
import OpenK.AllK
import Wide.FinOn
import HandS.ForMost
import HandS.Exc
import HandS.ExcOwn
import HandS.WordsExc
import HandS.Defaults
import HandS.Star
import HandS.IsInst
import HandS.Property
import HandS.HeadHook2
import KE.SortData
import HandS.TupAny
import HandS.Deep
import HandS.Style
import HandS.Zip
import HandS.DictComp
import HandS.More
import KE.GoesEnum
import HandS.RevTup
import HandS.Conv
import HandS.Head0
import HandS.Head1
import HandS.Head2
import HandS.HeadEnd
import HandS.Words
import PySem.Challenge.RW_innerloops_k18_whole_the_top_alone_matte
set_option Elab.async false
set_option linter.all false
set_option maxRecDepth 100000
set_option maxHeartbeats 4000000
namespace VI
open PySem L2
/-- a value: tuples are data (sc: the script; fl, fd: a list, a dict that nothing changes), what can change is a number in the store -/
inductive U where
  | non | bl (b : Bool) | int (i : Int) | str (x : Str) | tup (us : List U) | sc (us : List U) | fl (us : List U) | fd (kvs : List (Str × U)) | ref (n : Nat)
/-- an object that can change -/
inductive O where
  | lst (xs : List U) | dct (kvs : List (Str × U)) | ins (c : Str) (fs : List (Str × U)) | dead
/-- the store; lk: what is walked and must not be written -/
structure Sto where
  objs : List O
  lk : List Nat
inductive R (α : Type) where
  | ok (a : α) (S : Sto)
  | exc (c : Str) (fs : List (Str × U)) (S : Sto)
  | no
def R.bind {α β : Type} (r : R α) (f : α → Sto → R β) : R β := match r with
  | .ok a S => f a S
  | .exc c fs S => .exc c fs S
  | .no => .no
@[simp] theorem R.bind_ok {α β : Type} (a : α) (S : Sto) (f : α → Sto → R β) : (R.ok a S).bind f = f a S := rfl
@[simp] theorem R.bind_exc {α β : Type} (c : Str) (fs : List (Str × U)) (S : Sto) (f : α → Sto → R β) : (R.exc c fs S : R α).bind f = .exc c fs S := rfl
@[simp] theorem R.bind_no {α β : Type} (f : α → Sto → R β) : (R.no : R α).bind f = .no := rfl
abbrev Env := List (Option U)
abbrev ME := Env → Sto → R U
abbrev MA := Env → Sto → R (List U)
inductive Fl where
  | nx (e : Env) | rt (u : U) | bk (e : Env) | ct (e : Env)
abbrev MS := Env → Sto → R Fl
def Sto.push (S : Sto) (o : O) : Sto := ⟨S.objs ++ [o], S.lk⟩
def Sto.put (S : Sto) (n : Nat) (o : O) : Sto := ⟨S.objs.set n o, S.lk⟩
def alloc (o : O) (S : Sto) : R U := .ok (.ref S.objs.length) (S.push o)
/-- a list of the written part -/
def KL (K : PySem.W.Frag) (a : Addr) (xs : List V) : Prop := ∃ (ob : Obj) (is : Array Value) (m : Nat), K.lookup a = some ob ∧ ob.cls = .type "list" ∧ ob.dict = none ∧ ob.data = .seq is m ∧ is.size ≤ sizeLine ∧ Vals xs is.toList
section
variable (K : PySem.W.Frag) (ad : List Addr) (H : Hp)
mutual
inductive RU : U → V → Prop
  | non : RU .non .non
  | bl (b : Bool) : RU (.bl b) (.bl b)
  | int (i : Int) : RU (.int i) (.int i)
  | str (x : Str) : RU (.str x) (.str x)
  | tup {us : List U} {a : Addr} {vs : List V} : SqT K H a vs → RUs us vs → RU (.tup us) (.ref a)
  | sc {us : List U} {a : Addr} {o : Obj} {vs : List V} : H a = some (.frz o (.lst vs)) → RUs us vs → RU (.sc us) (.ref a)
  | sck {us : List U} {a : Addr} {vs : List V} : KL K a vs → RUs us vs → RU (.sc us) (.ref a)
  | fl {us : List U} {a : Addr} {o : Obj} {vs : List V} : H a = some (.frz o (.lst vs)) → RUs us vs → RU (.fl us) (.ref a)
  | fd {kvs : List (Str × U)} {a : Addr} {o : Obj} {ws : List (Str × V)} : H a = some (.frz o (.dK (ws.map fun p => ((Sum.inr p.1 : Key), p.2)))) → a ∉ ad → RF kvs ws → RU (.fd kvs) (.ref a)
  | ref {n : Nat} {a : Addr} : ad[n]? = some a → RU (.ref n) (.ref a)
inductive RUs : List U → List V → Prop
  | nil : RUs [] []
  | cons {u : U} {v : V} {us : List U} {vs : List V} : RU u v → RUs us vs → RUs (u :: us) (v :: vs)
/-- fields, entries: the same names in the same order -/
inductive RF : List (Str × U) → List (Str × V) → Prop
  | nil : RF [] []
  | cons {x : Str} {u : U} {v : V} {us : List (Str × U)} {vs : List (Str × V)} : RU u v → RF us vs → RF ((x, u) :: us) ((x, v) :: vs)
end
/-- an object and its image -/
inductive RO : O → HO → Prop
  | lst {xs : List U} {vs : List V} : RUs K ad H xs vs → RO (.lst xs) (.lst vs)
  | dct {kvs : List (Str × U)} {ws : List (Str × V)} : RF K ad H kvs ws → RO (.dct kvs) (.dK (ws.map fun p => ((Sum.inr p.1 : Key), p.2)))
  | ins {c : Str} {dx : Addr} {fs : List (Str × U)} {gs : List (Str × V)} : RF K ad H fs gs → RO (.ins c fs) (.ins (He.ga K c) dx gs)
  | dead {o : Obj} {vs : List V} : RO .dead (.frz o (.lst vs))
end
def wrap : Option Obj → HO → HO
  | none, u => u
  | some o, u => .frz o u
/-- the store stands in the heap: ad: the addresses; lo: what is frozen -/
structure RS (K : PySem.W.Frag) (ad : List Addr) (lo : Nat → Option Obj) (H : Hp) (S : Sto) : Prop where
  len : ad.length = S.objs.length
  nd : ad.Nodup
  obj : ∀ (n : Nat) (o : O), S.objs[n]? = some o → ∃ a u, ad[n]? = some a ∧ RO K ad H o u ∧ H a = some (wrap (lo n) u)
  lock : ∀ n, (lo n).isSome = true → n ∈ S.lk
  kind : ∀ n, (lo n).isSome = true → ∃ kvs, S.objs[n]? = some (.dct kvs)
/-- the heap moves on -/
structure Adv (ad : List Addr) (H : Hp) (ad' : List Addr) (H' : Hp) : Prop where
  pre : ad <+: ad'
  new : ∀ a ∈ ad', a ∈ ad ∨ H a = none
  keep : ∀ a o, H a = some o → a ∉ ad → H' a = some o
  frz : ∀ a o u, H a = some (.frz o u) → H' a = some (.frz o u)
def REnv (K : PySem.W.Frag) (ad : List Addr) (H : Hp) (σ : St) (env : Env) : Prop :=
  σ.length = env.length ∧ ∀ (i : Nat) (u : U), env[i]? = some (some u) → ∃ v, σ[i]? = some (some v) ∧ RU K ad H u v
section
variable {K : PySem.W.Frag} {ad ad' ad'' : List Addr} {lo : Nat → Option Obj} {H H' H'' : Hp} {S S' : Sto}
theorem RS.out (r : RS K ad lo H S) (n : Nat) (h : ad.length ≤ n) : lo n = none := by
  cases e : lo n with
  | none => rfl
  | some o =>
    obtain ⟨kvs, e1⟩ := r.kind n (by rw [e]; rfl)
    have := (List.getElem?_eq_some_iff.mp e1).1
    rw [← r.len] at this
    exact absurd h (Nat.not_le_of_lt this)
theorem Adv.refl : Adv ad H ad H := ⟨List.prefix_refl _, fun _ h => .inl h, fun _ _ h _ => h, fun _ _ _ h => h⟩
theorem Adv.trans (x : Adv ad H ad' H') (y : Adv ad' H' ad'' H'') : Adv ad H ad'' H'' := by
  refine ⟨x.pre.trans y.pre, fun a ha => ?_, fun a o e n => ?_, fun a o u e => y.frz a o u (x.frz a o u e)⟩
  · rcases y.new a ha with h | h
    · exact x.new a h
    · by_cases q : a ∈ ad
      · exact .inl q
      · refine .inr ?_
        cases e : H a with
        | none => rfl
        | some o => rw [x.keep a o e q] at h; cases h
  · refine y.keep a o (x.keep a o e n) fun q => ?_
    rcases x.new a q with h | h
    · exact n h
    · rw [e] at h; cases h
theorem Adv.get (x : Adv ad H ad' H') {n : Nat} {a : Addr} (e : ad[n]? = some a) : ad'[n]? = some a := by
  obtain ⟨t, rfl⟩ := x.pre
  rw [List.getElem?_append_left (List.getElem?_eq_some_iff.mp e).1]
  exact e
theorem Adv.out (x : Adv ad H ad' H') {a : Addr} {o : HO} (h : H a = some o) (n : a ∉ ad) : a ∉ ad' := fun q => by
  rcases x.new a q with z | z
  · exact n z
  · rw [h] at z; cases z
theorem mem_of_get {n : Nat} {a : Addr} (e : ad[n]? = some a) : a ∈ ad := List.mem_of_getElem? e
/-- an address of the store holds no tuple -/
theorem RS.notup (r : RS K ad lo H S) {a : Addr} {xs : List V} (h : Rd H a (.tup xs)) : a ∉ ad := fun q => by
  obtain ⟨n, hn, e⟩ := List.mem_iff_getElem.mp q
  have hs : n < S.objs.length := by rw [← r.len]; exact hn
  obtain ⟨p, hp⟩ : ∃ p, S.objs[n]? = some p := ⟨_, List.getElem?_eq_getElem hs⟩
  obtain ⟨b, u, e1, ro, e2⟩ := r.obj n p hp
  have e3 : b = a := by
    rw [List.getElem?_eq_getElem hn, e] at e1
    exact (Option.some.inj e1).symm
  subst e3
  rcases h with h | ⟨o, h⟩ <;> (rw [h] at e2; cases l : lo n <;> rw [l] at e2 <;> unfold wrap at e2)
  · cases ro <;> cases e2
  · cases e2
  · cases ro <;> cases e2
  · cases ro <;> cases e2
theorem SqT.adv (r : RS K ad lo H S) (x : Adv ad H ad' H') {a : Addr} {vs : List V} (h : SqT K H a vs) : SqT K H' a vs := by
  rcases h with h | h
  · have n := r.notup h
    rcases h with h | ⟨o, h⟩
    · exact .inl (.inl (x.keep a _ h n))
    · exact .inl (.inr ⟨o, x.keep a _ h n⟩)
  · exact .inr h
mutual
theorem RU.adv (r : RS K ad lo H S) (x : Adv ad H ad' H') : ∀ {u : U} {v : V}, RU K ad H u v → RU K ad' H' u v
  | _, _, .non => .non
  | _, _, .bl b => .bl b
  | _, _, .int i => .int i
  | _, _, .str s => .str s
  | _, _, .tup h t => .tup (SqT.adv r x h) (RUs.adv r x t)
  | _, _, .sc h t => .sc (x.frz _ _ _ h) (RUs.adv r x t)
  | _, _, .sck h t => .sck h (RUs.adv r x t)
  | _, _, .fl h t => .fl (x.frz _ _ _ h) (RUs.adv r x t)
  | _, _, .fd h n t => .fd (x.frz _ _ _ h) (x.out h n) (RF.adv r x t)
  | _, _, .ref e => .ref (x.get e)
theorem RUs.adv (r : RS K ad lo H S) (x : Adv ad H ad' H') : ∀ {us : List U} {vs : List V}, RUs K ad H us vs → RUs K ad' H' us vs
  | _, _, .nil => .nil
  | _, _, .cons h t => .cons (RU.adv r x h) (RUs.adv r x t)
theorem RF.adv (r : RS K ad lo H S) (x : Adv ad H ad' H') : ∀ {us : List (Str × U)} {vs : List (Str × V)}, RF K ad H us vs → RF K ad' H' us vs
  | _, _, .nil => .nil
  | _, _, .cons h t => .cons (RU.adv r x h) (RF.adv r x t)
end
theorem RO.adv (r : RS K ad lo H S) (x : Adv ad H ad' H') {o : O} {u : HO} (h : RO K ad H o u) : RO K ad' H' o u := by
  cases h with
  | lst h => exact .lst (h.adv r x)
  | dct h => exact .dct (h.adv r x)
  | ins h => exact .ins (h.adv r x)
  | dead => exact .dead
theorem REnv.adv (r : RS K ad lo H S) (x : Adv ad H ad' H') {σ : St} {env : Env} (h : REnv K ad H σ env) : REnv K ad' H' σ env :=
  ⟨h.1, fun i u e => let ⟨v, e1, q⟩ := h.2 i u e; ⟨v, e1, q.adv r x⟩⟩
theorem RUs.length : ∀ {us : List U} {vs : List V}, RUs K ad H us vs → us.length = vs.length
  | _, _, .nil => rfl
  | _, _, .cons _ t => by simp [RUs.length t]
theorem RUs.get : ∀ {us : List U} {vs : List V} {i : Nat} {u : U}, RUs K ad H us vs → us[i]? = some u → ∃ v, vs[i]? = some v ∧ RU K ad H u v
  | _, _, 0, _, .cons h _, e => by
    rw [List.getElem?_cons_zero] at e
    cases e
    exact ⟨_, List.getElem?_cons_zero, h⟩
  | _, _, i + 1, _, .cons _ t, e => by
    rw [List.getElem?_cons_succ] at e
    obtain ⟨v, e1, q⟩ := RUs.get t e
    exact ⟨v, by rw [List.getElem?_cons_succ]; exact e1, q⟩
  | _, _, _, _, .nil, e => by rw [List.getElem?_nil] at e; cases e
theorem RUs.append : ∀ {us ws : List U} {vs xs : List V}, RUs K ad H us vs → RUs K ad H ws xs → RUs K ad H (us ++ ws) (vs ++ xs)
  | _, _, _, _, .nil, q => q
  | _, _, _, _, .cons h t, q => .cons h (RUs.append t q)
theorem RUs.take : ∀ {us : List U} {vs : List V} (n : Nat), RUs K ad H us vs → RUs K ad H (us.take n) (vs.take n)
  | _, _, 0, _ => by rw [List.take_zero, List.take_zero]; exact .nil
  | _, _, _ + 1, .nil => .nil
  | _, _, n + 1, .cons h t => .cons h (RUs.take n t)
theorem RUs.drop : ∀ {us : List U} {vs : List V} (n : Nat), RUs K ad H us vs → RUs K ad H (us.drop n) (vs.drop n)
  | _, _, 0, h => h
  | _, _, _ + 1, .nil => .nil
  | _, _, n + 1, .cons _ t => RUs.drop n t
theorem RUs.set : ∀ {us : List U} {vs : List V} {u : U} {v : V} (n : Nat), RU K ad H u v → RUs K ad H us vs → RUs K ad H (us.set n u) (vs.set n v)
  | _, _, _, _, _, _, .nil => .nil
  | _, _, _, _, 0, q, .cons _ t => .cons q t
  | _, _, _, _, n + 1, q, .cons h t => .cons h (RUs.set n q t)
/-- a new object is laid -/
theorem RS.push (r : RS K ad lo H S) {a : Addr} {o : O} {u : HO} (n : H a = none) (nt : ∀ xs, u ≠ .tup xs) (ro : RO K ad H o u) : RS K (ad ++ [a]) lo (upd H a u) (S.push o) ∧ Adv ad H (ad ++ [a]) (upd H a u) := by
  have na : a ∉ ad := fun q => by
    obtain ⟨m, hm, e⟩ := List.mem_iff_getElem.mp q
    have hs : m < S.objs.length := by rw [← r.len]; exact hm
    obtain ⟨b, w, e1, _, e2⟩ := r.obj m _ (List.getElem?_eq_getElem hs)
    rw [List.getElem?_eq_getElem hm, e] at e1
    cases e1
    rw [n] at e2
    cases e2
  have x : Adv ad H (ad ++ [a]) (upd H a u) := ⟨List.prefix_append _ _, fun b hb => (List.mem_append.mp hb).elim .inl fun q => .inr (by rw [List.mem_singleton.mp q]; exact n), fun b p e _ => by rw [upd_ne (ne_of_none e n)]; exact e,
    fun b p w e => by rw [upd_ne (ne_of_none e n)]; exact e⟩
  refine ⟨⟨?_, ?_, fun m p e => ?_, r.lock, fun m h => ?_⟩, x⟩
  · show (ad ++ [a]).length = (S.objs ++ [o]).length
    simp [r.len]
  · exact List.nodup_append.mpr ⟨r.nd, by simp, fun b hb c hc e => na (by rw [List.mem_singleton] at hc; rw [← hc, ← e]; exact hb)⟩
  · have e' : (S.objs ++ [o])[m]? = some p := e
    by_cases hm : m < S.objs.length
    · rw [List.getElem?_append_left hm] at e'
      obtain ⟨b, w, e1, q, e2⟩ := r.obj m p e'
      exact ⟨b, w, x.get e1, q.adv r x, by rw [upd_ne (ne_of_none e2 n)]; exact e2⟩
    · have hm' : m = S.objs.length := by
        have := (List.getElem?_eq_some_iff.mp e').1
        simp at this
        omega
      subst hm'
      rw [List.getElem?_append_right (Nat.le_refl _), Nat.sub_self] at e'
      cases e'
      refine ⟨a, u, by rw [← r.len, List.getElem?_append_right (Nat.le_refl _), Nat.sub_self]; rfl, ro.adv r x, ?_⟩
      rw [r.out _ (by rw [r.len]; exact Nat.le_refl _), upd_same]
      rfl
  · obtain ⟨kvs, e⟩ := r.kind m h
    exact ⟨kvs, by show (S.objs ++ [o])[m]? = _; rw [List.getElem?_append_left (List.getElem?_eq_some_iff.mp e).1]; exact e⟩
/-- an object is changed -/
theorem RS.put (r : RS K ad lo H S) {n : Nat} {a : Addr} {o p : O} {u : HO} (e : S.objs[n]? = some p) (ha : ad[n]? = some a) (ln : lo n = none) (nt : ∀ o' w, u ≠ .frz o' w) (ro : RO K ad H o u) (np : p ≠ .dead := by intro z; cases z) : RS K ad lo (upd H a u) (S.put n o) ∧ Adv ad H ad (upd H a u) := by
  have ma : a ∈ ad := mem_of_get ha
  have oa : ∃ w, RO K ad H p w ∧ H a = some w := by
    obtain ⟨b, w, e1, q, e2⟩ := r.obj n p e
    rw [ha] at e1
    cases e1
    rw [ln] at e2
    exact ⟨w, q, e2⟩
  have x : Adv ad H ad (upd H a u) := ⟨List.prefix_refl _, fun b hb => .inl hb, fun b q e1 nb => by rw [upd_ne (fun z => nb (by rw [z]; exact ma))]; exact e1, fun b o' w e1 => by
    obtain ⟨w', q, e2⟩ := oa
    have nb : b ≠ a := fun z => by
      subst z
      rw [e1] at e2
      cases e2
      cases q
      exact np rfl
    rw [upd_ne nb]
    exact e1⟩
  refine ⟨⟨?_, r.nd, fun m q e1 => ?_, r.lock, fun m h => ?_⟩, x⟩
  · show ad.length = (S.objs.set n o).length
    rw [List.length_set]
    exact r.len
  · have e1' : (S.objs.set n o)[m]? = some q := e1
    by_cases hm : n = m
    · subst hm
      have hn : n < S.objs.length := (List.getElem?_eq_some_iff.mp e).1
      rw [List.getElem?_set_self hn] at e1'
      cases e1'
      exact ⟨a, u, ha, ro.adv r x, by rw [ln, upd_same]; rfl⟩
    · rw [List.getElem?_set_ne hm] at e1'
      obtain ⟨b, w, e2, ro2, e3⟩ := r.obj m q e1'
      refine ⟨b, w, e2, ro2.adv r x, ?_⟩
      rw [upd_ne fun z => ?_]
      · exact e3
      · subst z
        exact hm ((List.getElem?_inj (List.getElem?_eq_some_iff.mp ha).1 r.nd).mp (ha.trans e2.symm))
  · obtain ⟨kvs, e⟩ := r.kind m h
    have hm : n ≠ m := fun z => by
      subst z
      rw [ln] at h
      cases h
    exact ⟨kvs, by show (S.objs.set n o)[m]? = _; rw [List.getElem?_set_ne hm]; exact e⟩
/-- a heap that grows beside the store -/
theorem RS.grow (r : RS K ad lo H S) {a : Addr} {u : HO} (n : H a = none) : RS K ad lo (upd H a u) S ∧ Adv ad H ad (upd H a u) := by
  have x : Adv ad H ad (upd H a u) := ⟨List.prefix_refl _, fun b hb => .inl hb, fun b o e _ => by rw [upd_ne (ne_of_none e n)]; exact e, fun b o w e => by rw [upd_ne (ne_of_none e n)]; exact e⟩
  exact ⟨⟨r.len, r.nd, fun m o e => let ⟨b, w, e1, q, e2⟩ := r.obj m o e; ⟨b, w, e1, q.adv r x, by rw [upd_ne (ne_of_none e2 n)]; exact e2⟩, r.lock, r.kind⟩, x⟩
end
end VI
set_option Elab.async false
set_option linter.all false
set_option maxRecDepth 100000
set_option maxHeartbeats 4000000
namespace VI
open PySem L2
/-- an error that leaves, as it stands in the heap -/
def RX (K : PySem.W.Frag) (ad : List Addr) (H : Hp) (c : Str) (fs : List (Str × U)) (C : Value) (d : Option Addr) : Prop :=
  C = .ref (He.ga K c) ∧ ((fs = [] ∧ d = none) ∨ ∃ a gs, d = some a ∧ H a = some (.xd gs) ∧ RF K ad H fs gs ∧ a ∉ ad)
/-- from the heap H on: every end of r is met by Q (or by E) -/
def Go (K : PySem.W.Frag) (E : XK) {α β : Type} (rel : List Addr → Hp → α → β → Prop) (r : R α) (ad : List Addr) (lo : Nat → Option Obj) (H : Hp) (Q : β → Hp → Prop) : Prop := match r with
  | .ok a S' => ∀ ad' H' v, Adv ad H ad' H' → RS K ad' lo H' S' → rel ad' H' a v → Q v H'
  | .exc c fs S' => ∀ ad' H' C d, Adv ad H ad' H' → RS K ad' lo H' S' → RX K ad' H' c fs C d → E C d H'
  | .no => False
/-- the reading of a meaning -/
def tE (K : PySem.W.Frag) (E : XK) {α β : Type} (rel : List Addr → Hp → α → β → Prop) (m : Env → Sto → R α) : St → Hp → (β → Hp → Prop) → Prop := fun σ H Q =>
  ∃ ad lo env S, RS K ad lo H S ∧ REnv K ad H σ env ∧ Go K E rel (m env S) ad lo H Q
abbrev tI (K : PySem.W.Frag) (E : XK) (m : ME) : TE := tE K E (RU K) m
abbrev tIs (K : PySem.W.Frag) (E : XK) (m : MA) : TA := tE K E (RUs K) m
def rB : List Addr → Hp → Bool → Bool → Prop := fun _ _ b c => b = c
abbrev tIb (K : PySem.W.Frag) (E : XK) (m : Env → Sto → R Bool) : TT := tE K E rB m
/-- a new list beside the store; a list that can be read -/
def RN (K : PySem.W.Frag) (H0 : Hp) (ad : List Addr) (H : Hp) (us : List U) (v : V) : Prop := ∃ a vs, v = .ref a ∧ H a = some (.lst vs) ∧ a ∉ ad ∧ H0 a = none ∧ RUs K ad H us vs
def RL (K : PySem.W.Frag) (ad : List Addr) (H : Hp) (us : List U) (v : V) : Prop := ∃ a vs, v = .ref a ∧ (SqL K H a vs ∨ SqT K H a vs) ∧ RUs K ad H us vs
def tN (K : PySem.W.Frag) (E : XK) (m : MA) : TE := fun σ H Q => tE K E (RN K H) m σ H Q
abbrev tL (K : PySem.W.Frag) (E : XK) (m : MA) : TE := tE K E (RL K) m
section
variable {K : PySem.W.Frag} {E : XK} {α β γ δ : Type} {rel : List Addr → Hp → α → β → Prop} {rel2 : List Addr → Hp → γ → δ → Prop} {ad ad1 : List Addr} {lo : Nat → Option Obj} {H H1 : Hp} {S : Sto} {σ : St} {env : Env}
theorem Go.adv {r : R α} {Q : β → Hp → Prop} (g : Go K E rel r ad lo H Q) (x : Adv ad H ad1 H1) : Go K E rel r ad1 lo H1 Q := by
  cases r with
  | ok a S' => exact fun ad' H' v y rs q => g ad' H' v (x.trans y) rs q
  | exc c fs S' => exact fun ad' H' C d y rs q => g ad' H' C d (x.trans y) rs q
  | no => exact g
theorem Go.imp {r : R α} {Q Q' : β → Hp → Prop} (g : Go K E rel r ad lo H Q) (h : ∀ v H', Q v H' → Q' v H') : Go K E rel r ad lo H Q' := by
  cases r with
  | ok a S' => exact fun ad' H' v y rs q => h _ _ (g ad' H' v y rs q)
  | exc c fs S' => exact g
  | no => exact g
theorem tE.imp {m : Env → Sto → R α} {Q Q' : β → Hp → Prop} (g : tE K E rel m σ H Q) (h : ∀ v H', Q v H' → Q' v H') : tE K E rel m σ H Q' :=
  let ⟨ad, lo, env, S, rs, re, q⟩ := g
  ⟨ad, lo, env, S, rs, re, q.imp h⟩
/-- one meaning, then what hangs on it -/
theorem Go.seq {m : Env → Sto → R α} {f : α → Sto → R γ} {Q : δ → Hp → Prop} (rs : RS K ad lo H S) (re : REnv K ad H σ env) (g : Go K E rel2 ((m env S).bind f) ad lo H Q) :
    tE K E rel m σ H fun x H1 => ∃ a ad1 S1, Adv ad H ad1 H1 ∧ RS K ad1 lo H1 S1 ∧ REnv K ad1 H1 σ env ∧ rel ad1 H1 a x ∧ Go K E rel2 (f a S1) ad1 lo H1 Q := by
  refine ⟨ad, lo, env, S, rs, re, ?_⟩
  cases e : m env S with
  | ok a S1 =>
    rw [e] at g
    exact fun ad' H' v x rs' q => ⟨a, ad', S1, x, rs', re.adv rs x, q, g.adv x⟩
  | exc c fs S1 => rw [e] at g; exact g
  | no => rw [e] at g; exact g
/-- another relation -/
theorem Go.turn {r : R α} {rel' : List Addr → Hp → α → γ → Prop} {Q : β → Hp → Prop} {Q' : γ → Hp → Prop} (g : Go K E rel r ad lo H Q) (h : ∀ a S' ad' H' v, r = .ok a S' → Adv ad H ad' H' → RS K ad' lo H' S' → rel' ad' H' a v → (∀ w, rel ad' H' a w → Q w H') → Q' v H') : Go K E rel' r ad lo H Q' := by
  cases r with
  | ok a S' => exact fun ad' H' v x rs q => h a S' ad' H' v rfl x rs q fun w z => g ad' H' w x rs z
  | exc c fs S' => exact g
  | no => exact g
/-- the answer now -/
theorem Go.now {a : α} {v : β} {Q : β → Hp → Prop} (g : Go K E rel (.ok a S) ad lo H Q) (x : Adv ad H ad1 H1) (rs : RS K ad1 lo H1 S) (q : rel ad1 H1 a v) : Q v H1 := g ad1 H1 v x rs q
theorem Go.here {a : α} {v : β} {Q : β → Hp → Prop} (g : Go K E rel (.ok a S) ad lo H Q) (rs : RS K ad lo H S) (q : rel ad H a v) : Q v H := g ad H v Adv.refl rs q
end
section
variable {X : Cx} {e : Expr}
theorem PE.by {t t' : TE} (h : PE X e t) (q : ∀ σ H Q, t' σ H Q → t σ H Q) : PE X e t' := ⟨fun pins s σ H Q I z => h.run pins s σ H Q I (q σ H Q z)⟩
theorem PT.by {t t' : TT} (h : PT X e t) (q : ∀ σ H Q, t' σ H Q → t σ H Q) : PT X e t' := ⟨fun pins s σ H Q I z => h.run pins s σ H Q I (q σ H Q z)⟩
theorem PA.by {es : List Expr} {t t' : TA} (h : PA X es t) (q : ∀ σ H Q, t' σ H Q → t σ H Q) : PA X es t' := ⟨fun pos pins s σ H Q I z => h.run pos pins s σ H Q I (q σ H Q z)⟩
theorem PS.by {st : Stmt} {t t' : TS} (h : PS X st t) (q : ∀ D σ H, t' D σ H → t D σ H) : PS X st t' := ⟨fun pins s σ H D I z => h.run pins s σ H D I (q D σ H z)⟩
theorem PSs.by {st : List Stmt} {t t' : TS} (h : PSs X st t) (q : ∀ D σ H, t' D σ H → t D σ H) : PSs X st t' := ⟨fun pins s σ H D I z => h.run pins s σ H D I (q D σ H z)⟩
theorem PE.or {t t' : TE} (h : PE X e t) (h' : PE X e t') : PE X e (fun σ H Q => t σ H Q ∨ t' σ H Q) := ⟨fun pins s σ H Q I z => z.elim (h.run pins s σ H Q I) (h'.run pins s σ H Q I)⟩
theorem OpR.by {f : Value → Value → Sem Value} {r r' : R2} (h : OpR X f r) (q : ∀ x y H Q, r' x y H Q → r x y H Q) : OpR X f r' := fun pins s σ H x y v u Q I rx ry z => h pins s σ H x y v u Q I rx ry (q x y H Q z)
theorem OpR.or {f : Value → Value → Sem Value} {r r' : R2} (h : OpR X f r) (h' : OpR X f r') : OpR X f (fun x y H Q => r x y H Q ∨ r' x y H Q) := fun pins s σ H x y v u Q I rx ry z => z.elim (h pins s σ H x y v u Q I rx ry) (h' pins s σ H x y v u Q I rx ry)
theorem CallR.by {f : Value} {r r' : List V → Hp → VK → Prop} (h : CallR X f r) (q : ∀ xs H Q, r' xs H Q → r xs H Q) : CallR X f r' := fun pins s σ H xs us Q I rv z => h pins s σ H xs us Q I rv (q xs H Q z)
theorem CallR.or {f : Value} {r r' : List V → Hp → VK → Prop} (h : CallR X f r) (h' : CallR X f r') : CallR X f (fun xs H Q => r xs H Q ∨ r' xs H Q) := fun pins s σ H xs us Q I rv z => z.elim (h pins s σ H xs us Q I rv) (h' pins s σ H xs us Q I rv)
theorem MtR.by {id : String} {r r' : V → List V → Hp → VK → Prop} (h : MtR X id r) (q : ∀ x xs H Q, r' x xs H Q → r x xs H Q) : MtR X id r' := fun pins s σ H x xs v us Q I rx rv z => h pins s σ H x xs v us Q I rx rv (q x xs H Q z)
theorem IxR.by {r r' : R2} (h : IxR X r) (q : ∀ x y H Q, r' x y H Q → r x y H Q) : IxR X r' := fun va sl pins s σ H x y v u Q I rx ry z e => h va sl pins s σ H x y v u Q I rx ry (q x y H Q z) e
theorem IxR.or {r r' : R2} (h : IxR X r) (h' : IxR X r') : IxR X (fun x y H Q => r x y H Q ∨ r' x y H Q) := fun va sl pins s σ H x y v u Q I rx ry z e => z.elim (fun z => h va sl pins s σ H x y v u Q I rx ry z e) (fun z => h' va sl pins s σ H x y v u Q I rx ry z e)
end
def bOf (m : ME) : Env → Sto → R Bool := fun env S => (m env S).bind fun u S1 => match u with
  | .bl b => .ok b S1
  | _ => .no
structure SE (X : Cx) (E : XK) (e : Expr) (m : ME) : Prop where
  pe : PE X e (tI X.K E m)
  pt : PT X e (tIb X.K E (bOf m))
/-- as a value that is a truth value -/
theorem tI_b {K : PySem.W.Frag} {E : XK} {m : ME} (σ : St) (H : Hp) (Q : Bool → Hp → Prop) (h : tIb K E (bOf m) σ H Q) : tB (tI K E m) σ H Q := by
  obtain ⟨ad, lo, env, S, rs, re, g⟩ := h
  refine tE.imp (Go.seq (rel := RU K) rs re g) ?_
  rintro x H1 ⟨u, ad1, S1, x1, rs1, re1, ru, g1⟩
  cases ru with
  | bl b => exact ⟨b, rfl, Go.here g1 rs1 rfl⟩
  | _ => exact g1.elim
theorem SE.of {X : Cx} {E : XK} {e : Expr} {m : ME} (h : PE X e (tI X.K E m)) (he : ∀ whole, isTrue e X.env whole = (do let v ← whole; standAt e.pos; holding [v] (truthy v)) := by intro _; rfl) : SE X E e m :=
  ⟨h, PT.by (pt_val h he) tI_b⟩
def xVar (i : Nat) : ME := fun env S => match env[i]? with
  | some (some u) => .ok u S
  | _ => .no
def xC (u : U) : ME := fun _ S => .ok u S
section
variable {X : Cx} {E : XK}
theorem tI_var {K : PySem.W.Frag} {i : Nat} (σ : St) (H : Hp) (Q : VK) (h : tI K E (xVar i) σ H Q) : tVar i σ H Q := by
  obtain ⟨ad, lo, env, S, rs, re, g⟩ := h
  unfold xVar at g
  cases e : env[i]? with
  | none => rw [e] at g; exact g.elim
  | some o =>
    cases o with
    | none => rw [e] at g; exact g.elim
    | some u =>
      rw [e] at g
      obtain ⟨v, e1, q⟩ := re.2 i u e
      exact ⟨v, e1, Go.here g rs q⟩
theorem tI_c {K : PySem.W.Frag} {u : U} {v : V} (ru : ∀ ad H, RU K ad H u v) (σ : St) (H : Hp) (Q : VK) (h : tI K E (xC u) σ H Q) : tC v σ H Q := by
  obtain ⟨ad, lo, env, S, rs, re, g⟩ := h
  exact Go.here g rs (ru ad H)
theorem se_var {i : Nat} {x : Str} {pos : Pos} (hN : X.N[i]? = some x) (hv : Vis X.env.scope x) (hd : (x == ("__debug__" : Str)) = false) (hcd : (x == ("__classdict__" : Str)) = false) : SE X E (.Name x pos) (xVar i) :=
  .of (PE.by (pe_var hN hv hd hcd) tI_var)
theorem se_int {i : Int} {j pos} : SE X E (.Constant (.int i) j pos) (xC (.int i)) := .of (PE.by pe_int (tI_c fun _ _ => .int i))
theorem se_bl {b j pos} : SE X E (.Constant (.bool b) j pos) (xC (.bl b)) := .of (PE.by pe_bl (tI_c fun _ _ => .bl b))
theorem se_non {j pos} : SE X E (.Constant .none j pos) (xC .non) := .of (PE.by pe_non (tI_c fun _ _ => .non))
theorem se_str {x j pos} : SE X E (.Constant (.str x) j pos) (xC (.str x)) := .of (PE.by pe_str (tI_c fun _ _ => .str x))
/-- a module's constant -/
theorem se_glob {x : Str} {u : U} {v : V} {w : Value} {pos : Pos} (hg : Gl X x) (hm : X.mg x = some w) (r : RelV v w) (ru : ∀ ad H, RU X.K ad H u v) (hd : (x == ("__debug__" : Str)) = false) : SE X E (.Name x pos) (xC u) :=
  .of (PE.by (pe_glob hg hm r hd) (tI_c ru))
end
def xAnd (a b : ME) : ME := fun env S => (a env S).bind fun u S1 => match u with
  | .bl true => b env S1
  | .bl false => .ok (.bl false) S1
  | _ => .no
def xOr (a b : ME) : ME := fun env S => (a env S).bind fun u S1 => match u with
  | .bl false => b env S1
  | .bl true => .ok (.bl true) S1
  | _ => .no
def xNot (a : ME) : ME := fun env S => (a env S).bind fun u S1 => match u with
  | .bl b => .ok (.bl (!b)) S1
  | _ => .no
def xIf (c a b : ME) : ME := fun env S => (c env S).bind fun u S1 => match u with
  | .bl true => a env S1
  | .bl false => b env S1
  | _ => .no
/-- and, or as a list of operands: value, and test whatever its whole -/
structure SW (X : Cx) (E : XK) (e : Expr) (m : ME) : Prop where
  pe : PE X e (tI X.K E m)
  pw : PW X e (tIb X.K E (bOf m))
theorem SW.se {X : Cx} {E : XK} {e : Expr} {m : ME} (h : SW X E e m) : SE X E e m := ⟨h.pe, h.pw.pt⟩
theorem PW.by {X : Cx} {e : Expr} {t t' : TT} (h : PW X e t) (q : ∀ σ H Q, t' σ H Q → t σ H Q) : PW X e t' := ⟨fun wh pins s σ H Q I z => h.run wh pins s σ H Q I (q σ H Q z)⟩
section
variable {K : PySem.W.Frag} {E : XK} {a b c : ME}
theorem R.bind_assoc {α β γ : Type} (r : R α) (f : α → Sto → R β) (g : β → Sto → R γ) : (r.bind f).bind g = r.bind fun x S => (f x S).bind g := by cases r <;> rfl
theorem tI_and (σ : St) (H : Hp) (Q : VK) (h : tI K E (xAnd a b) σ H Q) : tAndV (tI K E a) (tI K E b) σ H Q := by
  obtain ⟨ad, lo, env, S, rs, re, g⟩ := h
  refine tE.imp (Go.seq (rel := RU K) rs re g) ?_
  rintro x H1 ⟨u, ad1, S1, x1, rs1, re1, ru, g1⟩
  cases ru with
  | bl k => cases k with
    | true => exact ⟨true, rfl, by rw [if_pos rfl]; exact ⟨ad1, lo, env, S1, rs1, re1, g1⟩⟩
    | false => exact ⟨false, rfl, by rw [if_neg Bool.false_ne_true]; exact Go.here g1 rs1 (.bl _)⟩
  | _ => exact g1.elim
theorem tI_or (σ : St) (H : Hp) (Q : VK) (h : tI K E (xOr a b) σ H Q) : tOrV (tI K E a) (tI K E b) σ H Q := by
  obtain ⟨ad, lo, env, S, rs, re, g⟩ := h
  refine tE.imp (Go.seq (rel := RU K) rs re g) ?_
  rintro x H1 ⟨u, ad1, S1, x1, rs1, re1, ru, g1⟩
  cases ru with
  | bl k => cases k with
    | true => exact ⟨true, rfl, by rw [if_pos rfl]; exact Go.here g1 rs1 (.bl _)⟩
    | false => exact ⟨false, rfl, by rw [if_neg Bool.false_ne_true]; exact ⟨ad1, lo, env, S1, rs1, re1, g1⟩⟩
  | _ => exact g1.elim
theorem tI_not (σ : St) (H : Hp) (Q : VK) (h : tI K E (xNot a) σ H Q) : tNotV (tI K E a) σ H Q := by
  obtain ⟨ad, lo, env, S, rs, re, g⟩ := h
  refine tE.imp (Go.seq (rel := RU K) rs re g) ?_
  rintro x H1 ⟨u, ad1, S1, x1, rs1, re1, ru, g1⟩
  cases ru with
  | bl k => exact ⟨k, rfl, Go.here g1 rs1 (.bl _)⟩
  | _ => exact g1.elim
/-- a test, then a branch -/
theorem test_go {γ δ : Type} {rel2 : List Addr → Hp → γ → δ → Prop} {ad : List Addr} {lo : Nat → Option Obj} {H : Hp} {S : Sto} {σ : St} {env : Env} {Q : δ → Hp → Prop} {f : Bool → Sto → R γ} {m : ME} (rs : RS K ad lo H S) (re : REnv K ad H σ env)
    (g : Go K E rel2 ((m env S).bind fun u S1 => match u with | .bl k => f k S1 | _ => .no) ad lo H Q) :
    tIb K E (bOf m) σ H fun k H1 => ∃ ad1 S1, Adv ad H ad1 H1 ∧ RS K ad1 lo H1 S1 ∧ REnv K ad1 H1 σ env ∧ Go K E rel2 (f k S1) ad1 lo H1 Q := by
  have e : (m env S).bind (fun u S1 => match u with | .bl k => f k S1 | _ => .no) = (bOf m env S).bind f := by
    unfold bOf
    rw [R.bind_assoc]
    congr 1
    funext u S1
    cases u <;> rfl
  rw [e] at g
  refine tE.imp (Go.seq (m := bOf m) (rel := rB) rs re g) ?_
  rintro x H1 ⟨u, ad1, S1, x1, rs1, re1, ru, g1⟩
  cases (show u = x from ru)
  exact ⟨ad1, S1, x1, rs1, re1, g1⟩
theorem xIf_eq (env : Env) (S : Sto) : xIf c a b env S = (c env S).bind fun u S1 => match u with | .bl k => (if k = true then a env S1 else b env S1) | _ => .no := by
  unfold xIf
  congr 1
  funext u S1
  cases u with
  | bl k => cases k <;> rfl
  | _ => rfl
theorem tI_if (σ : St) (H : Hp) (Q : VK) (h : tI K E (xIf c a b) σ H Q) : tIf (tIb K E (bOf c)) (tI K E a) (tI K E b) σ H Q := by
  obtain ⟨ad, lo, env, S, rs, re, g⟩ := h
  rw [xIf_eq] at g
  refine tE.imp (test_go rs re g) ?_
  rintro k H1 ⟨ad1, S1, x1, rs1, re1, g1⟩
  cases k with
  | true => exact ⟨ad1, lo, env, S1, rs1, re1, g1⟩
  | false => exact ⟨ad1, lo, env, S1, rs1, re1, g1⟩
theorem bOf_and (env : Env) (S : Sto) : bOf (xAnd a b) env S = (a env S).bind fun u S1 => match u with | .bl k => (if k = true then bOf b env S1 else .ok false S1) | _ => .no := by
  unfold bOf xAnd
  rw [R.bind_assoc]
  congr 1
  funext u S1
  cases u with
  | bl k => cases k <;> rfl
  | _ => rfl
theorem bOf_or (env : Env) (S : Sto) : bOf (xOr a b) env S = (a env S).bind fun u S1 => match u with | .bl k => (if k = true then .ok true S1 else bOf b env S1) | _ => .no := by
  unfold bOf xOr
  rw [R.bind_assoc]
  congr 1
  funext u S1
  cases u with
  | bl k => cases k <;> rfl
  | _ => rfl
theorem bOf_not (env : Env) (S : Sto) : bOf (xNot a) env S = (a env S).bind fun u S1 => match u with | .bl k => .ok (!k) S1 | _ => .no := by
  unfold bOf xNot
  rw [R.bind_assoc]
  congr 1
  funext u S1
  cases u <;> rfl
theorem tT_and (σ : St) (H : Hp) (Q : Bool → Hp → Prop) (h : tIb K E (bOf (xAnd a b)) σ H Q) : tAnd (tIb K E (bOf a)) (tIb K E (bOf b)) σ H Q := by
  obtain ⟨ad, lo, env, S, rs, re, g⟩ := h
  rw [bOf_and] at g
  refine tE.imp (test_go rs re g) ?_
  rintro k H1 ⟨ad1, S1, x1, rs1, re1, g1⟩
  cases k with
  | true => exact ⟨ad1, lo, env, S1, rs1, re1, g1⟩
  | false => exact Go.here (v := false) g1 rs1 rfl
theorem tT_or (σ : St) (H : Hp) (Q : Bool → Hp → Prop) (h : tIb K E (bOf (xOr a b)) σ H Q) : tOr (tIb K E (bOf a)) (tIb K E (bOf b)) σ H Q := by
  obtain ⟨ad, lo, env, S, rs, re, g⟩ := h
  rw [bOf_or] at g
  refine tE.imp (test_go rs re g) ?_
  rintro k H1 ⟨ad1, S1, x1, rs1, re1, g1⟩
  cases k with
  | true => exact Go.here (v := true) g1 rs1 rfl
  | false => exact ⟨ad1, lo, env, S1, rs1, re1, g1⟩
theorem tT_not (σ : St) (H : Hp) (Q : Bool → Hp → Prop) (h : tIb K E (bOf (xNot a)) σ H Q) : tNot (tIb K E (bOf a)) σ H Q := by
  obtain ⟨ad, lo, env, S, rs, re, g⟩ := h
  rw [bOf_not] at g
  refine tE.imp (test_go rs re g) ?_
  rintro k H1 ⟨ad1, S1, x1, rs1, re1, g1⟩
  exact Go.here g1 rs1 rfl
end
section
variable {X : Cx} {E : XK} {a b c : Expr} {rest : List Expr} {pos : Pos} {ma mb mc : ME}
theorem sw_and1 (ha : SE X E a ma) : SW X E (.BoolOp .And [a] pos) ma := ⟨pe_one ha.pe, pw_and1 ha.pt⟩
theorem sw_or1 (ha : SE X E a ma) : SW X E (.BoolOp .Or [a] pos) ma := ⟨pe_one ha.pe, pw_or1 ha.pt⟩
theorem sw_and (ha : SE X E a ma) (hb : SW X E (.BoolOp .And (b :: rest) pos) mb) : SW X E (.BoolOp .And (a :: b :: rest) pos) (xAnd ma mb) :=
  ⟨PE.by (pe_and ha.pe hb.pe) tI_and, PW.by (pw_and ha.pt hb.pw) tT_and⟩
theorem sw_or (ha : SE X E a ma) (hb : SW X E (.BoolOp .Or (b :: rest) pos) mb) : SW X E (.BoolOp .Or (a :: b :: rest) pos) (xOr ma mb) :=
  ⟨PE.by (pe_or ha.pe hb.pe) tI_or, PW.by (pw_or ha.pt hb.pw) tT_or⟩
theorem se_not (ha : SE X E a ma) : SE X E (.UnaryOp .Not a pos) (xNot ma) := ⟨PE.by (pe_not ha.pe) tI_not, PT.by (pt_not ha.pt) tT_not⟩
end
end VI
set_option Elab.async false
set_option linter.all false
set_option maxRecDepth 100000
set_option maxHeartbeats 4000000
namespace VI
open PySem L2
/-- a two-place operation on plain values, as a rule by values -/
def rI2 (K : PySem.W.Frag) (E : XK) (g : U → U → Sto → R U) : R2 := fun x y H Q => ∃ ad lo S u w, RS K ad lo H S ∧ RU K ad H u x ∧ RU K ad H w y ∧ Go K E (RU K) (g u w S) ad lo H Q
def rI1 (K : PySem.W.Frag) (E : XK) (g : U → Sto → R U) : V → Hp → VK → Prop := fun x H Q => ∃ ad lo S u, RS K ad lo H S ∧ RU K ad H u x ∧ Go K E (RU K) (g u S) ad lo H Q
def x2 (g : U → U → Sto → R U) (a b : ME) : ME := fun env S => (a env S).bind fun u S1 => (b env S1).bind fun w S2 => g u w S2
def x1 (g : U → Sto → R U) (a : ME) : ME := fun env S => (a env S).bind fun u S1 => g u S1
section
variable {K : PySem.W.Frag} {E : XK} {a b c : ME}
theorem tI_2 {g : U → U → Sto → R U} (σ : St) (H : Hp) (Q : VK) (h : tI K E (x2 g a b) σ H Q) : tOp (rI2 K E g) (tI K E a) (tI K E b) σ H Q := by
  obtain ⟨ad, lo, env, S, rs, re, z⟩ := h
  refine tE.imp (Go.seq (rel := RU K) rs re z) ?_
  rintro x H1 ⟨u, ad1, S1, x1, rs1, re1, ru, z1⟩
  refine tE.imp (Go.seq (rel := RU K) rs1 re1 z1) ?_
  rintro y H2 ⟨w, ad2, S2, x2, rs2, re2, rw, z2⟩
  exact ⟨ad2, lo, S2, u, w, rs2, ru.adv rs1 x2, rw, z2⟩
theorem tI_1 {g : U → Sto → R U} (σ : St) (H : Hp) (Q : VK) (h : tI K E (x1 g a) σ H Q) : tUn (rI1 K E g) (tI K E a) σ H Q := by
  obtain ⟨ad, lo, env, S, rs, re, z⟩ := h
  refine tE.imp (Go.seq (rel := RU K) rs re z) ?_
  rintro x H1 ⟨u, ad1, S1, x1, rs1, re1, ru, z1⟩
  exact ⟨ad1, lo, S1, u, rs1, ru, z1⟩
end
/-- the list that a number of the store is -/
def Sto.lst (S : Sto) (n : Nat) : Option (List U) := match S.objs[n]? with
  | some (.lst xs) => some xs
  | _ => none
def Sto.dct (S : Sto) (n : Nat) : Option (List (Str × U)) := match S.objs[n]? with
  | some (.dct xs) => some xs
  | _ => none
def Sto.ins (S : Sto) (n : Nat) : Option (Str × List (Str × U)) := match S.objs[n]? with
  | some (.ins c fs) => some (c, fs)
  | _ => none
section
variable {K : PySem.W.Frag} {ad : List Addr} {lo : Nat → Option Obj} {H : Hp} {S : Sto} {n : Nat} {a : Addr}
theorem Sto.lst_eq {xs : List U} (h : S.lst n = some xs) : S.objs[n]? = some (.lst xs) := by
  unfold Sto.lst at h
  split at h
  · rename_i ys e
    cases h
    exact e
  · cases h
theorem Sto.dct_eq {xs : List (Str × U)} (h : S.dct n = some xs) : S.objs[n]? = some (.dct xs) := by
  unfold Sto.dct at h
  split at h
  · rename_i ys e
    cases h
    exact e
  · cases h
theorem Sto.ins_eq {c : Str} {xs : List (Str × U)} (h : S.ins n = some (c, xs)) : S.objs[n]? = some (.ins c xs) := by
  unfold Sto.ins at h
  split at h
  · rename_i d ys e
    cases h
    exact e
  · cases h
/-- a list of the store is a list that can be read -/
theorem RS.sql (r : RS K ad lo H S) {xs : List U} (h : S.lst n = some xs) (e : ad[n]? = some a) : ∃ vs, SqL K H a vs ∧ RUs K ad H xs vs ∧ H a = some (.lst vs) := by
  obtain ⟨b, u, e1, ro, e2⟩ := r.obj n _ (Sto.lst_eq h)
  rw [e] at e1
  cases e1
  cases ro with
  | lst q =>
    have l : lo n = none := by
      cases l : lo n with
      | none => rfl
      | some ob =>
        obtain ⟨kvs, z⟩ := r.kind n (by rw [l]; rfl)
        rw [Sto.lst_eq h] at z
        cases z
    rw [l] at e2
    exact ⟨_, .inl (.inl e2), q, e2⟩
theorem RS.noL (r : RS K ad lo H S) {xs : List U} (h : S.lst n = some xs) : lo n = none := by
  cases l : lo n with
  | none => rfl
  | some ob =>
    obtain ⟨kvs, z⟩ := r.kind n (by rw [l]; rfl)
    rw [Sto.lst_eq h] at z
    cases z
theorem RS.noI (r : RS K ad lo H S) {c : Str} {fs : List (Str × U)} (h : S.ins n = some (c, fs)) : lo n = none := by
  cases l : lo n with
  | none => rfl
  | some ob =>
    obtain ⟨kvs, z⟩ := r.kind n (by rw [l]; rfl)
    rw [Sto.ins_eq h] at z
    cases z
theorem RS.insH (r : RS K ad lo H S) {c : Str} {fs : List (Str × U)} (h : S.ins n = some (c, fs)) (e : ad[n]? = some a) : ∃ dx gs, H a = some (.ins (He.ga K c) dx gs) ∧ RF K ad H fs gs := by
  obtain ⟨b, u, e1, ro, e2⟩ := r.obj n _ (Sto.ins_eq h)
  rw [e] at e1
  cases e1
  cases ro with
  | ins q =>
    have l : lo n = none := by
      cases l : lo n with
      | none => rfl
      | some ob =>
        obtain ⟨kvs, z⟩ := r.kind n (by rw [l]; rfl)
        rw [Sto.ins_eq h] at z
        cases z
    rw [l] at e2
    exact ⟨_, _, e2, q⟩
theorem RS.dk (r : RS K ad lo H S) {kvs : List (Str × U)} (h : S.dct n = some kvs) (e : ad[n]? = some a) : ∃ ws, Rd H a (.dK (ws.map fun p => ((Sum.inr p.1 : Key), p.2))) ∧ RF K ad H kvs ws ∧ H a = some (wrap (lo n) (.dK (ws.map fun p => ((Sum.inr p.1 : Key), p.2)))) := by
  obtain ⟨b, u, e1, ro, e2⟩ := r.obj n _ (Sto.dct_eq h)
  rw [e] at e1
  cases e1
  cases ro with
  | dct q =>
    refine ⟨_, ?_, q, e2⟩
    cases l : lo n with
    | none => rw [l] at e2; exact .inl e2
    | some ob => rw [l] at e2; exact .inr ⟨ob, e2⟩
theorem RS.free (r : RS K ad lo H S) (h : n ∉ S.lk) : lo n = none := by
  cases q : lo n with
  | none => rfl
  | some w => exact absurd (r.lock n (by rw [q]; rfl)) h
end
def allSome {α : Type} : List (Option α) → Option (List α)
  | [] => some []
  | none :: _ => none
  | some a :: r => (allSome r).map (a :: ·)
def rdU : Nat → Sto → U → Option PyData
  | _, _, .non => some .none
  | _, _, .bl b => some (.bool b)
  | _, _, .int i => some (.int i)
  | _, _, .str x => if PyData.strOk x = true then some (.str x) else none
  | _, _, .sc _ => none
  | _, _, .fd _ => none
  | 0, _, .tup _ => none
  | 0, _, .fl _ => none
  | 0, _, .ref _ => none
  | n + 1, S, .tup us => (allSome (us.map (rdU n S))).map .tuple
  | n + 1, S, .fl us => (allSome (us.map (rdU n S))).map .list
  | n + 1, S, .ref k => match S.lst k with
    | some xs => (allSome (xs.map (rdU n S))).map .list
    | none => none
section
variable {K : PySem.W.Frag} {ad : List Addr} {lo : Nat → Option Obj} {H : Hp} {S : Sto}
theorem rd_all {n : Nat} : ∀ (us : List U) (vs : List V) (ds : List PyData), RUs K ad H us vs → allSome (us.map (rdU n S)) = some ds →
    vs.length = ds.length ∧ ∀ (i : Nat) (v : V) (d : PyData), vs[i]? = some v → ds[i]? = some d → ∃ u, RU K ad H u v ∧ rdU n S u = some d
  | [], _, ds, .nil, e => by
    cases e
    exact ⟨rfl, fun i v d e1 _ => by rw [List.getElem?_nil] at e1; cases e1⟩
  | u :: us, v :: vs, ds, .cons q t, e => by
    rw [List.map_cons] at e
    cases r : rdU n S u with
    | none => rw [r] at e; cases e
    | some d =>
      rw [r] at e
      cases r2 : allSome (us.map (rdU n S)) with
      | none => unfold allSome at e; rw [r2] at e; cases e
      | some es =>
        have e3 : ds = d :: es := by
          unfold allSome at e
          rw [r2] at e
          exact (Option.some.inj e).symm
        subst e3
        obtain ⟨l, g⟩ := rd_all us vs es t r2
        refine ⟨by simp [l], fun i w f e1 e2 => ?_⟩
        cases i with
        | zero =>
          rw [List.getElem?_cons_zero] at e1 e2
          cases e1
          cases e2
          exact ⟨u, q, r⟩
        | succ i =>
          rw [List.getElem?_cons_succ] at e1 e2
          exact g i w f e1 e2
theorem dpAll_of : ∀ (vs : List V) (ds : List PyData), vs.length = ds.length → (∀ (i : Nat) v d, vs[i]? = some v → ds[i]? = some d → Dp K H v d) → DpAll K H vs ds
  | [], [], _, _ => .nil
  | v :: vs, d :: ds, l, h => .cons (h 0 v d rfl rfl) (dpAll_of vs ds (by simpa using l) fun i w f e1 e2 => h (i + 1) w f (by rw [List.getElem?_cons_succ]; exact e1) (by rw [List.getElem?_cons_succ]; exact e2))
  | [], _ :: _, l, _ => by simp at l
  | _ :: _, [], l, _ => by simp at l
theorem layAll_of : ∀ (ds : List PyData), (∀ d ∈ ds, d.canLay0 = true) → PyData.canLayAll0 ds = true
  | [], _ => by unfold PyData.canLayAll0; rfl
  | d :: ds, h => by
    unfold PyData.canLayAll0
    rw [h d (by simp), layAll_of ds fun e q => h e (by simp [q])]
    rfl
theorem depthAll_of {n : Nat} : ∀ (ds : List PyData), (∀ d ∈ ds, d.depth ≤ n) → PyData.depthAll ds ≤ n
  | [], _ => by unfold PyData.depthAll; exact Nat.zero_le _
  | d :: ds, h => by
    unfold PyData.depthAll
    exact Nat.max_le.mpr ⟨h d (by simp), depthAll_of ds fun e q => h e (by simp [q])⟩
theorem rd_ok (rs : RS K ad lo H S) : ∀ (n : Nat) (u : U) (v : V) (d : PyData), RU K ad H u v → rdU n S u = some d → Dp K H v d ∧ PyData.canLay0 d = true ∧ d.depth ≤ n := by
  have flat : ∀ (n : Nat) (u : U) (v : V) (d : PyData), (∀ us, u ≠ .tup us) → (∀ us, u ≠ .fl us) → (∀ k, u ≠ .ref k) → RU K ad H u v → rdU n S u = some d → Dp K H v d ∧ PyData.canLay0 d = true ∧ d.depth ≤ n := by
    intro n u v d h1 h3 h2 q e
    cases q with
    | non => unfold rdU at e; cases e; exact ⟨.non, by unfold PyData.canLay0; rfl, by simp [PyData.depth]⟩
    | bl b => unfold rdU at e; cases e; exact ⟨.bl b, by unfold PyData.canLay0; rfl, by simp [PyData.depth]⟩
    | int i => unfold rdU at e; cases e; exact ⟨.int i, by unfold PyData.canLay0; rfl, by simp [PyData.depth]⟩
    | str x =>
      unfold rdU at e
      split at e
      · cases e
        exact ⟨.str x, by unfold PyData.canLay0; assumption, by simp [PyData.depth]⟩
      · cases e
    | tup _ _ => exact absurd rfl (h1 _)
    | sc _ _ => unfold rdU at e; cases e
    | sck _ _ => unfold rdU at e; cases e
    | fl _ _ => exact absurd rfl (h3 _)
    | fd _ _ _ => unfold rdU at e; cases e
    | ref _ => exact absurd rfl (h2 _)
  intro n
  induction n with
  | zero =>
    intro u v d q e
    cases u with
    | tup us => unfold rdU at e; cases e
    | ref k => unfold rdU at e; cases e
    | fl us => unfold rdU at e; cases e
    | sc us => unfold rdU at e; cases e
    | fd us => unfold rdU at e; cases e
    | non => exact flat 0 _ v d (by intro _ z; cases z) (by intro _ z; cases z) (by intro _ z; cases z) q e
    | bl b => exact flat 0 _ v d (by intro _ z; cases z) (by intro _ z; cases z) (by intro _ z; cases z) q e
    | int i => exact flat 0 _ v d (by intro _ z; cases z) (by intro _ z; cases z) (by intro _ z; cases z) q e
    | str x => exact flat 0 _ v d (by intro _ z; cases z) (by intro _ z; cases z) (by intro _ z; cases z) q e
  | succ n ih =>
    intro u v d q e
    cases u with
    | non => exact flat _ _ v d (by intro _ z; cases z) (by intro _ z; cases z) (by intro _ z; cases z) q e
    | bl b => exact flat _ _ v d (by intro _ z; cases z) (by intro _ z; cases z) (by intro _ z; cases z) q e
    | int i => exact flat _ _ v d (by intro _ z; cases z) (by intro _ z; cases z) (by intro _ z; cases z) q e
    | str x => exact flat _ _ v d (by intro _ z; cases z) (by intro _ z; cases z) (by intro _ z; cases z) q e
    | sc us => unfold rdU at e; cases e
    | fd us => unfold rdU at e; cases e
    | fl us =>
      unfold rdU at e
      cases r : allSome (us.map (rdU n S)) with
      | none => rw [r] at e; cases e
      | some ds =>
        rw [r] at e
        cases e
        cases q with
        | fl hs0 t =>
          obtain ⟨l, g⟩ := rd_all us _ ds t r
          have all : ∀ (i : Nat) v d, _ → ds[i]? = some d → Dp K H v d ∧ PyData.canLay0 d = true ∧ d.depth ≤ n := fun i v d e1 e2 => let ⟨u, a, b⟩ := g i v d e1 e2; ih u v d a b
          have each : ∀ d ∈ ds, PyData.canLay0 d = true ∧ d.depth ≤ n := fun d hd => by
            obtain ⟨i, hi, e1⟩ := List.mem_iff_getElem.mp hd
            have e2 : ds[i]? = some d := by rw [List.getElem?_eq_getElem hi, e1]
            exact (all i _ d (List.getElem?_eq_getElem (by rw [l]; exact hi)) e2).2
          refine ⟨.lst (.inl (.inr ⟨_, hs0⟩)) (dpAll_of _ ds l fun i v d e1 e2 => (all i v d e1 e2).1), ?_, ?_⟩
          · unfold PyData.canLay0; exact layAll_of ds fun d hd => (each d hd).1
          · unfold PyData.depth; exact Nat.succ_le_succ (depthAll_of ds fun d hd => (each d hd).2)
    | tup us =>
      unfold rdU at e
      cases r : allSome (us.map (rdU n S)) with
      | none => rw [r] at e; cases e
      | some ds =>
        rw [r] at e
        cases e
        cases q with
        | tup hs t =>
          obtain ⟨l, g⟩ := rd_all us _ ds t r
          have all : ∀ (i : Nat) v d, _ → ds[i]? = some d → Dp K H v d ∧ PyData.canLay0 d = true ∧ d.depth ≤ n := fun i v d e1 e2 => let ⟨u, a, b⟩ := g i v d e1 e2; ih u v d a b
          have each : ∀ d ∈ ds, PyData.canLay0 d = true ∧ d.depth ≤ n := fun d hd => by
            obtain ⟨i, hi, e1⟩ := List.mem_iff_getElem.mp hd
            have e2 : ds[i]? = some d := by rw [List.getElem?_eq_getElem hi, e1]
            exact (all i _ d (List.getElem?_eq_getElem (by rw [l]; exact hi)) e2).2
          refine ⟨.tup hs (dpAll_of _ ds l fun i v d e1 e2 => (all i v d e1 e2).1), ?_, ?_⟩
          · unfold PyData.canLay0; exact layAll_of ds fun d hd => (each d hd).1
          · unfold PyData.depth; exact Nat.succ_le_succ (depthAll_of ds fun d hd => (each d hd).2)
    | ref k =>
      unfold rdU at e
      cases z : S.lst k with
      | none => rw [z] at e; cases e
      | some us =>
        rw [z] at e
        cases r : allSome (us.map (rdU n S)) with
        | none => simp only [r] at e; cases e
        | some ds =>
          simp only [r] at e
          cases e
          cases q with
          | ref ea =>
            obtain ⟨vs, hs, t, _⟩ := rs.sql z ea
            obtain ⟨l, g⟩ := rd_all us _ ds t r
            have all : ∀ (i : Nat) v d, vs[i]? = some v → ds[i]? = some d → Dp K H v d ∧ PyData.canLay0 d = true ∧ d.depth ≤ n := fun i v d e1 e2 => let ⟨u, a, b⟩ := g i v d e1 e2; ih u v d a b
            have each : ∀ d ∈ ds, PyData.canLay0 d = true ∧ d.depth ≤ n := fun d hd => by
              obtain ⟨i, hi, e1⟩ := List.mem_iff_getElem.mp hd
              have e2 : ds[i]? = some d := by rw [List.getElem?_eq_getElem hi, e1]
              exact (all i _ d (List.getElem?_eq_getElem (by rw [l]; exact hi)) e2).2
            refine ⟨.lst hs (dpAll_of _ ds l fun i v d e1 e2 => (all i v d e1 e2).1), ?_, ?_⟩
            · unfold PyData.canLay0; exact layAll_of ds fun d hd => (each d hd).1
            · unfold PyData.depth; exact Nat.succ_le_succ (depthAll_of ds fun d hd => (each d hd).2)
theorem rd_shaped (rs : RS K ad lo H S) {n : Nat} {u : U} {v : V} {d : PyData} (hn : n ≤ 64) (q : RU K ad H u v) (e : rdU n S u = some d) : Dp K H v d ∧ SeqAt.shaped d = true := by
  obtain ⟨a, b, c⟩ := rd_ok rs n u v d q e
  refine ⟨a, ?_⟩
  unfold SeqAt.shaped
  rw [b, Bool.true_and]
  exact decide_eq_true (Nat.le_trans c hn)
end
end VI
set_option Elab.async false
set_option linter.all false
set_option maxRecDepth 100000
set_option maxHeartbeats 4000000
namespace VI
open PySem L2
/-- the items of a list -/
def plU (u : U) (S : Sto) : Option (List U) := match u with
  | .fl us => some us
  | .ref n => S.lst n
  | _ => none
def opAdd (u w : U) (S : Sto) : R U := match u, w with
  | .int i, .int j => .ok (.int (i + j)) S
  | .str x, .str y => if x.length + y.length ≤ sizeLine then .ok (.str (x ++ y)) S else .no
  | .tup a, .tup b => if a.length + b.length ≤ sizeLine then .ok (.tup (a ++ b)) S else .no
  | u, w => match plU u S, plU w S with
    | some a, some b => if a.length + b.length ≤ sizeLine then .ok (.fl (a ++ b)) S else .no
    | _, _ => .no
def opSub (u w : U) (S : Sto) : R U := match u, w with
  | .int i, .int j => .ok (.int (i - j)) S
  | _, _ => .no
def opMul (u w : U) (S : Sto) : R U := match u, w with
  | .int i, .int j => if j.natAbs < 2 ^ 64 then .ok (.int (i * j)) S else .no
  | u, .int k => match plU u S with
    | some a => if 0 ≤ k ∧ k.natAbs < 2 ^ 63 ∧ a.length * k.toNat ≤ sizeLine then .ok (.fl (List.replicate k.toNat a).flatten) S else .no
    | none => .no
  | _, _ => .no
def opDiv (u w : U) (S : Sto) : R U := match u, w with
  | .int i, .int j => if 0 < j ∧ j.natAbs < 1073741824 then .ok (.int (i.fdiv j)) S else .no
  | _, _ => .no
def opMod (u w : U) (S : Sto) : R U := match u, w with
  | .int i, .int j => if 0 < j then .ok (.int (i.fmod j)) S else .no
  | _, _ => .no
def opPow (u w : U) (S : Sto) : R U := match u, w with
  | .int i, .int j => if 0 ≤ j ∧ j ≤ 1000000 ∧ i.natAbs < 2 ^ 64 then .ok (.int (i ^ j.toNat)) S else .no
  | _, _ => .no
def opNeg (u : U) (S : Sto) : R U := match u with
  | .int i => .ok (.int (-i)) S
  | _ => .no
/-- == by deep data; two texts need no look at their signs -/
def eqU (u w : U) (S : Sto) : Option Bool := match u, w with
  | .str x, .str y => some (decide (x = y))
  | u, w => match rdU 60 S u, rdU 60 S w with
    | some d, some e => some (PyData.eqv d e)
    | _, _ => none
def opEq (u w : U) (S : Sto) : R U := match eqU u w S with
  | some b => .ok (.bl b) S
  | none => .no
def opNe (u w : U) (S : Sto) : R U := match eqU u w S with
  | some b => .ok (.bl (!b)) S
  | none => .no
def someD : PyData → Bool
  | .none => false
  | _ => true
def ltU (u w : U) (S : Sto) : Option Bool := match u, w with
  | .int i, .int j => some (decide (i < j))
  | .str x, .str y => some (decide (x.cps.toList < y.cps.toList))
  | u, w => match rdU 60 S u, rdU 60 S w with
    | some d, some e => if PySem.W.alike d e = true ∧ someD d = true then some (PySem.W.dataLt d e) else none
    | _, _ => none
def opLt (u w : U) (S : Sto) : R U := match ltU u w S with
  | some b => .ok (.bl b) S
  | none => .no
def opI (f : Int → Int → Bool) (u w : U) (S : Sto) : R U := match u, w with
  | .int i, .int j => .ok (.bl (f i j)) S
  | _, _ => .no
def strsOf : List U → Option (List Str)
  | [] => some []
  | .str x :: r => (strsOf r).map (x :: ·)
  | _ => none
def keyAt (kvs : List (Str × U)) (k : Str) : Option U := (kvs.find? fun p => decide (p.1 = k)).map (·.2)
/-- the items of a tuple or of a list -/
def seqU (u : U) (S : Sto) : Option (List U) := match u with
  | .tup us => some us
  | .sc us => some us
  | .fl us => some us
  | .ref n => S.lst n
  | _ => none
/-- the entries of a dict -/
def dctU (u : U) (S : Sto) : Option (List (Str × U)) := match u with
  | .fd kvs => some kvs
  | .ref n => S.dct n
  | _ => none
def inU (u w : U) (S : Sto) : Option Bool := match u, w with
  | .str x, .str y => match x.cps.toList with
    | [c] => some (decide (c ∈ y.cps.toList))
    | _ => none
  | u, w => match seqU w S with
    | some us => match u, strsOf us with
      | .str x, some ys => some (decide (x ∈ ys))
      | _, _ => match rdU 60 S u, allSome (us.map (rdU 60 S)) with
        | some d, some ds => some (ds.any fun z => PyData.eqv z d)
        | _, _ => none
    | none => match u, dctU w S with
      | .str x, some kvs => some (keyAt kvs x).isSome
      | _, _ => none
def opIn (u w : U) (S : Sto) : R U := match inU u w S with
  | some b => .ok (.bl b) S
  | none => .no
def opNotIn (u w : U) (S : Sto) : R U := match inU u w S with
  | some b => .ok (.bl (!b)) S
  | none => .no
def isNon : U → Bool
  | .non => true
  | _ => false
/-- is None, is True, is False -/
def isU (u w : U) : Option Bool := match w with
  | .non => some (isNon u)
  | .bl b => match u with
    | .bl a => some (decide (a = b))
    | _ => none
  | _ => none
def opIs (u w : U) (S : Sto) : R U := match isU u w with
  | some b => .ok (.bl b) S
  | none => .no
def opIsNot (u w : U) (S : Sto) : R U := match isU u w with
  | some b => .ok (.bl (!b)) S
  | none => .no
section
variable {K : PySem.W.Frag} {ad : List Addr} {lo : Nat → Option Obj} {H : Hp} {S : Sto}
theorem RU.ref_of {n : Nat} {v : V} (h : RU K ad H (.ref n) v) : ∃ a, v = .ref a ∧ ad[n]? = some a := by cases h with | ref e => exact ⟨_, rfl, e⟩
theorem RU.tup_of {us : List U} {v : V} (h : RU K ad H (.tup us) v) : ∃ a vs, v = .ref a ∧ SqT K H a vs ∧ RUs K ad H us vs := by cases h with | tup e q => exact ⟨_, _, rfl, e, q⟩
/-- a new tuple -/
theorem RS.tup (rs : RS K ad lo H S) {p : Addr} {us : List U} {vs : List V} (hp : H p = none) (q : RUs K ad H us vs) : RS K ad lo (upd H p (.tup vs)) S ∧ Adv ad H ad (upd H p (.tup vs)) ∧ RU K ad (upd H p (.tup vs)) (.tup us) (.ref p) := by
  obtain ⟨rs', x⟩ := rs.grow (u := .tup vs) hp
  exact ⟨rs', x, .tup (SqT.of upd_same) (q.adv rs x)⟩
/-- a list of the store stands plainly -/
theorem RS.lstH (rs : RS K ad lo H S) {n : Nat} {a : Addr} {xs : List U} (h : S.lst n = some xs) (e : ad[n]? = some a) : ∃ vs, H a = some (.lst vs) ∧ RUs K ad H xs vs := by
  obtain ⟨vs, _, q, e2⟩ := rs.sql h e
  exact ⟨vs, e2, q⟩
theorem strsOf_ok : ∀ {us : List U} {vs : List V} {ys : List Str}, RUs K ad H us vs → strsOf us = some ys → vs = ys.map V.str
  | [], _, ys, h, e => by cases h; cases e; rfl
  | u :: us, _, ys, .cons q t, e => by
    cases q with
    | str x =>
      unfold strsOf at e
      cases r : strsOf us with
      | none => rw [r] at e; cases e
      | some zs =>
        rw [r] at e
        cases e
        rw [strsOf_ok t r]
        rfl
    | _ => cases e
theorem inV_strs (x : Str) : ∀ ys : List Str, inV (.str x) (ys.map V.str) = decide (x ∈ ys)
  | [] => rfl
  | y :: ys => by
    have ih := inV_strs x ys
    unfold inV at ih ⊢
    rw [List.map_cons, List.any_cons, ih]
    have e : eqV (.str y) (.str x) = decide (x = y) := by
      unfold eqV
      by_cases h : y = x
      · subst h; simp
      · have h' : ¬ x = y := fun z => h z.symm
        simp [h, h']
    rw [e]
    by_cases h : x = y
    · subst h; simp
    · simp [h]
theorem flat_strs : ∀ ys : List Str, (ys.map V.str).all flatV = true
  | [] => rfl
  | y :: ys => by rw [List.map_cons, List.all_cons, flat_strs ys]; rfl
theorem seqU_ok (rs : RS K ad lo H S) {w : U} {y : V} {us : List U} (r : RU K ad H w y) (e : seqU w S = some us) : ∃ p vs, y = .ref p ∧ (SqL K H p vs ∨ SqT K H p vs) ∧ RUs K ad H us vs := by
  cases r with
  | tup h q => cases e; exact ⟨_, _, rfl, .inr h, q⟩
  | sc h q => cases e; exact ⟨_, _, rfl, .inl (.inl (.inr ⟨_, h⟩)), q⟩
  | sck h q => cases e; exact ⟨_, _, rfl, .inl (.inr h), q⟩
  | fl h q => cases e; exact ⟨_, _, rfl, .inl (.inl (.inr ⟨_, h⟩)), q⟩
  | ref ea =>
    obtain ⟨vs, h, q, _⟩ := rs.sql e ea
    exact ⟨_, vs, rfl, .inl h, q⟩
  | _ => cases e
theorem rdAll_ok (rs : RS K ad lo H S) {us : List U} {vs : List V} {ds : List PyData} (q : RUs K ad H us vs) (e : allSome (us.map (rdU 60 S)) = some ds) : DpAll K H vs ds ∧ (∀ d ∈ ds, PyData.canLay0 d = true ∧ d.depth ≤ 60) := by
  obtain ⟨l, g⟩ := rd_all us vs ds q e
  have all : ∀ (i : Nat) v d, vs[i]? = some v → ds[i]? = some d → Dp K H v d ∧ PyData.canLay0 d = true ∧ d.depth ≤ 60 := fun i v d e1 e2 => let ⟨u, a, b⟩ := g i v d e1 e2; rd_ok rs 60 u v d a b
  refine ⟨dpAll_of _ ds l fun i v d e1 e2 => (all i v d e1 e2).1, fun d hd => ?_⟩
  obtain ⟨i, hi, e1⟩ := List.mem_iff_getElem.mp hd
  have e2 : ds[i]? = some d := by rw [List.getElem?_eq_getElem hi, e1]
  exact (all i _ d (List.getElem?_eq_getElem (by rw [l]; exact hi)) e2).2
theorem shaped_seq {ds : List PyData} (h : ∀ d ∈ ds, PyData.canLay0 d = true ∧ d.depth ≤ 60) : SeqAt.shaped (.list ds) = true ∧ SeqAt.shaped (.tuple ds) = true := by
  have a := layAll_of ds fun d hd => (h d hd).1
  have b := depthAll_of ds fun d hd => (h d hd).2
  constructor <;> (unfold SeqAt.shaped PyData.canLay0 PyData.depth; rw [a, Bool.true_and]; exact decide_eq_true (by omega))
theorem valV_map (ws : List (Str × V)) (k : Str) : valV (ws.map fun p => ((Sum.inr p.1 : Key), p.2)) (Sum.inr k) = (ws.find? fun p => decide (p.1 = k)).map (·.2) := by
  induction ws with
  | nil => rfl
  | cons p ws ih =>
    unfold valV at ih ⊢
    rw [List.map_cons, List.find?_cons, List.find?_cons]
    have e : decide ((Sum.inr p.1 : Key) = Sum.inr k) = decide (p.1 = k) := key_rr _ _
    simp only [e]
    by_cases h : p.1 = k
    · simp [h]
    · simp only [h, decide_false]; exact ih
theorem RF.find : ∀ {kvs : List (Str × U)} {ws : List (Str × V)} (k : Str), RF K ad H kvs ws → (∀ u, keyAt kvs k = some u → ∃ v, (ws.find? fun p => decide (p.1 = k)).map (·.2) = some v ∧ RU K ad H u v) ∧ (keyAt kvs k = none → (ws.find? fun p => decide (p.1 = k)).map (·.2) = none)
  | [], _, k, .nil => ⟨fun u e => (by cases e), fun _ => rfl⟩
  | (x, u) :: us, (_, v) :: vs, k, .cons q t => by
    obtain ⟨h1, h2⟩ := RF.find k t
    by_cases h : x = k
    · subst h
      refine ⟨fun z e => ?_, fun e => ?_⟩
      · unfold keyAt at e
        rw [List.find?_cons] at e
        simp at e
        subst e
        exact ⟨v, by rw [List.find?_cons]; simp, q⟩
      · unfold keyAt at e
        rw [List.find?_cons] at e
        simp at e
    · have e1 : keyAt ((x, u) :: us) k = keyAt us k := by
        unfold keyAt
        rw [List.find?_cons]
        simp [h]
      have e2 : (((x, v) :: vs).find? fun p => decide (p.1 = k)).map (·.2) = (vs.find? fun p => decide (p.1 = k)).map (·.2) := by
        rw [List.find?_cons]
        simp [h]
      rw [e1, e2]
      exact ⟨h1, h2⟩
theorem plU_ok (rs : RS K ad lo H S) {w : U} {y : V} {us : List U} (r : RU K ad H w y) (e : plU w S = some us) : ∃ p vs, y = .ref p ∧ Rd H p (.lst vs) ∧ RUs K ad H us vs := by
  cases r with
  | fl h q => cases e; exact ⟨_, _, rfl, .inr ⟨_, h⟩, q⟩
  | ref ea =>
    obtain ⟨vs, _, q, h⟩ := rs.sql e ea
    exact ⟨_, vs, rfl, .inl h, q⟩
  | _ => cases e
theorem dctU_ok (rs : RS K ad lo H S) {w : U} {y : V} {kvs : List (Str × U)} (r : RU K ad H w y) (e : dctU w S = some kvs) : ∃ p ws, y = .ref p ∧ Rd H p (.dK (ws.map fun p => ((Sum.inr p.1 : Key), p.2))) ∧ RF K ad H kvs ws := by
  cases r with
  | fd h _ q => cases e; exact ⟨_, _, rfl, .inr ⟨_, h⟩, q⟩
  | ref ea =>
    obtain ⟨ws, h, q, _⟩ := rs.dk e ea
    exact ⟨_, ws, rfl, h, q⟩
  | _ => cases e
/-- what is new is frozen at once -/
def fz (Q : VK) : VK := fun v H1 => ∃ d u, v = .ref d ∧ H1 d = some u ∧ Mut (some u) ∧ ∀ od, Q v (upd H1 d (.frz od u))
theorem EP.fz {X : Cx} {pins : List (Addr × Obj)} {σ : St} {Q : VK} {v : Value} {s : Shared} (h : EP X pins σ (fz Q) v s) : EP X pins σ Q v s := by
  obtain ⟨x, H1, I, r, d, u, rfl, hd, mu, q⟩ := h
  obtain ⟨od, I2⟩ := I.lock hd mu
  exact ⟨_, _, I2, r, q od⟩
theorem OpR.fz {X : Cx} {f : Value → Value → Sem Value} {r : R2} (h : OpR X f r) : OpR X f (fun x y H Q => r x y H (VI.fz Q)) := fun pins s σ H x y v u Q I rx ry z => thn (h pins s σ H x y v u _ I rx ry z) fun _ _ q => EP.fz q
theorem CallR.fz {X : Cx} {f : Value} {r : List V → Hp → VK → Prop} (h : CallR X f r) : CallR X f (fun xs H Q => r xs H (VI.fz Q)) := fun pins s σ H xs us Q I rv z => thn (h pins s σ H xs us _ I rv z) fun _ _ q => EP.fz q
theorem PE.fz {X : Cx} {e : Expr} {t : TE} (h : PE X e t) : PE X e (fun σ H Q => t σ H (VI.fz Q)) := ⟨fun pins s σ H Q I z => thn (h.run pins s σ H _ I z) fun _ _ q => EP.fz q⟩
theorem RS.outNew (r : RS K ad lo H S) {a : Addr} (n : H a = none) : a ∉ ad := fun q => by
  obtain ⟨m, hm, e⟩ := List.mem_iff_getElem.mp q
  have hs : m < S.objs.length := by rw [← r.len]; exact hm
  obtain ⟨b, w, e1, _, e2⟩ := r.obj m _ (List.getElem?_eq_getElem hs)
  rw [List.getElem?_eq_getElem hm, e] at e1
  cases e1
  rw [n] at e2
  cases e2
/-- a new list, frozen -/
theorem RS.fzL (rs : RS K ad lo H S) {E : XK} {us : List U} {vs : List V} {Q : VK} (q : RUs K ad H us vs) (g : Go K E (RU K) (.ok (.fl us) S) ad lo H Q) {p : Addr} (hp : H p = none) : VI.fz Q (.ref p) (upd H p (.lst vs)) := by
  refine ⟨p, .lst vs, rfl, upd_same, trivial, fun od => ?_⟩
  rw [upd_upd]
  obtain ⟨rs', x⟩ := rs.grow (u := .frz od (.lst vs)) hp
  exact g _ _ _ x rs' (.fl upd_same (q.adv rs x))
theorem RS.fzD (rs : RS K ad lo H S) {E : XK} {kvs : List (Str × U)} {ws : List (Str × V)} {Q : VK} (q : RF K ad H kvs ws) (g : Go K E (RU K) (.ok (.fd kvs) S) ad lo H Q) {p : Addr} (hp : H p = none) : VI.fz Q (.ref p) (upd H p (.dK (ws.map fun p => ((Sum.inr p.1 : Key), p.2)))) := by
  refine ⟨p, _, rfl, upd_same, trivial, fun od => ?_⟩
  rw [upd_upd]
  obtain ⟨rs', x⟩ := rs.grow (u := .frz od (.dK (ws.map fun p => ((Sum.inr p.1 : Key), p.2)))) hp
  exact g _ _ _ x rs' (.fd upd_same (rs.outNew hp) (q.adv rs x))
end
/-- + on lists that are read -/
def rCatR : R2 := fun x y H Q => ∃ l b xs zs, x = .ref l ∧ y = .ref b ∧ Rd H l (.lst xs) ∧ Rd H b (.lst zs) ∧ xs.length + zs.length ≤ sizeLine ∧ ∀ p, H p = none → Q (.ref p) (upd H p (.lst (xs ++ zs)))
theorem op_catR {X : Cx} : OpR X (binaryOp .Add) rCatR := by
  intro pins s σ H x y v u Q I rx ry h
  obtain ⟨l, b, xs, zs, rfl, rfl, hH, hB, hz, q⟩ := h
  cases rx
  cases ry
  obtain ⟨z, its, n, r, e⟩ := hH.ok I.hok
  obtain ⟨z2, its2, n2, r2, e2⟩ := hB.ok I.hok
  have hl := r.length
  have hl2 := r2.length
  refine PySem.P.add_list e e2 ?_ (by rw [List.size_toArray, List.size_toArray]; omega)
  have ea : its.toArray ++ its2.toArray = (its ++ its2).toArray := by simp
  rw [ea]
  exact ⟨.ref _, _, I.lnew (t' := s.toks) (r.append r2) (by rw [List.length_append]; omega), rfl, q _ I.fresh⟩
def rRepR : R2 := fun x y H Q => ∃ l k xs, x = .ref l ∧ y = .int k ∧ Rd H l (.lst xs) ∧ -(2 ^ 63) ≤ k ∧ k < 2 ^ 63 ∧ xs.length * k.toNat ≤ sizeLine ∧
  ∀ p, H p = none → Q (.ref p) (upd H p (.lst (List.replicate k.toNat xs).flatten))
section
variable {X : Cx} {E : XK}
theorem op_repR : OpR X (binaryOp .Mult) rRepR := by
  intro pins s σ H x y v u Q I rx ry h
  obtain ⟨l, k, xs, rfl, rfl, hH, h1, h2, hz, q⟩ := h
  cases rx
  obtain ⟨t, rfl⟩ := ry
  obtain ⟨z, its, n, r, e⟩ := hH.ok I.hok
  have hl := r.length
  have hlen : its.toArray.size * k.toNat ≤ sizeLine := by rw [List.size_toArray, ← hl]; exact hz
  have hcap : ¬ its.toArray.size * k.toNat > (2 ^ 63 - 1) / 8 := by
    have : (sizeLine : Nat) ≤ (2 ^ 63 - 1) / 8 := by decide
    omega
  have hfit : ¬ (!Builtin.List.listFitsIndex k) = true := by
    rw [fitsIndex_both h1 h2]
    exact Bool.false_ne_true
  have hlong : ¬ Builtin.List.listTooLong (its.toArray.size * k.toNat) = true := by
    rw [notLongL hlen]
    exact Bool.false_ne_true
  have hnew : List.foldl (fun x1 x2 => x1 ++ x2) #[] (List.replicate (if its.toArray.isEmpty = true then 0 else k.toNat) its.toArray) = (List.replicate k.toNat its).flatten.toArray := by
    have f0 : ∀ m : Nat, List.foldl (fun x1 x2 => x1 ++ x2) #[] (List.replicate m its.toArray) = (List.replicate m its).flatten.toArray := fun m => by
      have := foldl_rep its m []
      rw [List.nil_append] at this
      exact this
    rw [f0]
    cases its with
    | nil => simp
    | cons a r' => rw [if_neg (by simp)]
  refine wpAny_binaryOp_repeat_ref (T := "list") (U := "int") (by decide) ⟨_, e, rfl⟩ (fun s' => typeIs_int s' k t) noFill_list_mul F.fills_int_mul F.slot_int_rmul repeat_list F.slot_int_index.lookup
    (call_meets F.slot_int_rmul (typeIs_int s k t) F.entry_int_rmul (F.args_int_rmul_2 _ _) (int___rmul___int_list k t l its.toArray n)
      ⟨e, rfl, ⟨_, e, rfl⟩, call_meets F.slot_list_mul ⟨_, e, rfl⟩ F.entry_list_mul (F.args_list_mul_2 _ _) (AutoListH.list___mul___list_int_3 l its.toArray n k t hfit hcap hlong) ⟨e, ?_⟩⟩)
  rw [hnew]
  exact ⟨.ref _, _, I.lnew (t' := s.toks) (r.rep k.toNat) (by rw [PyProof.Rows.lm_len_rep_flat, Nat.mul_comm]; exact hz), rfl, q _ I.fresh⟩
theorem op_addI : OpR X (binaryOp .Add) (rI2 X.K E opAdd) := by
  refine OpR.by (op_add.or (op_add_str.or (op_catA.or (OpR.fz op_catR)))) ?_
  rintro x y H Q ⟨ad, lo, S, u, w, rs, ru, rw, g⟩
  unfold opAdd at g
  split at g
  · cases ru
    cases rw
    exact .inl ⟨_, _, rfl, rfl, Go.here g rs (RU.int _)⟩
  · cases ru
    cases rw
    split at g
    · exact .inr (.inl ⟨_, _, rfl, rfl, by assumption, Go.here g rs (.str _)⟩)
    · exact g.elim
  · obtain ⟨_, _, rfl, h, q⟩ := ru.tup_of
    obtain ⟨_, _, rfl, h', q'⟩ := rw.tup_of
    split at g
    · rename_i hl
      refine .inr (.inr (.inl ⟨_, _, _, _, rfl, rfl, h, h', by rw [← q.length, ← q'.length]; exact hl, fun e => ?_, fun _ e => ?_, fun _ _ p hp => ?_⟩))
      · subst e
        have e : _ = [] := List.eq_nil_of_length_eq_zero (by rw [q.length]; rfl)
        subst e
        exact Go.here g rs (by rw [List.nil_append]; exact .tup h' q')
      · subst e
        have e : _ = [] := List.eq_nil_of_length_eq_zero (by rw [q'.length]; rfl)
        subst e
        exact Go.here g rs (by rw [List.append_nil]; exact .tup h q)
      · obtain ⟨rs', x', ru'⟩ := rs.tup hp (q.append q')
        exact Go.now g x' rs' ru'
    · exact g.elim
  · split at g
    · rename_i a b ha hb
      split at g
      · rename_i hl
        obtain ⟨p, vs, rfl, hv, qv⟩ := plU_ok rs ru ha
        obtain ⟨p2, ws, rfl, hw, qw⟩ := plU_ok rs rw hb
        exact .inr (.inr (.inr ⟨_, _, vs, ws, rfl, rfl, hv, hw, by rw [← qv.length, ← qw.length]; exact hl, fun p hp => rs.fzL (qv.append qw) g hp⟩))
      · exact g.elim
    · exact g.elim
theorem op_subI : OpR X (binaryOp .Sub) (rI2 X.K E opSub) := by
  refine OpR.by op_sub ?_
  rintro x y H Q ⟨ad, lo, S, u, w, rs, ru, rw, g⟩
  cases ru with
  | int i => cases rw with
    | int j => exact ⟨i, j, rfl, rfl, Go.here (a := U.int (i - j)) g rs (RU.int _)⟩
    | _ => exact g.elim
  | _ => cases rw <;> exact g.elim
theorem op_mulI : OpR X (binaryOp .Mult) (rI2 X.K E opMul) := by
  refine OpR.by (op_mul.or (OpR.fz op_repR)) ?_
  rintro x y H Q ⟨ad, lo, S, u, w, rs, ru, rw, g⟩
  unfold opMul at g
  split at g
  · cases ru
    cases rw
    split at g
    · rename_i hb
      exact .inl ⟨_, _, rfl, rfl, .inr (by omega), Go.here g rs (.int _)⟩
    · exact g.elim
  · cases rw
    split at g
    · rename_i a h1
      split at g
      · rename_i hl
        obtain ⟨p, vs, rfl, hv, qv⟩ := plU_ok rs ru h1
        have all : ∀ k, RUs X.K ad H (List.replicate k a).flatten (List.replicate k vs).flatten := fun k => by
          induction k with
          | zero => exact .nil
          | succ k ih => rw [List.replicate_succ, List.replicate_succ, List.flatten_cons, List.flatten_cons]; exact qv.append ih
        exact .inr ⟨_, _, vs, rfl, rfl, hv, by omega, by omega, by rw [← qv.length]; exact hl.2.2, fun p hp => rs.fzL (all _) g hp⟩
      · exact g.elim
    · exact g.elim
  · exact g.elim
theorem op_divI : OpR X (binaryOp .FloorDiv) (rI2 X.K E opDiv) := by
  refine OpR.by op_fdivN ?_
  rintro x y H Q ⟨ad, lo, S, u, w, rs, ru, rw, g⟩
  cases ru with
  | int i => cases rw with
    | int j =>
      unfold opDiv at g
      simp only at g
      split at g
      · rename_i h
        exact ⟨i, j, rfl, rfl, ⟨by omega, by omega⟩, Go.here g rs (.int _)⟩
      · exact g.elim
    | _ => exact g.elim
  | _ => cases rw <;> exact g.elim
theorem op_modI : OpR X (binaryOp .Mod) (rI2 X.K E opMod) := by
  refine OpR.by op_modN ?_
  rintro x y H Q ⟨ad, lo, S, u, w, rs, ru, rw, g⟩
  cases ru with
  | int i => cases rw with
    | int j =>
      unfold opMod at g
      simp only at g
      split at g
      · rename_i h
        exact ⟨i, j, rfl, rfl, by omega, Go.here g rs (.int _)⟩
      · exact g.elim
    | _ => exact g.elim
  | _ => cases rw <;> exact g.elim
theorem op_powI : OpR X (binaryOp .Pow) (rI2 X.K E opPow) := by
  refine OpR.by op_pow ?_
  rintro x y H Q ⟨ad, lo, S, u, w, rs, ru, rw, g⟩
  cases ru with
  | int i => cases rw with
    | int j =>
      unfold opPow at g
      simp only at g
      split at g
      · rename_i h
        exact ⟨i, j, rfl, rfl, h, Go.here g rs (.int _)⟩
      · exact g.elim
    | _ => exact g.elim
  | _ => cases rw <;> exact g.elim
theorem un_negI : UnR X (unaryOp .USub) (rI1 X.K E opNeg) := by
  intro pins s σ H x v Q I rx h
  refine un_neg pins s σ H x v Q I rx ?_
  obtain ⟨ad, lo, S, u, rs, ru, g⟩ := h
  cases ru with
  | int i => exact ⟨i, rfl, Go.here (a := U.int (-i)) g rs (RU.int _)⟩
  | _ => exact g.elim
theorem eqU_case {u w : U} {S : Sto} {b : Bool} (e : eqU u w S = some b) : (∃ x y, u = .str x ∧ w = .str y ∧ b = decide (x = y)) ∨ ∃ d f, rdU 60 S u = some d ∧ rdU 60 S w = some f ∧ b = PyData.eqv d f := by
  unfold eqU at e
  split at e
  · exact .inl ⟨_, _, rfl, rfl, (Option.some.inj e).symm⟩
  · split at e
    · exact .inr ⟨_, _, by assumption, by assumption, (Option.some.inj e).symm⟩
    · cases e
theorem op_eqI (hu : X.A.units + 64 < cLine) : OpR X (compareOp .Eq) (rI2 X.K E opEq) := by
  refine OpR.by (op_eq.or (op_eqD hu)) ?_
  rintro x y H Q ⟨ad, lo, S, u, w, rs, ru, rw, g⟩
  unfold opEq at g
  cases e : eqU u w S with
  | none => rw [e] at g; exact g.elim
  | some b =>
    rw [e] at g
    rcases eqU_case e with ⟨p, q, rfl, rfl, rfl⟩ | ⟨d, f, e1, e2, rfl⟩
    · cases ru
      cases rw
      refine .inl ⟨rfl, ?_⟩
      have z : decide (V.str p = V.str q) = decide (p = q) := by simp
      rw [z]
      exact Go.here g rs (.bl _)
    · obtain ⟨a1, a2⟩ := rd_shaped rs (by decide) ru e1
      obtain ⟨b1, b2⟩ := rd_shaped rs (by decide) rw e2
      exact .inr ⟨d, f, a1, b1, a2, b2, Go.here g rs (.bl _)⟩
theorem op_neI (hu : X.A.units + 64 < cLine) : OpR X (compareOp .NotEq) (rI2 X.K E opNe) := by
  refine OpR.by (op_ne.or (op_neD hu)) ?_
  rintro x y H Q ⟨ad, lo, S, u, w, rs, ru, rw, g⟩
  unfold opNe at g
  cases e : eqU u w S with
  | none => rw [e] at g; exact g.elim
  | some b =>
    rw [e] at g
    rcases eqU_case e with ⟨p, q, rfl, rfl, rfl⟩ | ⟨d, f, e1, e2, rfl⟩
    · cases ru
      cases rw
      refine .inl ⟨rfl, ?_⟩
      have z : decide (V.str p = V.str q) = decide (p = q) := by simp
      rw [z]
      exact Go.here g rs (.bl _)
    · obtain ⟨a1, a2⟩ := rd_shaped rs (by decide) ru e1
      obtain ⟨b1, b2⟩ := rd_shaped rs (by decide) rw e2
      exact .inr ⟨d, f, a1, b1, a2, b2, Go.here g rs (.bl _)⟩
def rLtD (K : PySem.W.Frag) : R2 := fun x y H Q => ∃ d e, Dp K H x d ∧ Dp K H y e ∧ SeqAt.shaped d = true ∧ PySem.W.alike d e = true ∧ d ≠ .none ∧ Q (.bl (PySem.W.dataLt d e)) H
theorem op_ltD (hu : X.A.units + 64 < cLine) : OpR X (compareOp .Lt) (rLtD X.K) := by
  intro pins s σ H x y v u Q I rx ry h
  obtain ⟨d, e, hd, he, sd, al, hn, q⟩ := h
  obtain ⟨as, r1⟩ := Dp.reads I d x v hd rx
  obtain ⟨bs, r2⟩ := Dp.reads I e y u he ry
  exact PySem.W.rcLt_alike d e X.A s v u as bs r1 r2 al hn (SeqAt.room_of_shaped sd hu) X.prog X.w X.xe _ ⟨.bl _, H, I, rfl, q⟩
theorem ltU_case {u w : U} {S : Sto} {b : Bool} (e : ltU u w S = some b) : (∃ i j, u = .int i ∧ w = .int j ∧ b = decide (i < j)) ∨ (∃ x y, u = .str x ∧ w = .str y ∧ b = decide (x.cps.toList < y.cps.toList)) ∨
    ∃ d f, rdU 60 S u = some d ∧ rdU 60 S w = some f ∧ PySem.W.alike d f = true ∧ d ≠ .none ∧ b = PySem.W.dataLt d f := by
  unfold ltU at e
  split at e
  · exact .inl ⟨_, _, rfl, rfl, (Option.some.inj e).symm⟩
  · exact .inr (.inl ⟨_, _, rfl, rfl, (Option.some.inj e).symm⟩)
  · split at e
    · split at e
      · rename_i h
        refine .inr (.inr ⟨_, _, by assumption, by assumption, h.1, ?_, (Option.some.inj e).symm⟩)
        rintro rfl
        exact Bool.false_ne_true h.2
      · cases e
    · cases e
theorem op_ltI (hu : X.A.units + 64 < cLine) : OpR X (compareOp .Lt) (rI2 X.K E opLt) := by
  refine OpR.by (op_lt.or (op_lt_str.or (op_ltD hu))) ?_
  rintro x y H Q ⟨ad, lo, S, u, w, rs, ru, rw, g⟩
  unfold opLt at g
  cases e : ltU u w S with
  | none => rw [e] at g; exact g.elim
  | some b =>
    rw [e] at g
    rcases ltU_case e with ⟨i, j, rfl, rfl, rfl⟩ | ⟨p, q, rfl, rfl, rfl⟩ | ⟨d, f, e1, e2, al, hn, rfl⟩
    · cases ru
      cases rw
      exact .inl ⟨i, j, rfl, rfl, Go.here g rs (.bl _)⟩
    · cases ru
      cases rw
      exact .inr (.inl ⟨p, q, rfl, rfl, Go.here g rs (.bl _)⟩)
    · obtain ⟨a1, a2⟩ := rd_shaped rs (by decide) ru e1
      obtain ⟨b1, b2⟩ := rd_shaped rs (by decide) rw e2
      exact .inr (.inr ⟨d, f, a1, b1, a2, al, hn, Go.here g rs (.bl _)⟩)
theorem op_ii {op : CmpOp} {f : Int → Int → Bool} (h : OpR X (compareOp op) (rI0 fun i j => .bl (f i j))) : OpR X (compareOp op) (rI2 X.K E (opI f)) := by
  refine OpR.by h ?_
  rintro x y H Q ⟨ad, lo, S, u, w, rs, ru, rw, g⟩
  cases ru with
  | int i => cases rw with
    | int j => exact ⟨i, j, rfl, rfl, Go.here (a := U.bl (f i j)) g rs (RU.bl _)⟩
    | _ => exact g.elim
  | _ => cases rw <;> exact g.elim
def rInT (K : PySem.W.Frag) (neg : Bool) : R2 := fun x y H Q => ∃ d ds, Dp K H x d ∧ Dp K H y (.tuple ds) ∧ SeqAt.shaped d = true ∧ SeqAt.shaped (.tuple ds) = true ∧ Q (.bl (if neg = true then !ds.any fun z => PyData.eqv z d else ds.any fun z => PyData.eqv z d)) H
theorem lay_tup {ds : List PyData} (h : SeqAt.shaped (.tuple ds) = true) : PyData.canLayAll0 ds = true := by
  have := SeqAt.canLay_of_shaped h
  unfold PyData.canLay0 at this
  exact this
theorem op_inT (hu : X.A.units + 65 < cLine) : OpR X (compareOp .In) (rInT X.K false) := by
  intro pins s σ H x y v u Q I rx ry h
  obtain ⟨d, ds, hd, he, sd, se, q⟩ := h
  obtain ⟨as, r1⟩ := Dp.reads I d x v hd rx
  obtain ⟨bs, r2⟩ := Dp.reads I (.tuple ds) y u he ry
  exact SeqAt.in_tuple_reads r2 r1 (lay_tup se) (SeqAt.canLay_of_shaped sd) (PyProof.Rows.room_in_shaped sd hu) ⟨.bl _, H, I, rfl, q⟩
theorem op_notInT (hu : X.A.units + 65 < cLine) : OpR X (compareOp .NotIn) (rInT X.K true) := by
  intro pins s σ H x y v u Q I rx ry h
  obtain ⟨d, ds, hd, he, sd, se, q⟩ := h
  obtain ⟨as, r1⟩ := Dp.reads I d x v hd rx
  obtain ⟨bs, r2⟩ := Dp.reads I (.tuple ds) y u he ry
  exact SeqAt.notIn_tuple_reads r2 r1 (lay_tup se) (SeqAt.canLay_of_shaped sd) (PyProof.Rows.room_in_shaped sd hu) ⟨.bl _, H, I, rfl, q⟩
def rInK (neg : Bool) : R2 := fun y x H Q => ∃ a o, x = .ref a ∧ DGet H a y o ∧ Q (.bl (if neg = true then !o.isSome else o.isSome)) H
theorem op_inK (hu : X.A.units + 1 < cLine) : OpR X (compareOp .In) (rInK false) := by
  intro pins s σ H y x iv u Q I ry rx h
  obtain ⟨a, o, rfl, g, q⟩ := h
  obtain rfl : u = Value.ref a := rx
  exact d_in hu I g ry fun s3 I3 => ⟨.bl o.isSome, H, I3, rfl, q⟩
theorem op_notInK (hu : X.A.units + 1 < cLine) : OpR X (compareOp .NotIn) (rInK true) := by
  intro pins s σ H y x iv u Q I ry rx h
  obtain ⟨a, o, rfl, g, q⟩ := h
  obtain rfl : u = Value.ref a := rx
  exact d_notIn hu I g ry fun s3 I3 => ⟨.bl (!o.isSome), H, I3, rfl, q⟩
inductive InCase (S : Sto) : U → U → Bool → Prop
  | sign {x y : Str} {c : Nat} (h : x.cps.toList = [c]) : InCase S (.str x) (.str y) (decide (c ∈ y.cps.toList))
  | txts {x : Str} {w : U} {us : List U} {ys : List Str} (h : seqU w S = some us) (e : strsOf us = some ys) : InCase S (.str x) w (decide (x ∈ ys))
  | deep {u w : U} {us : List U} {d : PyData} {ds : List PyData} (h : seqU w S = some us) (e : rdU 60 S u = some d) (e' : allSome (us.map (rdU 60 S)) = some ds) : InCase S u w (ds.any fun z => PyData.eqv z d)
  | dict {x : Str} {w : U} {kvs : List (Str × U)} (h : dctU w S = some kvs) : InCase S (.str x) w (keyAt kvs x).isSome
theorem inU_case {u w : U} {S : Sto} {b : Bool} (e : inU u w S = some b) : InCase S u w b := by
  unfold inU at e
  split at e
  · split at e
    · cases e; exact .sign (by assumption)
    · cases e
  · split at e
    · split at e
      · cases e; exact .txts (by assumption) (by assumption)
      · split at e
        · cases e; exact .deep (by assumption) (by assumption) (by assumption)
        · cases e
    · split at e
      · cases e; exact .dict (by assumption)
      · cases e
theorem sign_eq {x : Str} {c : Nat} (h : x.cps.toList = [c]) : x = ⟨#[c]⟩ := by
  cases x
  simp only [Str.mk.injEq]
  exact Array.toList_inj.mp h
theorem op_inI (hu : X.A.units + 65 < cLine) : OpR X (compareOp .In) (rI2 X.K E opIn) := by
  refine OpR.by (op_in_sign.or (op_in_seq.or ((op_inD hu).or ((op_inT hu).or (op_inK (by omega)))))) ?_
  rintro x y H Q ⟨ad, lo, S, u, w, rs, ru, rw, g⟩
  unfold opIn at g
  cases e : inU u w S with
  | none => rw [e] at g; exact g.elim
  | some b =>
    rw [e] at g
    cases inU_case e with
    | sign h =>
      cases ru
      cases rw
      exact .inl ⟨_, _, by rw [sign_eq h], rfl, Go.here g rs (.bl _)⟩
    | txts h h' =>
      cases ru
      obtain ⟨p, vs, rfl, hs, q⟩ := seqU_ok rs rw h
      have ev := strsOf_ok q h'
      subst ev
      exact .inr (.inl ⟨p, _, rfl, hs, rfl, flat_strs _, by rw [inV_strs]; exact Go.here g rs (.bl _)⟩)
    | deep h e1 e2 =>
      obtain ⟨a1, a2⟩ := rd_shaped rs (by decide) ru e1
      obtain ⟨p, vs, rfl, hs, q⟩ := seqU_ok rs rw h
      obtain ⟨b1, b2⟩ := rdAll_ok rs q e2
      rcases hs with hs | hs
      · exact .inr (.inr (.inl ⟨_, _, a1, .lst hs b1, a2, (shaped_seq b2).1, Go.here g rs (.bl _)⟩))
      · exact .inr (.inr (.inr (.inl ⟨_, _, a1, .tup hs b1, a2, (shaped_seq b2).2, Go.here g rs (.bl _)⟩)))
    | dict h =>
      rename_i k kvs
      cases ru
      obtain ⟨a, ws, rfl, hr, q⟩ := dctU_ok rs rw h
      refine .inr (.inr (.inr (.inr ⟨a, _, rfl, .inl ⟨_, Sum.inr k, hr, rfl, rfl⟩, ?_⟩)))
      rw [valV_map]
      obtain ⟨h1, h2⟩ := q.find k
      cases z : keyAt kvs k with
      | none => rw [h2 z]; rw [z] at g; exact Go.here g rs (.bl _)
      | some uu =>
        obtain ⟨v, ev, _⟩ := h1 uu z
        rw [ev]
        rw [z] at g
        exact Go.here g rs (.bl _)
theorem op_notInI (hu : X.A.units + 65 < cLine) : OpR X (compareOp .NotIn) (rI2 X.K E opNotIn) := by
  refine OpR.by (op_notIn_sign.or (op_notIn_seq.or ((op_notInD hu).or ((op_notInT hu).or (op_notInK (by omega)))))) ?_
  rintro x y H Q ⟨ad, lo, S, u, w, rs, ru, rw, g⟩
  unfold opNotIn at g
  cases e : inU u w S with
  | none => rw [e] at g; exact g.elim
  | some b =>
    rw [e] at g
    cases inU_case e with
    | sign h =>
      cases ru
      cases rw
      exact .inl ⟨_, _, by rw [sign_eq h], rfl, Go.here g rs (.bl _)⟩
    | txts h h' =>
      cases ru
      obtain ⟨p, vs, rfl, hs, q⟩ := seqU_ok rs rw h
      have ev := strsOf_ok q h'
      subst ev
      exact .inr (.inl ⟨p, _, rfl, hs, rfl, flat_strs _, by rw [inV_strs]; exact Go.here g rs (.bl _)⟩)
    | deep h e1 e2 =>
      obtain ⟨a1, a2⟩ := rd_shaped rs (by decide) ru e1
      obtain ⟨p, vs, rfl, hs, q⟩ := seqU_ok rs rw h
      obtain ⟨b1, b2⟩ := rdAll_ok rs q e2
      rcases hs with hs | hs
      · exact .inr (.inr (.inl ⟨_, _, a1, .lst hs b1, a2, (shaped_seq b2).1, Go.here g rs (.bl _)⟩))
      · exact .inr (.inr (.inr (.inl ⟨_, _, a1, .tup hs b1, a2, (shaped_seq b2).2, Go.here g rs (.bl _)⟩)))
    | dict h =>
      rename_i k kvs
      cases ru
      obtain ⟨a, ws, rfl, hr, q⟩ := dctU_ok rs rw h
      refine .inr (.inr (.inr (.inr ⟨a, _, rfl, .inl ⟨_, Sum.inr k, hr, rfl, rfl⟩, ?_⟩)))
      rw [valV_map]
      obtain ⟨h1, h2⟩ := q.find k
      cases z : keyAt kvs k with
      | none => rw [h2 z]; rw [z] at g; exact Go.here g rs (.bl _)
      | some uu =>
        obtain ⟨v, ev, _⟩ := h1 uu z
        rw [ev]
        rw [z] at g
        exact Go.here g rs (.bl _)
theorem RU.isNon {K : PySem.W.Frag} {ad : List Addr} {H : Hp} {u : U} {v : V} (r : RU K ad H u v) : decide (v = .non) = VI.isNon u := by cases r <;> rfl
theorem op_isNotI : OpR X (compareOp .IsNot) (rI2 X.K E opIsNot) := by
  refine OpR.by (op_notN.or op_notBl) ?_
  rintro x y H Q ⟨ad, lo, S, u, w, rs, ru, rw, g⟩
  cases rw with
  | non => exact .inl ⟨rfl, by rw [ru.isNon]; exact Go.here (a := U.bl (!isNon u)) g rs (RU.bl _)⟩
  | bl b => cases ru with
    | bl a => exact .inr ⟨a, b, rfl, rfl, Go.here (a := U.bl (!decide (a = b))) g rs (RU.bl _)⟩
    | _ => exact g.elim
  | _ => exact g.elim
end
section
variable {X : Cx} {E : XK} {a b c : Expr} {ma mb mc : ME} {pos : Pos}
theorem se_bin {op : Operator} {g : U → U → Sto → R U} (ho : OpR X (binaryOp op) (rI2 X.K E g)) (ha : PE X a (tI X.K E ma)) (hb : PE X b (tI X.K E mb)) : SE X E (.BinOp a op b pos) (x2 g ma mb) := .of (PE.by (pe_op ho ha hb) tI_2)
theorem se_un {op : UnaryOp} {g : U → Sto → R U} (ho : UnR X (unaryOp op) (rI1 X.K E g)) (ha : PE X a (tI X.K E ma)) (he : ∀ whole, isTrue (.UnaryOp op a pos) X.env whole = (do let v ← whole; standAt pos; holding [v] (truthy v))) : SE X E (.UnaryOp op a pos) (x1 g ma) :=
  .of (PE.by (pe_un ho ha) tI_1) he
theorem se_neg (ha : PE X a (tI X.K E ma)) : SE X E (.UnaryOp .USub a pos) (x1 opNeg ma) := se_un un_negI ha (by intro _; rfl)
theorem tT_2 {K : PySem.W.Frag} {g : U → U → Sto → R U} (σ : St) (H : Hp) (Q : Bool → Hp → Prop) (h : tIb K E (bOf (x2 g ma mb)) σ H Q) : tTest (tOp (rI2 K E g) (tI K E ma) (tI K E mb)) σ H Q := by
  have h1 := tI_b σ H Q h
  have h2 := tI_2 σ H _ h1
  exact h2
theorem se_cmp {op : CmpOp} {g : U → U → Sto → R U} (ho : OpR X (compareOp op) (rI2 X.K E g)) (ha : PE X a (tI X.K E ma)) (hb : PE X b (tI X.K E mb)) (hm : behindInMarks op b = false := by rfl) : SE X E (.Compare a [op] [b] pos) (x2 g ma mb) :=
  ⟨PE.by (pe_cmpR ho ha hb hm) tI_2, PT.by (pt_cmpR ho ha hb hm) tT_2⟩
/-- a op b op' c -/
def xChain (g g' : U → U → Sto → R U) (a b c : ME) : ME := fun env S => (a env S).bind fun u S1 => (b env S1).bind fun w S2 => (g u w S2).bind fun k S3 => match k with
  | .bl true => (c env S3).bind fun z S4 => g' w z S4
  | .bl false => .ok (.bl false) S3
  | _ => .no
theorem Go.op2 {K : PySem.W.Frag} {ad : List Addr} {lo : Nat → Option Obj} {H : Hp} {S : Sto} {g : U → U → Sto → R U} {u w : U} {x y : V} {γ δ : Type} {rel2 : List Addr → Hp → γ → δ → Prop} {f : U → Sto → R γ} {Q : δ → Hp → Prop} (rs : RS K ad lo H S) (ru : RU K ad H u x) (rw : RU K ad H w y) (z : Go K E rel2 ((g u w S).bind f) ad lo H Q) :
    rI2 K E g x y H fun v H1 => ∃ k ad1 S1, Adv ad H ad1 H1 ∧ RS K ad1 lo H1 S1 ∧ RU K ad1 H1 k v ∧ Go K E rel2 (f k S1) ad1 lo H1 Q := by
  refine ⟨ad, lo, S, u, w, rs, ru, rw, ?_⟩
  cases e : g u w S with
  | ok k S1 => rw [e] at z; exact fun ad' H' v x1 rs' q => ⟨k, ad', S1, x1, rs', q, z.adv x1⟩
  | exc c fs S1 => rw [e] at z; exact z
  | no => rw [e] at z; exact z
theorem rI2.imp {K : PySem.W.Frag} {g : U → U → Sto → R U} {x y : V} {H : Hp} {Q Q' : VK} (h : rI2 K E g x y H Q) (q : ∀ v H', Q v H' → Q' v H') : rI2 K E g x y H Q' := let ⟨ad, lo, S, u, w, rs, ru, rw, z⟩ := h; ⟨ad, lo, S, u, w, rs, ru, rw, z.imp q⟩
theorem tI_chain {K : PySem.W.Frag} {g g' : U → U → Sto → R U} (σ : St) (H : Hp) (Q : VK) (h : tI K E (xChain g g' ma mb mc) σ H Q) : tChain (rI2 K E g) (rI2 K E g') (tI K E ma) (tI K E mb) (tI K E mc) σ H Q := by
  obtain ⟨ad, lo, env, S, rs, re, z⟩ := h
  refine tE.imp (Go.seq (rel := RU K) rs re z) ?_
  rintro x H1 ⟨u, ad1, S1, x1, rs1, re1, ru, z1⟩
  refine tE.imp (Go.seq (rel := RU K) rs1 re1 z1) ?_
  rintro y H2 ⟨w, ad2, S2, x2, rs2, re2, rw, z2⟩
  refine rI2.imp (Go.op2 rs2 (ru.adv rs1 x2) rw z2) ?_
  rintro v H3 ⟨k, ad3, S3, x3, rs3, rk, z3⟩
  cases rk with
  | bl b => cases b with
    | true =>
      refine ⟨true, rfl, ?_⟩
      rw [if_pos rfl]
      refine tE.imp (Go.seq (rel := RU K) rs3 (re2.adv rs2 x3) z3) ?_
      rintro v4 H4 ⟨z, ad4, S4, x4, rs4, re4, rz, z4⟩
      exact ⟨ad4, lo, S4, w, z, rs4, (rw.adv rs2 x3).adv rs3 x4, rz, z4⟩
    | false =>
      refine ⟨false, rfl, ?_⟩
      rw [if_neg Bool.false_ne_true]
      exact Go.here z3 rs3 (.bl _)
  | _ => exact z3.elim
theorem se_chain {op op' : CmpOp} {g g' : U → U → Sto → R U} (ho : OpR X (compareOp op) (rI2 X.K E g)) (ho' : OpR X (compareOp op') (rI2 X.K E g')) (ha : PE X a (tI X.K E ma)) (hb : PE X b (tI X.K E mb)) (hc : PE X c (tI X.K E mc))
    (hm : lastMarks [op, op'] [b, c] = false := by rfl) : SE X E (.Compare a [op, op'] [b, c] pos) (xChain g g' ma mb mc) :=
  ⟨PE.by (pe_chain ho ho' ha hb hc hm) tI_chain, PT.by (pt_chain ho ho' ha hb hc hm) fun σ H Q h => tI_chain σ H _ (tI_b σ H Q h)⟩
end
end VI
set_option Elab.async false
set_option linter.all false
set_option maxRecDepth 100000
set_option maxHeartbeats 4000000
namespace VI
open PySem L2
def aNil : MA := fun _ S => .ok [] S
def aCons (e : ME) (r : MA) : MA := fun env S => (e env S).bind fun u S1 => (r env S1).bind fun us S2 => .ok (u :: us) S2
/-- the items of a tuple or list, then the rest -/
def lOf (m : ME) : MA := fun env S => (m env S).bind fun u S1 => match seqU u S1 with
  | some us => .ok us S1
  | none => .no
def aStar (e : MA) (r : MA) : MA := fun env S => (e env S).bind fun us S1 => (r env S1).bind fun ws S2 => .ok (us ++ ws) S2
def lim (m : MA) : MA := fun env S => (m env S).bind fun us S1 => if us.length ≤ sizeLine then .ok us S1 else .no
def xTup (m : MA) : ME := fun env S => (m env S).bind fun us S1 => if us.length ≤ sizeLine then .ok (.tup us) S1 else .no
/-- a new list becomes one of the store -/
def xNew (m : MA) : ME := fun env S => (m env S).bind fun us S1 => alloc (.lst us) S1
section
variable {K : PySem.W.Frag} {E : XK} {ad ad' : List Addr} {lo : Nat → Option Obj} {H : Hp} {S : Sto}
theorem get_pre (p : ad <+: ad') {n : Nat} {a : Addr} (e : ad[n]? = some a) : ad'[n]? = some a := by
  obtain ⟨t, rfl⟩ := p
  rw [List.getElem?_append_left (List.getElem?_eq_some_iff.mp e).1]
  exact e
mutual
theorem RU.more (p : ad <+: ad') (hf : ∀ b o u, H b = some (.frz o u) → b ∈ ad' → b ∈ ad) : ∀ {u : U} {v : V}, RU K ad H u v → RU K ad' H u v
  | _, _, .non => .non
  | _, _, .bl b => .bl b
  | _, _, .int i => .int i
  | _, _, .str s => .str s
  | _, _, .tup h t => .tup h (RUs.more p hf t)
  | _, _, .sc h t => .sc h (RUs.more p hf t)
  | _, _, .sck h t => .sck h (RUs.more p hf t)
  | _, _, .fl h t => .fl h (RUs.more p hf t)
  | _, _, .fd h n t => .fd h (fun z => n (hf _ _ _ h z)) (RF.more p hf t)
  | _, _, .ref e => .ref (get_pre p e)
theorem RUs.more (p : ad <+: ad') (hf : ∀ b o u, H b = some (.frz o u) → b ∈ ad' → b ∈ ad) : ∀ {us : List U} {vs : List V}, RUs K ad H us vs → RUs K ad' H us vs
  | _, _, .nil => .nil
  | _, _, .cons h t => .cons (RU.more p hf h) (RUs.more p hf t)
theorem RF.more (p : ad <+: ad') (hf : ∀ b o u, H b = some (.frz o u) → b ∈ ad' → b ∈ ad) : ∀ {us : List (Str × U)} {vs : List (Str × V)}, RF K ad H us vs → RF K ad' H us vs
  | _, _, .nil => .nil
  | _, _, .cons h t => .cons (RU.more p hf h) (RF.more p hf t)
end
theorem RO.more (p : ad <+: ad') (hf : ∀ b o u, H b = some (.frz o u) → b ∈ ad' → b ∈ ad) {o : O} {u : HO} (h : RO K ad H o u) : RO K ad' H o u := by
  cases h with
  | lst h => exact .lst (h.more p hf)
  | dct h => exact .dct (h.more p hf)
  | ins h => exact .ins (h.more p hf)
  | dead => exact .dead
/-- an object that stands beside the store is taken into it -/
theorem RS.adopt (r : RS K ad lo H S) {a : Addr} {o : O} {w : HO} (na : a ∉ ad) (e : H a = some w) (q : RO K ad H o w) (nw : o ≠ .dead := by intro z; cases z) : RS K (ad ++ [a]) lo H (S.push o) ∧ (∀ {ad0 : List Addr} {H0 : Hp}, Adv ad0 H0 ad H → H0 a = none → Adv ad0 H0 (ad ++ [a]) H) ∧ RU K (ad ++ [a]) H (.ref S.objs.length) (.ref a) := by
  have p : ad <+: ad ++ [a] := List.prefix_append _ _
  have hf : ∀ b o u, H b = some (.frz o u) → b ∈ ad ++ [a] → b ∈ ad := fun b o' u' h z => (List.mem_append.mp z).elim id fun z => by
    rw [List.mem_singleton.mp z, e] at h
    cases h
    cases q
    exact absurd rfl nw
  have ga : (ad ++ [a])[S.objs.length]? = some a := by
    rw [← r.len, List.getElem?_append_right (Nat.le_refl _), Nat.sub_self]
    rfl
  refine ⟨⟨?_, ?_, fun m o' e1 => ?_, r.lock, fun m h => ?_⟩, fun {ad0 H0} x h0 => ⟨x.pre.trans p, fun b hb => (List.mem_append.mp hb).elim (x.new b) fun z => .inr (by rw [List.mem_singleton.mp z]; exact h0), x.keep, x.frz⟩, .ref ga⟩
  · show (ad ++ [a]).length = (S.objs ++ [o]).length
    simp [r.len]
  · exact List.nodup_append.mpr ⟨r.nd, by simp, fun b hb c hc e => na (by rw [List.mem_singleton] at hc; rw [← hc, ← e]; exact hb)⟩
  · have e' : (S.objs ++ [o])[m]? = some o' := e1
    by_cases hm : m < S.objs.length
    · rw [List.getElem?_append_left hm] at e'
      obtain ⟨b, u, e1, q1, e2⟩ := r.obj m o' e'
      exact ⟨b, u, get_pre p e1, q1.more p hf, e2⟩
    · have hm' : m = S.objs.length := by
        have := (List.getElem?_eq_some_iff.mp e').1
        simp at this
        omega
      subst hm'
      rw [List.getElem?_append_right (Nat.le_refl _), Nat.sub_self] at e'
      cases e'
      exact ⟨a, w, ga, q.more p hf, by rw [r.out _ (by rw [r.len]; exact Nat.le_refl _)]; exact e⟩
  · obtain ⟨kvs, e⟩ := r.kind m h
    exact ⟨kvs, by show (S.objs ++ [o])[m]? = _; rw [List.getElem?_append_left (List.getElem?_eq_some_iff.mp e).1]; exact e⟩
theorem tI_new {m : MA} (σ : St) (H : Hp) (Q : VK) (h : tI K E (xNew m) σ H Q) : tN K E m σ H Q := by
  obtain ⟨ad, lo, env, S, rs, re, g⟩ := h
  refine ⟨ad, lo, env, S, rs, re, ?_⟩
  unfold xNew at g
  cases e : m env S with
  | exc c fs S1 => rw [e] at g; exact g
  | no => rw [e] at g; exact g
  | ok us S1 =>
    rw [e] at g
    rintro ad1 H1 v x rs1 ⟨a, vs, rfl, ea, na, h0, q⟩
    obtain ⟨rs2, x2, ru⟩ := rs1.adopt na ea (.lst q)
    exact g _ _ _ (x2 x h0) rs2 ru
theorem Adv.side {ad0 ad : List Addr} {H0 H : Hp} {D : Addr} {o : HO} (x : Adv ad0 H0 ad H) (h0 : H0 D = none) : Adv ad0 H0 ad (upd H D o) :=
  ⟨x.pre, x.new, fun a p e n => by rw [upd_ne (ne_of_none e h0)]; exact x.keep a p e n, fun a p u e => by rw [upd_ne (ne_of_none e h0)]; exact x.frz a p u e⟩
mutual
theorem RU.plain {D : Addr} {w o : HO} (hD : H D = some w) (mw : Mut (some w)) : ∀ {u : U} {v : V}, RU K ad H u v → RU K ad (upd H D o) u v
  | _, _, .non => .non
  | _, _, .bl b => .bl b
  | _, _, .int i => .int i
  | _, _, .str s => .str s
  | _, _, .tup h t => .tup (by
      rcases h with (h | ⟨ob, h⟩) | h
      · exact .inl (.inl (by rw [upd_ne fun z => by rw [z, hD] at h; cases h; exact mw]; exact h))
      · exact .inl (.inr ⟨ob, by rw [upd_ne fun z => by rw [z, hD] at h; cases h; exact mw]; exact h⟩)
      · exact .inr h) (RUs.plain hD mw t)
  | _, _, .sc h t => .sc (by rw [upd_ne fun z => by rw [z, hD] at h; cases h; exact mw]; exact h) (RUs.plain hD mw t)
  | _, _, .sck h t => .sck h (RUs.plain hD mw t)
  | _, _, .fl h t => .fl (by rw [upd_ne fun z => by rw [z, hD] at h; cases h; exact mw]; exact h) (RUs.plain hD mw t)
  | _, _, .fd h n t => .fd (by rw [upd_ne fun z => by rw [z, hD] at h; cases h; exact mw]; exact h) n (RF.plain hD mw t)
  | _, _, .ref e => .ref e
theorem RUs.plain {D : Addr} {w o : HO} (hD : H D = some w) (mw : Mut (some w)) : ∀ {us : List U} {vs : List V}, RUs K ad H us vs → RUs K ad (upd H D o) us vs
  | _, _, .nil => .nil
  | _, _, .cons h t => .cons (RU.plain hD mw h) (RUs.plain hD mw t)
theorem RF.plain {D : Addr} {w o : HO} (hD : H D = some w) (mw : Mut (some w)) : ∀ {us : List (Str × U)} {vs : List (Str × V)}, RF K ad H us vs → RF K ad (upd H D o) us vs
  | _, _, .nil => .nil
  | _, _, .cons h t => .cons (RU.plain hD mw h) (RF.plain hD mw t)
end
theorem RS.plain {D : Addr} {w o : HO} (rs : RS K ad lo H S) (hD : H D = some w) (mw : Mut (some w)) (nD : D ∉ ad) : RS K ad lo (upd H D o) S :=
  ⟨rs.len, rs.nd, fun n p e => by
    obtain ⟨a, u, e1, ro, e2⟩ := rs.obj n p e
    refine ⟨a, u, e1, ?_, by rw [upd_ne fun z => nD (by rw [← z]; exact mem_of_get e1)]; exact e2⟩
    cases ro with
    | lst h => exact .lst (h.plain hD mw)
    | dct h => exact .dct (h.plain hD mw)
    | ins h => exact .ins (h.plain hD mw)
    | dead => exact .dead, rs.lock, rs.kind⟩
/-- a new list that nothing changes any more -/
def xNewF (m : MA) : ME := fun env S => (m env S).bind fun us S1 => .ok (.fl us) S1
theorem tI_newF {m : MA} (σ : St) (H : Hp) (Q : VK) (h : tI K E (xNewF m) σ H Q) : tN K E m σ H (fz Q) := by
  obtain ⟨ad, lo, env, S, rs, re, g⟩ := h
  refine ⟨ad, lo, env, S, rs, re, ?_⟩
  unfold xNewF at g
  cases e : m env S with
  | exc c fs S1 => rw [e] at g; exact g
  | no => rw [e] at g; exact g
  | ok us S1 =>
    rw [e] at g
    rintro ad1 H1 v x rs1 ⟨a, vs, rfl, ea, na, h0, q⟩
    refine ⟨a, _, rfl, ea, trivial, fun od => ?_⟩
    exact g _ _ _ (x.side h0) (rs1.plain ea trivial na) (.fl upd_same (q.plain ea trivial))
/-- a list of the store is frozen: it is a value from now on -/
def xFrz (m : ME) : ME := fun env S => (m env S).bind fun u S1 => match u with
  | .ref n => match S1.lst n with
    | some us => .ok (.fl us) (S1.put n .dead)
    | none => .ok u S1
  | u => .ok u S1
theorem RS.kill (rs : RS K ad lo H S) {n : Nat} {a : Addr} {us : List U} (e : S.lst n = some us) (ea : ad[n]? = some a) : ∃ vs, H a = some (.lst vs) ∧ ∀ od, RS K ad lo (upd H a (.frz od (.lst vs))) (S.put n .dead) ∧ Adv ad H ad (upd H a (.frz od (.lst vs))) ∧ RU K ad (upd H a (.frz od (.lst vs))) (.fl us) (.ref a) := by
  obtain ⟨vs, hv, q⟩ := rs.lstH e ea
  refine ⟨vs, hv, fun od => ⟨⟨?_, rs.nd, fun m p e1 => ?_, rs.lock, fun m h => ?_⟩, ⟨List.prefix_refl _, fun b hb => .inl hb, fun b o e1 nb => by rw [upd_ne fun z => nb (by rw [z]; exact mem_of_get ea)]; exact e1, fun b o w e1 => by rw [upd_ne fun z => by rw [z, hv] at e1; cases e1]; exact e1⟩, .fl upd_same (q.plain hv trivial)⟩⟩
  · show ad.length = (S.objs.set n .dead).length
    rw [List.length_set]
    exact rs.len
  · have e1' : (S.objs.set n .dead)[m]? = some p := e1
    by_cases hm : n = m
    · subst hm
      rw [List.getElem?_set_self (List.getElem?_eq_some_iff.mp (Sto.lst_eq e)).1] at e1'
      cases e1'
      exact ⟨a, _, ea, .dead, by rw [rs.noL e, upd_same]; rfl⟩
    · rw [List.getElem?_set_ne hm] at e1'
      obtain ⟨b, w, e2, ro2, e3⟩ := rs.obj m p e1'
      refine ⟨b, w, e2, ?_, ?_⟩
      · cases ro2 with
        | lst h => exact .lst (h.plain hv trivial)
        | dct h => exact .dct (h.plain hv trivial)
        | ins h => exact .ins (h.plain hv trivial)
        | dead => exact .dead
      · rw [upd_ne fun z => ?_]
        · exact e3
        · subst z
          exact hm ((List.getElem?_inj (List.getElem?_eq_some_iff.mp ea).1 rs.nd).mp (ea.trans e2.symm))
  · obtain ⟨kvs, e1⟩ := rs.kind m h
    have hm : n ≠ m := fun z => by
      subst z
      rw [rs.noL e] at h
      cases h
    exact ⟨kvs, by show (S.objs.set n .dead)[m]? = _; rw [List.getElem?_set_ne hm]; exact e1⟩
theorem PE.fzO {X : Cx} {e : Expr} {t : TE} (h : PE X e t) : PE X e (fun σ H Q => t σ H fun v H1 => Q v H1 ∨ VI.fz Q v H1) := ⟨fun pins s σ H Q I z => thn (h.run pins s σ H _ I z) fun _ _ ⟨x, H1, I1, r, q⟩ => q.elim (fun q => ⟨x, H1, I1, r, q⟩) fun q => EP.fz ⟨x, H1, I1, r, q⟩⟩
theorem tI_frz {m : ME} (σ : St) (H : Hp) (Q : VK) (h : tI K E (xFrz m) σ H Q) : tI K E m σ H fun v H1 => Q v H1 ∨ VI.fz Q v H1 := by
  obtain ⟨ad, lo, env, S, rs, re, g⟩ := h
  refine tE.imp (Go.seq (rel := RU K) rs re g) ?_
  rintro x H1 ⟨u, ad1, S1, x1, rs1, re1, ru, g1⟩
  split at g1
  · split at g1
    · rename_i us e
      obtain ⟨a, rfl, ea⟩ := ru.ref_of
      obtain ⟨vs, hv, k⟩ := rs1.kill e ea
      refine .inr ⟨a, _, rfl, hv, trivial, fun od => ?_⟩
      obtain ⟨rs2, x2, ru2⟩ := k od
      exact g1 _ _ _ x2 rs2 ru2
    · exact .inl (Go.here g1 rs1 ru)
  · exact .inl (Go.here g1 rs1 ru)
theorem tN_L {m : MA} (σ : St) (H : Hp) (Q : VK) (h : tL K E m σ H Q) : tN K E m σ H Q := by
  obtain ⟨ad, lo, env, S, rs, re, g⟩ := h
  refine ⟨ad, lo, env, S, rs, re, Go.turn g ?_⟩
  rintro us S1 ad1 H1 v e x rs1 ⟨a, vs, rfl, ea, na, h0, q⟩ k
  exact k _ ⟨a, vs, rfl, .inl (SqL.of ea), q⟩
theorem tI_L {m : ME} (σ : St) (H : Hp) (Q : VK) (h : tL K E (lOf m) σ H Q) : tI K E m σ H Q := by
  obtain ⟨ad, lo, env, S, rs, re, g⟩ := h
  refine ⟨ad, lo, env, S, rs, re, ?_⟩
  unfold lOf at g
  cases e : m env S with
  | exc c fs S1 => rw [e] at g; exact g
  | no => rw [e] at g; exact g
  | ok u S1 =>
    rw [e] at g
    intro ad1 H1 v x rs1 ru
    rw [R.bind_ok] at g
    cases e1 : seqU u S1 with
    | none => rw [e1] at g; exact g.elim
    | some us =>
      rw [e1] at g
      obtain ⟨p, vs, rfl, hs, q⟩ := seqU_ok rs1 ru e1
      exact g ad1 H1 _ x rs1 ⟨p, vs, rfl, hs, q⟩
end
section
variable {X : Cx} {E : XK} {e : Expr} {es : List Expr} {m : ME} {ms : MA} {pos : Pos}
abbrev SA (X : Cx) (E : XK) (es : List Expr) (m : MA) : Prop := PA X es (tIs X.K E m)
/-- a new list; a list (or tuple) that is read -/
abbrev SN (X : Cx) (E : XK) (e : Expr) (m : MA) : Prop := PE X e (tN X.K E m)
abbrev SL (X : Cx) (E : XK) (e : Expr) (m : MA) : Prop := PE X e (tL X.K E m)
theorem SN.sl (h : SN X E e ms) : SL X E e ms := PE.by h tN_L
theorem SN.pe (h : SN X E e ms) : PE X e (tI X.K E (xNew ms)) := PE.by h tI_new
theorem SN.pf (h : SN X E e ms) : PE X e (tI X.K E (xNewF ms)) := PE.by (PE.fz h) tI_newF
theorem pe_frz (h : PE X e (tI X.K E m)) : PE X e (tI X.K E (xFrz m)) := PE.by (PE.fzO h) tI_frz
theorem sl_of (h : PE X e (tI X.K E m)) : SL X E e (lOf m) := PE.by h tI_L
theorem tIs_nil {K : PySem.W.Frag} (σ : St) (H : Hp) (Q : List V → Hp → Prop) (h : tIs K E aNil σ H Q) : tNil σ H Q := by
  obtain ⟨ad, lo, env, S, rs, re, g⟩ := h
  exact Go.here g rs .nil
theorem tIs_cons {K : PySem.W.Frag} (σ : St) (H : Hp) (Q : List V → Hp → Prop) (h : tIs K E (aCons m ms) σ H Q) : tCons (tI K E m) (tIs K E ms) σ H Q := by
  obtain ⟨ad, lo, env, S, rs, re, z⟩ := h
  refine tE.imp (Go.seq (rel := RU K) rs re z) ?_
  rintro x H1 ⟨u, ad1, S1, x1, rs1, re1, ru, z1⟩
  refine tE.imp (Go.seq (rel := RUs K) rs1 re1 z1) ?_
  rintro y H2 ⟨w, ad2, S2, x2, rs2, re2, rw, z2⟩
  exact Go.here z2 rs2 (.cons (ru.adv rs1 x2) rw)
theorem tIs_star {K : PySem.W.Frag} {ml : MA} (σ : St) (H : Hp) (Q : List V → Hp → Prop) (h : tIs K E (aStar ml ms) σ H Q) : StX.tStar K (tL K E ml) (tIs K E ms) σ H Q := by
  obtain ⟨ad, lo, env, S, rs, re, z⟩ := h
  refine tE.imp (Go.seq (rel := RL K) rs re z) ?_
  rintro x H1 ⟨u, ad1, S1, x1, rs1, re1, ⟨p, vs, rfl, hs, q⟩, z1⟩
  refine ⟨p, vs, rfl, hs.symm, ?_⟩
  refine tE.imp (Go.seq (rel := RUs K) rs1 re1 z1) ?_
  rintro y H2 ⟨w, ad2, S2, x2, rs2, re2, rw, z2⟩
  exact Go.here z2 rs2 ((q.adv rs1 x2).append rw)
theorem sa_nil : SA X E [] aNil := PA.by pa_nil tIs_nil
theorem sa_cons (ha : PE X e (tI X.K E m)) (hr : SA X E es ms) (hs : starEach (e :: es) X.env = (false, eval e X.env) :: starEach es X.env := by rfl) : SA X E (e :: es) (aCons m ms) := PA.by (pa_cons ha hr hs) tIs_cons
theorem sa_star {ml : MA} {p : Pos} (ha : SL X E e ml) (hr : SA X E es ms) (hs : starEach (.Starred e p :: es) X.env = (true, eval e X.env) :: starEach es X.env := by rfl) : SA X E (.Starred e p :: es) (aStar ml ms) := PA.by (StX.pa_star ha hr hs) tIs_star
theorem tI_tup {K : PySem.W.Frag} (σ : St) (H : Hp) (Q : VK) (h : tI K E (xTup ms) σ H Q) : tTup (tIs K E ms) σ H Q := by
  obtain ⟨ad, lo, env, S, rs, re, z⟩ := h
  refine tE.imp (Go.seq (rel := RUs K) rs re z) ?_
  rintro x H1 ⟨u, ad1, S1, x1, rs1, re1, ru, z1⟩
  split at z1
  · rename_i hl
    refine ⟨by rw [← ru.length]; exact hl, fun p hp => ?_⟩
    obtain ⟨rs', x', ru'⟩ := rs1.tup hp ru
    exact Go.now z1 x' rs' ru'
  · exact z1.elim
theorem se_tup {k : Nat} (h : SA X E es ms) : SE X E (.Tuple es k pos) (xTup ms) := .of (PE.by (pe_tup h) tI_tup)
theorem tN_lst {K : PySem.W.Frag} (σ : St) (H : Hp) (Q : VK) (h : tN K E (lim ms) σ H Q) : tLst (tIs K E ms) σ H Q := by
  obtain ⟨ad, lo, env, S, rs, re, z⟩ := h
  refine tE.imp (Go.seq (rel := RUs K) rs re z) ?_
  rintro x H1 ⟨u, ad1, S1, x1, rs1, re1, ru, z1⟩
  split at z1
  · rename_i hl
    refine ⟨by rw [← ru.length]; exact hl, fun p hp => ?_⟩
    obtain ⟨rs', x'⟩ := rs1.grow (u := .lst x) hp
    refine Go.now z1 x' rs' ⟨p, x, rfl, upd_same, fun q => ?_, ?_, ru.adv rs1 x'⟩
    · obtain ⟨n, hn, e⟩ := List.mem_iff_getElem.mp q
      have hs : n < S1.objs.length := by rw [← rs1.len]; exact hn
      obtain ⟨b, w, e1, _, e2⟩ := rs1.obj n _ (List.getElem?_eq_getElem hs)
      rw [List.getElem?_eq_getElem hn, e] at e1
      cases e1
      rw [hp] at e2
      cases e2
    · cases e : H p with
      | none => rfl
      | some o =>
        by_cases q : p ∈ ad
        · obtain ⟨n, hn, e'⟩ := List.mem_iff_getElem.mp q
          have e3 : ad1[n]? = some p := x1.get (by rw [List.getElem?_eq_getElem hn, e'])
          have hs : n < S1.objs.length := by rw [← rs1.len]; exact (List.getElem?_eq_some_iff.mp e3).1
          obtain ⟨b, w, e1, _, e2⟩ := rs1.obj n _ (List.getElem?_eq_getElem hs)
          rw [e3] at e1
          cases e1
          rw [hp] at e2
          cases e2
        · rw [x1.keep p o e q] at hp
          cases hp
  · exact z1.elim
theorem sn_lst (h : SA X E es ms) : SN X E (.List es pos) (lim ms) := PE.by (pe_lst h) tN_lst
end
/-- what is new in the heap now was new ahead, and is no address of the store -/
theorem new_ahead {K : PySem.W.Frag} {ad ad1 : List Addr} {lo : Nat → Option Obj} {H H1 : Hp} {S1 : Sto} {p : Addr} (x1 : Adv ad H ad1 H1) (rs1 : RS K ad1 lo H1 S1) (hp : H1 p = none) : H p = none ∧ p ∉ ad1 := by
  have na : p ∉ ad1 := fun q => by
    obtain ⟨n, hn, e⟩ := List.mem_iff_getElem.mp q
    have hs : n < S1.objs.length := by rw [← rs1.len]; exact hn
    obtain ⟨b, w, e1, _, e2⟩ := rs1.obj n _ (List.getElem?_eq_getElem hs)
    rw [List.getElem?_eq_getElem hn, e] at e1
    cases e1
    rw [hp] at e2
    cases e2
  refine ⟨?_, na⟩
  cases e : H p with
  | none => rfl
  | some o =>
    have q : p ∉ ad := fun z => na (by obtain ⟨t, rfl⟩ := x1.pre; exact List.mem_append_left _ z)
    rw [x1.keep p o e q] at hp
    cases hp
/-- a new list beside the store -/
theorem Go.newN {K : PySem.W.Frag} {E : XK} {ad ad1 : List Addr} {lo : Nat → Option Obj} {H H1 : Hp} {S1 : Sto} {p : Addr} {us : List U} {vs : List V} {Q : VK} (x1 : Adv ad H ad1 H1) (rs1 : RS K ad1 lo H1 S1) (z : Go K E (RN K H) (.ok us S1) ad1 lo H1 Q) (hp : H1 p = none) (q : RUs K ad1 H1 us vs) : Q (.ref p) (upd H1 p (.lst vs)) := by
  obtain ⟨h0, na⟩ := new_ahead x1 rs1 hp
  obtain ⟨rs', x'⟩ := rs1.grow (u := .lst vs) hp
  exact Go.now z x' rs' ⟨p, vs, rfl, upd_same, na, h0, q.adv rs1 x'⟩
end VI
set_option Elab.async false
set_option linter.all false
set_option maxRecDepth 100000
set_option maxHeartbeats 4000000
namespace VI
open PySem L2
def rIs (K : PySem.W.Frag) (E : XK) (g : List U → Sto → R U) : List V → Hp → VK → Prop := fun xs H Q => ∃ ad lo S us, RS K ad lo H S ∧ RUs K ad H us xs ∧ Go K E (RU K) (g us S) ad lo H Q
/-- one argument that is a list or tuple to be read -/
def rL1 (K : PySem.W.Frag) (E : XK) (g : List U → Sto → R U) : List V → Hp → VK → Prop := fun xs H Q => ∃ ad lo S us v, xs = [v] ∧ RS K ad lo H S ∧ RL K ad H us v ∧ Go K E (RU K) (g us S) ad lo H Q
/-- .. that gives a new list -/
def rLN (K : PySem.W.Frag) (E : XK) (g : List U → Sto → R (List U)) : List V → Hp → VK → Prop := fun xs H Q => ∃ ad lo S us v, xs = [v] ∧ RS K ad lo H S ∧ RL K ad H us v ∧ Go K E (RN K H) (g us S) ad lo H Q
def xB (g : List U → Sto → R U) (m : MA) : ME := fun env S => (m env S).bind g
def nB (g : List U → Sto → R (List U)) (m : MA) : MA := fun env S => (m env S).bind g
section
variable {K : PySem.W.Frag} {E : XK} {ms : MA}
theorem tI_B {g : List U → Sto → R U} (σ : St) (H : Hp) (Q : VK) (h : tI K E (xB g ms) σ H Q) : tCB (rIs K E g) (tIs K E ms) σ H Q := by
  obtain ⟨ad, lo, env, S, rs, re, z⟩ := h
  refine tE.imp (Go.seq (rel := RUs K) rs re z) ?_
  rintro x H1 ⟨u, ad1, S1, x1, rs1, re1, ru, z1⟩
  exact ⟨ad1, lo, S1, u, rs1, ru, z1⟩
theorem tI_BL {g : List U → Sto → R U} (σ : St) (H : Hp) (Q : VK) (h : tI K E (xB g ms) σ H Q) : tCB (rL1 K E g) (tCons (tL K E ms) tNil) σ H Q := by
  obtain ⟨ad, lo, env, S, rs, re, z⟩ := h
  refine tE.imp (Go.seq (rel := RL K) rs re z) ?_
  rintro x H1 ⟨u, ad1, S1, x1, rs1, re1, ru, z1⟩
  exact ⟨ad1, lo, S1, u, x, rfl, rs1, ru, z1⟩
theorem tN_BL {g : List U → Sto → R (List U)} (σ : St) (H : Hp) (Q : VK) (h : tN K E (nB g ms) σ H Q) : tCB (rLN K E g) (tCons (tL K E ms) tNil) σ H Q := by
  obtain ⟨ad, lo, env, S, rs, re, z⟩ := h
  refine tE.imp (Go.seq (rel := RL K) rs re z) ?_
  rintro x H1 ⟨u, ad1, S1, x1, rs1, re1, ru, z1⟩
  refine ⟨ad1, lo, S1, u, x, rfl, rs1, ru, Go.turn z1 ?_⟩
  rintro us S2 ad2 H2 v e x2 rs2 ⟨a, vs, rfl, ea, na, h0, q⟩ k
  refine k _ ⟨a, vs, rfl, ea, na, ?_, q⟩
  cases e : H a with
  | none => rfl
  | some o =>
    by_cases qa : a ∈ ad
    · have : a ∈ ad2 := by
        obtain ⟨t, rfl⟩ := (x1.trans x2).pre
        exact List.mem_append_left _ qa
      exact absurd this na
    · rw [x1.keep a o e qa] at h0
      cases h0
end
section
variable {X : Cx} {E : XK} {e : Expr} {es : List Expr} {ms : MA} {p pos : Pos} {x : Str}
theorem se_callB {id : String} {g : List U → Sto → R U} (hc : CallR X (.builtin id) (rIs X.K E g)) (hg : Gl X x) (hm : X.mg x = none) (hv : bootBuiltins x = some (.builtin id)) (ha : SA X E (e :: es) ms) (hn : x ≠ "__name__") (hdb : (x == ("__debug__" : Str)) = false)
    (he : starEach (e :: es) X.env = (false, eval e X.env) :: starEach es X.env := by rfl) (hpl : (backTo pos (starEach es X.env)).any (·.1) = false := by rfl) : SE X E (.Call (.Name x p) (e :: es) [] pos) (xB g ms) :=
  .of (PE.by (pe_callB hc hg hm hv ha hn hdb he hpl) tI_B)
theorem se_callT {T : String} {g : List U → Sto → R U} (hc : CallR X (.type T) (rIs X.K E g)) (hg : Gl X x) (hm : X.mg x = none) (hv : bootBuiltins x = some (.type T)) (ha : SA X E (e :: es) ms) (hn : x ≠ "__name__") (hdb : (x == ("__debug__" : Str)) = false)
    (he : starEach (e :: es) X.env = (false, eval e X.env) :: starEach es X.env := by rfl) (hpl : (backTo pos (starEach es X.env)).any (·.1) = false := by rfl) : SE X E (.Call (.Name x p) (e :: es) [] pos) (xB g ms) :=
  .of (PE.by (pe_callTy hc hg hm hv ha hn hdb he hpl) tI_B)
theorem se_callTL {T : String} {g : List U → Sto → R U} (hc : CallR X (.type T) (rL1 X.K E g)) (hg : Gl X x) (hm : X.mg x = none) (hv : bootBuiltins x = some (.type T)) (ha : SL X E e ms) (hn : x ≠ "__name__") (hdb : (x == ("__debug__" : Str)) = false)
    (he : starEach [e] X.env = (false, eval e X.env) :: starEach [] X.env := by rfl) : SE X E (.Call (.Name x p) [e] [] pos) (xB g ms) :=
  .of (PE.by (pe_callTy hc hg hm hv (pa_cons ha pa_nil he) hn hdb he rfl) tI_BL)
theorem sn_callT {T : String} {g : List U → Sto → R (List U)} (hc : CallR X (.type T) (rLN X.K E g)) (hg : Gl X x) (hm : X.mg x = none) (hv : bootBuiltins x = some (.type T)) (ha : SL X E e ms) (hn : x ≠ "__name__") (hdb : (x == ("__debug__" : Str)) = false)
    (he : starEach [e] X.env = (false, eval e X.env) :: starEach [] X.env := by rfl) : SN X E (.Call (.Name x p) [e] [] pos) (nB g ms) :=
  PE.by (pe_callTy hc hg hm hv (pa_cons ha pa_nil he) hn hdb he rfl) tN_BL
end
def bLen (us : List U) (S : Sto) : R U := match us with
  | [.str x] => if x.length ≤ sizeLine then .ok (.int x.length) S else .no
  | [u] => match seqU u S with
    | some xs => .ok (.int xs.length) S
    | none => match dctU u S with
      | some kvs => .ok (.int kvs.length) S
      | none => .no
  | _ => .no
def bAbs (us : List U) (S : Sto) : R U := match us with
  | [.int i] => .ok (.int (if i < 0 then -i else i)) S
  | _ => .no
def bInt (us : List U) (S : Sto) : R U := match us with
  | [.int i] => .ok (.int i) S
  | [.bl b] => .ok (.int (if b then 1 else 0)) S
  | _ => .no
def bMin (us : List U) (S : Sto) : R U := match us with
  | [.int i, .int j] => .ok (.int (if j < i then j else i)) S
  | _ => .no
def blsOf : List U → Option (List Bool)
  | [] => some []
  | .bl x :: r => (blsOf r).map (x :: ·)
  | _ => none
/-- all([..]), any([..]) of truth values; a list, not a tuple -/
def bAll (us : List U) (S : Sto) : R U := match blsOf us with
  | some bs => .ok (.bl (bs.all id)) S
  | none => .no
def bTuple (us : List U) (S : Sto) : R U := .ok (.tup us) S
def nList (us : List U) (S : Sto) : R (List U) := .ok us S
def alikeB (ds : List PyData) : Bool := ds.all fun d => ds.all fun e => PySem.W.alike d e
def tupB : PyData → Bool
  | .tuple (_ :: _) => true
  | _ => false
def otherB : PyData → Bool
  | .none => false
  | .tuple _ => false
  | _ => true
def sortD (ps : List (U × PyData)) : List (U × PyData) := ps.mergeSort (PySem.W.dataLe false fun p => p.2)
def nSorted (us : List U) (S : Sto) : R (List U) := match allSome (us.map (rdU 60 S)) with
  | some ds => if (alikeB ds && (ds.all tupB || ds.all otherB)) = true ∧ us.length ≤ sizeLine then .ok ((sortD (us.zip ds)).map (·.1)) S else .no
  | none => .no
section
variable {K : PySem.W.Frag} {ad : List Addr} {lo : Nat → Option Obj} {H : Hp} {S : Sto}
theorem blsOf_ok : ∀ {us : List U} {vs : List V} {ys : List Bool}, RUs K ad H us vs → blsOf us = some ys → vs = ys.map V.bl
  | [], _, ys, h, e => by cases h; cases e; rfl
  | u :: us, _, ys, .cons q t, e => by
    cases q with
    | bl x =>
      unfold blsOf at e
      cases r : blsOf us with
      | none => rw [r] at e; cases e
      | some zs =>
        rw [r] at e
        cases e
        rw [blsOf_ok t r]
        rfl
    | _ => cases e
theorem RUs.one {us : List U} {v : V} (h : RUs K ad H us [v]) : ∃ u, us = [u] ∧ RU K ad H u v := by
  cases h with
  | cons q t => cases t; exact ⟨_, rfl, q⟩
theorem RUs.sing {u : U} {vs : List V} (h : RUs K ad H [u] vs) : ∃ v, vs = [v] ∧ RU K ad H u v := by
  cases h with
  | cons q t => cases t; exact ⟨_, rfl, q⟩
theorem RUs.two {u w : U} {vs : List V} (h : RUs K ad H [u, w] vs) : ∃ v z, vs = [v, z] ∧ RU K ad H u v ∧ RU K ad H w z := by
  cases h with
  | cons q t =>
    obtain ⟨z, rfl, r⟩ := t.sing
    exact ⟨_, z, rfl, q, r⟩
end
section
variable {X : Cx} {E : XK}
theorem RF.length {K : PySem.W.Frag} {ad : List Addr} {H : Hp} : ∀ {fs : List (Str × U)} {gs : List (Str × V)}, RF K ad H fs gs → fs.length = gs.length
  | _, _, .nil => rfl
  | _, _, .cons _ t => by simp [RF.length t]
theorem call_lenR : CallR X (.builtin "len") (fun xs H Q => ∃ a kvs, xs = [V.ref a] ∧ Rd H a (.dK kvs) ∧ Q (.int kvs.length) H) := by
  intro pins s σ H xs us Q I r h
  obtain ⟨a, kvs, rfl, ha, q⟩ := h
  obtain ⟨u, rfl, ru⟩ := vals1 r
  cases ru
  exact d_len I ha fun t s' I' => ⟨.int kvs.length, H, I', ⟨t, rfl⟩, q⟩
theorem call_lenI : CallR X (.builtin "len") (rIs X.K E bLen) := by
  refine CallR.by (call_len.or call_lenR) ?_
  rintro xs H Q ⟨ad, lo, S, us, rs, rv, g⟩
  unfold bLen at g
  split at g
  · rename_i x
    obtain ⟨v, rfl, r⟩ := rv.sing
    cases r
    split at g
    · rename_i h
      exact .inl ⟨_, _, rfl, ⟨h, rfl⟩, Go.here g rs (RU.int _)⟩
    · exact g.elim
  · obtain ⟨v, rfl, r⟩ := rv.sing
    split at g
    · rename_i xs e
      obtain ⟨p, vs, rfl, hs, q⟩ := seqU_ok rs r e
      rcases hs with hs | hs
      · exact .inl ⟨_, _, rfl, .inl ⟨vs, hs, rfl⟩, by rw [← q.length]; exact Go.here g rs (RU.int _)⟩
      · exact .inl ⟨_, _, rfl, .inr ⟨vs, hs, rfl⟩, by rw [← q.length]; exact Go.here g rs (RU.int _)⟩
    · split at g
      · rename_i kvs e
        obtain ⟨p, ws, rfl, hs, q⟩ := dctU_ok rs r e
        exact .inr ⟨p, _, rfl, hs, by rw [List.length_map, ← q.length]; exact Go.here g rs (RU.int _)⟩
      · exact g.elim
  · exact g.elim
theorem call_absI : CallR X (.builtin "abs") (rIs X.K E bAbs) := by
  refine CallR.by call_abs ?_
  rintro xs H Q ⟨ad, lo, S, us, rs, rv, g⟩
  unfold bAbs at g
  split at g
  · obtain ⟨v, rfl, r⟩ := rv.sing
    cases r
    exact ⟨_, rfl, Go.here g rs (RU.int _)⟩
  · exact g.elim
theorem call_intI : CallR X (.type "int") (rIs X.K E bInt) := by
  refine CallR.by call_int1 ?_
  rintro xs H Q ⟨ad, lo, S, us, rs, rv, g⟩
  unfold bInt at g
  split at g
  · obtain ⟨v, rfl, r⟩ := rv.sing
    cases r
    exact .inl ⟨_, rfl, Go.here g rs (RU.int _)⟩
  · obtain ⟨v, rfl, r⟩ := rv.sing
    cases r
    exact .inr ⟨_, rfl, Go.here g rs (RU.int _)⟩
  · exact g.elim
theorem call_minI (hc : X.calm = true) : CallR X (.builtin "min") (rIs X.K E bMin) := by
  refine CallR.by (call_min2 hc) ?_
  rintro xs H Q ⟨ad, lo, S, us, rs, rv, g⟩
  unfold bMin at g
  split at g
  · obtain ⟨v, z, rfl, r, r'⟩ := rv.two
    cases r
    cases r'
    exact ⟨_, _, rfl, Go.here g rs (RU.int _)⟩
  · exact g.elim
theorem call_tupleI : CallR X (.type "tuple") (rL1 X.K E bTuple) := by
  refine CallR.by call_tuple_of ?_
  rintro xs H Q ⟨ad, lo, S, us, v, rfl, rs, ⟨a, vs, rfl, hs, q⟩, g⟩
  refine ⟨a, vs, rfl, ?_⟩
  rcases hs with hs | hs
  · refine .inl ⟨hs, fun p hp => ?_⟩
    obtain ⟨rs', x', ru'⟩ := rs.tup hp q
    exact Go.now g x' rs' ru'
  · exact .inr ⟨hs, Go.here g rs (RU.tup hs q)⟩
theorem call_listI : CallR X (.type "list") (rLN X.K E nList) := by
  refine CallR.by call_list_of ?_
  rintro xs H Q ⟨ad, lo, S, us, v, rfl, rs, ⟨a, vs, rfl, hs, q⟩, g⟩
  exact ⟨a, vs, rfl, hs, fun p hp => Go.newN Adv.refl rs g hp q⟩
/-- all, any, sum: of a list -/
def rLl (K : PySem.W.Frag) (E : XK) (g : List U → Sto → R U) : List V → Hp → VK → Prop := fun xs H Q => ∃ ad lo S us v a vs, xs = [v] ∧ RS K ad lo H S ∧ v = .ref a ∧ SqL K H a vs ∧ RUs K ad H us vs ∧ Go K E (RU K) (g us S) ad lo H Q
theorem call_allI (hc : X.calm = true) : CallR X (.builtin "all") (rLl X.K E bAll) := by
  refine CallR.by (cr_all hc) ?_
  rintro xs H Q ⟨ad, lo, S, us, v, a, vs, rfl, rs, rfl, hs, q, g⟩
  unfold bAll at g
  cases e : blsOf us with
  | none => rw [e] at g; exact g.elim
  | some bs =>
    rw [e] at g
    have ev := blsOf_ok q e
    subst ev
    exact ⟨a, bs, rfl, hs, Go.here g rs (RU.bl _)⟩
end
section
variable {X : Cx} {E : XK} {e : Expr} {ms : MA} {p pos : Pos} {x : Str}
theorem tI_BN {K : PySem.W.Frag} {g : List U → Sto → R U} (σ : St) (H : Hp) (Q : VK) (h : tI K E (xB g ms) σ H Q) : tCB (rLl K E g) (tCons (tN K E ms) tNil) σ H Q := by
  obtain ⟨ad, lo, env, S, rs, re, z⟩ := h
  refine tE.imp (Go.seq (rel := RN K H) rs re z) ?_
  rintro x H1 ⟨u, ad1, S1, x1, rs1, re1, ⟨a, vs, rfl, ea, na, h0, q⟩, z1⟩
  exact ⟨ad1, lo, S1, u, _, a, vs, rfl, rs1, rfl, SqL.of ea, q, z1⟩
/-- all, any, sum of a new list -/
theorem se_callBN {id : String} {g : List U → Sto → R U} (hc : CallR X (.builtin id) (rLl X.K E g)) (hg : Gl X x) (hm : X.mg x = none) (hv : bootBuiltins x = some (.builtin id)) (ha : SN X E e ms) (hn : x ≠ "__name__") (hdb : (x == ("__debug__" : Str)) = false)
    (he : starEach [e] X.env = (false, eval e X.env) :: starEach [] X.env := by rfl) : SE X E (.Call (.Name x p) [e] [] pos) (xB g ms) :=
  .of (PE.by (pe_callB hc hg hm hv (pa_cons ha pa_nil he) hn hdb he rfl) tI_BN)
end
section
variable {X : Cx} {E : XK}
theorem each_of {K : PySem.W.Frag} {ad : List Addr} {H : Hp} {S : Sto} {R : Value → U × PyData → Prop} : ∀ (us : List U) (vs : List V) (ds : List PyData) (its : List Value), RUs K ad H us vs → allSome (us.map (rdU 60 S)) = some ds → Vals vs its →
    (∀ u v d it, RU K ad H u v → rdU 60 S u = some d → RelV v it → R it (u, d)) → PySem.W.EachIs R its (us.zip ds)
  | [], _, ds, _, .nil, e, .nil, _ => by cases e; exact .nil
  | u :: us, v :: vs, ds, it :: its, .cons q t, e, .cons rv tv, h => by
    rw [List.map_cons] at e
    cases r : rdU 60 S u with
    | none => rw [r] at e; cases e
    | some d =>
      rw [r] at e
      cases r2 : allSome (us.map (rdU 60 S)) with
      | none => unfold allSome at e; rw [r2] at e; cases e
      | some es =>
        have e3 : ds = d :: es := by
          unfold allSome at e
          rw [r2] at e
          exact (Option.some.inj e).symm
        subst e3
        exact .cons (h u v d it q r rv) (each_of us vs es its t r2 tv h)
theorem each_vals {K : PySem.W.Frag} {ad : List Addr} {H : Hp} : ∀ (out : List Value) (ps : List (U × PyData)), PySem.W.EachIs (fun it p => ∃ v, RelV v it ∧ RU K ad H p.1 v) out ps → ∃ vs, Vals vs out ∧ RUs K ad H (ps.map (·.1)) vs
  | _, _, .nil => ⟨[], .nil, .nil⟩
  | _, _, .cons ⟨v, r, q⟩ t => let ⟨vs, a, b⟩ := each_vals _ _ t; ⟨v :: vs, .cons r a, .cons q b⟩
theorem zip_snd {α β : Type} : ∀ (us : List α) (ds : List β), us.length = ds.length → (us.zip ds).map (·.2) = ds
  | [], [], _ => rfl
  | u :: us, d :: ds, h => by rw [List.zip_cons_cons, List.map_cons, zip_snd us ds (by simpa using h)]
  | [], _ :: _, h => by simp at h
  | _ :: _, [], h => by simp at h
theorem call_sortedI (hu : X.A.units + 70 < cLine) : CallR X (.builtin "sorted") (fun xs H Q => ∃ ad lo S us v a vs, xs = [v] ∧ RS X.K ad lo H S ∧ v = .ref a ∧ SqL X.K H a vs ∧ RUs X.K ad H us vs ∧ Go X.K E (RN X.K H) (nSorted us S) ad lo H Q) := by
  intro pins s σ H xs ws Q I rw h
  obtain ⟨ad, lo, S, us, v, a, vs, rfl, rs, rfl, hs, q, g⟩ := h
  obtain ⟨w, rfl, rx⟩ := vals1 rw
  cases rx
  obtain ⟨its, rv, pl, hz⟩ := I.list hs
  unfold nSorted at g
  cases e : allSome (us.map (rdU 60 S)) with
  | none => rw [e] at g; exact g.elim
  | some ds =>
    rw [e] at g
    simp only at g
    split at g
    · rename_i hh
      obtain ⟨hb, hL⟩ := hh
      obtain ⟨dA, dL⟩ := rdAll_ok rs q e
      have hlen : us.length = ds.length := by
        obtain ⟨l, _⟩ := rd_all us vs ds q e
        rw [q.length, l]
      have e2 : (us.zip ds).map (fun p => p.2) = ds := zip_snd us ds hlen
      obtain ⟨hb1, hb2⟩ := Bool.and_eq_true_iff.mp hb
      have hal : PySem.W.AllAlike ds := fun d hd d' hd' => List.all_eq_true.mp (List.all_eq_true.mp hb1 d hd) d' hd'
      have hk : PySem.W.Sortable ds := by
        rcases Bool.or_eq_true_iff.mp hb2 with z | z
        · refine .inl fun d hd => ?_
          have z1 := List.all_eq_true.mp z d hd
          unfold tupB at z1
          split at z1
          · exact ⟨_, _, rfl⟩
          · cases z1
        · refine .inr fun d hd => ?_
          have z1 := List.all_eq_true.mp z d hd
          unfold otherB at z1
          split at z1
          · cases z1
          · cases z1
          · rename_i h1 h2
            exact ⟨fun z => h1 z, fun xs z => h2 xs z⟩
      have eI := each_of (R := fun it p => (∃ v, RelV v it ∧ RU X.K ad H p.1 v) ∧ ∃ as, Reads s.heap it p.2 as) us vs ds its q e rv fun u v d it r1 r2 r3 => ⟨⟨v, r3, r1⟩, Dp.reads I d v it (rd_ok rs 60 u v d r1 r2).1 r3⟩
      refine PySem.W.sorted_data (bs := us.zip ds) (enc := fun p => p.2) (R := fun it p => ∃ v, RelV v it ∧ RU X.K ad H p.1 v) (vs := its) pl.isList (eI.mono fun _ _ z => z.1) (eI.mono fun _ _ z => z.2) (by rw [e2]; exact hal) (by rw [e2]; exact hk)
        (by rw [List.length_zip, hlen, Nat.min_self, ← hlen]; exact hL) (fun b hb => ?_) fun out hout eo => ?_
      · have hd := (dL b.2 (List.of_mem_zip (show (b.1, b.2) ∈ us.zip ds from hb)).2).2
        omega
      · obtain ⟨ys, ra, rb⟩ := each_vals out _ eo
        obtain ⟨c, hc⟩ := PyProof.Rows.sortedAll_at s.heap its out.toArray
        have hsz : ys.length ≤ sizeLine := by
          rw [ra.length, hout, List.length_zip, hlen, Nat.min_self, ← hlen]
          exact hL
        refine ⟨.ref (s.heap.objs.size + 1), upd H (s.heap.objs.size + 1) (.lst ys), I.laid (t' := s.toks) (fun b u e => PyProof.Rows.sortedAll_old e) (Nat.le_succ _) (show ObjOk X.prog X.w _ _ _ (.lst ys) from ⟨hsz, out, c, ra, hc⟩), rfl, ?_⟩
        exact Go.newN Adv.refl rs g (I.hok.fresh (Nat.le_succ _)) rb
    · exact g.elim
end
def RLs (K : PySem.W.Frag) (ad : List Addr) (H : Hp) (us : List U) (v : V) : Prop := ∃ a vs, v = .ref a ∧ SqL K H a vs ∧ RUs K ad H us vs
def lstOf (m : ME) : MA := fun env S => (m env S).bind fun u S1 => match plU u S1 with
  | some us => .ok us S1
  | none => .no
section
variable {K : PySem.W.Frag} {E : XK}
theorem tN_Ls {m : MA} (σ : St) (H : Hp) (Q : VK) (h : tE K E (RLs K) m σ H Q) : tN K E m σ H Q := by
  obtain ⟨ad, lo, env, S, rs, re, g⟩ := h
  refine ⟨ad, lo, env, S, rs, re, Go.turn g ?_⟩
  rintro us S1 ad1 H1 v e x rs1 ⟨a, vs, rfl, ea, na, h0, q⟩ k
  exact k _ ⟨a, vs, rfl, SqL.of ea, q⟩
theorem tI_Ls {m : ME} (σ : St) (H : Hp) (Q : VK) (h : tE K E (RLs K) (lstOf m) σ H Q) : tI K E m σ H Q := by
  obtain ⟨ad, lo, env, S, rs, re, g⟩ := h
  refine ⟨ad, lo, env, S, rs, re, ?_⟩
  unfold lstOf at g
  cases e : m env S with
  | exc c fs S1 => rw [e] at g; exact g
  | no => rw [e] at g; exact g
  | ok u S1 =>
    rw [e] at g
    intro ad1 H1 v x rs1 ru
    rw [R.bind_ok] at g
    cases e1 : plU u S1 with
    | none => rw [e1] at g; exact g.elim
    | some us =>
      rw [e1] at g
      obtain ⟨a, vs, rfl, hs, q⟩ := plU_ok rs1 ru e1
      exact g ad1 H1 _ x rs1 ⟨a, vs, rfl, .inl hs, q⟩
theorem tN_sorted {ms : MA} (σ : St) (H : Hp) (Q : VK) (h : tN K E (nB nSorted ms) σ H Q) : tCB (fun xs H Q => ∃ ad lo S us v a vs, xs = [v] ∧ RS K ad lo H S ∧ v = .ref a ∧ SqL K H a vs ∧ RUs K ad H us vs ∧ Go K E (RN K H) (nSorted us S) ad lo H Q) (tCons (tE K E (RLs K) ms) tNil) σ H Q := by
  obtain ⟨ad, lo, env, S, rs, re, z⟩ := h
  refine tE.imp (Go.seq (rel := RLs K) rs re z) ?_
  rintro x H1 ⟨u, ad1, S1, x1, rs1, re1, ⟨a, vs, rfl, hs, q⟩, z1⟩
  refine ⟨ad1, lo, S1, u, _, a, vs, rfl, rs1, rfl, hs, q, Go.turn z1 ?_⟩
  rintro us S2 ad2 H2 v e x2 rs2 ⟨b, ws, rfl, ea, na, h0, q2⟩ k
  refine k _ ⟨b, ws, rfl, ea, na, ?_, q2⟩
  cases e : H b with
  | none => rfl
  | some o =>
    by_cases qa : b ∈ ad
    · exact absurd (show b ∈ ad2 by obtain ⟨t, rfl⟩ := (x1.trans x2).pre; exact List.mem_append_left _ qa) na
    · rw [x1.keep b o e qa] at h0
      cases h0
end
section
variable {X : Cx} {E : XK} {e : Expr} {ms : MA} {m : ME} {p pos : Pos} {x : Str}
abbrev SLs (X : Cx) (E : XK) (e : Expr) (m : MA) : Prop := PE X e (tE X.K E (RLs X.K) m)
theorem SN.sls (h : SN X E e ms) : SLs X E e ms := PE.by h tN_Ls
theorem sls_of (h : PE X e (tI X.K E m)) : SLs X E e (lstOf m) := PE.by h tI_Ls
theorem sn_sorted (hu : X.A.units + 70 < cLine) (hg : Gl X "sorted") (hm : X.mg "sorted" = none) (hv : bootBuiltins "sorted" = some (.builtin "sorted")) (ha : SLs X E e ms)
    (he : starEach [e] X.env = (false, eval e X.env) :: starEach [] X.env := by rfl) : SN X E (.Call (.Name "sorted" p) [e] [] pos) (nB nSorted ms) :=
  PE.by (pe_callB (call_sortedI hu) hg hm hv (pa_cons ha pa_nil he) (by decide) (by decide) he rfl) tN_sorted
end
end VI
set_option Elab.async false
set_option linter.all false
set_option maxRecDepth 100000
set_option maxHeartbeats 4000000
namespace VI
open PySem L2
def opIx (u w : U) (S : Sto) : R U := match u, w with
  | .tup us, .int i => match atI us i with
    | some v => .ok v S
    | none => .no
  | .str z, .int i => if z.length ≤ sizeLine then (match atI z.cps.toList i with
    | some c => .ok (.str ⟨#[c]⟩) S
    | none => .no) else .no
  | u, .int i => match plU u S with
    | some us => match atI us i with
      | some v => .ok v S
      | none => .no
    | none => .no
  | u, .str k => match dctU u S with
    | some kvs => match keyAt kvs k with
      | some v => .ok v S
      | none => .no
    | none => .no
  | _, _ => .no
def cutL {α : Type} (xs : List α) (lo hi : Option Int) : List α := (xs.drop (HT.sIx xs.length 0 lo)).take (HT.sIx xs.length xs.length hi - HT.sIx xs.length 0 lo)
abbrev MO := Env → Sto → R (Option Int)
def oNone : MO := fun _ S => .ok none S
def oSome (m : ME) : MO := fun env S => (m env S).bind fun u S1 => match u with
  | .int i => .ok (some i) S1
  | _ => .no
def slU (u : U) (lo hi : Option Int) (S : Sto) : R U := match u with
  | .tup us => .ok (.tup (cutL us lo hi)) S
  | .str z => if z.length ≤ sizeLine then .ok (.str (cutS z lo hi)) S else .no
  | u => match plU u S with
    | some us => .ok (.fl (cutL us lo hi)) S
    | none => .no
def xSl (m : ME) (lo hi : MO) : ME := fun env S => (m env S).bind fun u S1 => (lo env S1).bind fun l S2 => (hi env S2).bind fun h S3 => slU u l h S3
section
variable {K : PySem.W.Frag} {E : XK} {ad : List Addr} {lo : Nat → Option Obj} {H : Hp} {S : Sto}
theorem RUs.atI {us : List U} {vs : List V} {i : Int} {u : U} (q : RUs K ad H us vs) (e : L2.atI us i = some u) : ∃ v, L2.atI vs i = some v ∧ RU K ad H u v := by
  unfold L2.atI at e ⊢
  rw [q.length] at e
  cases z : ixN vs.length i with
  | none => rw [z] at e; cases e
  | some j =>
    rw [z] at e
    exact q.get e
theorem RUs.cut {us : List U} {vs : List V} {l h : Option Int} (q : RUs K ad H us vs) : RUs K ad H (cutL us l h) (cutV vs l h) := by
  unfold cutL cutV
  rw [q.length]
  exact (q.drop _).take _
end
section
variable {X : Cx} {E : XK}
theorem ix_dK (hu : X.A.units + 1 < cLine) : IxR X (fun x y H Q => ∃ a v, x = .ref a ∧ DGet H a y (some v) ∧ Q v H) := by
  intro value slice pins s σ H x y v u Q I rx ry h hs
  obtain ⟨a, w, rfl, g, q⟩ := h
  obtain rfl : v = Value.ref a := rx
  exact PyProof.Rows.tail_any (dict_typeIs I g) PySem.F.slot_dict_getitem.lookup (d_getItem hu I g ry fun w' s3 I3 rw' => ⟨w, H, I3, rw', q⟩) hs
theorem ix_I (hu : X.A.units + 1 < cLine) : IxR X (rI2 X.K E opIx) := by
  refine IxR.by (ix_list.or (ix_tup.or (ix_str.or (ix_dK hu)))) ?_
  rintro x y H Q ⟨ad, lo, S, u, w, rs, ru, rw, g⟩
  unfold opIx at g
  split at g
  · cases rw
    obtain ⟨a, vs, rfl, hs, q⟩ := ru.tup_of
    split at g
    · rename_i v e
      obtain ⟨z, e1, rz⟩ := q.atI e
      exact .inr (.inl ⟨a, vs, _, z, rfl, rfl, hs, e1, Go.here g rs rz⟩)
    · exact g.elim
  · cases rw
    cases ru
    split at g
    · rename_i hz
      split at g
      · rename_i c e
        exact .inr (.inr (.inl ⟨_, _, c, rfl, rfl, hz, e, Go.here g rs (RU.str _)⟩))
      · exact g.elim
    · exact g.elim
  · cases rw
    split at g
    · rename_i us e
      obtain ⟨a, vs, rfl, hs, q⟩ := plU_ok rs ru e
      split at g
      · rename_i v e
        obtain ⟨z, e1, rz⟩ := q.atI e
        exact .inl ⟨a, vs, _, z, rfl, rfl, .inl hs, e1, Go.here g rs rz⟩
      · exact g.elim
    · exact g.elim
  · rename_i k
    cases rw
    split at g
    · rename_i kvs e
      obtain ⟨a, ws, rfl, hr, q⟩ := dctU_ok rs ru e
      split at g
      · rename_i v e1
        obtain ⟨z, e2, rz⟩ := (q.find k).1 v e1
        refine .inr (.inr (.inr ⟨a, z, rfl, .inl ⟨_, Sum.inr k, hr, rfl, ?_⟩, Go.here g rs rz⟩))
        rw [valV_map, e2]
      · exact g.elim
    · exact g.elim
  · exact g.elim
def rSlI (K : PySem.W.Frag) (E : XK) : V → Option Int → Option Int → Hp → VK → Prop := fun x l h H Q => ∃ ad lo S u, RS K ad lo H S ∧ RU K ad H u x ∧ Go K E (RU K) (slU u l h S) ad lo H Q
theorem SlR.by {r r' : V → Option Int → Option Int → Hp → VK → Prop} (h : SlR X r) (q : ∀ x l u H Q, r' x l u H Q → r x l u H Q) : SlR X r' := fun pins s σ H x v vl vu lo hi sl Q I rx hs pl pu z => h pins s σ H x v vl vu lo hi sl Q I rx hs pl pu (q x lo hi H Q z)
theorem SlR.fz {r : V → Option Int → Option Int → Hp → VK → Prop} (h : SlR X r) : SlR X (fun x l u H Q => r x l u H (VI.fz Q)) := fun pins s σ H x v vl vu lo hi sl Q I rx hs pl pu z => by
  obtain ⟨T, id, e1, e2, e3⟩ := h pins s σ H x v vl vu lo hi sl _ I rx hs pl pu z
  exact ⟨T, id, e1, e2, thn e3 fun _ _ q => EP.fz q⟩
theorem sl_I : SlR X (rSlI X.K E) := by
  refine SlR.by ((SlR.fz sl_list).or (sl_tupA.or sl_str)) ?_
  rintro x l h H Q ⟨ad, lo, S, u, rs, ru, g⟩
  unfold slU at g
  split at g
  · rename_i us
    obtain ⟨a, vs, rfl, hs, q⟩ := ru.tup_of
    refine .inr (.inl ⟨a, vs, rfl, hs, fun e => ?_, fun _ p hp => ?_⟩)
    · refine Go.here g rs ?_
      have e2 : cutL us l h = us := by
        unfold cutL
        rw [q.length, e.1, e.2, List.drop_zero, Nat.sub_zero, ← q.length]
        exact List.take_length
      rw [e2]
      exact RU.tup hs q
    · obtain ⟨rs', x', ru'⟩ := rs.tup hp (q.cut (l := l) (h := h))
      exact Go.now g x' rs' ru'
  · cases ru
    split at g
    · rename_i hz
      exact .inr (.inr ⟨_, rfl, hz, Go.here g rs (RU.str _)⟩)
    · exact g.elim
  · split at g
    · rename_i us e
      obtain ⟨a, vs, rfl, hs, q⟩ := plU_ok rs ru e
      exact .inl ⟨a, vs, rfl, .inl hs, fun p hp => rs.fzL (q.cut (l := l) (h := h)) g hp⟩
    · exact g.elim
end
section
variable {X : Cx} {E : XK} {a b e : Expr} {lo hi : Option Expr} {m ma mb : ME} {ml mh : MO} {pos p2 : Pos}
theorem se_ix (hu : X.A.units + 1 < cLine) (ha : PE X a (tI X.K E ma)) (hb : PE X b (tI X.K E mb)) (hs : PlainIx b := by intro _ _; rfl) : SE X E (.Subscript a b pos) (x2 opIx ma mb) := .of (PE.by (pe_ix (ix_I hu) ha hb hs) tI_2)
def rO : List Addr → Hp → Option Int → Option Int → Prop := fun _ _ a b => a = b
abbrev SO (X : Cx) (E : XK) (e : Option Expr) (m : MO) : Prop := PO X e (tE X.K E rO m)
theorem PO.by {e : Option Expr} {t t' : TO} (h : PO X e t) (q : ∀ σ H Q, t' σ H Q → t σ H Q) : PO X e t' := ⟨fun pins s σ H Q I z => h.run pins s σ H Q I (q σ H Q z)⟩
theorem so_none : SO X E none oNone := PO.by po_none fun σ H Q h => by
  obtain ⟨ad, lo, env, S, rs, re, g⟩ := h
  exact Go.here g rs rfl
theorem so_some (h : PE X e (tI X.K E m)) : SO X E (some e) (oSome m) := PO.by (po_some h) fun σ H Q h => by
  obtain ⟨ad, lo, env, S, rs, re, g⟩ := h
  refine tE.imp (Go.seq (rel := RU X.K) rs re g) ?_
  rintro x H1 ⟨u, ad1, S1, x1, rs1, re1, ru, g1⟩
  cases ru with
  | int i => exact ⟨i, rfl, Go.here g1 rs1 rfl⟩
  | _ => exact g1.elim
theorem tI_sl {K : PySem.W.Frag} (σ : St) (H : Hp) (Q : VK) (h : tI K E (xSl m ml mh) σ H Q) : tSl (rSlI K E) (tI K E m) (tE K E rO ml) (tE K E rO mh) σ H Q := by
  obtain ⟨ad, lo, env, S, rs, re, z⟩ := h
  refine tE.imp (Go.seq (rel := RU K) rs re z) ?_
  rintro x H1 ⟨u, ad1, S1, x1, rs1, re1, ru, z1⟩
  refine tE.imp (Go.seq (rel := rO) rs1 re1 z1) ?_
  rintro l H2 ⟨l', ad2, S2, x2, rs2, re2, rl, z2⟩
  cases (show l' = l from rl)
  refine tE.imp (Go.seq (rel := rO) rs2 re2 z2) ?_
  rintro h H3 ⟨h', ad3, S3, x3, rs3, re3, rh, z3⟩
  cases (show h' = h from rh)
  exact ⟨ad3, lo, S3, u, rs3, (ru.adv rs1 x2).adv rs2 x3, z3⟩
theorem se_sl (he : PE X e (tI X.K E m)) (hl : SO X E lo ml) (hh : SO X E hi mh) : SE X E (.Subscript e (.Slice lo hi none p2) pos) (xSl m ml mh) := .of (PE.by (pe_slice sl_I he hl hh) tI_sl)
end
def fldAt (tb : Str → Bool) (f : Str) (u : U) (S : Sto) : R U := match u with
  | .ref n => match S.ins n with
    | some (c, fs) => if tb c = true then (match fs.lookup f with
      | some w => .ok w S
      | none => .no) else .no
    | none => .no
  | _ => .no
def xFld (tb : Str → Bool) (f : Str) (m : ME) : ME := fun env S => (m env S).bind fun u S1 => fldAt tb f u S1
def putU (f : Str) (v : U) : List (Str × U) → List (Str × U)
  | [] => [(f, v)]
  | (g, x) :: r => if g = f then (g, v) :: r else (g, x) :: putU f v r
section
variable {K : PySem.W.Frag} {E : XK} {ad : List Addr} {lo : Nat → Option Obj} {H : Hp} {S : Sto}
theorem RF.lookup : ∀ {fs : List (Str × U)} {gs : List (Str × V)} {f : Str} {u : U}, RF K ad H fs gs → fs.lookup f = some u → ∃ v, gs.lookup f = some v ∧ RU K ad H u v
  | _, _, _, _, .nil, e => by cases e
  | (x, u) :: us, (_, v) :: vs, f, w, .cons q t, e => by
    rw [List.lookup_cons] at e ⊢
    cases h : (f == x) with
    | true => rw [h] at e; cases e; exact ⟨v, rfl, q⟩
    | false => rw [h] at e; exact RF.lookup t e
theorem RF.put : ∀ {fs : List (Str × U)} {gs : List (Str × V)} {f : Str} {u : U} {v : V}, RF K ad H fs gs → RU K ad H u v → RF K ad H (putU f u fs) (putF f v gs)
  | _, _, _, _, _, .nil, q => .cons q .nil
  | (x, _) :: us, (_, _) :: vs, f, w, z, .cons p t, q => by
    unfold putU putF
    by_cases h : x = f
    · rw [if_pos h, if_pos h]; exact .cons q t
    · rw [if_neg h, if_neg h]; exact .cons p (RF.put t q)
theorem RF.none : ∀ {fs : List (Str × U)} {gs : List (Str × V)} {f : Str}, RF K ad H fs gs → fs.lookup f = none → gs.lookup f = none
  | _, _, _, .nil, e => rfl
  | (x, u) :: us, (_, v) :: vs, f, .cons q t, e => by
    rw [List.lookup_cons] at e ⊢
    cases h : (f == x) with
    | true => rw [h] at e; cases e
    | false => rw [h] at e; exact RF.none t e
theorem tI_fld {tb : Str → Bool} {f : Str} {m : ME} (hf : ∀ c, tb c = true → Cls K (He.ga K c) ∧ NoAttr K (He.ga K c) f) (σ : St) (H : Hp) (Q : VK) (h : tI K E (xFld tb f m) σ H Q) : tFld K (tI K E m) f σ H Q := by
  obtain ⟨ad, lo, env, S, rs, re, z⟩ := h
  refine tE.imp (Go.seq (rel := RU K) rs re z) ?_
  rintro x H1 ⟨u, ad1, S1, x1, rs1, re1, ru, z1⟩
  unfold fldAt at z1
  split at z1
  · obtain ⟨a, rfl, ea⟩ := ru.ref_of
    split at z1
    · rename_i c fs e
      obtain ⟨dx, gs, e1, q⟩ := rs1.insH e ea
      split at z1
      · rename_i ht
        split at z1
        · rename_i w e2
          obtain ⟨v, e3, rv⟩ := q.lookup e2
          exact ⟨a, _, dx, gs, v, rfl, e1, (hf c ht).1, (hf c ht).2, e3, Go.here z1 rs1 rv⟩
        · exact z1.elim
      · exact z1.elim
    · exact z1.elim
  · exact z1.elim
end
section
variable {X : Cx} {E : XK} {e : Expr} {m : ME} {pos : Pos} {f : Str}
theorem se_fld {tb : Str → Bool} (hf : ∀ c, tb c = true → Cls X.K (He.ga X.K c) ∧ NoAttr X.K (He.ga X.K c) f) (he : PE X e (tI X.K E m)) (hb : attributeBase e f X.env (eval e X.env) = eval e X.env := by rfl) : SE X E (.Attribute e f pos) (xFld tb f m) :=
  .of (PE.by (pe_fld he hb) (tI_fld hf))
end
inductive Kd where
  | lst | dct | str | tup | ins (c : Str)
def kdU (u : U) (S : Sto) : Option Kd := match u with
  | .str _ => some .str
  | .tup _ => some .tup
  | .fl _ => some .lst
  | .fd _ => some .dct
  | .ref n => match S.objs[n]? with
    | some (.lst _) => some .lst
    | some (.dct _) => some .dct
    | some (.ins c _) => some (.ins c)
    | some .dead => none
    | none => none
  | _ => none
/-- o.m(args): the kind of o is looked at first -/
def xM (k : Kd → Bool) (g : U → List U → Sto → R U) (m : ME) (ms : MA) : ME := fun env S => (m env S).bind fun u S1 => match kdU u S1 with
  | some d => if k d = true then (ms env S1).bind fun us S2 => g u us S2 else .no
  | none => .no
def isLst : Kd → Bool
  | .lst => true
  | _ => false
def rMt (K : PySem.W.Frag) (E : XK) (g : U → List U → Sto → R U) : V → List V → Hp → VK → Prop := fun x xs H Q => ∃ ad lo S u us, RS K ad lo H S ∧ RU K ad H u x ∧ RUs K ad H us xs ∧ Go K E (RU K) (g u us S) ad lo H Q
section
variable {K : PySem.W.Frag} {E : XK} {ad : List Addr} {lo : Nat → Option Obj} {H : Hp} {S : Sto}
theorem tyL (rs : RS K ad lo H S) {u : U} {x : V} (r : RU K ad H u x) (d : Kd) (e : kdU u S = some d) (hd : isLst d = true) : tyV K "list" x H := by
  cases r with
  | ref ea =>
    unfold kdU at e
    simp only at e
    split at e
    · rename_i xs e1
      obtain ⟨vs, hs, _, _⟩ := rs.sql (xs := xs) (by unfold Sto.lst; rw [e1]) ea
      exact .inl ⟨rfl, vs, hs⟩
    · cases e; cases hd
    · cases e; cases hd
    · cases e
    · cases e
  | fl hs q => exact .inl ⟨rfl, _, .inl (.inr ⟨_, hs⟩)⟩
  | str x => cases e; cases hd
  | tup _ _ => cases e; cases hd
  | fd _ _ _ => cases e; cases hd
  | _ => cases e
theorem tI_M {T : String} {k : Kd → Bool} {g : U → List U → Sto → R U} {m : ME} {ms : MA} (ty : ∀ {ad lo H S u x d}, RS K ad lo H S → RU K ad H u x → kdU u S = some d → k d = true → tyV K T x H) (σ : St) (H : Hp) (Q : VK) (h : tI K E (xM k g m ms) σ H Q) : tBM K T (rMt K E g) (tI K E m) (tIs K E ms) σ H Q := by
  obtain ⟨ad, lo, env, S, rs, re, z⟩ := h
  refine tE.imp (Go.seq (rel := RU K) rs re z) ?_
  rintro x H1 ⟨u, ad1, S1, x1, rs1, re1, ru, z1⟩
  cases e : kdU u S1 with
  | none => simp only [e] at z1; exact z1.elim
  | some d =>
    simp only [e] at z1
    split at z1
    · rename_i hk
      refine ⟨ty rs1 ru e hk, ?_⟩
      refine tE.imp (Go.seq (rel := RUs K) rs1 re1 z1) ?_
      rintro y H2 ⟨w, ad2, S2, x2, rs2, re2, rw, z2⟩
      exact ⟨ad2, lo, S2, u, w, rs2, ru.adv rs1 x2, rw, z2⟩
    · exact z1.elim
end
def mAppend (u : U) (us : List U) (S : Sto) : R U := match u, us with
  | .ref n, [w] => match S.lst n with
    | some xs => if xs.length < sizeLine then .ok .non (S.put n (.lst (xs ++ [w]))) else .no
    | none => .no
  | _, _ => .no
def mPop (u : U) (us : List U) (S : Sto) : R U := match u, us with
  | .ref n, [] => match S.lst n with
    | some xs => match xs[xs.length - 1]? with
      | some y => .ok y (S.put n (.lst xs.dropLast))
      | none => .no
    | none => .no
  | .ref n, [.int i] => match S.lst n with
    | some xs => if i.natAbs < 2 ^ 63 then (match seqIndex? i xs.length with
      | some k => match xs[k]? with
        | some y => .ok y (S.put n (.lst (xs.eraseIdx k)))
        | none => .no
      | none => .no) else .no
    | none => .no
  | _, _ => .no
section
variable {X : Cx} {E : XK}
theorem RUs.dropLast {K : PySem.W.Frag} {ad : List Addr} {H : Hp} : ∀ {us : List U} {vs : List V}, RUs K ad H us vs → RUs K ad H us.dropLast vs.dropLast
  | _, _, .nil => .nil
  | _, _, .cons h .nil => .nil
  | _, _, .cons h (.cons q t) => by rw [List.dropLast_cons₂, List.dropLast_cons₂]; exact .cons h (RUs.dropLast (.cons q t))
theorem RUs.eraseIdx {K : PySem.W.Frag} {ad : List Addr} {H : Hp} : ∀ {us : List U} {vs : List V} (i : Nat), RUs K ad H us vs → RUs K ad H (us.eraseIdx i) (vs.eraseIdx i)
  | _, _, _, .nil => .nil
  | _, _, 0, .cons _ t => t
  | _, _, i + 1, .cons r t => .cons r (RUs.eraseIdx i t)
theorem mt_appendI : MtR X "list.append" (rMt X.K E mAppend) := by
  refine MtR.by (id := "list.append") (r := rAppend) mt_append ?_
  rintro x xs H Q ⟨ad, lo, S, u, us, rs, ru, rus, g⟩
  unfold mAppend at g
  split at g
  · obtain ⟨a, rfl, ea⟩ := ru.ref_of
    obtain ⟨y, rfl, ry⟩ := rus.sing
    split at g
    · rename_i ys e
      split at g
      · rename_i hh
        obtain ⟨vs, hv, q⟩ := rs.lstH e ea
        refine ⟨a, vs, y, rfl, rfl, hv, by rw [← q.length]; exact hh, ?_⟩
        obtain ⟨rs', x'⟩ := rs.put (o := .lst _) (u := .lst (vs ++ [y])) (Sto.lst_eq e) ea (rs.noL e) (by intro _ _ z; cases z) (.lst (q.append (.cons ry .nil)))
        exact Go.now g x' rs' RU.non
      · exact g.elim
    · exact g.elim
  · exact g.elim
theorem mt_popI : MtR X "list.pop" (rMt X.K E mPop) := by
  have h : MtR X "list.pop" (fun x xs H Q => rPop x xs H Q ∨ rPopAt x xs H Q) := fun pins s σ H x xs v us Q I rx rv z => z.elim (mt_pop pins s σ H x xs v us Q I rx rv) (mt_popAt pins s σ H x xs v us Q I rx rv)
  refine MtR.by h ?_
  rintro x xs H Q ⟨ad, lo, S, u, us, rs, ru, rus, g⟩
  unfold mPop at g
  split at g
  · obtain ⟨a, rfl, ea⟩ := ru.ref_of
    cases rus
    split at g
    · rename_i ys e
      split at g
      · rename_i y ey
        obtain ⟨vs, hv, q⟩ := rs.lstH e ea
        obtain ⟨v, ev, rv⟩ := q.get ey
        refine .inl ⟨a, vs, v, rfl, rfl, hv, by rw [← q.length]; exact ev, ?_⟩
        obtain ⟨rs', x'⟩ := rs.put (o := .lst ys.dropLast) (u := .lst vs.dropLast) (Sto.lst_eq e) ea (rs.noL e) (by intro _ _ z; cases z) (.lst q.dropLast)
        exact Go.now g x' rs' (rv.adv rs x')
      · exact g.elim
    · exact g.elim
  · obtain ⟨a, rfl, ea⟩ := ru.ref_of
    obtain ⟨i, rfl, ri⟩ := rus.sing
    cases ri
    split at g
    · rename_i ys e
      split at g
      · rename_i hh
        split at g
        · rename_i k ek
          split at g
          · rename_i y ey
            obtain ⟨vs, hv, q⟩ := rs.lstH e ea
            obtain ⟨v, ev, rv⟩ := q.get ey
            refine .inr ⟨a, vs, _, k, v, rfl, rfl, hv, by omega, by omega, by rw [← q.length]; exact ek, ev, ?_⟩
            obtain ⟨rs', x'⟩ := rs.put (o := .lst (ys.eraseIdx k)) (u := .lst (vs.eraseIdx k)) (Sto.lst_eq e) ea (rs.noL e) (by intro _ _ z; cases z) (.lst (q.eraseIdx k))
            exact Go.now g x' rs' (rv.adv rs x')
          · exact g.elim
        · exact g.elim
      · exact g.elim
    · exact g.elim
  · exact g.elim
end
section
variable {X : Cx} {E : XK} {o e : Expr} {es : List Expr} {m : ME} {ms : MA} {apos cpos : Pos} {name : Str}
theorem se_mL {id : String} {g : U → List U → Sto → R U} (slot : Slot "list" name id) (hty : typeOf (.builtin id) = pure (.type "method_descriptor")) (hm : MtR X id (rMt X.K E g)) (ho : PE X o (tI X.K E m)) (ha : SA X E (e :: es) ms)
    (hbase : attributeBase o name X.env (eval o X.env) = eval o X.env := by rfl)
    (hfew : ((backTo cpos (starEach (e :: es) X.env)).all (fun x => !x.1) && (backToKw cpos (keywordEach [] X.env)).all (fun x => x.1.isSome)
      && decide ((e :: es).length + ([] : List Keyword).length + (if ([] : List Keyword).isEmpty then 0 else 1) < 30)) = true := by rfl)
    (hline : (apos.endLine == cpos.line) = true := by rfl) (hs : starEach (e :: es) X.env = (false, eval e X.env) :: starEach es X.env := by rfl) (hplain : (backTo cpos (starEach es X.env)).any (·.1) = false := by rfl) :
    SE X E (.Call (.Attribute o name apos) (e :: es) [] cpos) (xM isLst g m ms) :=
  .of (PE.by (pe_bm PySem.F.plainAttrs_list slot hty hm ho ha hbase hfew hline hs hplain) (tI_M fun rs ru e hd => tyL rs ru _ e hd))
end
end VI
set_option Elab.async false
set_option linter.all false
set_option maxRecDepth 100000
set_option maxHeartbeats 4000000
namespace VI
open PySem L2
def GoF (K : PySem.W.Frag) (E : XK) (r : R Fl) (ad : List Addr) (lo : Nat → Option Obj) (H : Hp) (D : Ends) : Prop := match r with
  | .ok f S' => match f with
    | .nx e => ∀ ad' H' σ', Adv ad H ad' H' → RS K ad' lo H' S' → REnv K ad' H' σ' e → D.nx σ' H'
    | .rt u => ∀ ad' H' v, Adv ad H ad' H' → RS K ad' lo H' S' → RU K ad' H' u v → D.rt v H'
    | .bk e => ∀ ad' H' σ', Adv ad H ad' H' → RS K ad' lo H' S' → REnv K ad' H' σ' e → D.bk σ' H'
    | .ct e => ∀ ad' H' σ', Adv ad H ad' H' → RS K ad' lo H' S' → REnv K ad' H' σ' e → D.ct σ' H'
  | .exc c fs S' => ∀ ad' H' C d, Adv ad H ad' H' → RS K ad' lo H' S' → RX K ad' H' c fs C d → E C d H'
  | .no => False
def tSt (K : PySem.W.Frag) (E : XK) (m : MS) : TS := fun D σ H => ∃ ad lo env S, RS K ad lo H S ∧ REnv K ad H σ env ∧ GoF K E (m env S) ad lo H D
abbrev SS (X : Cx) (E : XK) (st : Stmt) (m : MS) : Prop := PS X st (tSt X.K E m)
abbrev SSs (X : Cx) (E : XK) (st : List Stmt) (m : MS) : Prop := PSs X st (tSt X.K E m)
/-- targets -/
abbrev MG := U → Env → Sto → R Env
def RE (K : PySem.W.Frag) : List Addr → Hp → Env → St → Prop := fun ad H env σ => REnv K ad H σ env
def tGt (K : PySem.W.Frag) (E : XK) (g : MG) : TG := fun v σ H Q => ∃ ad lo env S u, RS K ad lo H S ∧ REnv K ad H σ env ∧ RU K ad H u v ∧ Go K E (RE K) (g u env S) ad lo H Q
abbrev SG (X : Cx) (E : XK) (tg : Expr) (g : MG) : Prop := PG X tg (tGt X.K E g)
section
variable {K : PySem.W.Frag} {E : XK} {ad ad1 : List Addr} {lo : Nat → Option Obj} {H H1 : Hp} {S : Sto} {σ : St} {env : Env} {D : Ends}
theorem GoF.adv {r : R Fl} (g : GoF K E r ad lo H D) (x : Adv ad H ad1 H1) : GoF K E r ad1 lo H1 D := by
  cases r with
  | ok f S' => cases f <;> exact fun ad' H' v y rs q => g ad' H' v (x.trans y) rs q
  | exc c fs S' => exact fun ad' H' C d y rs q => g ad' H' C d (x.trans y) rs q
  | no => exact g
/-- an expression, then a statement's rest -/
theorem GoF.seq {α β : Type} {rel : List Addr → Hp → α → β → Prop} {m : Env → Sto → R α} {f : α → Sto → R Fl} (rs : RS K ad lo H S) (re : REnv K ad H σ env) (g : GoF K E ((m env S).bind f) ad lo H D) :
    tE K E rel m σ H fun x H1 => ∃ a ad1 S1, Adv ad H ad1 H1 ∧ RS K ad1 lo H1 S1 ∧ REnv K ad1 H1 σ env ∧ rel ad1 H1 a x ∧ GoF K E (f a S1) ad1 lo H1 D := by
  refine ⟨ad, lo, env, S, rs, re, ?_⟩
  cases e : m env S with
  | ok a S1 =>
    rw [e] at g
    exact fun ad' H' v x rs' q => ⟨a, ad', S1, x, rs', re.adv rs x, q, g.adv x⟩
  | exc c fs S1 => rw [e] at g; exact g
  | no => rw [e] at g; exact g
theorem REnv.set {i : Nat} {u : U} {v : V} (re : REnv K ad H σ env) (q : RU K ad H u v) : REnv K ad H (σ.set i (some v)) (env.set i (some u)) := by
  refine ⟨by rw [List.length_set, List.length_set]; exact re.1, fun j w e => ?_⟩
  by_cases h : i = j
  · subst h
    by_cases hl : i < env.length
    · rw [List.getElem?_set_self hl] at e
      cases e
      exact ⟨v, by rw [List.getElem?_set_self (by rw [re.1]; exact hl)], q⟩
    · rw [List.getElem?_eq_none (by rw [List.length_set]; omega)] at e
      cases e
  · rw [List.getElem?_set_ne h] at e
    obtain ⟨z, e1, r⟩ := re.2 j w e
    exact ⟨z, by rw [List.getElem?_set_ne h]; exact e1, r⟩
end
def sNil : MS := fun env S => .ok (.nx env) S
def sSeq (a b : MS) : MS := fun env S => (a env S).bind fun f S1 => match f with
  | .nx e => b e S1
  | f => .ok f S1
def sBrk : MS := fun env S => .ok (.bk env) S
def sCnt : MS := fun env S => .ok (.ct env) S
def sRet (m : ME) : MS := fun env S => (m env S).bind fun u S1 => .ok (.rt u) S1
def sExpr (m : ME) : MS := fun env S => (m env S).bind fun _ S1 => .ok (.nx env) S1
def sIf (c : ME) (a b : MS) : MS := fun env S => (c env S).bind fun u S1 => match u with
  | .bl true => a env S1
  | .bl false => b env S1
  | _ => .no
def sAsg (m : ME) (g : MG) : MS := fun env S => (m env S).bind fun u S1 => (g u env S1).bind fun env' S2 => .ok (.nx env') S2
def gN (i : Nat) : MG := fun u env S => .ok (env.set i (some u)) S
def gAll : List MG → List U → Env → Sto → R Env
  | [], [], env, S => .ok env S
  | g :: gs, u :: us, env, S => (g u env S).bind fun env' S1 => gAll gs us env' S1
  | _, _, _, _ => .no
def gT (gs : List MG) : MG := fun u env S => match u with
  | .tup us => if us.length = gs.length then gAll gs us env S else .no
  | _ => .no
/-- a, b = e1, e2 with plain names -/
def sPar (is : List Nat) (ms : MA) : MS := fun env S => (ms env S).bind fun us S1 => if us.length = is.length then .ok (.nx ((is.zip us).foldl (fun e p => e.set p.1 (some p.2)) env)) S1 else .no
section
variable {X : Cx} {E : XK} {e : Expr} {m mc : ME} {ms : MA} {st : Stmt} {rest : List Stmt} {a b : MS} {pos : Pos}
theorem ss_nil : SSs X E [] sNil := PSs.by pss_nil fun D σ H h => by
  obtain ⟨ad, lo, env, S, rs, re, g⟩ := h
  exact g ad H σ Adv.refl rs re
theorem tSt_seq {K : PySem.W.Frag} (D : Ends) (σ : St) (H : Hp) (h : tSt K E (sSeq a b) D σ H) : tSeq (tSt K E a) (tSt K E b) D σ H := by
  obtain ⟨ad, lo, env, S, rs, re, g⟩ := h
  refine ⟨ad, lo, env, S, rs, re, ?_⟩
  unfold sSeq at g
  cases e : a env S with
  | no => rw [e] at g; exact g
  | exc c fs S1 => rw [e] at g; exact g
  | ok f S1 =>
    rw [e] at g
    cases f with
    | nx e1 => exact fun ad' H' σ' x rs' re' => ⟨ad', lo, e1, S1, rs', re', GoF.adv g x⟩
    | rt u => exact g
    | bk e1 => exact g
    | ct e1 => exact g
theorem ss_cons (h1 : SS X E st a) (h2 : SSs X E rest b) : SSs X E (st :: rest) (sSeq a b) := PSs.by (pss_cons h1 h2) tSt_seq
theorem ss_one (h1 : SS X E st a) : SSs X E [st] a := pss_one h1
theorem ss_brk : SS X E (.Break pos) sBrk := PS.by ps_break fun D σ H h => by
  obtain ⟨ad, lo, env, S, rs, re, g⟩ := h
  exact g ad H σ Adv.refl rs re
theorem ss_cnt : SS X E (.Continue pos) sCnt := PS.by ps_continue fun D σ H h => by
  obtain ⟨ad, lo, env, S, rs, re, g⟩ := h
  exact g ad H σ Adv.refl rs re
theorem ss_ret (he : PE X e (tI X.K E m)) : SS X E (.Return (some e) pos) (sRet m) := PS.by (ps_ret he) fun D σ H h => by
  obtain ⟨ad, lo, env, S, rs, re, g⟩ := h
  refine tE.imp (GoF.seq (rel := RU X.K) rs re g) ?_
  rintro x H1 ⟨u, ad1, S1, x1, rs1, re1, ru, g1⟩
  exact g1 ad1 H1 x Adv.refl rs1 ru
theorem ss_expr (he : PE X e (tI X.K E m)) (hs : swapsWith e none pos.line X.env = pure false := by rfl) : SS X E (.Expr e pos) (sExpr m) := PS.by (ps_expr he hs) fun D σ H h => by
  obtain ⟨ad, lo, env, S, rs, re, g⟩ := h
  refine tE.imp (GoF.seq (rel := RU X.K) rs re g) ?_
  rintro x H1 ⟨u, ad1, S1, x1, rs1, re1, ru, g1⟩
  exact g1 ad1 H1 σ Adv.refl rs1 re1
theorem testF_go {K : PySem.W.Frag} {ad : List Addr} {lo : Nat → Option Obj} {H : Hp} {S : Sto} {σ : St} {env : Env} {D : Ends} {f : Bool → Sto → R Fl} (rs : RS K ad lo H S) (re : REnv K ad H σ env)
    (g : GoF K E ((m env S).bind fun u S1 => match u with | .bl k => f k S1 | _ => .no) ad lo H D) :
    tIb K E (bOf m) σ H fun k H1 => ∃ ad1 S1, Adv ad H ad1 H1 ∧ RS K ad1 lo H1 S1 ∧ REnv K ad1 H1 σ env ∧ GoF K E (f k S1) ad1 lo H1 D := by
  have e : (m env S).bind (fun u S1 => match u with | .bl k => f k S1 | _ => .no) = (bOf m env S).bind f := by
    unfold bOf
    rw [R.bind_assoc]
    congr 1
    funext u S1
    cases u <;> rfl
  rw [e] at g
  refine tE.imp (GoF.seq (m := bOf m) (rel := rB) rs re g) ?_
  rintro x H1 ⟨u, ad1, S1, x1, rs1, re1, ru, g1⟩
  cases (show u = x from ru)
  exact ⟨ad1, S1, x1, rs1, re1, g1⟩
theorem sIf_eq (env : Env) (S : Sto) : sIf mc a b env S = (mc env S).bind fun u S1 => match u with | .bl k => (if k = true then a env S1 else b env S1) | _ => .no := by
  unfold sIf
  congr 1
  funext u S1
  cases u with
  | bl k => cases k <;> rfl
  | _ => rfl
theorem ss_if {sa sb : List Stmt} (hc : SE X E e mc) (ha : SSs X E sa a) (hb : SSs X E sb b) : SS X E (.If e sa sb pos) (sIf mc a b) := PS.by (ps_if hc.pt ha hb) fun D σ H h => by
  obtain ⟨ad, lo, env, S, rs, re, g⟩ := h
  rw [sIf_eq] at g
  refine tE.imp (testF_go rs re g) ?_
  rintro k H1 ⟨ad1, S1, x1, rs1, re1, g1⟩
  cases k with
  | true => exact ⟨ad1, lo, env, S1, rs1, re1, g1⟩
  | false => exact ⟨ad1, lo, env, S1, rs1, re1, g1⟩
theorem PG.by {tg : Expr} {t t' : TG} (h : PG X tg t) (q : ∀ v σ H Q, t' v σ H Q → t v σ H Q) : PG X tg t' := ⟨fun pins s σ H v u Q I r z => h.run pins s σ H v u Q I r (q v σ H Q z)⟩
theorem sg_name {i : Nat} {x : Str} (hN : X.N.Nodup) (hi : X.N[i]? = some x) (hx : Loc X.env.scope x) (hf : X.fn x = true ∨ X.env.scope.names.lookup x = some .local) : SG X E (.Name x pos) (gN i) := PG.by (pg_name hN hi hx hf) fun v σ H Q h => by
  obtain ⟨ad, lo, env, S, u, rs, re, ru, g⟩ := h
  exact Go.here g rs (re.set ru)
def tGts (K : PySem.W.Frag) (E : XK) (gs : List MG) : TGs := fun vs σ H Q => ∃ ad lo env S us, RS K ad lo H S ∧ REnv K ad H σ env ∧ RUs K ad H us vs ∧ Go K E (RE K) (gAll gs us env S) ad lo H Q
abbrev SGs (X : Cx) (E : XK) (ts : List Expr) (gs : List MG) : Prop := PGs X ts (tGts X.K E gs)
theorem PGs.by {ts : List Expr} {t t' : TGs} (h : PGs X ts t) (q : ∀ v σ H Q, t' v σ H Q → t v σ H Q) : PGs X ts t' := ⟨fun pins s σ H v u Q I r z => h.run pins s σ H v u Q I r (q v σ H Q z)⟩
theorem sgs_nil : SGs X E [] [] := PGs.by pgs_nil fun vs σ H Q h => by
  obtain ⟨ad, lo, env, S, us, rs, re, ru, g⟩ := h
  cases ru with
  | nil => exact ⟨rfl, Go.here g rs re⟩
  | cons _ _ => exact g.elim
theorem sgs_cons {e : Expr} {es : List Expr} {g : MG} {gs : List MG} (h1 : SG X E e g) (h2 : SGs X E es gs) (hs : (assignEach (e :: es) X.env).map (·.2) = assign e X.env :: (assignEach es X.env).map (·.2) := by rfl) : SGs X E (e :: es) (g :: gs) :=
  PGs.by (pgs_cons h1 h2 hs) fun vs σ H Q h => by
    obtain ⟨ad, lo, env, S, us, rs, re, ru, z⟩ := h
    cases ru with
    | nil => exact z.elim
    | @cons u v us vs q t =>
      refine ⟨v, vs, rfl, ad, lo, env, S, u, rs, re, q, ?_⟩
      unfold gAll at z
      cases e : g u env S with
      | no => rw [e] at z; exact z
      | exc c fs S1 => rw [e] at z; exact z
      | ok env' S1 =>
        rw [e] at z
        exact fun ad' H' σ' x rs' re' => ⟨ad', lo, env', S1, us, rs', re', t.adv rs x, Go.adv z x⟩
theorem sg_tup {es : List Expr} {k : Nat} {gs : List MG} (hc : X.calm = true) (h : SGs X E es gs) (hn : (assignEach es X.env).length = gs.length := by rfl) (hst : (assignEach es X.env).findIdx? (·.1) = none := by rfl) : SG X E (.Tuple es k pos) (gT gs) :=
  PG.by (pg_tup hc h hn hst) fun v σ H Q h => by
    obtain ⟨ad, lo, env, S, u, rs, re, ru, g⟩ := h
    unfold gT at g
    split at g
    · obtain ⟨a, vs, rfl, hs, q⟩ := ru.tup_of
      split at g
      · rename_i hl
        exact ⟨a, vs, rfl, hs, by rw [← q.length]; exact hl, ad, lo, env, S, _, rs, re, q, g⟩
      · exact g.elim
    · exact g.elim
theorem tSt_asg {K : PySem.W.Frag} {g : MG} (D : Ends) (σ : St) (H : Hp) (h : tSt K E (sAsg m g) D σ H) : tAsg (tI K E m) (tGt K E g) D σ H := by
  obtain ⟨ad, lo, env, S, rs, re, z⟩ := h
  refine tE.imp (GoF.seq (rel := RU K) rs re z) ?_
  rintro x H1 ⟨u, ad1, S1, x1, rs1, re1, ru, z1⟩
  refine ⟨ad1, lo, env, S1, u, rs1, re1, ru, ?_⟩
  cases e : g u env S1 with
  | no => rw [e] at z1; exact z1
  | exc c fs S2 => rw [e] at z1; exact z1
  | ok env' S2 => rw [e] at z1; exact fun ad' H' σ' x rs' re' => z1 ad' H' σ' x rs' re'
theorem ss_set {i : Nat} {x : Str} {pos' : Pos} (hN : X.N.Nodup) (hi : X.N[i]? = some x) (hx : Loc X.env.scope x) (hf : X.fn x = true ∨ X.env.scope.names.lookup x = some .local) (he : PE X e (tI X.K E m)) (hs : swapsWith e (some (.Name x pos')) pos.line X.env = pure false := by rfl) :
    SS X E (.Assign [.Name x pos'] e pos) (sAsg m (gN i)) := PS.by (ps_set hN hi hx he hs hf) fun D σ H h => by
  have h1 := tSt_asg D σ H h
  refine tE.imp h1 ?_
  rintro v H1 ⟨ad, lo, env, S, u, rs, re, ru, g⟩
  exact Go.here g rs (re.set ru)
theorem ss_asg {tg : Expr} {g : MG} (he : PE X e (tI X.K E m)) (hg : SG X E tg g) (hs : swapsWithSole [tg] e pos.line X.env = pure false := by rfl) (hw : swappedStores [tg] e X.env = pure none := by rfl)
    (h1 : (assignEach [tg] X.env).map (·.2) = [assign tg X.env] := by rfl) : SS X E (.Assign [tg] e pos) (sAsg m g) := PS.by (ps_asg he hg hs hw h1) tSt_asg
theorem ss_par2 {i j : Nat} {x y : Str} {p q : Expr} {px py pt : Pos} {kt k2 pt2} (hc : X.calm = true) (hN : X.N.Nodup) (hi : X.N[i]? = some x) (hj : X.N[j]? = some y) (hij : i ≠ j)
    (hx : X.env.scope.names.lookup x = some .local) (hy : X.env.scope.names.lookup y = some .local) (ha : SA X E [p, q] ms)
    (hw : swappedStores [.Tuple [.Name x px, .Name y py] kt pt] (.Tuple [p, q] k2 pt2) X.env = pure (some [x, y]))
    (hs : swapsWithSole [.Tuple [.Name x px, .Name y py] kt pt] (.Tuple [p, q] k2 pt2) pos.line X.env = pure false := by rfl) : SS X E (.Assign [.Tuple [.Name x px, .Name y py] kt pt] (.Tuple [p, q] k2 pt2) pos) (sPar [i, j] ms) :=
  PS.by (ps_par hc hN hi hj hij hx hy ha hw hs) fun D σ H h => by
    obtain ⟨ad, lo, env, S, rs, re, z⟩ := h
    refine tE.imp (GoF.seq (rel := RUs X.K) rs re z) ?_
    rintro vs H1 ⟨us, ad1, S1, x1, rs1, re1, ru, z1⟩
    split at z1
    · rename_i hl
      cases ru with
      | nil => cases hl
      | cons q1 t => cases t with
        | nil => cases hl
        | cons q2 t2 => cases t2 with
          | nil => exact ⟨_, _, rfl, z1 ad1 H1 _ Adv.refl rs1 ((re1.set q1).set q2)⟩
          | cons _ _ => simp at hl
    · exact z1.elim
end
def putKU (k : Str) (v : U) (kvs : List (Str × U)) : List (Str × U) :=
  if (kvs.any fun kv => decide (kv.1 = k)) = true then kvs.map (fun kv => if kv.1 = k then (kv.1, v) else kv) else kvs ++ [(k, v)]
def stU (o i v : U) (S : Sto) : R Unit := match o, i with
  | .ref n, .str k => match S.dct n with
    | some kvs => if kvs.length < sizeLine ∧ n ∉ S.lk then .ok () (S.put n (.dct (putKU k v kvs))) else .no
    | none => .no
  | .ref n, .int k => match S.lst n with
    | some xs => match ixN xs.length k with
      | some j => .ok () (S.put n (.lst (xs.set j v)))
      | none => .no
    | none => .no
  | _, _ => .no
def gSubI (o i : ME) : MG := fun v env S => (o env S).bind fun u S1 => (i env S1).bind fun w S2 => (stU u w v S2).bind fun _ S3 => .ok env S3
def sFldS (tb : Str → Bool) (f : Str) (o m : ME) : MS := fun env S => (m env S).bind fun v S1 => (o env S1).bind fun u S2 => match u with
  | .ref n => match S2.ins n with
    | some (c, fs) => if tb c = true ∧ fs.length < 1000 then .ok (.nx env) (S2.put n (.ins c (putU f v fs))) else .no
    | none => .no
  | _ => .no
section
variable {X : Cx} {E : XK}
theorem RF.anyK {K : PySem.W.Frag} {ad : List Addr} {H : Hp} {k : Str} : ∀ {kvs : List (Str × U)} {ws : List (Str × V)}, RF K ad H kvs ws → ((ws.map fun p => ((Sum.inr p.1 : Key), p.2)).any fun kv => decide (kv.1 = Sum.inr k)) = kvs.any fun kv => decide (kv.1 = k)
  | _, _, .nil => rfl
  | _, _, .cons _ t => by rw [List.map_cons, List.any_cons, List.any_cons, RF.anyK t]; congr 1; exact key_rr _ _
theorem RF.mapK {K : PySem.W.Frag} {ad : List Addr} {H : Hp} {k : Str} {u : U} {v : V} (r : RU K ad H u v) : ∀ {kvs : List (Str × U)} {ws : List (Str × V)}, RF K ad H kvs ws → ∃ ws', (ws.map fun p => ((Sum.inr p.1 : Key), p.2)).map (fun kv => if kv.1 = Sum.inr k then (kv.1, v) else kv) = ws'.map (fun p => ((Sum.inr p.1 : Key), p.2)) ∧ RF K ad H (kvs.map fun kv => if kv.1 = k then (kv.1, u) else kv) ws'
  | _, _, .nil => ⟨[], rfl, .nil⟩
  | _, _, @RF.cons _ _ _ x u' v' us vs p t => by
    obtain ⟨ws', e, rf⟩ := RF.mapK (k := k) r t
    by_cases h : x = k
    · subst h
      exact ⟨(x, v) :: ws', by rw [List.map_cons, List.map_cons, List.map_cons, e, if_pos rfl], by rw [List.map_cons, if_pos rfl]; exact .cons r rf⟩
    · have h' : ¬ (Sum.inr x : Key) = Sum.inr k := fun z => h (Sum.inr.inj z)
      exact ⟨(x, v') :: ws', by rw [List.map_cons, List.map_cons, List.map_cons, e, if_neg h'], by rw [List.map_cons, if_neg h]; exact .cons p rf⟩
theorem RF.app {K : PySem.W.Frag} {ad : List Addr} {H : Hp} : ∀ {us ws : List (Str × U)} {vs xs : List (Str × V)}, RF K ad H us vs → RF K ad H ws xs → RF K ad H (us ++ ws) (vs ++ xs)
  | _, _, _, _, .nil, q => q
  | _, _, _, _, .cons p t, q => .cons p (RF.app t q)
theorem RF.putK {K : PySem.W.Frag} {ad : List Addr} {H : Hp} {kvs : List (Str × U)} {ws : List (Str × V)} {k : Str} {u : U} {v : V} (q : RF K ad H kvs ws) (r : RU K ad H u v) :
    ∃ ws', L2.putK (ws.map fun p => ((Sum.inr p.1 : Key), p.2)) (Sum.inr k) v = ws'.map (fun p => ((Sum.inr p.1 : Key), p.2)) ∧ RF K ad H (putKU k u kvs) ws' := by
  unfold L2.putK putKU
  rw [q.anyK]
  by_cases h : (kvs.any fun kv => decide (kv.1 = k)) = true
  · rw [if_pos h, if_pos h]
    exact q.mapK (k := k) r
  · rw [if_neg h, if_neg h]
    exact ⟨ws ++ [(k, v)], by rw [List.map_append]; rfl, q.app (.cons r .nil)⟩
def rSetI (K : PySem.W.Frag) (E : XK) : TSet := fun o i v H Q => ∃ ad lo S u w z, RS K ad lo H S ∧ RU K ad H u o ∧ RU K ad H w i ∧ RU K ad H z v ∧ Go K E (fun _ _ (_ : Unit) (_ : Unit) => True) (stU u w z S) ad lo H fun _ H' => Q H'
theorem set_I (hu : X.A.units + 1 < cLine) : PSet X (rSetI X.K E) := by
  intro pins s σ H o i v ov iv vv Q I ro ri rv h
  obtain ⟨ad, lo, S, u, w, z, rs, ru, rw, rz, g⟩ := h
  unfold stU at g
  split at g
  · rename_i n k
    cases rw
    obtain ⟨a, rfl, ea⟩ := ru.ref_of
    obtain rfl : ov = Value.ref a := ro
    split at g
    · rename_i kvs e
      split at g
      · rename_i hh
        obtain ⟨ws, hr, q, e2⟩ := rs.dk e ea
        rw [rs.free hh.2] at e2
        obtain ⟨ws', ep, rf⟩ := q.putK (k := k) rz
        refine d_setItem hu I (DPut.k (k := Sum.inr k) e2 (by rw [List.length_map, ← q.length]; exact hh.1)) ri rv fun s' I' => ⟨_, I', ?_⟩
        rw [ep]
        obtain ⟨rs', x'⟩ := rs.put (o := .dct (putKU k z kvs)) (Sto.dct_eq e) ea (rs.free hh.2) (by intro _ _ z; cases z) (.dct rf)
        exact g ad _ () x' rs' trivial
      · exact g.elim
    · exact g.elim
  · cases rw
    obtain ⟨a, rfl, ea⟩ := ru.ref_of
    split at g
    · rename_i xs e
      split at g
      · rename_i j ej
        obtain ⟨vs, hv, q⟩ := rs.lstH e ea
        refine set_list pins s σ H _ _ v ov iv vv Q I ro ri rv ⟨a, vs, _, j, rfl, rfl, hv, by rw [← q.length]; exact ej, ?_⟩
        obtain ⟨rs', x'⟩ := rs.put (o := .lst (xs.set j z)) (u := .lst (vs.set j v)) (Sto.lst_eq e) ea (rs.noL e) (by intro _ _ z; cases z) (.lst (q.set j rz))
        exact g ad _ () x' rs' trivial
      · exact g.elim
    · exact g.elim
  · exact g.elim
end
section
variable {X : Cx} {E : XK} {o i e : Expr} {mo mi m : ME} {pos pos' : Pos} {f : Str}
theorem sg_sub (hu : X.A.units + 1 < cLine) (ho : PE X o (tI X.K E mo)) (hi : PE X i (tI X.K E mi))
    (ha : ∀ v, assign (.Subscript o i pos) X.env v = (do
      let ov ← holding [v] (eval o X.env)
      let iv ← holding [v, ov] (eval i X.env)
      standAt pos
      holding [v, ov, iv] (setItem ov iv v)
      release [v, ov, iv] []) := by intro _; rfl) : SG X E (.Subscript o i pos) (gSubI mo mi) :=
  PG.by (pg_sub ho hi (set_I hu) ha) fun v σ H Q h => by
    obtain ⟨ad, lo, env, S, z, rs, re, rz, g⟩ := h
    refine tE.imp (Go.seq (rel := RU X.K) rs re g) ?_
    rintro x H1 ⟨u, ad1, S1, x1, rs1, re1, ru, z1⟩
    refine tE.imp (Go.seq (rel := RU X.K) rs1 re1 z1) ?_
    rintro y H2 ⟨w, ad2, S2, x2, rs2, re2, rw, z2⟩
    refine ⟨ad2, lo, S2, u, w, z, rs2, ru.adv rs1 x2, rw, (rz.adv rs x1).adv rs1 x2, ?_⟩
    cases e : stU u w z S2 with
    | no => rw [e] at z2; exact z2
    | exc c fs S3 => rw [e] at z2; exact z2
    | ok _ S3 => rw [e] at z2; exact fun ad' H' _ x rs' _ => z2 ad' H' σ x rs' (re2.adv rs2 x)
theorem ss_fld {tb : Str → Bool} (hf : ∀ c, tb c = true → Cls X.K (He.ga X.K c) ∧ NoAttr X.K (He.ga X.K c) f) (ho : PE X o (tI X.K E mo)) (hv : PE X e (tI X.K E m)) (hs : swapsWith e (some (.Attribute o f pos')) pos.line X.env = pure false := by rfl) :
    SS X E (.Assign [.Attribute o f pos'] e pos) (sFldS tb f mo m) := PS.by (ps_fld ho hv hs) fun D σ H h => by
  obtain ⟨ad, lo, env, S, rs, re, g⟩ := h
  refine tE.imp (GoF.seq (rel := RU X.K) rs re g) ?_
  rintro y H1 ⟨v, ad1, S1, x1, rs1, re1, rv, z1⟩
  refine tE.imp (GoF.seq (rel := RU X.K) rs1 re1 z1) ?_
  rintro x H2 ⟨u, ad2, S2, x2, rs2, re2, ru, z2⟩
  split at z2
  · obtain ⟨a, rfl, ea⟩ := ru.ref_of
    split at z2
    · rename_i c fs e
      split at z2
      · rename_i hh
        obtain ⟨dx, gs, e1, q⟩ := rs2.insH e ea
        refine ⟨a, _, dx, gs, rfl, e1, (hf c hh.1).1, (hf c hh.1).2, by rw [← q.length]; exact hh.2, ?_⟩
        obtain ⟨rs', x'⟩ := rs2.put (o := .ins c (putU f v fs)) (u := .ins (He.ga X.K c) dx (putF f y gs)) (Sto.ins_eq e) ea (rs2.noI e) (by intro _ _ z; cases z) (.ins (q.put (rv.adv rs1 x2)))
        exact z2 ad2 _ σ x' rs' (re2.adv rs2 x')
      · exact z2.elim
    · exact z2.elim
  · exact z2.elim
end
def wLoop (c : ME) (b : MS) : Nat → Env → Sto → R Fl
  | 0, _, _ => .no
  | n + 1, env, S => (c env S).bind fun u S1 => match u with
    | .bl true => (b env S1).bind fun f S2 => match f with
      | .nx e => wLoop c b n e S2
      | .ct e => wLoop c b n e S2
      | .bk e => .ok (.nx e) S2
      | .rt u => .ok (.rt u) S2
    | .bl false => .ok (.nx env) S1
    | _ => .no
def sWhile (n : Nat) (c : ME) (b : MS) : MS := fun env S => wLoop c b n env S
section
variable {X : Cx} {E : XK} {e : Expr} {mc : ME} {b : MS} {body : List Stmt} {pos : Pos}
theorem ss_while {n : Nat} (hp : PassesOwn (model X.prog X.w) X.A X.env X.xe) (hc : SE X E e mc) (hb : SSs X E body b) : SS X E (.While e body [] pos) (sWhile n mc b) := PS.by (ps_while hp hc.pt hb) fun D σ H h => by
  refine ⟨fun m σ H => ∃ ad lo env S, RS X.K ad lo H S ∧ REnv X.K ad H σ env ∧ GoF X.K E (wLoop mc b m env S) ad lo H D, ⟨n, h⟩, ?_⟩
  rintro m σ H ⟨ad, lo, env, S, rs, re, g⟩
  cases m with
  | zero => exact g.elim
  | succ m =>
    have eq : wLoop mc b (m + 1) env S = (mc env S).bind fun u S1 => match u with
      | .bl k => (if k = true then (b env S1).bind fun f S2 => match f with
        | .nx e => wLoop mc b m e S2
        | .ct e => wLoop mc b m e S2
        | .bk e => .ok (.nx e) S2
        | .rt u => .ok (.rt u) S2 else .ok (.nx env) S1)
      | _ => .no := by
      rw [wLoop]
      congr 1
      funext u S1
      cases u with
      | bl k => cases k <;> rfl
      | _ => rfl
    rw [eq] at g
    refine tE.imp (testF_go rs re g) ?_
    rintro k H1 ⟨ad1, S1, x1, rs1, re1, g1⟩
    cases k with
    | false => exact g1 ad1 H1 σ Adv.refl rs1 re1
    | true =>
      rw [if_pos rfl]
      refine ⟨fun σ' H' => ∃ ad lo env S, RS X.K ad lo H' S ∧ REnv X.K ad H' σ' env ∧ GoF X.K E (wLoop mc b m env S) ad lo H' D, fun σ' H' z => ⟨m, Nat.lt_succ_self _, z⟩, ad1, lo, env, S1, rs1, re1, ?_⟩
      rw [if_pos rfl] at g1
      cases e2 : b env S1 with
      | no => rw [e2] at g1; exact g1
      | exc c fs S2 => rw [e2] at g1; exact g1
      | ok f S2 =>
        rw [e2] at g1
        cases f with
        | nx e3 => exact fun ad' H' σ' x rs' re' => ⟨ad', lo, e3, S2, rs', re', GoF.adv g1 x⟩
        | ct e3 => exact fun ad' H' σ' x rs' re' => ⟨ad', lo, e3, S2, rs', re', GoF.adv g1 x⟩
        | bk e3 => exact g1
        | rt u => exact g1
end
end VI
set_option Elab.async false
set_option linter.all false
set_option maxRecDepth 100000
set_option maxHeartbeats 4000000
namespace VI
open PySem L2
/-- what comes at turn i: an item, the end; none: stuck -/
abbrev Nx := Nat → Sto → Option (Option U)
abbrev MI := Env → Sto → R Nx
def nxL (us : List U) : Nx := fun i _ => some us[i]?
def nxLive (n : Nat) : Nx := fun i S => (S.lst n).map fun us => us[i]?
/-- the iterator J gives what nx says, from the heap H on -/
def RIt (K : PySem.W.Frag) (ad0 : List Addr) (H0 : Hp) (nx : Nx) (J : It) : Prop := ∀ ad lo H S i, Adv ad0 H0 ad H → RS K ad lo H S → match nx i S with
  | some (some u) => J.go i H ∧ ∀ x H', J.yld i H x H' → Adv ad H ad H' ∧ RS K ad lo H' S ∧ RU K ad H' u x
  | some none => J.stop i H
  | none => True
abbrev SI (X : Cx) (E : XK) (tg it : Expr) (m : MI) : Prop := PI X tg it (tE X.K E (RIt X.K) m)
theorem PI.by {X : Cx} {tg it : Expr} {t t' : TI} (h : PI X tg it t) (q : ∀ σ H R, t' σ H R → t σ H R) : PI X tg it t' := ⟨fun pins s σ H R I z => h.run pins s σ H R I (q σ H R z)⟩
theorem PI.or {X : Cx} {tg it : Expr} {t t' : TI} (h : PI X tg it t) (h' : PI X tg it t') : PI X tg it (fun σ H R => t σ H R ∨ t' σ H R) := ⟨fun pins s σ H R I z => z.elim (h.run pins s σ H R I) (h'.run pins s σ H R I)⟩
def signsU (x : Str) : List U := x.cps.toList.map fun c => .str ⟨#[c]⟩
/-- for .. in e, e a value: a tuple, a list, a text -/
def nxOf (u : U) (S : Sto) : R Nx := match u with
  | .tup us => .ok (nxL us) S
  | .sc us => .ok (nxL us) S
  | .fl us => .ok (nxL us) S
  | .str x => .ok (nxL (signsU x)) S
  | .ref n => match S.lst n with
    | some _ => .ok (nxLive n) S
    | none => .no
  | _ => .no
def iOf (m : ME) : MI := fun env S => (m env S).bind nxOf
/-- .. over a new list -/
def iNew (m : MA) : MI := fun env S => (m env S).bind fun us S1 => .ok (nxL us) S1
def rangeU (i : Int) (n : Nat) : List U := (List.range n).map fun (k : Nat) => .int (i + (k : Int))
def iRange1 (m : MA) : MI := fun env S => (m env S).bind fun us S1 => match us with
  | [.int j] => if j.natAbs < 2 ^ 62 then .ok (nxL (rangeU 0 j.toNat)) S1 else .no
  | _ => .no
section
variable {K : PySem.W.Frag} {E : XK} {ad ad' : List Addr} {lo : Nat → Option Obj} {H H' : Hp} {S : Sto}
theorem RIt.tup {us : List U} {a : Addr} {vs : List V} (rs0 : RS K ad lo H S) (hs : SqT K H a vs) (q : RUs K ad H us vs) : RIt K ad H (nxL us) (Itt K a) := by
  intro ad1 lo1 H1 S1 i x rs
  have hs1 := SqT.adv rs0 x hs
  have q1 := q.adv rs0 x
  unfold nxL
  cases e : us[i]? with
  | none =>
    have h : vs.length ≤ i := by
      have := List.getElem?_eq_none_iff.mp e
      rw [← q.length]
      exact this
    exact ⟨vs, hs1, h⟩
  | some u =>
    obtain ⟨v, e1, r⟩ := q1.get e
    refine ⟨⟨vs, v, hs1, e1⟩, fun y H' hy => ?_⟩
    obtain ⟨rfl, hy⟩ := hy
    have e2 := hy vs hs1
    rw [e1] at e2
    cases e2
    exact ⟨Adv.refl, rs, r⟩
theorem RIt.flst {us : List U} {a : Addr} {vs : List V} (rs0 : RS K ad lo H S) (hs : ∀ {ad1 H1}, Adv ad H ad1 H1 → SqL K H1 a vs) (q : RUs K ad H us vs) : RIt K ad H (nxL us) (Itl K a) := by
  intro ad1 lo1 H1 S1 i x rs
  have hs1 := hs x
  have q1 := q.adv rs0 x
  unfold nxL
  cases e : us[i]? with
  | none =>
    have h : vs.length ≤ i := by
      have := List.getElem?_eq_none_iff.mp e
      rw [← q.length]
      exact this
    exact ⟨vs, hs1, h⟩
  | some u =>
    obtain ⟨v, e1, r⟩ := q1.get e
    refine ⟨⟨vs, v, hs1, e1⟩, fun y H' hy => ?_⟩
    obtain ⟨rfl, hy⟩ := hy
    have e2 := hy vs hs1
    rw [e1] at e2
    cases e2
    exact ⟨Adv.refl, rs, r⟩
theorem RIt.live {n : Nat} {a : Addr} (ea : ad[n]? = some a) : RIt K ad H (nxLive n) (Itl K a) := by
  intro ad1 lo1 H1 S1 i x rs
  have ea1 := x.get ea
  unfold nxLive
  cases el : S1.lst n with
  | none => trivial
  | some us =>
    obtain ⟨vs, hs1, q1, _⟩ := rs.sql el ea1
    rw [Option.map_some]
    cases e : us[i]? with
    | none =>
      have h : vs.length ≤ i := by
        have := List.getElem?_eq_none_iff.mp e
        rw [← q1.length]
        exact this
      exact ⟨vs, hs1, h⟩
    | some u =>
      obtain ⟨v, e1, r⟩ := q1.get e
      refine ⟨⟨vs, v, hs1, e1⟩, fun y H' hy => ?_⟩
      obtain ⟨rfl, hy⟩ := hy
      have e2 := hy vs hs1
      rw [e1] at e2
      cases e2
      exact ⟨Adv.refl, rs, r⟩
theorem RIt.str {x : Str} : RIt K ad H (nxL (signsU x)) (Its x) := by
  intro ad1 lo1 H1 S1 i _ rs
  unfold nxL signsU
  rw [List.getElem?_map]
  have e0 : x.cps.toList[i]? = x.cps[i]? := by rw [Array.getElem?_toList]
  rw [e0]
  cases e : x.cps[i]? with
  | none =>
    rw [Option.map_none]
    exact Array.getElem?_eq_none_iff.mp e
  | some c =>
    rw [Option.map_some]
    refine ⟨(Array.getElem?_eq_some_iff.mp e).1, fun y H' hy => ?_⟩
    obtain ⟨rfl, c', e1, rfl⟩ := hy
    rw [e] at e1
    cases e1
    exact ⟨Adv.refl, rs, .str _⟩
theorem RIt.range {i : Int} {n : Nat} : RIt K ad H (nxL (rangeU i n)) (Itr i n) := by
  intro ad1 lo1 H1 S1 k _ rs
  unfold nxL rangeU
  rw [List.getElem?_map]
  by_cases h : k < n
  · rw [List.getElem?_range h, Option.map_some]
    refine ⟨h, fun y H' hy => ?_⟩
    obtain ⟨rfl, rfl⟩ := hy
    exact ⟨Adv.refl, rs, .int _⟩
  · rw [List.getElem?_eq_none (by rw [List.length_range]; omega), Option.map_none]
    exact Nat.le_of_not_lt h
end
section
variable {X : Cx} {E : XK} {tg e : Expr} {m : ME} {ms : MA} {p pos : Pos}
theorem si_of (he : PE X e (tI X.K E m)) : SI X E tg e (iOf m) := by
  refine PI.by (PI.or (pi_list he) (PI.or (pi_tup he) (pi_str he))) fun σ H R' h => ?_
  obtain ⟨ad, lo, env, S, rs, re, g⟩ := h
  unfold iOf at g
  cases em : m env S with
  | no => rw [em] at g; exact g.elim
  | exc c fs S1 => rw [em] at g; exact .inl ⟨ad, lo, env, S, rs, re, by rw [em]; exact g⟩
  | ok u S1 =>
    rw [em, VI.R.bind_ok] at g
    unfold nxOf at g
    split at g
    · refine .inr (.inl ⟨ad, lo, env, S, rs, re, ?_⟩)
      rw [em]
      intro ad1 H1 v x rs1 ru
      obtain ⟨a, vs, rfl, hs, q⟩ := ru.tup_of
      exact ⟨a, rfl, ⟨vs, hs⟩, g ad1 H1 _ x rs1 (RIt.tup rs1 hs q)⟩
    · refine .inl ⟨ad, lo, env, S, rs, re, ?_⟩
      rw [em]
      intro ad1 H1 v x rs1 ru
      cases ru with
      | sc hs q => exact ⟨_, rfl, ⟨_, .inl (.inr ⟨_, hs⟩)⟩, g ad1 H1 _ x rs1 (RIt.flst rs1 (fun y => .inl (.inr ⟨_, y.frz _ _ _ hs⟩)) q)⟩
      | sck hs q => exact ⟨_, rfl, ⟨_, .inr hs⟩, g ad1 H1 _ x rs1 (RIt.flst rs1 (fun y => .inr hs) q)⟩
    · refine .inl ⟨ad, lo, env, S, rs, re, ?_⟩
      rw [em]
      intro ad1 H1 v x rs1 ru
      cases ru with
      | fl hs q => exact ⟨_, rfl, ⟨_, .inl (.inr ⟨_, hs⟩)⟩, g ad1 H1 _ x rs1 (RIt.flst rs1 (fun y => .inl (.inr ⟨_, y.frz _ _ _ hs⟩)) q)⟩
    · refine .inr (.inr ⟨ad, lo, env, S, rs, re, ?_⟩)
      rw [em]
      intro ad1 H1 v x rs1 ru
      cases ru
      exact ⟨_, rfl, g ad1 H1 _ x rs1 RIt.str⟩
    · split at g
      · rename_i us el
        refine .inl ⟨ad, lo, env, S, rs, re, ?_⟩
        rw [em]
        intro ad1 H1 v x rs1 ru
        obtain ⟨a, rfl, ea⟩ := ru.ref_of
        obtain ⟨vs, hs, q, _⟩ := rs1.sql el ea
        exact ⟨a, rfl, ⟨vs, hs⟩, g ad1 H1 _ x rs1 (RIt.live ea)⟩
      · exact g.elim
    · exact g.elim
theorem si_new (he : SN X E e ms) : SI X E tg e (iNew ms) := by
  refine PI.by (pi_list he) fun σ H R' h => ?_
  obtain ⟨ad, lo, env, S, rs, re, g⟩ := h
  refine tE.imp (Go.seq (rel := RN X.K H) rs re g) ?_
  rintro x H1 ⟨us, ad1, S1, x1, rs1, re1, ⟨a, vs, rfl, ea, na, h0, q⟩, z1⟩
  refine ⟨a, rfl, ⟨vs, SqL.of ea⟩, z1 ad1 H1 _ Adv.refl rs1 (RIt.flst rs1 (fun y => SqL.of (y.keep _ _ ea na)) q)⟩
theorem si_range1 {a : Expr} (hg : Gl X "range") (hm : X.mg "range" = none) (ha : SA X E [a] ms) (hs : starEach [a] X.env = [(false, eval a X.env)] := by rfl) : SI X E tg (.Call (.Name "range" p) [a] [] pos) (iRange1 ms) := by
  refine PI.by (pi_range1 hg hm ha hs) fun σ H R' h => ?_
  obtain ⟨ad, lo, env, S, rs, re, g⟩ := h
  refine tE.imp (Go.seq (rel := RUs X.K) rs re g) ?_
  rintro x H1 ⟨us, ad1, S1, x1, rs1, re1, ru, z1⟩
  split at z1
  · obtain ⟨v, rfl, r⟩ := ru.sing
    cases r
    split at z1
    · rename_i hh
      exact ⟨_, rfl, by omega, by omega, z1 ad1 H1 _ Adv.refl rs1 RIt.range⟩
    · exact z1.elim
  · exact z1.elim
end
def fLoop (nx : Nx) (g : MG) (b : MS) : Nat → Nat → Env → Sto → R Fl
  | 0, _, _, _ => .no
  | k + 1, i, env, S => match nx i S with
    | none => .no
    | some none => .ok (.nx env) S
    | some (some u) => (g u env S).bind fun env' S1 => (b env' S1).bind fun f S2 => match f with
      | .nx e => fLoop nx g b k (i + 1) e S2
      | .ct e => fLoop nx g b k (i + 1) e S2
      | .bk e => .ok (.nx e) S2
      | .rt u => .ok (.rt u) S2
def sFor (fuel : Nat) (m : MI) (g : MG) (b : MS) : MS := fun env S => (m env S).bind fun nx S1 => fLoop nx g b fuel 0 env S1
section
variable {X : Cx} {E : XK} {tg it : Expr} {m : MI} {g : MG} {b : MS} {body : List Stmt} {pos : Pos}
theorem for_go {K : PySem.W.Frag} {fuel : Nat} {nx : Nx} {J : It} {ad0 : List Addr} {H0 : Hp} {D : Ends} {σ : St} {env : Env} {S : Sto} {lo : Nat → Option Obj} (rJ : RIt K ad0 H0 nx J) (rs : RS K ad0 lo H0 S) (re : REnv K ad0 H0 σ env) (z : GoF K E (fLoop nx g b fuel 0 env S) ad0 lo H0 D) :
    ∃ W : Nat → Nat → St → Hp → Prop, (∃ m, W 0 m σ H0) ∧ ∀ i m σ H, W i m σ H → (J.stop i H ∧ D.nx σ H) ∨ (J.go i H ∧ ∃ N : St → Hp → Prop, (∀ σ' H', N σ' H' → ∃ m', m' < m ∧ W (i + 1) m' σ' H') ∧ ∀ x H', J.yld i H x H' → tGt K E g x σ H' fun σ2 H2 => tSt K E b { D with nx := N, ct := N, bk := D.nx } σ2 H2) := by
  refine ⟨fun i k σ H => ∃ ad env S, Adv ad0 H0 ad H ∧ RS K ad lo H S ∧ REnv K ad H σ env ∧ GoF K E (fLoop nx g b k i env S) ad lo H D, ⟨fuel, ad0, env, S, Adv.refl, rs, re, z⟩, ?_⟩
  rintro i k σ H ⟨ad, env, S, x, rs, re, z⟩
  cases k with
  | zero => exact z.elim
  | succ k =>
    have hJ := rJ ad lo H S i x rs
    unfold fLoop at z
    cases e : nx i S with
    | none => simp only [e] at z; exact z.elim
    | some o =>
      cases o with
      | none =>
        simp only [e] at z hJ
        exact .inl ⟨hJ, z ad H σ Adv.refl rs re⟩
      | some u =>
        simp only [e] at z hJ
        refine .inr ⟨hJ.1, fun σ' H' => ∃ ad env S, Adv ad0 H0 ad H' ∧ RS K ad lo H' S ∧ REnv K ad H' σ' env ∧ GoF K E (fLoop nx g b k (i + 1) env S) ad lo H' D, fun σ' H' w => ⟨k, Nat.lt_succ_self _, w⟩, fun y H' hy => ?_⟩
        obtain ⟨x1, rs1, ru⟩ := hJ.2 y H' hy
        refine ⟨ad, lo, env, S, u, rs1, re.adv rs x1, ru, ?_⟩
        have z1 := GoF.adv z x1
        cases eg : g u env S with
        | no => rw [eg] at z1; exact z1
        | exc c fs S2 => rw [eg] at z1; exact z1
        | ok env' S2 =>
          rw [eg] at z1
          intro ad2 H2 σ2 x2 rs2 re2
          refine ⟨ad2, lo, env', S2, rs2, re2, ?_⟩
          have z2 := GoF.adv z1 x2
          rw [R.bind_ok] at z2
          cases eb : b env' S2 with
          | no => rw [eb] at z2; exact z2
          | exc c fs S3 => rw [eb] at z2; exact z2
          | ok f S3 =>
            rw [eb] at z2
            cases f with
            | nx e3 => exact fun ad3 H3 σ3 x3 rs3 re3 => ⟨ad3, e3, S3, ((x.trans x1).trans x2).trans x3, rs3, re3, GoF.adv z2 x3⟩
            | ct e3 => exact fun ad3 H3 σ3 x3 rs3 re3 => ⟨ad3, e3, S3, ((x.trans x1).trans x2).trans x3, rs3, re3, GoF.adv z2 x3⟩
            | bk e3 => exact z2
            | rt u => exact z2
theorem ss_for {fuel : Nat} (hp : PassesOwn (model X.prog X.w) X.A X.env X.xe) (hc : X.calm = true) (hi : SI X E tg it m) (hg : SG X E tg g) (hb : SSs X E body b) (hs : ∀ x, foldedSetIterable it X.env x = pure x := by intro _; rfl) : SS X E (.For tg it body [] pos) (sFor fuel m g b) :=
  PS.by (ps_for hp hc hi hg hb hs) fun D σ H h => by
    obtain ⟨ad, lo, env, S, rs, re, z⟩ := h
    refine tE.imp (GoF.seq (rel := RIt X.K) rs re z) ?_
    rintro J H1 ⟨nx, ad1, S1, x1, rs1, re1, rJ, z1⟩
    exact for_go rJ rs1 re1 z1
end
/-- the targets of a comprehension: names -/
inductive Tg where
  | one (i : Nat) | many (is : List Nat)
def gNs : List Nat → TGs
  | [] => gNil
  | i :: is => gCons (gName i) (gNs is)
def Tg.h (K : PySem.W.Frag) : Tg → TG
  | .one i => gName i
  | .many is => gTup K is.length (gNs is)
def Tg.slots : Tg → List Nat
  | .one i => [i]
  | .many is => is
def setAll : List Nat → List U → Env → Env
  | i :: is, u :: us, env => setAll is us (env.set i (some u))
  | _, _, env => env
def Tg.set (t : Tg) (u : U) (env : Env) : Option Env := match t with
  | .one i => some (env.set i (some u))
  | .many is => match u with
    | .tup us => if us.length = is.length then some (setAll is us env) else none
    | _ => none
def R.nox {α : Type} (r : R α) : R α := match r with
  | .ok a S => .ok a S
  | _ => .no
def wipeU (env : Env) : List Nat → Env
  | [] => env
  | v :: vs => (wipeU env vs).set v none
def cLoop (nx : Nx) (tg : Tg) (t : Env → Sto → R Bool) (e : ME) : Nat → Nat → Env → Sto → List U → R (List U)
  | 0, _, _, _, _ => .no
  | k + 1, i, env, S, acc => match nx i S with
    | none => .no
    | some none => .ok acc S
    | some (some u) => match tg.set u env with
      | none => .no
      | some env' => (t env' S).nox.bind fun b S1 => if b = true then (e env' S1).nox.bind fun v S2 => if acc.length < sizeLine then cLoop nx tg t e k (i + 1) env S2 (acc ++ [v]) else .no
        else cLoop nx tg t e k (i + 1) env S1 acc
def nComp (fuel : Nat) (own : List Nat) (m : MI) (tg : Tg) (t : Env → Sto → R Bool) (e : ME) : MA := fun env S => (m env S).bind fun nx S1 => cLoop nx tg t e fuel 0 (wipeU env own) S1 []
def tYesU : Env → Sto → R Bool := fun _ S => .ok true S
section
variable {K : PySem.W.Frag} {ad : List Addr} {H : Hp} {σ : St} {env : Env}
theorem REnv.unset {i : Nat} (re : REnv K ad H σ env) : REnv K ad H (σ.set i none) (env.set i none) := by
  refine ⟨by rw [List.length_set, List.length_set]; exact re.1, fun j w e => ?_⟩
  by_cases h : i = j
  · subst h
    by_cases hl : i < env.length
    · rw [List.getElem?_set_self hl] at e
      cases e
    · rw [List.getElem?_eq_none (by rw [List.length_set]; omega)] at e
      cases e
  · rw [List.getElem?_set_ne h] at e
    obtain ⟨z, e1, r⟩ := re.2 j w e
    exact ⟨z, by rw [List.getElem?_set_ne h]; exact e1, r⟩
theorem REnv.wipe (re : REnv K ad H σ env) : ∀ vs : List Nat, REnv K ad H (L2.wipe σ vs) (wipeU env vs)
  | [] => re
  | v :: vs => by unfold L2.wipe wipeU; exact (REnv.wipe re vs).unset
theorem wipe_get {i : Nat} : ∀ (σ : St) (vs : List Nat), (L2.wipe σ vs)[i]? = if i ∈ vs then (σ[i]?).map fun _ => none else σ[i]?
  | σ, [] => by rw [if_neg (by simp)]; rfl
  | σ, v :: vs => by
    unfold L2.wipe
    by_cases h : v = i
    · subst h
      rw [if_pos (by simp)]
      by_cases hl : v < σ.length
      · rw [List.getElem?_set_self (by rw [wipe_length]; exact hl), List.getElem?_eq_getElem hl]
        rfl
      · rw [List.getElem?_eq_none (by rw [List.length_set, wipe_length]; omega), List.getElem?_eq_none (by omega)]
        rfl
    · rw [List.getElem?_set_ne h, wipe_get σ vs]
      have e : (i ∈ v :: vs) ↔ i ∈ vs := by
        rw [List.mem_cons]
        exact ⟨fun z => z.elim (fun q => absurd q.symm h) id, .inr⟩
      by_cases h2 : i ∈ vs
      · rw [if_pos h2, if_pos (e.mpr h2)]
      · rw [if_neg h2, if_neg fun z => h2 (e.mp z)]
theorem wipe_set {i : Nat} {o : Option V} {vs : List Nat} (h : i ∈ vs) (σ : St) : L2.wipe (σ.set i o) vs = L2.wipe σ vs := by
  apply List.ext_getElem?
  intro j
  rw [wipe_get, wipe_get]
  by_cases hj : i = j
  · subst hj
    rw [if_pos h, if_pos h]
    by_cases hl : i < σ.length
    · rw [List.getElem?_set_self hl, List.getElem?_eq_getElem hl]
      rfl
    · rw [List.getElem?_eq_none (by rw [List.length_set]; omega), List.getElem?_eq_none (by omega)]
  · rw [List.getElem?_set_ne hj]
theorem wipe_wipe (σ : St) (vs : List Nat) : L2.wipe (L2.wipe σ vs) vs = L2.wipe σ vs := by
  apply List.ext_getElem?
  intro j
  rw [wipe_get]
  by_cases h : j ∈ vs
  · rw [if_pos h, wipe_get, if_pos h]
    cases σ[j]? <;> rfl
  · rw [if_neg h]
theorem gNs_ok {vs : List Nat} {Q : St → Hp → Prop} {lo : Nat → Option Obj} {S : Sto} (rs : RS K ad lo H S) : ∀ (is : List Nat) (us : List U) (xs : List V) (σ : St) (env : Env), REnv K ad H σ env → RUs K ad H us xs → us.length = is.length → (∀ i ∈ is, i ∈ vs) →
    (∀ σ2, REnv K ad H σ2 (setAll is us env) → L2.wipe σ2 vs = L2.wipe σ vs → Q σ2 H) → gNs is xs σ H Q
  | [], [], _, σ, env, re, .nil, _, _, k => ⟨rfl, k σ re rfl⟩
  | i :: is, u :: us, x :: xs, σ, env, re, .cons q t, hl, hi, k => by
    refine ⟨x, xs, rfl, ?_⟩
    exact gNs_ok rs is us xs (σ.set i (some x)) (env.set i (some u)) (re.set q) t (by simpa using hl) (fun j hj => hi j (by simp [hj])) fun σ2 re2 e => k σ2 re2 (by rw [e, wipe_set (hi i (by simp))])
  | [], _ :: _, _, _, _, _, _, hl, _, _ => by simp at hl
  | _ :: _, [], _, _, _, _, _, hl, _, _ => by simp at hl
theorem Tg.ok {tg : Tg} {vs : List Nat} {u : U} {x : V} {env' : Env} {Q : St → Hp → Prop} {lo : Nat → Option Obj} {S : Sto} (rs : RS K ad lo H S) (re : REnv K ad H σ env) (ru : RU K ad H u x) (e : tg.set u env = some env') (hs : ∀ i ∈ tg.slots, i ∈ vs)
    (k : ∀ σ2, REnv K ad H σ2 env' → L2.wipe σ2 vs = L2.wipe σ vs → Q σ2 H) : tg.h K x σ H Q := by
  cases tg with
  | one i =>
    cases e
    exact k _ (re.set ru) (wipe_set (hs i (by simp [Tg.slots])) σ)
  | many is =>
    unfold Tg.set at e
    simp only at e
    split at e
    · obtain ⟨a, xs, rfl, hq, q⟩ := ru.tup_of
      split at e
      · rename_i hl
        cases e
        exact ⟨a, xs, rfl, hq, by rw [← q.length]; exact hl, gNs_ok rs is _ xs σ env re q hl (fun i hi => hs i hi) k⟩
      · cases e
    · cases e
end
abbrev E00 : XK := fun _ _ _ => False
section
variable {X : Cx} {E : XK} {tg elt it : Expr} {ifs : List Expr} {scope : Scope} {own : List (Str × Nat)} {m : MI} {t : Tg} {mt : Env → Sto → R Bool} {me : ME} {pos : Pos}
theorem Go.nox {K : PySem.W.Frag} {α γ β δ : Type} {rel : List Addr → Hp → α → β → Prop} {rel2 : List Addr → Hp → γ → δ → Prop} {ad adB : List Addr} {lo : Nat → Option Obj} {H HB : Hp} {S : Sto} {σ : St} {env : Env} {mm : Env → Sto → R α} {f : α → Sto → R γ} {Q : δ → Hp → Prop} (rs : RS K ad lo H S) (re : REnv K ad H σ env) (g : Go K E rel2 ((mm env S).nox.bind f) adB lo HB Q) :
    tE K E00 rel mm σ H fun x H1 => ∃ a ad1 S1, Adv ad H ad1 H1 ∧ RS K ad1 lo H1 S1 ∧ REnv K ad1 H1 σ env ∧ rel ad1 H1 a x ∧ Go K E rel2 (f a S1) adB lo HB Q := by
  refine ⟨ad, lo, env, S, rs, re, ?_⟩
  cases e : mm env S with
  | ok a S1 =>
    rw [e] at g
    exact fun ad' H' v x rs' q => ⟨a, ad', S1, x, rs', re.adv rs x, q, g⟩
  | exc c fs S1 => rw [e] at g; exact g.elim
  | no => rw [e] at g; exact g.elim
mutual
theorem RU.side {K : PySem.W.Frag} {ad : List Addr} {H : Hp} {D : Addr} {ws : List V} {o : HO} (hD : H D = some (.lst ws)) : ∀ {u : U} {v : V}, RU K ad H u v → RU K ad (upd H D o) u v
  | _, _, .non => .non
  | _, _, .bl b => .bl b
  | _, _, .int i => .int i
  | _, _, .str s => .str s
  | _, _, .tup h t => .tup (by
      rcases h with (h | ⟨ob, h⟩) | h
      · exact .inl (.inl (by rw [upd_ne (ne_of h hD (by intro z; cases z))]; exact h))
      · exact .inl (.inr ⟨ob, by rw [upd_ne (ne_of h hD (by intro z; cases z))]; exact h⟩)
      · exact .inr h) (RUs.side hD t)
  | _, _, .sc h t => .sc (by rw [upd_ne (ne_of h hD (by intro z; cases z))]; exact h) (RUs.side hD t)
  | _, _, .sck h t => .sck h (RUs.side hD t)
  | _, _, .fl h t => .fl (by rw [upd_ne (ne_of h hD (by intro z; cases z))]; exact h) (RUs.side hD t)
  | _, _, .fd h n t => .fd (by rw [upd_ne (ne_of h hD (by intro z; cases z))]; exact h) n (RF.side hD t)
  | _, _, .ref e => .ref e
theorem RUs.side {K : PySem.W.Frag} {ad : List Addr} {H : Hp} {D : Addr} {ws : List V} {o : HO} (hD : H D = some (.lst ws)) : ∀ {us : List U} {vs : List V}, RUs K ad H us vs → RUs K ad (upd H D o) us vs
  | _, _, .nil => .nil
  | _, _, .cons h t => .cons (RU.side hD h) (RUs.side hD t)
theorem RF.side {K : PySem.W.Frag} {ad : List Addr} {H : Hp} {D : Addr} {ws : List V} {o : HO} (hD : H D = some (.lst ws)) : ∀ {us : List (Str × U)} {vs : List (Str × V)}, RF K ad H us vs → RF K ad (upd H D o) us vs
  | _, _, .nil => .nil
  | _, _, .cons h t => .cons (RU.side hD h) (RF.side hD t)
end
theorem RS.side {K : PySem.W.Frag} {ad : List Addr} {lo : Nat → Option Obj} {S : Sto} {H : Hp} {D : Addr} {ws : List V} {o : HO} (rs : RS K ad lo H S) (hD : H D = some (.lst ws)) (nD : D ∉ ad) : RS K ad lo (upd H D o) S :=
  ⟨rs.len, rs.nd, fun n p e => by
    obtain ⟨a, u, e1, ro, e2⟩ := rs.obj n p e
    refine ⟨a, u, e1, ?_, by rw [upd_ne fun z => nD (by rw [← z]; exact mem_of_get e1)]; exact e2⟩
    cases ro with
    | lst h => exact .lst (h.side hD)
    | dct h => exact .dct (h.side hD)
    | ins h => exact .ins (h.side hD)
    | dead => exact .dead, rs.lock, rs.kind⟩
theorem REnv.side {K : PySem.W.Frag} {ad : List Addr} {σ : St} {env : Env} {H : Hp} {D : Addr} {ws : List V} {o : HO} (re : REnv K ad H σ env) (hD : H D = some (.lst ws)) : REnv K ad (upd H D o) σ env :=
  ⟨re.1, fun i u e => let ⟨v, e1, q⟩ := re.2 i u e; ⟨v, e1, q.side hD⟩⟩
theorem comp_go {K : PySem.W.Frag} {fuel : Nat} {nx : Nx} {J : It} {ad0 : List Addr} {H0 Hs : Hp} {Q : VK} {σ : St} {env : Env} {S : Sto} {lo : Nat → Option Obj} {vs : List Nat} (hts : ∀ i ∈ t.slots, i ∈ vs) (x0 : ∀ D, H0 D = none → Hs D = none) (rJ : RIt K ad0 H0 nx J) (rs : RS K ad0 lo H0 S) (re : REnv K ad0 H0 (L2.wipe σ vs) env)
    (z : Go K E (RN K Hs) (cLoop nx t mt me fuel 0 env S []) ad0 lo H0 Q) :
    ∀ D, H0 D = none → ∃ W : Nat → Nat → Hp → Prop, (∃ m, W 0 m (upd H0 D (.lst []))) ∧ ∀ i m H, W i m H → (J.stop i H ∧ Q (.ref D) H) ∨ (J.go i H ∧ ∃ Nx : Hp → Prop, (∀ H', Nx H' → ∃ m', m' < m ∧ W (i + 1) m' H') ∧ ∀ x H', J.yld i H x H' → t.h K x (L2.wipe σ vs) H' fun σ2 H2 => L2.wipe σ2 vs = L2.wipe σ vs ∧
      tE K E00 rB mt σ2 H2 fun b H3 => if b = true then tI K E00 me σ2 H3 fun y H4 => ∃ acc, H4 D = some (.lst acc) ∧ acc.length < sizeLine ∧ Nx (upd H4 D (.lst (acc ++ [y]))) else Nx H3) := by
  intro D hD
  refine ⟨fun i k H => ∃ ad S us vs', Adv ad0 H0 ad H ∧ RS K ad lo H S ∧ REnv K ad H (L2.wipe σ vs) env ∧ D ∉ ad ∧ H D = some (.lst vs') ∧ RUs K ad H us vs' ∧ Go K E (RN K Hs) (cLoop nx t mt me k i env S us) ad0 lo H0 Q, ⟨fuel, ?_⟩, ?_⟩
  · obtain ⟨rs', x'⟩ := rs.grow (u := .lst []) hD
    exact ⟨ad0, S, [], [], x', rs', re.adv rs x', (new_ahead Adv.refl rs hD).2, upd_same, .nil, z⟩
  rintro i k H ⟨ad, S, us, vs', x, rs, re, nD, eD, q, z⟩
  cases k with
  | zero => exact z.elim
  | succ k =>
    have hJ := rJ ad lo H S i x rs
    unfold cLoop at z
    cases e : nx i S with
    | none => simp only [e] at z; exact z.elim
    | some o =>
      cases o with
      | none =>
        simp only [e] at z hJ
        exact .inl ⟨hJ, z ad H _ x rs ⟨D, vs', rfl, eD, nD, x0 D hD, q⟩⟩
      | some u =>
        simp only [e] at z hJ
        refine .inr ⟨hJ.1, fun H' => ∃ ad S us vs', Adv ad0 H0 ad H' ∧ RS K ad lo H' S ∧ REnv K ad H' (L2.wipe σ vs) env ∧ D ∉ ad ∧ H' D = some (.lst vs') ∧ RUs K ad H' us vs' ∧ Go K E (RN K Hs) (cLoop nx t mt me k (i + 1) env S us) ad0 lo H0 Q, fun H' w => ⟨k, Nat.lt_succ_self _, w⟩, fun y H' hy => ?_⟩
        obtain ⟨x1, rs1, ru⟩ := hJ.2 y H' hy
        cases et : t.set u env with
        | none => simp only [et] at z; exact z.elim
        | some env' =>
          simp only [et] at z
          refine Tg.ok rs1 (re.adv rs x1) ru et hts fun σ2 re2 e2 => ⟨by rw [e2, wipe_wipe], ?_⟩
          refine tE.imp (Go.nox (rel := rB) rs1 re2 z) ?_
          rintro bb H3 ⟨b, ad3, S3, x3, rs3, re3, rb, z3⟩
          have eb : b = bb := rb
          subst eb
          have xx := (x1.trans x3)
          have nD3 : D ∉ ad3 := fun w => by
            rcases xx.new D w with h | h
            · exact nD h
            · rw [eD] at h; cases h
          have eD3 : H3 D = some (.lst vs') := xx.keep _ _ eD nD
          have re3' : REnv K ad3 H3 (L2.wipe σ vs) env := re.adv rs xx
          cases b with
          | false =>
            rw [if_neg Bool.false_ne_true] at z3 ⊢
            exact ⟨ad3, S3, us, vs', x.trans xx, rs3, re3', nD3, eD3, q.adv rs xx, z3⟩
          | true =>
            rw [if_pos rfl] at z3 ⊢
            refine tE.imp (Go.nox (rel := RU K) rs3 re3 z3) ?_
            rintro yv H4 ⟨v, ad4, S4, x4, rs4, re4, rv, z4⟩
            have xy := xx.trans x4
            have nD4 : D ∉ ad4 := fun w => by
              rcases xy.new D w with h | h
              · exact nD h
              · rw [eD] at h; cases h
            have eD4 : H4 D = some (.lst vs') := xy.keep _ _ eD nD
            split at z4
            · rename_i hl
              have q4 : RUs K ad4 H4 us vs' := q.adv rs xy
              refine ⟨vs', eD4, by rw [← q.length]; exact hl, ad4, S4, us ++ [v], vs' ++ [yv], (x.trans xy).side hD, rs4.side eD4 nD4, (re.adv rs xy).side eD4, nD4, upd_same, (q4.side eD4).append (.cons (rv.side eD4) .nil), z4⟩
            · exact z4.elim
theorem tN_comp {K : PySem.W.Frag} {fuel : Nat} {vs : List Nat} (hts : ∀ i ∈ t.slots, i ∈ vs) (σ : St) (H : Hp) (Q : VK) (h : tN K E (nComp fuel vs m t mt me) σ H Q) : tLc (tE K E (RIt K) m) (t.h K) (tE K E00 rB mt) (tI K E00 me) vs σ H Q := by
  obtain ⟨ad, lo, env, S, rs, re, z⟩ := h
  refine tE.imp (Go.seq (rel := RIt K) rs re z) ?_
  rintro J H1 ⟨nx, ad1, S1, x1, rs1, re1, rJ, z1⟩
  exact comp_go hts (fun D hD => (new_ahead x1 rs1 hD).1) rJ rs1 (re1.wipe vs) z1
/-- [elt for tg in it if ..] -/
theorem sn_comp {fuel : Nat} (hc : X.calm = true) (hN : X.N.Nodup) (hi : SI X E tg it m) (ok : BlkOk X.N X.env.scope scope own) (hts : ∀ i ∈ t.slots, i ∈ own.map (·.2))
    (hg : ∀ (s : Shared) (H : Hp) (C : Addr) (cl : List (Str × Addr)) (fp : List Addr), PG (X.blk s H scope (compEnvC scope cl C X.env) fp) tg (t.h X.K)) (ht : ∀ (s : Shared) (H : Hp) (C : Addr) (cl : List (Str × Addr)) (fp : List Addr), PTs (X.blk s H scope (compEnvC scope cl C X.env) fp) ifs (tE X.K E00 rB mt))
    (he : ∀ (s : Shared) (H : Hp) (C : Addr) (cl : List (Str × Addr)) (fp : List Addr), PE (X.blk s H scope (compEnvC scope cl C X.env) fp) elt (tI X.K E00 me)) (hs : ∀ x, foldedSetIterable it X.env x = pure x := by intro _; rfl) :
    SN X E (.ListComp elt [⟨tg, it, ifs, 0⟩] scope pos) (nComp fuel (own.map (·.2)) m t mt me) := PE.by (pe_lc hc hN hi ok hg ht he hs) (tN_comp hts)
/-- y = [..] on one line, y a local -/
theorem ss_setLc {fuel i : Nat} {y : Str} {py spos : Pos} (hc : X.calm = true) (hN : X.N.Nodup) (hy : X.N[i]? = some y) (hyl : X.env.scope.names.lookup y = some .local)
    (hsw : swapsWith (.ListComp elt [⟨tg, it, ifs, 0⟩] scope pos) (some (.Name y py)) spos.line X.env = pure true) (hi : SI X E tg it m) (ok : BlkOk X.N X.env.scope scope own) (hts : ∀ i ∈ t.slots, i ∈ own.map (·.2))
    (hg : ∀ (s : Shared) (H : Hp) (C : Addr) (cl : List (Str × Addr)) (fp : List Addr), PG (X.blk s H scope (compEnvC scope cl C X.env) fp) tg (t.h X.K)) (ht : ∀ (s : Shared) (H : Hp) (C : Addr) (cl : List (Str × Addr)) (fp : List Addr), PTs (X.blk s H scope (compEnvC scope cl C X.env) fp) ifs (tE X.K E00 rB mt))
    (he : ∀ (s : Shared) (H : Hp) (C : Addr) (cl : List (Str × Addr)) (fp : List Addr), PE (X.blk s H scope (compEnvC scope cl C X.env) fp) elt (tI X.K E00 me)) (hs : ∀ x, foldedSetIterable it X.env x = pure x := by intro _; rfl) :
    SS X E (.Assign [.Name y py] (.ListComp elt [⟨tg, it, ifs, 0⟩] scope pos) spos) (sAsg (xNew (nComp fuel (own.map (·.2)) m t mt me)) (gN i)) := by
  refine PS.by (ps_setLc (i := i) hc hN hy hyl hsw hi ok hg ht he hs) fun D σ H h => ?_
  have h1 : tI X.K E (xNew (nComp fuel (own.map (·.2)) m t mt me)) σ H fun v H1 => D.nx (σ.set i (some v)) H1 := by
    obtain ⟨ad, lo, env, S, rs, re, z⟩ := h
    refine tE.imp (GoF.seq (rel := RU X.K) rs re z) ?_
    rintro v H1 ⟨u, ad1, S1, x1, rs1, re1, ru, z1⟩
    exact z1 ad1 H1 _ Adv.refl rs1 (re1.set ru)
  exact tN_comp hts σ H _ (tI_new σ H _ h1)
theorem PTs.by {X : Cx} {es : List Expr} {t t' : TT} (h : PTs X es t) (q : ∀ σ H Q, t' σ H Q → t σ H Q) : PTs X es t' := ⟨fun pins s σ H Q I z => h.run pins s σ H Q I (q σ H Q z)⟩
theorem sts_nil : PTs X [] (tE X.K E00 rB tYesU) := PTs.by pts_nil fun σ H Q h => by
  obtain ⟨ad, lo, env, S, rs, re, g⟩ := h
  exact Go.here (v := true) g rs rfl
theorem sts_one {e : Expr} {m : ME} (h : SE X E00 e m) : PTs X [e] (tE X.K E00 rB (bOf m)) := pts_one h.pt
end
end VI
set_option Elab.async false
set_option linter.all false
set_option maxRecDepth 100000
set_option maxHeartbeats 4000000
namespace VI
open PySem L2
/-- what stands at D is neither a tuple nor a frozen list, nor a frozen dict beside the store -/
def NoData (ad : List Addr) (H : Hp) (D : Addr) : Prop := (∀ xs, H D ≠ some (.tup xs)) ∧ (∀ o xs, H D ≠ some (.frz o (.tup xs))) ∧ (∀ o xs, H D ≠ some (.frz o (.lst xs))) ∧ ∀ o xs, H D = some (.frz o (.dK xs)) → D ∈ ad
theorem NoData.dk {ad : List Addr} {H : Hp} {D : Addr} {kw : List (Key × V)} (h : H D = some (.dK kw)) : NoData ad H D := ⟨fun _ z => (by rw [h] at z; cases z), fun _ _ z => (by rw [h] at z; cases z), fun _ _ z => (by rw [h] at z; cases z), fun _ _ z => (by rw [h] at z; cases z)⟩
theorem NoData.fz {ad : List Addr} {H : Hp} {D : Addr} {o : Obj} {kw : List (Key × V)} (h : H D = some (.frz o (.dK kw))) (m : D ∈ ad) : NoData ad H D := ⟨fun _ z => (by rw [h] at z; cases z), fun _ _ z => (by rw [h] at z; cases z), fun _ _ z => (by rw [h] at z; cases z), fun _ _ _ => m⟩
section
variable {K : PySem.W.Frag} {ad : List Addr} {lo : Nat → Option Obj} {S : Sto} {H : Hp} {D : Addr} {o : HO}
mutual
theorem RU.at (hD : NoData ad H D) : ∀ {u : U} {v : V}, RU K ad H u v → RU K ad (upd H D o) u v
  | _, _, .non => .non
  | _, _, .bl b => .bl b
  | _, _, .int i => .int i
  | _, _, .str s => .str s
  | _, _, .tup h t => .tup (by
      rcases h with (h | ⟨ob, h⟩) | h
      · exact .inl (.inl (by rw [upd_ne fun z => hD.1 _ (by rw [← z]; exact h)]; exact h))
      · exact .inl (.inr ⟨ob, by rw [upd_ne fun z => hD.2.1 _ _ (by rw [← z]; exact h)]; exact h⟩)
      · exact .inr h) (RUs.at hD t)
  | _, _, .sc h t => .sc (by rw [upd_ne fun z => hD.2.2.1 _ _ (by rw [← z]; exact h)]; exact h) (RUs.at hD t)
  | _, _, .sck h t => .sck h (RUs.at hD t)
  | _, _, .fl h t => .fl (by rw [upd_ne fun z => hD.2.2.1 _ _ (by rw [← z]; exact h)]; exact h) (RUs.at hD t)
  | _, _, .fd h n t => .fd (by rw [upd_ne fun z => n (by rw [z]; exact hD.2.2.2 _ _ (by rw [← z]; exact h))]; exact h) n (RF.at hD t)
  | _, _, .ref e => .ref e
theorem RUs.at (hD : NoData ad H D) : ∀ {us : List U} {vs : List V}, RUs K ad H us vs → RUs K ad (upd H D o) us vs
  | _, _, .nil => .nil
  | _, _, .cons h t => .cons (RU.at hD h) (RUs.at hD t)
theorem RF.at (hD : NoData ad H D) : ∀ {us : List (Str × U)} {vs : List (Str × V)}, RF K ad H us vs → RF K ad (upd H D o) us vs
  | _, _, .nil => .nil
  | _, _, .cons h t => .cons (RU.at hD h) (RF.at hD t)
end
theorem RO.at (hD : NoData ad H D) {p : O} {u : HO} (h : RO K ad H p u) : RO K ad (upd H D o) p u := by
  cases h with
  | lst h => exact .lst (h.at hD)
  | dct h => exact .dct (h.at hD)
  | ins h => exact .ins (h.at hD)
  | dead => exact .dead
theorem REnv.at {σ : St} {env : Env} (re : REnv K ad H σ env) (hD : NoData ad H D) : REnv K ad (upd H D o) σ env :=
  ⟨re.1, fun i u e => let ⟨v, e1, q⟩ := re.2 i u e; ⟨v, e1, q.at hD⟩⟩
def loSet (lo : Nat → Option Obj) (n : Nat) (od : Obj) : Nat → Option Obj := fun k => if k = n then some od else lo k
theorem RS.freeze (rs : RS K ad lo H S) {n : Nat} {d : Addr} {kvs : List (Str × U)} {kw : List (Key × V)} (e : S.dct n = some kvs) (ea : ad[n]? = some d) (hd : H d = some (.dK kw)) (od : Obj) :
    RS K ad (loSet lo n od) (upd H d (.frz od (.dK kw))) ⟨S.objs, n :: S.lk⟩ ∧ Adv ad H ad (upd H d (.frz od (.dK kw))) := by
  have nd : NoData ad H d := .dk hd
  have ln : lo n = none := by
    obtain ⟨b, u, e1, ro, e2⟩ := rs.obj n _ (Sto.dct_eq e)
    rw [ea] at e1
    cases e1
    cases l : lo n with
    | none => rfl
    | some ob => rw [l, hd] at e2; cases e2
  refine ⟨⟨rs.len, rs.nd, fun m p e1 => ?_, fun m h => ?_, fun m h => ?_⟩, ⟨List.prefix_refl _, fun b hb => .inl hb, fun b q e1 nb => by rw [upd_ne fun z => nb (by rw [z]; exact mem_of_get ea)]; exact e1, fun b q w e1 => by rw [upd_ne (ne_of e1 hd (by intro z; cases z))]; exact e1⟩⟩
  · obtain ⟨b, u, e2, ro, e3⟩ := rs.obj m p e1
    by_cases hm : m = n
    · subst hm
      rw [ea] at e2
      cases e2
      rw [ln, hd] at e3
      cases e3
      exact ⟨d, _, ea, ro.at nd, by rw [upd_same]; unfold loSet; rw [if_pos rfl]; rfl⟩
    · refine ⟨b, u, e2, ro.at nd, ?_⟩
      have hb : b ≠ d := fun z => by
        subst z
        exact hm ((List.getElem?_inj (List.getElem?_eq_some_iff.mp e2).1 rs.nd).mp (e2.trans ea.symm))
      rw [upd_ne hb, e3]
      unfold loSet
      rw [if_neg hm]
  · unfold loSet at h
    by_cases hm : m = n
    · rw [hm]; exact List.mem_cons_self
    · rw [if_neg hm] at h; exact List.mem_cons_of_mem _ (rs.lock m h)
  · unfold loSet at h
    by_cases hm : m = n
    · rw [hm]; exact ⟨kvs, Sto.dct_eq e⟩
    · rw [if_neg hm] at h; exact rs.kind m h
theorem RS.thaw {n : Nat} {d : Addr} {od : Obj} {kw : List (Key × V)} {lk : List Nat} (rs : RS K ad (loSet lo n od) H S) (ea : ad[n]? = some d) (ln : lo n = none) (hl : ∀ m, (lo m).isSome = true → m ∈ lk) (hd : H d = some (.frz od (.dK kw))) : RS K ad lo (upd H d (.dK kw)) ⟨S.objs, lk⟩ := by
  have nd : NoData ad H d := .fz hd (mem_of_get ea)
  refine ⟨rs.len, rs.nd, fun m p e1 => ?_, hl, fun m h => ?_⟩
  · obtain ⟨b, u, e2, ro, e3⟩ := rs.obj m p e1
    by_cases hm : m = n
    · subst hm
      rw [ea] at e2
      cases e2
      unfold loSet at e3
      rw [if_pos rfl, hd] at e3
      cases e3
      exact ⟨d, _, ea, ro.at nd, by rw [upd_same, ln]; rfl⟩
    · refine ⟨b, u, e2, ro.at nd, ?_⟩
      have hb : b ≠ d := fun z => by
        subst z
        exact hm ((List.getElem?_inj (List.getElem?_eq_some_iff.mp e2).1 rs.nd).mp (e2.trans ea.symm))
      rw [upd_ne hb, e3]
      unfold loSet
      rw [if_neg hm]
  · have hm : m ≠ n := fun z => by rw [z, ln] at h; cases h
    exact rs.kind m (by unfold loSet; rw [if_neg hm]; exact h)
theorem Adv.thaw {ad0 : List Addr} {H0 : Hp} {d : Addr} {u : HO} (x : Adv ad0 H0 ad H) (hd : d ∈ ad0) (hn : ∀ o w, H0 d ≠ some (.frz o w)) : Adv ad0 H0 ad (upd H d u) :=
  ⟨x.pre, x.new, fun a p e n => by rw [upd_ne fun z => n (by rw [z]; exact hd)]; exact x.keep a p e n, fun a p w e => by rw [upd_ne fun z => hn p w (by rw [← z]; exact e)]; exact x.frz a p w e⟩
end
def lockAt (m : ME) (env : Env) (S : Sto) : Option Nat := match m env S with
  | .ok (.ref n) _ => match S.dct n with
    | some _ => if n ∈ S.lk then none else some n
    | none => none
  | _ => none
def unl {α : Type} (lk : List Nat) (r : R α) : R α := match r with
  | .ok a S => .ok a ⟨S.objs, lk⟩
  | _ => .no
/-- d is locked, then f -/
def locked {α : Type} (m : ME) (f : Nat → Env → Sto → R α) : Env → Sto → R α := fun env S => match lockAt m env S with
  | some n => unl S.lk (f n env ⟨S.objs, n :: S.lk⟩)
  | none => .no
/-- e (again) is the dict n; its entries -/
def dOf (m : ME) (n : Nat) (env : Env) (S : Sto) : R (List (Str × U)) := (m env S).bind fun u S1 => match u with
  | .ref k => if k = n then (match S1.dct n with
    | some kvs => .ok kvs S1
    | none => .no) else .no
  | _ => .no
def keysU (kvs : List (Str × U)) : List U := kvs.map fun p => .str p.1
def itemsU (kvs : List (Str × U)) : List U := kvs.map fun p => .tup [.str p.1, p.2]
def iD (m : ME) (view : List (Str × U) → List U) (n : Nat) : MI := fun env S => (dOf m n env S).bind fun kvs S1 => .ok (nxL (view kvs)) S1
/-- a frozen dict needs no lock -/
def iF (m : ME) (view : List (Str × U) → List U) : MI := fun env S => (m env S).bind fun u S1 => match u with
  | .fd kvs => .ok (nxL (view kvs)) S1
  | _ => .no
def isFd (m : ME) (env : Env) (S : Sto) : Bool := match m env S with
  | .ok (.fd _) _ => true
  | _ => false
def sForD (fuel : Nat) (m : ME) (view : List (Str × U) → List U) (g : MG) (b : MS) : MS := fun env S => if isFd m env S = true then sFor fuel (iF m view) g b env S else locked m (fun n => sFor fuel (iD m view n) g b) env S
def nCompD (fuel : Nat) (own : List Nat) (m : ME) (view : List (Str × U) → List U) (tg : Tg) (t : Env → Sto → R Bool) (e : ME) : MA := fun env S => if isFd m env S = true then nComp fuel own (iF m view) tg t e env S else locked m (fun n => nComp fuel own (iD m view n) tg t e) env S
section
variable {K : PySem.W.Frag} {E : XK}
theorem lock_case {m : ME} {env : Env} {S : Sto} {n : Nat} (h : lockAt m env S = some n) : ∃ kvs, S.dct n = some kvs ∧ n ∉ S.lk := by
  unfold lockAt at h
  split at h
  · split at h
    · split at h
      · cases h
      · cases h; exact ⟨_, by assumption, by assumption⟩
    · cases h
  · cases h
/-- under the lock: from the reading of what is locked to that of the whole -/
theorem lockS {m : ME} {f : Nat → MS} (t : Nat → TS) (ht : ∀ n D σ H, (∃ ad lo env S o, lo n = some o ∧ RS K ad lo H S ∧ REnv K ad H σ env ∧ GoF K E (f n env S) ad lo H D) → t n D σ H) (D : Ends) (σ : St) (H : Hp) (h : tSt K E (locked m f) D σ H) : ∃ n, tLock (t n) D σ H := by
  obtain ⟨ad, lo, env, S, rs, re, z⟩ := h
  unfold locked at z
  cases el : lockAt m env S with
  | none => simp only [el] at z; exact z.elim
  | some n =>
    simp only [el] at z
    obtain ⟨kvs, e, hl⟩ := lock_case el
    have hn : n < ad.length := by rw [rs.len]; exact (List.getElem?_eq_some_iff.mp (Sto.dct_eq e)).1
    have ea : ad[n]? = some ad[n] := List.getElem?_eq_getElem hn
    obtain ⟨ws, _, q, e2⟩ := rs.dk e ea
    have ln := rs.free hl
    rw [ln] at e2
    have e2' : H ad[n] = some (.dK (ws.map fun p => ((Sum.inr p.1 : Key), p.2))) := e2
    refine ⟨n, ad[n], _, e2', trivial, fun od => ht n _ σ _ ?_⟩
    obtain ⟨rs2, x2⟩ := rs.freeze e ea e2' od
    refine ⟨ad, loSet lo n od, env, _, od, by unfold loSet; rw [if_pos rfl], rs2, re.adv rs x2, ?_⟩
    have md : ad[n] ∈ ad := mem_of_get ea
    have nf : ∀ o w, H ad[n] ≠ some (.frz o w) := fun o w q => by rw [e2'] at q; cases q
    cases er : f n env ⟨S.objs, n :: S.lk⟩ with
    | no => rw [er] at z; exact z.elim
    | exc c fs S1 => rw [er] at z; exact z.elim
    | ok fl S1 =>
      rw [er] at z
      cases fl with
      | nx e3 =>
        intro ad' H' σ' x rs' re'
        have hf := x.frz _ _ _ upd_same
        exact ⟨hf, z ad' _ σ' ((x2.trans x).thaw md nf) (rs'.thaw (x.get ea) ln rs.lock hf) (re'.at (.fz hf (mem_of_get (x.get ea))))⟩
      | bk e3 =>
        intro ad' H' σ' x rs' re'
        have hf := x.frz _ _ _ upd_same
        exact ⟨hf, z ad' _ σ' ((x2.trans x).thaw md nf) (rs'.thaw (x.get ea) ln rs.lock hf) (re'.at (.fz hf (mem_of_get (x.get ea))))⟩
      | ct e3 =>
        intro ad' H' σ' x rs' re'
        have hf := x.frz _ _ _ upd_same
        exact ⟨hf, z ad' _ σ' ((x2.trans x).thaw md nf) (rs'.thaw (x.get ea) ln rs.lock hf) (re'.at (.fz hf (mem_of_get (x.get ea))))⟩
      | rt u =>
        intro ad' H' v x rs' ru
        have hf := x.frz _ _ _ upd_same
        exact ⟨hf, z ad' _ v ((x2.trans x).thaw md nf) (rs'.thaw (x.get ea) ln rs.lock hf) (ru.at (.fz hf (mem_of_get (x.get ea))))⟩
/-- the same for a new list -/
theorem lockN {m : ME} {f : Nat → MA} (t : Nat → TE) (ht : ∀ n σ H Q, (∃ ad lo env S o, lo n = some o ∧ RS K ad lo H S ∧ REnv K ad H σ env ∧ Go K E (RN K H) (f n env S) ad lo H Q) → t n σ H Q) (σ : St) (H : Hp) (Q : VK) (h : tN K E (locked m f) σ H Q) : ∃ n, tLockE (t n) σ H Q := by
  obtain ⟨ad, lo, env, S, rs, re, z⟩ := h
  unfold locked at z
  cases el : lockAt m env S with
  | none => simp only [el] at z; exact z.elim
  | some n =>
    simp only [el] at z
    obtain ⟨kvs, e, hl⟩ := lock_case el
    have hn : n < ad.length := by rw [rs.len]; exact (List.getElem?_eq_some_iff.mp (Sto.dct_eq e)).1
    have ea : ad[n]? = some ad[n] := List.getElem?_eq_getElem hn
    obtain ⟨ws, _, q, e2⟩ := rs.dk e ea
    have ln := rs.free hl
    rw [ln] at e2
    have e2' : H ad[n] = some (.dK (ws.map fun p => ((Sum.inr p.1 : Key), p.2))) := e2
    refine ⟨n, ad[n], _, e2', trivial, fun od => ht n σ _ _ ?_⟩
    obtain ⟨rs2, x2⟩ := rs.freeze e ea e2' od
    refine ⟨ad, loSet lo n od, env, _, od, by unfold loSet; rw [if_pos rfl], rs2, re.adv rs x2, ?_⟩
    have md : ad[n] ∈ ad := mem_of_get ea
    have nf : ∀ o w, H ad[n] ≠ some (.frz o w) := fun o w q => by rw [e2'] at q; cases q
    cases er : f n env ⟨S.objs, n :: S.lk⟩ with
    | no => rw [er] at z; exact z.elim
    | exc c fs S1 => rw [er] at z; exact z.elim
    | ok us S1 =>
      rw [er] at z
      rintro ad' H' v x rs' ⟨a, vs, rfl, ea', na, h0, q'⟩
      have hf := x.frz _ _ _ upd_same
      have nd : NoData ad' H' ad[n] := .fz hf (mem_of_get (x.get ea))
      have hne : a ≠ ad[n] := fun w => na (by rw [w]; exact mem_of_get (x.get ea))
      refine ⟨hf, z ad' _ _ ((x2.trans x).thaw md nf) (rs'.thaw (x.get ea) ln rs.lock hf) ⟨a, vs, rfl, by rw [upd_ne hne]; exact ea', na, ?_, q'.at nd⟩⟩
      rw [upd_ne hne] at h0
      exact h0
theorem PS.ex {X : Cx} {st : Stmt} {ι : Type} {t : ι → TS} (h : ∀ i, PS X st (t i)) : PS X st (fun D σ H => ∃ i, t i D σ H) := ⟨fun pins s σ H D I ⟨i, z⟩ => (h i).run pins s σ H D I z⟩
theorem PS.or {X : Cx} {st : Stmt} {t t' : TS} (h : PS X st t) (h' : PS X st t') : PS X st (fun D σ H => t D σ H ∨ t' D σ H) := ⟨fun pins s σ H D I z => z.elim (h.run pins s σ H D I) (h'.run pins s σ H D I)⟩
theorem PS.fz {X : Cx} {st : Stmt} {t : TS} (h : PS X st t) : PS X st (fun D σ H => t { D with nx := fun σ' H' => ∃ d u, H' d = some u ∧ Mut (some u) ∧ ∀ od, D.nx σ' (upd H' d (.frz od u)) } σ H) := ⟨fun pins s σ H D I z => thn (h.run pins s σ H _ I z) fun f s1 q => by
  cases f with
  | next =>
    obtain ⟨σ', H', I2, d, u, hd, mu, q⟩ := q
    obtain ⟨od, I3⟩ := I2.lock hd mu
    exact ⟨σ', _, I3, q od⟩
  | brk => exact q
  | cont => exact q
  | ret v => exact q⟩
theorem PE.ex {X : Cx} {e : Expr} {ι : Type} {t : ι → TE} (h : ∀ i, PE X e (t i)) : PE X e (fun σ H Q => ∃ i, t i σ H Q) := ⟨fun pins s σ H Q I ⟨i, z⟩ => (h i).run pins s σ H Q I z⟩
theorem dOf_ok {m : ME} {n : Nat} {ad : List Addr} {lo : Nat → Option Obj} {H : Hp} {S : Sto} {σ : St} {env : Env} {γ δ : Type} {rel2 : List Addr → Hp → γ → δ → Prop} {f : List (Str × U) → Sto → R γ} {Q : δ → Hp → Prop} (rs : RS K ad lo H S) (re : REnv K ad H σ env) (g : Go K E rel2 ((dOf m n env S).bind f) ad lo H Q) :
    tI K E m σ H fun x H1 => ∃ d kvs ws ad1 S1, x = .ref d ∧ Adv ad H ad1 H1 ∧ RS K ad1 lo H1 S1 ∧ ad1[n]? = some d ∧ S1.dct n = some kvs ∧ RF K ad1 H1 kvs ws ∧ H1 d = some (wrap (lo n) (.dK (ws.map fun p => ((Sum.inr p.1 : Key), p.2)))) ∧ Go K E rel2 (f kvs S1) ad1 lo H1 Q := by
  unfold dOf at g
  rw [R.bind_assoc] at g
  refine tE.imp (Go.seq (rel := RU K) rs re g) ?_
  rintro x H1 ⟨u, ad1, S1, x1, rs1, re1, ru, g1⟩
  cases u with
  | ref k =>
    simp only at g1
    split at g1
    · rename_i hk
      subst hk
      split at g1
      · rename_i kvs e
        obtain ⟨d, rfl, ea⟩ := ru.ref_of
        obtain ⟨ws, _, q, e2⟩ := rs1.dk e ea
        exact ⟨d, kvs, ws, ad1, S1, rfl, x1, rs1, ea, e, q, e2, g1⟩
      · exact g1.elim
    · exact g1.elim
  | _ => exact g1.elim
theorem RF.get {ad : List Addr} {H : Hp} : ∀ {kvs : List (Str × U)} {ws : List (Str × V)} {i : Nat} {p : Str × U}, RF K ad H kvs ws → kvs[i]? = some p → ∃ v, ws[i]? = some (p.1, v) ∧ RU K ad H p.2 v
  | _, _, 0, _, .cons h _, e => by
    rw [List.getElem?_cons_zero] at e
    cases e
    exact ⟨_, List.getElem?_cons_zero, h⟩
  | _, _, i + 1, _, .cons _ t, e => by
    rw [List.getElem?_cons_succ] at e
    obtain ⟨v, e1, q⟩ := RF.get t e
    exact ⟨v, by rw [List.getElem?_cons_succ]; exact e1, q⟩
  | _, _, _, _, .nil, e => by rw [List.getElem?_nil] at e; cases e
theorem key_at {ad : List Addr} {H : Hp} {kvs : List (Str × U)} {ws : List (Str × V)} (q : RF K ad H kvs ws) (i : Nat) : match kvs[i]? with
    | none => (ws.map fun p => ((Sum.inr p.1 : Key), p.2)).length ≤ i
    | some p => i < (ws.map fun p => ((Sum.inr p.1 : Key), p.2)).length ∧ ∃ v, (ws.map fun p => ((Sum.inr p.1 : Key), p.2))[i]? = some (Sum.inr p.1, v) ∧ RU K ad H p.2 v := by
  cases e : kvs[i]? with
  | none =>
    have h := List.getElem?_eq_none_iff.mp e
    show _ ≤ i
    rw [List.length_map, ← q.length]
    exact h
  | some p =>
    obtain ⟨v, e1, r⟩ := q.get e
    have e2 : (ws.map fun p => ((Sum.inr p.1 : Key), p.2))[i]? = some (Sum.inr p.1, v) := by rw [List.getElem?_map, e1]; rfl
    exact ⟨(List.getElem?_eq_some_iff.mp e2).1, v, e2, r⟩
theorem RIt.keys {ad : List Addr} {lo : Nat → Option Obj} {S : Sto} {H : Hp} {d : Addr} {o : Obj} {kvs : List (Str × U)} {ws : List (Str × V)} (rs0 : RS K ad lo H S) (q : RF K ad H kvs ws) (hd : H d = some (.frz o (.dK (ws.map fun p => ((Sum.inr p.1 : Key), p.2))))) : RIt K ad H (nxL (keysU kvs)) (Itk d o (ws.map fun p => ((Sum.inr p.1 : Key), p.2))) := by
  intro ad1 lo1 H1 S1 i x rs
  have hd1 := x.frz _ _ _ hd
  have ka := key_at q i
  unfold nxL keysU
  rw [List.getElem?_map]
  cases e : kvs[i]? with
  | none => rw [e] at ka; exact ⟨hd1, ka⟩
  | some p =>
    rw [e] at ka
    obtain ⟨hl, v, e2, _⟩ := ka
    refine ⟨⟨hd1, hl⟩, fun y H' hy => ?_⟩
    obtain ⟨rfl, k, w, e3, rfl⟩ := hy
    rw [e2] at e3
    cases e3
    exact ⟨Adv.refl, rs, .str _⟩
theorem RIt.items {ad : List Addr} {lo : Nat → Option Obj} {S : Sto} {H : Hp} {d : Addr} {o : Obj} {kvs : List (Str × U)} {ws : List (Str × V)} (rs0 : RS K ad lo H S) (q : RF K ad H kvs ws) (hd : H d = some (.frz o (.dK (ws.map fun p => ((Sum.inr p.1 : Key), p.2))))) : RIt K ad H (nxL (itemsU kvs)) (Iti d o (ws.map fun p => ((Sum.inr p.1 : Key), p.2))) := by
  intro ad1 lo1 H1 S1 i x rs
  have hd1 := x.frz _ _ _ hd
  have ka := key_at (q.adv rs0 x) i
  unfold nxL itemsU
  rw [List.getElem?_map]
  cases e : kvs[i]? with
  | none => rw [e] at ka; exact ⟨hd1, ka⟩
  | some p =>
    rw [e] at ka
    obtain ⟨hl, v, e2, r⟩ := ka
    refine ⟨⟨hd1, hl⟩, fun y H' hy => ?_⟩
    obtain ⟨T, k, w, e3, rfl, hT, rfl⟩ := hy
    rw [e2] at e3
    cases e3
    obtain ⟨rs', x', ru'⟩ := rs.tup hT (.cons (.str p.1) (.cons r .nil))
    exact ⟨x', rs', ru'⟩
end
section
variable {X : Cx} {E : XK} {tg e : Expr} {m : ME} {apos cpos : Pos}
/-- for k in d, the dict locked -/
theorem si_keys {n : Nat} (he : PE X e (tI X.K E m)) : PI X tg e (fun σ H R => ∃ ad lo env S o, lo n = some o ∧ RS X.K ad lo H S ∧ REnv X.K ad H σ env ∧ Go X.K E (RIt X.K) (iD m keysU n env S) ad lo H R) :=
  PI.by (pi_keys he) fun σ H R' h => by
    obtain ⟨ad, lo, env, S, o, hlo, rs, re, z⟩ := h
    refine tE.imp (dOf_ok rs re z) ?_
    rintro x H1 ⟨d, kvs, ws, ad1, S1, rfl, x1, rs1, ea, e, q, e2, z1⟩
    rw [hlo] at e2
    exact ⟨d, o, rfl, .inl ⟨_, e2, z1 ad1 H1 _ Adv.refl rs1 (RIt.keys rs1 q e2)⟩⟩
theorem si_items {n : Nat} {elts : List Expr} {kk : Nat} {tpos : Pos} (he : PE X e (tI X.K E m)) (hbase : attributeBase e "items" X.env (eval e X.env) = eval e X.env := by rfl) (hline : (apos.endLine == cpos.line) = true := by rfl) : PI X (.Tuple elts kk tpos) (.Call (.Attribute e "items" apos) [] [] cpos) (fun σ H R => ∃ ad lo env S o, lo n = some o ∧ RS X.K ad lo H S ∧ REnv X.K ad H σ env ∧ Go X.K E (RIt X.K) (iD m itemsU n env S) ad lo H R) :=
  PI.by (pi_items he hbase hline) fun σ H R' h => by
    obtain ⟨ad, lo, env, S, o, hlo, rs, re, z⟩ := h
    refine tE.imp (dOf_ok rs re z) ?_
    rintro x H1 ⟨d, kvs, ws, ad1, S1, rfl, x1, rs1, ea, e, q, e2, z1⟩
    rw [hlo] at e2
    exact ⟨d, o, _, rfl, e2, z1 ad1 H1 _ Adv.refl rs1 (RIt.items rs1 q e2)⟩
theorem iF_ok {K : PySem.W.Frag} {view : List (Str × U) → List U} {σ : St} {H : Hp} {R' : It → Hp → Prop} (h : tE K E (RIt K) (iF m view) σ H R') :
    tI K E m σ H fun x H1 => ∃ d o kvs ws ad1 lo S1, x = .ref d ∧ RS K ad1 lo H1 S1 ∧ RF K ad1 H1 kvs ws ∧ H1 d = some (.frz o (.dK (ws.map fun p => ((Sum.inr p.1 : Key), p.2)))) ∧ Go K E (RIt K) (.ok (nxL (view kvs)) S1) ad1 lo H1 R' := by
  obtain ⟨ad, lo, env, S, rs, re, z⟩ := h
  refine tE.imp (Go.seq (rel := RU K) rs re z) ?_
  rintro x H1 ⟨u, ad1, S1, x1, rs1, re1, ru, z1⟩
  cases ru with
  | fd hd nd q => exact ⟨_, _, _, _, ad1, lo, S1, rfl, rs1, q, hd, z1⟩
  | _ => exact z1.elim
theorem sf_keys (he : PE X e (tI X.K E m)) : SI X E tg e (iF m keysU) :=
  PI.by (pi_keys he) fun σ H R' h => by
    refine tE.imp (iF_ok h) ?_
    rintro x H1 ⟨d, o, kvs, ws, ad1, lo, S1, rfl, rs1, q, hd, z1⟩
    exact ⟨d, o, rfl, .inl ⟨_, hd, z1 ad1 H1 _ Adv.refl rs1 (RIt.keys rs1 q hd)⟩⟩
theorem sf_items {elts : List Expr} {kk : Nat} {tpos : Pos} (he : PE X e (tI X.K E m)) (hbase : attributeBase e "items" X.env (eval e X.env) = eval e X.env := by rfl) (hline : (apos.endLine == cpos.line) = true := by rfl) : SI X E (.Tuple elts kk tpos) (.Call (.Attribute e "items" apos) [] [] cpos) (iF m itemsU) :=
  PI.by (pi_items he hbase hline) fun σ H R' h => by
    refine tE.imp (iF_ok h) ?_
    rintro x H1 ⟨d, o, kvs, ws, ad1, lo, S1, rfl, rs1, q, hd, z1⟩
    exact ⟨d, o, _, rfl, hd, z1 ad1 H1 _ Adv.refl rs1 (RIt.items rs1 q hd)⟩
end
theorem GoF.turn {K : PySem.W.Frag} {E : XK} {α β : Type} {rel : List Addr → Hp → α → β → Prop} {r : R α} {f : α → Sto → R Fl} {ad : List Addr} {lo : Nat → Option Obj} {H : Hp} {D : Ends} (g : GoF K E (r.bind f) ad lo H D) : Go K E rel r ad lo H fun x H1 => ∃ a ad1 S1, Adv ad H ad1 H1 ∧ RS K ad1 lo H1 S1 ∧ rel ad1 H1 a x ∧ GoF K E (f a S1) ad1 lo H1 D := by
  cases r with
  | ok a S1 => exact fun ad' H' v x rs' q => ⟨a, ad', S1, x, rs', q, GoF.adv g x⟩
  | exc c fs S1 => exact g
  | no => exact g
theorem Go.step {K : PySem.W.Frag} {E : XK} {α β γ δ : Type} {rel : List Addr → Hp → α → β → Prop} {rel2 : List Addr → Hp → γ → δ → Prop} {r : R α} {f : α → Sto → R γ} {ad : List Addr} {lo : Nat → Option Obj} {H : Hp} {Q : δ → Hp → Prop} (g : Go K E rel2 (r.bind f) ad lo H Q) : Go K E rel r ad lo H fun x H1 => ∃ a ad1 S1, Adv ad H ad1 H1 ∧ RS K ad1 lo H1 S1 ∧ rel ad1 H1 a x ∧ Go K E rel2 (f a S1) ad1 lo H1 Q := by
  cases r with
  | ok a S1 => exact fun ad' H' v x rs' q => ⟨a, ad', S1, x, rs', q, Go.adv g x⟩
  | exc c fs S1 => exact g
  | no => exact g
section
variable {X : Cx} {E : XK} {tg it elt : Expr} {ifs : List Expr} {scope : Scope} {own : List (Str × Nat)} {m : ME} {t : Tg} {g : MG} {b : MS} {body : List Stmt} {mt : Env → Sto → R Bool} {me : ME} {pos : Pos} {view : List (Str × U) → List U}
/-- what a walk of a locked dict reads -/
def tD (K : PySem.W.Frag) (E : XK) (m : ME) (view : List (Str × U) → List U) (n : Nat) : TI := fun σ H R => ∃ ad lo env S o, lo n = some o ∧ RS K ad lo H S ∧ REnv K ad H σ env ∧ Go K E (RIt K) (iD m view n env S) ad lo H R
theorem ss_forD {fuel : Nat} (hp : PassesOwn (model X.prog X.w) X.A X.env X.xe) (hc : X.calm = true) (hi : ∀ n, PI X tg it (tD X.K E m view n)) (hf : SI X E tg it (iF m view)) (hg : SG X E tg g) (hb : SSs X E body b) (hs : ∀ x, foldedSetIterable it X.env x = pure x := by intro _; rfl) : SS X E (.For tg it body [] pos) (sForD fuel m view g b) := by
  refine PS.by (PS.or (ss_for (fuel := fuel) hp hc hf hg hb hs) (PS.ex fun n => ps_lock (ps_for hp hc (hi n) hg hb hs))) fun D σ H h => ?_
  obtain ⟨ad, lo, env, S, rs, re, z⟩ := h
  unfold sForD at z
  split at z
  · exact .inl ⟨ad, lo, env, S, rs, re, z⟩
  refine .inr (lockS _ (fun n D σ H h => ?_) D σ H ⟨ad, lo, env, S, rs, re, z⟩)
  obtain ⟨ad, lo, env, S, o, hlo, rs, re, z⟩ := h
  refine ⟨ad, lo, env, S, o, hlo, rs, re, Go.imp (GoF.turn z) ?_⟩
  rintro J H1 ⟨nx, ad1, S1, x1, rs1, rJ, z1⟩
  exact for_go rJ rs1 (re.adv rs x1) z1
theorem tD_comp {K : PySem.W.Frag} {fuel n : Nat} {vs : List Nat} (hts : ∀ i ∈ t.slots, i ∈ vs) (σ : St) (H : Hp) (Q : VK) (h : ∃ ad lo env S o, lo n = some o ∧ RS K ad lo H S ∧ REnv K ad H σ env ∧ Go K E (RN K H) (nComp fuel vs (iD m view n) t mt me env S) ad lo H Q) : tLc (tD K E m view n) (t.h K) (tE K E00 rB mt) (tI K E00 me) vs σ H Q := by
  obtain ⟨ad, lo, env, S, o, hlo, rs, re, z⟩ := h
  refine ⟨ad, lo, env, S, o, hlo, rs, re, Go.imp (Go.step z) ?_⟩
  rintro J H1 ⟨nx, ad1, S1, x1, rs1, rJ, z1⟩
  exact comp_go hts (fun D hD => (new_ahead x1 rs1 hD).1) rJ rs1 ((re.adv rs x1).wipe vs) z1
theorem sn_compD {fuel : Nat} (hc : X.calm = true) (hN : X.N.Nodup) (hi : ∀ n, PI X tg it (tD X.K E m view n)) (hf : SI X E tg it (iF m view)) (ok : BlkOk X.N X.env.scope scope own) (hts : ∀ i ∈ t.slots, i ∈ own.map (·.2))
    (hg : ∀ (s : Shared) (H : Hp) (C : Addr) (cl : List (Str × Addr)) (fp : List Addr), PG (X.blk s H scope (compEnvC scope cl C X.env) fp) tg (t.h X.K)) (ht : ∀ (s : Shared) (H : Hp) (C : Addr) (cl : List (Str × Addr)) (fp : List Addr), PTs (X.blk s H scope (compEnvC scope cl C X.env) fp) ifs (tE X.K E00 rB mt))
    (he : ∀ (s : Shared) (H : Hp) (C : Addr) (cl : List (Str × Addr)) (fp : List Addr), PE (X.blk s H scope (compEnvC scope cl C X.env) fp) elt (tI X.K E00 me)) (hs : ∀ x, foldedSetIterable it X.env x = pure x := by intro _; rfl) :
    SN X E (.ListComp elt [⟨tg, it, ifs, 0⟩] scope pos) (nCompD fuel (own.map (·.2)) m view t mt me) :=
  PE.by (PE.or (sn_comp (fuel := fuel) hc hN hf ok hts hg ht he hs) (PE.ex fun n => pe_lock (pe_lc hc hN (hi n) ok hg ht he hs))) fun σ H Q h => by
    obtain ⟨ad, lo, env, S, rs, re, z⟩ := h
    unfold nCompD at z
    split at z
    · exact .inl ⟨ad, lo, env, S, rs, re, z⟩
    · exact .inr (lockN _ (fun n => tD_comp hts) σ H Q ⟨ad, lo, env, S, rs, re, z⟩)
theorem tAsg_fz {X : Cx} {E : XK} {m : MA} {i : Nat} {D : Ends} {σ : St} {H : Hp} (h : tSt X.K E (sAsg (xNewF m) (gN i)) D σ H) : tN X.K E m σ H fun v H1 => ∃ d u, H1 d = some u ∧ Mut (some u) ∧ ∀ od, D.nx (σ.set i (some v)) (upd H1 d (.frz od u)) := by
  have h1 : tI X.K E (xNewF m) σ H fun v H1 => D.nx (σ.set i (some v)) H1 := by
    obtain ⟨ad, lo, env, S, rs, re, z⟩ := h
    refine tE.imp (GoF.seq (rel := RU X.K) rs re z) ?_
    rintro v H1 ⟨u, ad1, S1, x1, rs1, re1, ru, z1⟩
    exact z1 ad1 H1 _ Adv.refl rs1 (re1.set ru)
  exact tE.imp (tI_newF σ H _ h1) fun v H1 ⟨d, u, _, a, b, c⟩ => ⟨d, u, a, b, c⟩
/-- y = [..] on one line, y a local, frozen -/
theorem ss_setLcF {fuel i : Nat} {y : Str} {py spos : Pos} {m : MI} (hc : X.calm = true) (hN : X.N.Nodup) (hy : X.N[i]? = some y) (hyl : X.env.scope.names.lookup y = some .local)
    (hsw : swapsWith (.ListComp elt [⟨tg, it, ifs, 0⟩] scope pos) (some (.Name y py)) spos.line X.env = pure true) (hi : SI X E tg it m) (ok : BlkOk X.N X.env.scope scope own) (hts : ∀ i ∈ t.slots, i ∈ own.map (·.2))
    (hg : ∀ (s : Shared) (H : Hp) (C : Addr) (cl : List (Str × Addr)) (fp : List Addr), PG (X.blk s H scope (compEnvC scope cl C X.env) fp) tg (t.h X.K)) (ht : ∀ (s : Shared) (H : Hp) (C : Addr) (cl : List (Str × Addr)) (fp : List Addr), PTs (X.blk s H scope (compEnvC scope cl C X.env) fp) ifs (tE X.K E00 rB mt))
    (he : ∀ (s : Shared) (H : Hp) (C : Addr) (cl : List (Str × Addr)) (fp : List Addr), PE (X.blk s H scope (compEnvC scope cl C X.env) fp) elt (tI X.K E00 me)) (hs : ∀ x, foldedSetIterable it X.env x = pure x := by intro _; rfl) :
    SS X E (.Assign [.Name y py] (.ListComp elt [⟨tg, it, ifs, 0⟩] scope pos) spos) (sAsg (xNewF (nComp fuel (own.map (·.2)) m t mt me)) (gN i)) :=
  PS.by (PS.fz (ps_setLc (i := i) hc hN hy hyl hsw hi ok hg ht he hs)) fun D σ H h => tN_comp hts σ H _ (tAsg_fz h)
theorem ss_setLcD {fuel i : Nat} {y : Str} {py spos : Pos} (hc : X.calm = true) (hN : X.N.Nodup) (hy : X.N[i]? = some y) (hyl : X.env.scope.names.lookup y = some .local)
    (hsw : swapsWith (.ListComp elt [⟨tg, it, ifs, 0⟩] scope pos) (some (.Name y py)) spos.line X.env = pure true) (hi : ∀ n, PI X tg it (tD X.K E m view n)) (hf : SI X E tg it (iF m view)) (ok : BlkOk X.N X.env.scope scope own) (hts : ∀ i ∈ t.slots, i ∈ own.map (·.2))
    (hg : ∀ (s : Shared) (H : Hp) (C : Addr) (cl : List (Str × Addr)) (fp : List Addr), PG (X.blk s H scope (compEnvC scope cl C X.env) fp) tg (t.h X.K)) (ht : ∀ (s : Shared) (H : Hp) (C : Addr) (cl : List (Str × Addr)) (fp : List Addr), PTs (X.blk s H scope (compEnvC scope cl C X.env) fp) ifs (tE X.K E00 rB mt))
    (he : ∀ (s : Shared) (H : Hp) (C : Addr) (cl : List (Str × Addr)) (fp : List Addr), PE (X.blk s H scope (compEnvC scope cl C X.env) fp) elt (tI X.K E00 me)) (hs : ∀ x, foldedSetIterable it X.env x = pure x := by intro _; rfl) :
    SS X E (.Assign [.Name y py] (.ListComp elt [⟨tg, it, ifs, 0⟩] scope pos) spos) (sAsg (xNewF (nCompD fuel (own.map (·.2)) m view t mt me)) (gN i)) := by
  refine PS.by (PS.fz (PS.or (ps_setLc (i := i) hc hN hy hyl hsw hf ok hg ht he hs) (PS.ex fun n => ps_lock (ps_setLc (i := i) hc hN hy hyl hsw (hi n) ok hg ht he hs)))) fun D σ H h => ?_
  obtain ⟨ad, lo, env, S, rs, re, z⟩ := tAsg_fz h
  unfold nCompD at z
  split at z
  · exact .inl (tN_comp hts σ H _ ⟨ad, lo, env, S, rs, re, z⟩)
  · refine .inr ?_
    obtain ⟨n, d, u, e1, e2, k⟩ := lockN _ (fun n => tD_comp hts) σ H _ ⟨ad, lo, env, S, rs, re, z⟩
    exact ⟨n, d, u, e1, e2, k⟩
end
def xD0 : ME := fun _ S => alloc (.dct []) S
def xD0F : ME := fun _ S => .ok (.fd []) S
abbrev MP := Env → Sto → R (List (Str × U))
def pNil : MP := fun _ S => .ok [] S
def pCons (k v : ME) (r : MP) : MP := fun env S => (k env S).bind fun u S1 => (v env S1).bind fun w S2 => (r env S2).bind fun ps S3 => match u with
  | .str x => .ok ((x, w) :: ps) S3
  | _ => .no
def mergeU (ps : List (Str × U)) : List (Str × U) := ps.foldl (fun acc p => putKU p.1 p.2 acc) []
def xDisp (p : MP) : ME := fun env S => (p env S).bind fun ps S1 => if ps.length ≤ 15 then alloc (.dct (mergeU ps)) S1 else .no
section
variable {X : Cx} {E : XK} {pos : Pos}
theorem se_d0F : SE X E (.Dict [] [] pos) xD0F := .of (PE.by (PE.fz pe_dnewK) fun σ H Q h => by
  obtain ⟨ad, lo, env, S, rs, re, g⟩ := h
  exact fun p hp => rs.fzD (ws := []) .nil g hp)
theorem se_d0 : SE X E (.Dict [] [] pos) xD0 := .of (PE.by pe_dnewK fun σ H Q h => by
  obtain ⟨ad, lo, env, S, rs, re, g⟩ := h
  intro p hp
  obtain ⟨rs', x⟩ := rs.push (o := .dct []) (u := .dK []) hp (by intro _ z; cases z) (.dct (ws := []) .nil)
  refine g _ _ _ x rs' (.ref ?_)
  rw [← rs.len, List.getElem?_append_right (Nat.le_refl _), Nat.sub_self]
  rfl)
end
end VI
set_option Elab.async false
set_option linter.all false
set_option maxRecDepth 100000
set_option maxHeartbeats 4000000
namespace VI
open PySem L2
def pAll : List (ME × ME) → MP
  | [] => pNil
  | p :: r => pCons p.1 p.2 (pAll r)
section
variable {K : PySem.W.Frag} {E : XK} {ad : List Addr} {lo : Nat → Option Obj} {H : Hp} {S : Sto} {D : Addr} {o : HO}
theorem RS.at (rs : RS K ad lo H S) (hD : NoData ad H D) (nD : D ∉ ad) : RS K ad lo (upd H D o) S :=
  ⟨rs.len, rs.nd, fun n p e => let ⟨a, u, e1, ro, e2⟩ := rs.obj n p e; ⟨a, u, e1, ro.at hD, by rw [upd_ne fun z => nD (by rw [← z]; exact mem_of_get e1)]; exact e2⟩, rs.lock, rs.kind⟩
theorem merge_ok : ∀ {ps : List (Str × U)} {qs : List (Str × V)} {acc : List (Str × U)} {bcc : List (Str × V)}, RF K ad H ps qs → RF K ad H acc bcc →
    ∃ ws, mergeK (bcc.map fun p => ((Sum.inr p.1 : Key), p.2)) (qs.map fun p => ((Sum.inr p.1 : Key), p.2)) = ws.map (fun p => ((Sum.inr p.1 : Key), p.2)) ∧ RF K ad H (ps.foldl (fun acc p => putKU p.1 p.2 acc) acc) ws
  | _, _, _, bcc, .nil, r => ⟨bcc, rfl, r⟩
  | (x, u) :: ps, (_, v) :: qs, acc, bcc, .cons q t, r => by
    obtain ⟨ws, e, r'⟩ := r.putK (k := x) q
    obtain ⟨ws', e', r''⟩ := merge_ok t r'
    refine ⟨ws', ?_, r''⟩
    unfold mergeK at e' ⊢
    rw [List.map_cons, List.foldl_cons, ← e', e]
theorem tPairs_imp {σ : St} : ∀ (trs : List (ME × ME)) (H : Hp) {Q Q' : List (V × V) → Hp → Prop}, tPairs (trs.map fun p => (tI K E p.1, tI K E p.2)) σ H Q → (∀ vs H', Q vs H' → Q' vs H') → tPairs (trs.map fun p => (tI K E p.1, tI K E p.2)) σ H Q'
  | [], H, Q, Q', h, k => k _ _ h
  | (a, b) :: r, H, Q, Q', h, k => tE.imp (show tI K E a σ H _ from h) fun x H1 h1 => tE.imp (show tI K E b σ H1 _ from h1) fun y H2 h2 => tPairs_imp r H2 h2 fun vs H' q => k _ _ q
/-- a meaning, then the rest, told from an earlier heap on -/
theorem Go.seqB {α β γ δ : Type} {rel : List Addr → Hp → α → β → Prop} {rel2 : List Addr → Hp → γ → δ → Prop} {adB : List Addr} {HB : Hp} {σ : St} {env : Env} {m : Env → Sto → R α} {f : α → Sto → R γ} {Q : δ → Hp → Prop} (rs : RS K ad lo H S) (re : REnv K ad H σ env) (xB : Adv adB HB ad H) (g : Go K E rel2 ((m env S).bind f) adB lo HB Q) :
    tE K E rel m σ H fun x H1 => ∃ a ad1 S1, Adv ad H ad1 H1 ∧ RS K ad1 lo H1 S1 ∧ REnv K ad1 H1 σ env ∧ rel ad1 H1 a x ∧ Go K E rel2 (f a S1) adB lo HB Q := by
  refine ⟨ad, lo, env, S, rs, re, ?_⟩
  cases e : m env S with
  | ok a S1 =>
    rw [e] at g
    exact fun ad' H' v x rs' q => ⟨a, ad', S1, x, rs', re.adv rs x, q, g⟩
  | exc c fs S1 => rw [e] at g; exact fun ad' H' C d x rs' q => g ad' H' C d (xB.trans x) rs' q
  | no => rw [e] at g; exact g
/-- the pairs, from the left -/
theorem pairs_go {γ δ : Type} {rel2 : List Addr → Hp → γ → δ → Prop} {σ : St} {env : Env} {Q : δ → Hp → Prop} {adB : List Addr} {HB : Hp} : ∀ (ps : List (ME × ME)) {ad : List Addr} {H : Hp} {S : Sto} {f : List (Str × U) → Sto → R γ}, RS K ad lo H S → REnv K ad H σ env → Adv adB HB ad H → Go K E rel2 ((pAll ps env S).bind f) adB lo HB Q →
    tPairs (ps.map fun p => (tI K E p.1, tI K E p.2)) σ H fun vs H1 => ∃ kvs qs ad1 S1, vs = qs.map (fun p => (V.str p.1, p.2)) ∧ Adv ad H ad1 H1 ∧ RS K ad1 lo H1 S1 ∧ RF K ad1 H1 kvs qs ∧ Go K E rel2 (f kvs S1) adB lo HB Q
  | [], ad, H, S, f, rs, re, xB, g => ⟨[], [], ad, S, rfl, Adv.refl, rs, .nil, g⟩
  | (k, v) :: ps, ad, H, S, f, rs, re, xB, g => by
    unfold pAll pCons at g
    rw [R.bind_assoc] at g
    refine tE.imp (Go.seqB (rel := RU K) rs re xB g) ?_
    rintro x H1 ⟨u, ad1, S1, x1, rs1, re1, ru, g1⟩
    rw [R.bind_assoc] at g1
    refine tE.imp (Go.seqB (rel := RU K) rs1 re1 (xB.trans x1) g1) ?_
    rintro y H2 ⟨w, ad2, S2, x2, rs2, re2, rw, g2⟩
    rw [R.bind_assoc] at g2
    refine tPairs_imp ps H2 (pairs_go ps rs2 re2 ((xB.trans x1).trans x2) g2) ?_
    rintro vs H3 ⟨kvs, qs, ad3, S3, rfl, x3, rs3, rf, g3⟩
    cases ru with
    | str z => exact ⟨(z, w) :: kvs, (z, y) :: qs, ad3, S3, rfl, (x1.trans x2).trans x3, rs3, .cons (rw.adv rs2 x3) rf, g3⟩
    | _ => exact g3.elim
/-- a new dict taken into the store -/
theorem newD {ad0 : List Addr} {H0 : Hp} {Q : VK} {kvs : List (Str × U)} {ws : List (Str × V)} {p : Addr} {kw : List (Key × V)} (x : Adv ad0 H0 ad H) (rs : RS K ad lo H S) (h0 : H0 p = none) (np : p ∉ ad) (hp : H p = some (.dK kw)) (q : RF K ad H kvs ws) (g : Go K E (RU K) (alloc (.dct kvs) S) ad0 lo H0 Q) :
    Q (.ref p) (upd H p (.dK (ws.map fun p => ((Sum.inr p.1 : Key), p.2)))) := by
  have nd : NoData ad H p := .dk hp
  have rs1 : RS K ad lo (upd H p (.dK (ws.map fun p => ((Sum.inr p.1 : Key), p.2)))) S := rs.at nd np
  obtain ⟨rs2, x2, ru⟩ := rs1.adopt np upd_same (.dct (q.at nd))
  exact g _ _ _ (x2 (x.side h0) h0) rs2 ru
end
section
variable {X : Cx} {E : XK} {pos : Pos} {keys : List (Option Expr)} {values : List Expr} {ps : List (ME × ME)}
/-- the pairs of a display and their meanings -/
abbrev SP (X : Cx) (E : XK) (pos : Pos) (keys : List (Option Expr)) (values : List Expr) (ps : List (ME × ME)) : Prop := PPs X pos keys values (ps.map fun p => (tI X.K E p.1, tI X.K E p.2))
theorem sp_nil : SP X E pos [] [] [] := pps_nil
theorem sp_cons {k v : Expr} {mk mv : ME} (hk : PE X k (tI X.K E mk)) (hv : PE X v (tI X.K E mv)) (hr : SP X E pos keys values ps) : SP X E pos (some k :: keys) (v :: values) ((mk, mv) :: ps) := pps_cons hk hv hr
theorem se_disp (h : SP X E pos keys values ps) (hall : keys.all (·.isSome) = true := by rfl) (hl : keys.length = values.length := by rfl) (h0 : keys ≠ [] := by intro z; cases z) (h15 : keys.length ≤ 15 := by decide) : SE X E (.Dict keys values pos) (xDisp (pAll ps)) :=
  .of (PE.by (pe_disp h hall hl h0 h15) fun σ H Q h => by
    obtain ⟨ad, lo, env, S, rs, re, g⟩ := h
    intro p hp
    obtain ⟨rs', x'⟩ := rs.grow (u := .dK []) hp
    have np := (new_ahead Adv.refl rs hp).2
    refine tPairs_imp ps _ (pairs_go ps rs' (re.adv rs x') x' g) ?_
    rintro vs H1 ⟨kvs, qs, ad1, S1, rfl, x1, rs1, rf, g1⟩
    have e1 : H1 p = some (.dK []) := x1.keep _ _ upd_same np
    have np1 : p ∉ ad1 := fun z => by
      rcases x1.new p z with w | w
      · exact np w
      · rw [upd_same] at w; cases w
    split at g1
    · rename_i hlen
      refine ⟨e1, qs.map fun p => ((Sum.inr p.1 : Key), p.2), by rw [List.map_map]; rfl, by rw [List.length_map, ← rf.length]; exact hlen, ?_⟩
      obtain ⟨ws, ew, rw⟩ := merge_ok (acc := []) (bcc := []) rf .nil
      rw [List.map_nil] at ew
      rw [ew]
      exact newD (x'.trans x1) rs1 hp np1 e1 rw g1
    · exact g1.elim)
end
def dLoop (nx : Nx) (tg : Tg) (t : Env → Sto → R Bool) (k v : ME) : Nat → Nat → Env → Sto → List (Str × U) → R (List (Str × U))
  | 0, _, _, _, _ => .no
  | f + 1, i, env, S, acc => match nx i S with
    | none => .no
    | some none => .ok acc S
    | some (some u) => match tg.set u env with
      | none => .no
      | some env' => (t env' S).nox.bind fun b S1 => if b = true then (k env' S1).nox.bind fun x S2 => (v env' S2).nox.bind fun w S3 => match x with
          | .str x => if acc.length < sizeLine then dLoop nx tg t k v f (i + 1) env S3 (putKU x w acc) else .no
          | _ => .no
        else dLoop nx tg t k v f (i + 1) env S1 acc
def xDcompF (fuel : Nat) (own : List Nat) (m : MI) (tg : Tg) (t : Env → Sto → R Bool) (k v : ME) : ME := fun env S => (m env S).bind fun nx S1 => (dLoop nx tg t k v fuel 0 (wipeU env own) S1 []).bind fun kvs S2 => .ok (.fd kvs) S2
section
variable {X : Cx} {E : XK} {tg it kx vx : Expr} {ifs : List Expr} {scope : Scope} {own : List (Str × Nat)} {m : MI} {t : Tg} {mt : Env → Sto → R Bool} {mk mv : ME} {pos : Pos}
theorem dcomp_goF {K : PySem.W.Frag} {fuel : Nat} {nx : Nx} {J : It} {ad0 : List Addr} {H0 : Hp} {Q : VK} {σ : St} {env : Env} {S : Sto} {lo : Nat → Option Obj} {vs : List Nat} (hts : ∀ i ∈ t.slots, i ∈ vs) (rJ : RIt K ad0 H0 nx J) (rs : RS K ad0 lo H0 S) (re : REnv K ad0 H0 (L2.wipe σ vs) env)
    (z : Go K E (RU K) ((dLoop nx t mt mk mv fuel 0 env S []).bind fun kvs S2 => .ok (.fd kvs) S2) ad0 lo H0 Q) :
    ∀ D, H0 D = none → ∃ W : Nat → Nat → Hp → Prop, (∃ m, W 0 m (upd H0 D (.dK []))) ∧ ∀ i m H, W i m H → (J.stop i H ∧ fz Q (.ref D) H) ∨ (J.go i H ∧ ∃ Nx : Hp → Prop, (∀ H', Nx H' → ∃ m', m' < m ∧ W (i + 1) m' H') ∧ ∀ x H', J.yld i H x H' → t.h K x (L2.wipe σ vs) H' fun σ2 H2 => L2.wipe σ2 vs = L2.wipe σ vs ∧
      tE K E00 rB mt σ2 H2 fun b H3 => if b = true then tI K E00 mk σ2 H3 fun y H4 => tI K E00 mv σ2 H4 fun z H5 => ∃ kvs k, y = kV k ∧ H5 D = some (.dK kvs) ∧ kvs.length < sizeLine ∧ Nx (upd H5 D (.dK (putK kvs k z))) else Nx H3) := by
  intro D hD
  refine ⟨fun i k H => ∃ ad S us ws, Adv ad0 H0 ad H ∧ RS K ad lo H S ∧ REnv K ad H (L2.wipe σ vs) env ∧ D ∉ ad ∧ H D = some (.dK (ws.map fun p => ((Sum.inr p.1 : Key), p.2))) ∧ RF K ad H us ws ∧ Go K E (RU K) ((dLoop nx t mt mk mv k i env S us).bind fun kvs S2 => .ok (.fd kvs) S2) ad0 lo H0 Q, ⟨fuel, ?_⟩, ?_⟩
  · obtain ⟨rs', x'⟩ := rs.grow (u := .dK []) hD
    exact ⟨ad0, S, [], [], x', rs', re.adv rs x', (new_ahead Adv.refl rs hD).2, upd_same, .nil, z⟩
  rintro i k H ⟨ad, S, us, ws, x, rs, re, nD, eD, q, z⟩
  cases k with
  | zero => exact z.elim
  | succ k =>
    have hJ := rJ ad lo H S i x rs
    unfold dLoop at z
    cases e : nx i S with
    | none => simp only [e] at z; exact z.elim
    | some o =>
      cases o with
      | none =>
        simp only [e] at z hJ
        refine .inl ⟨hJ, ?_⟩
        exact ⟨D, _, rfl, eD, trivial, fun od => z _ _ _ (x.side hD) (rs.plain eD trivial nD) (.fd upd_same nD (q.plain eD trivial))⟩
      | some u =>
        simp only [e] at z hJ
        refine .inr ⟨hJ.1, fun H' => ∃ ad S us ws, Adv ad0 H0 ad H' ∧ RS K ad lo H' S ∧ REnv K ad H' (L2.wipe σ vs) env ∧ D ∉ ad ∧ H' D = some (.dK (ws.map fun p => ((Sum.inr p.1 : Key), p.2))) ∧ RF K ad H' us ws ∧ Go K E (RU K) ((dLoop nx t mt mk mv k (i + 1) env S us).bind fun kvs S2 => .ok (.fd kvs) S2) ad0 lo H0 Q, fun H' w => ⟨k, Nat.lt_succ_self _, w⟩, fun y H' hy => ?_⟩
        obtain ⟨x1, rs1, ru⟩ := hJ.2 y H' hy
        cases et : t.set u env with
        | none => simp only [et] at z; exact z.elim
        | some env' =>
          simp only [et] at z
          rw [R.bind_assoc] at z
          refine Tg.ok rs1 (re.adv rs x1) ru et hts fun σ2 re2 e2 => ⟨by rw [e2, wipe_wipe], ?_⟩
          refine tE.imp (Go.nox (rel := rB) rs1 re2 z) ?_
          rintro bb H3 ⟨b, ad3, S3, x3, rs3, re3, rb, z3⟩
          have eb : b = bb := rb
          subst eb
          have xx := (x1.trans x3)
          have nD3 : D ∉ ad3 := fun w => by
            rcases xx.new D w with h | h
            · exact nD h
            · rw [eD] at h; cases h
          cases b with
          | false =>
            rw [if_neg Bool.false_ne_true] at z3 ⊢
            exact ⟨ad3, S3, us, ws, x.trans xx, rs3, re.adv rs xx, nD3, xx.keep _ _ eD nD, q.adv rs xx, z3⟩
          | true =>
            rw [if_pos rfl] at z3 ⊢
            rw [R.bind_assoc] at z3
            refine tE.imp (Go.nox (rel := RU K) rs3 re3 z3) ?_
            rintro yv H4 ⟨kk, ad4, S4, x4, rs4, re4, rk, z4⟩
            rw [R.bind_assoc] at z4
            refine tE.imp (Go.nox (rel := RU K) rs4 re4 z4) ?_
            rintro zv H5 ⟨w, ad5, S5, x5, rs5, re5, rw, z5⟩
            have xy := (xx.trans x4).trans x5
            have nD5 : D ∉ ad5 := fun w => by
              rcases xy.new D w with h | h
              · exact nD h
              · rw [eD] at h; cases h
            have eD5 := xy.keep _ _ eD nD
            cases rk with
            | str kx =>
              simp only at z5
              split at z5
              · rename_i hl
                have q5 := q.adv rs xy
                have nd : NoData ad5 H5 D := .dk eD5
                obtain ⟨ws', ep, rf⟩ := q5.putK (k := kx) rw
                refine ⟨_, Sum.inr kx, rfl, eD5, by rw [List.length_map, ← q.length]; exact hl, ?_⟩
                rw [ep]
                exact ⟨ad5, S5, putKU kx w us, ws', (x.trans xy).side hD, rs5.at nd nD5, (re.adv rs xy).at nd, nD5, upd_same, rf.at nd, z5⟩
              · exact z5.elim
            | _ => exact z5.elim
theorem se_dcompF {fuel : Nat} (hc : X.calm = true) (hN : X.N.Nodup) (hi : SI X E tg it m) (ok : BlkOk X.N X.env.scope scope own) (hts : ∀ i ∈ t.slots, i ∈ own.map (·.2))
    (hg : ∀ (s : Shared) (H : Hp) (C : Addr) (cl : List (Str × Addr)) (fp : List Addr), PG (X.blk s H scope (compEnvC scope cl C X.env) fp) tg (t.h X.K)) (ht : ∀ (s : Shared) (H : Hp) (C : Addr) (cl : List (Str × Addr)) (fp : List Addr), PTs (X.blk s H scope (compEnvC scope cl C X.env) fp) ifs (tE X.K E00 rB mt))
    (hk : ∀ (s : Shared) (H : Hp) (C : Addr) (cl : List (Str × Addr)) (fp : List Addr), PE (X.blk s H scope (compEnvC scope cl C X.env) fp) kx (tI X.K E00 mk))
    (he : ∀ (s : Shared) (H : Hp) (C : Addr) (cl : List (Str × Addr)) (fp : List Addr), PE (X.blk s H scope (compEnvC scope cl C X.env) fp) vx (tI X.K E00 mv)) (hs : ∀ x, foldedSetIterable it X.env x = pure x := by intro _; rfl) :
    PE X (.DictComp kx vx [⟨tg, it, ifs, 0⟩] scope pos) (tI X.K E (xDcompF fuel (own.map (·.2)) m t mt mk mv)) := PE.by (PE.fz (pe_dc hc hN hi ok hg ht hk he hs)) fun σ H Q h => by
  obtain ⟨ad, lo, env, S, rs, re, z⟩ := h
  refine tE.imp (Go.seq (rel := RIt X.K) rs re z) ?_
  rintro J H1 ⟨nx, ad1, S1, x1, rs1, re1, rJ, z1⟩
  exact dcomp_goF hts rJ rs1 (re1.wipe _) z1
end
def pairsOf : List U → Option (List (Str × U))
  | [] => some []
  | .tup [.str x, w] :: r => (pairsOf r).map ((x, w) :: ·)
  | _ => none
def bDictPF (us : List U) (S : Sto) : R U := match pairsOf us with
  | some ps => .ok (.fd (mergeU ps)) S
  | none => .no
section
variable {X : Cx} {E : XK}
theorem pairsOf_ok {K : PySem.W.Frag} {ad : List Addr} {H : Hp} : ∀ {us : List U} {vs : List V} {ps : List (Str × U)}, RUs K ad H us vs → pairsOf us = some ps → ∃ as ws, vs = as.map V.ref ∧ RF K ad H ps ws ∧ Paired (fun p (kv : Key × V) => SqT K H p [kV kv.1, kv.2]) as (ws.map fun p => ((Sum.inr p.1 : Key), p.2))
  | [], _, ps, .nil, e => by cases e; exact ⟨[], [], rfl, .nil, .nil⟩
  | u :: us, v :: vs, ps, .cons q t, e => by
    cases q with
    | tup hs q2 => cases q2 with
      | nil => cases e
      | cons q3 t3 => cases q3 with
        | str x => cases t3 with
          | nil => cases e
          | cons q4 t4 => cases t4 with
            | nil =>
              unfold pairsOf at e
              cases r2 : pairsOf us with
              | none => rw [r2] at e; cases e
              | some ps' =>
                rw [r2] at e
                cases e
                obtain ⟨as, ws, rfl, rf, pr⟩ := pairsOf_ok t r2
                exact ⟨_ :: as, (x, _) :: ws, rfl, .cons q4 rf, .cons hs pr⟩
            | cons _ _ => cases e
        | _ => cases e
    | _ => cases e
theorem call_dictPFI (hc : X.calm = true) : CallR X (.type "dict") (rLl X.K E bDictPF) := by
  refine CallR.by (CallR.fz (call_dictP hc)) ?_
  rintro xs H Q ⟨ad, lo, S, us, v, a, vs, rfl, rs, rfl, hs, q, g⟩
  unfold bDictPF at g
  cases e : pairsOf us with
  | none => rw [e] at g; exact g.elim
  | some ps =>
    rw [e] at g
    obtain ⟨as, ws, rfl, rf, pr⟩ := pairsOf_ok q e
    refine ⟨a, as, _, rfl, hs, pr, fun p hp => ?_⟩
    obtain ⟨ws', ew, rw⟩ := merge_ok (acc := []) (bcc := []) rf .nil
    rw [List.map_nil] at ew
    rw [ew]
    exact rs.fzD rw g hp
end
section
variable {X : Cx} {E : XK} {e : Expr} {ms : MA} {p pos : Pos} {x : Str}
theorem se_dictPF (hc : X.calm = true) (hg : Gl X "dict") (hm : X.mg "dict" = none) (hv : bootBuiltins "dict" = some (.type "dict")) (ha : SN X E e ms)
    (he : starEach [e] X.env = (false, eval e X.env) :: starEach [] X.env := by rfl) : SE X E (.Call (.Name "dict" p) [e] [] pos) (xB bDictPF ms) :=
  .of (PE.by (pe_callTy (call_dictPFI hc) hg hm hv (pa_cons ha pa_nil he) (by decide) (by decide) he rfl) tI_BN)
end
end VI
set_option Elab.async false
set_option linter.all false
set_option maxRecDepth 100000
set_option maxHeartbeats 4000000
namespace VI
open PySem PySem.Spec PyProof.Rows L2
/-- a def's promise: its plain function -/
def spI (K : PySem.W.Frag) (np : Nat) (ev : List U → Sto → R U) : Sp := fun vs H Q E => ∃ ad lo S us, us.length = np ∧ RS K ad lo H S ∧ RUs K ad H us vs ∧ Go K E (RU K) (ev us S) ad lo H Q
theorem spI.len {K : PySem.W.Frag} {np : Nat} {ev : List U → Sto → R U} (vs : List V) (H : Hp) (Q : VK) (E : XK) (h : spI K np ev vs H Q E) : vs.length = np := by
  obtain ⟨ad, lo, S, us, e, _, q, _⟩ := h
  rw [← q.length]
  exact e
/-- a body's meaning as a function of the arguments -/
def env0 (nl : Nat) (us : List U) : Env := us.map some ++ List.replicate (nl - us.length) none
def fnM (nl : Nat) (m : MS) (us : List U) (S : Sto) : R U := (m (env0 nl us) S).bind fun f S1 => match f with
  | .rt u => .ok u S1
  | .nx _ => .ok .non S1
  | _ => .no
theorem REnv.start {K : PySem.W.Frag} {ad : List Addr} {H : Hp} {N : List Str} : ∀ {us : List U} {vs : List V}, RUs K ad H us vs → REnv K ad H (L2.start N vs) (env0 N.length us) := by
  intro us vs q
  have l := q.length
  refine ⟨?_, fun i u e => ?_⟩
  · unfold L2.start env0
    rw [List.length_append, List.length_append, List.length_map, List.length_map, List.length_replicate, List.length_replicate, l]
  · unfold env0 at e
    unfold L2.start
    by_cases hi : i < us.length
    · rw [List.getElem?_append_left (by simpa using hi), List.getElem?_map] at e
      cases h : us[i]? with
      | none => rw [h] at e; cases e
      | some w =>
        rw [h] at e
        cases e
        obtain ⟨v, e1, r⟩ := q.get h
        refine ⟨v, ?_, r⟩
        rw [List.getElem?_append_left (by simpa [← l] using hi), List.getElem?_map, e1]
        rfl
    · rw [List.getElem?_append_right (by simpa using hi), List.getElem?_replicate] at e
      split at e <;> cases e
theorem body_go {K : PySem.W.Frag} {N : List Str} {m : MS} {np : Nat} {vs : List V} {H : Hp} {Q : VK} {E : XK} (h : spI K np (fnM N.length m) vs H Q E) : tSt K E m { nx := fun _ H' => Q .non H', rt := Q } (L2.start N vs) H := by
  obtain ⟨ad, lo, S, us, e, rs, q, g⟩ := h
  refine ⟨ad, lo, env0 N.length us, S, rs, .start q, ?_⟩
  unfold fnM at g
  cases e1 : m (env0 N.length us) S with
  | ok f S1 =>
    rw [e1] at g
    cases f with
    | nx en => exact fun ad' H' σ' x rs' _ => g ad' H' .non x rs' .non
    | rt u => exact fun ad' H' v x rs' r => g ad' H' v x rs' r
    | bk en => exact g.elim
    | ct en => exact g.elim
  | exc c fs S1 => rw [e1] at g; exact g
  | no => rw [e1] at g; exact g.elim
mutual
inductive Clo (k : Nat) : U → Prop
  | non : Clo k .non
  | bl (b : Bool) : Clo k (.bl b)
  | int (i : Int) : Clo k (.int i)
  | str (x : Str) : Clo k (.str x)
  | tup {us : List U} : CloL k us → Clo k (.tup us)
  | sc {us : List U} : CloL k us → Clo k (.sc us)
  | fl {us : List U} : CloL k us → Clo k (.fl us)
  | fd {kvs : List (Str × U)} : CloF k kvs → Clo k (.fd kvs)
  | ref {n : Nat} : n < k → Clo k (.ref n)
inductive CloL (k : Nat) : List U → Prop
  | nil : CloL k []
  | cons {u : U} {us : List U} : Clo k u → CloL k us → CloL k (u :: us)
inductive CloF (k : Nat) : List (Str × U) → Prop
  | nil : CloF k []
  | cons {x : Str} {u : U} {us : List (Str × U)} : Clo k u → CloF k us → CloF k ((x, u) :: us)
end
inductive CloO (k : Nat) : O → Prop
  | lst {us : List U} : CloL k us → CloO k (.lst us)
  | dct {kvs : List (Str × U)} : CloF k kvs → CloO k (.dct kvs)
  | ins {c : Str} {fs : List (Str × U)} : CloF k fs → CloO k (.ins c fs)
  | dead : CloO k .dead
section
variable {K : PySem.W.Frag} {ad ad' : List Addr} {H H' : Hp}
mutual
theorem RU.clo : ∀ {u : U} {v : V}, RU K ad H u v → Clo ad.length u
  | _, _, .non => .non
  | _, _, .bl b => .bl b
  | _, _, .int i => .int i
  | _, _, .str s => .str s
  | _, _, .tup _ t => .tup (RUs.clo t)
  | _, _, .sc _ t => .sc (RUs.clo t)
  | _, _, .sck _ t => .sc (RUs.clo t)
  | _, _, .fl _ t => .fl (RUs.clo t)
  | _, _, .fd _ _ t => .fd (RF.clo t)
  | _, _, .ref e => .ref (List.getElem?_eq_some_iff.mp e).1
theorem RUs.clo : ∀ {us : List U} {vs : List V}, RUs K ad H us vs → CloL ad.length us
  | _, _, .nil => .nil
  | _, _, .cons h t => .cons (RU.clo h) (RUs.clo t)
theorem RF.clo : ∀ {us : List (Str × U)} {vs : List (Str × V)}, RF K ad H us vs → CloF ad.length us
  | _, _, .nil => .nil
  | _, _, .cons h t => .cons (RU.clo h) (RF.clo t)
end
theorem RO.clo {o : O} {u : HO} (h : RO K ad H o u) : CloO ad.length o := by
  cases h with
  | lst h => exact .lst h.clo
  | dct h => exact .dct h.clo
  | ins h => exact .ins h.clo
  | dead => exact .dead
theorem get_less (p : ad <+: ad') {n : Nat} {a : Addr} (hn : n < ad.length) (e : ad'[n]? = some a) : ad[n]? = some a := by
  obtain ⟨t, rfl⟩ := p
  rw [List.getElem?_append_left hn] at e
  exact e
mutual
theorem RU.less (p : ad <+: ad') : ∀ {u : U} {v : V}, Clo ad.length u → RU K ad' H u v → RU K ad H u v
  | _, _, _, .non => .non
  | _, _, _, .bl b => .bl b
  | _, _, _, .int i => .int i
  | _, _, _, .str s => .str s
  | _, _, .tup c, .tup h t => .tup h (RUs.less p c t)
  | _, _, .sc c, .sc h t => .sc h (RUs.less p c t)
  | _, _, .sc c, .sck h t => .sck h (RUs.less p c t)
  | _, _, .fl c, .fl h t => .fl h (RUs.less p c t)
  | _, _, .fd c, .fd h n t => .fd h (fun z => n (by obtain ⟨w, rfl⟩ := p; exact List.mem_append_left _ z)) (RF.less p c t)
  | _, _, .ref c, .ref e => .ref (get_less p c e)
theorem RUs.less (p : ad <+: ad') : ∀ {us : List U} {vs : List V}, CloL ad.length us → RUs K ad' H us vs → RUs K ad H us vs
  | _, _, .nil, .nil => .nil
  | _, _, .cons c d, .cons h t => .cons (RU.less p c h) (RUs.less p d t)
theorem RF.less (p : ad <+: ad') : ∀ {us : List (Str × U)} {vs : List (Str × V)}, CloF ad.length us → RF K ad' H us vs → RF K ad H us vs
  | _, _, .nil, .nil => .nil
  | _, _, .cons c d, .cons h t => .cons (RU.less p c h) (RF.less p d t)
end
theorem RO.less (p : ad <+: ad') {o : O} {u : HO} (c : CloO ad.length o) (h : RO K ad' H o u) : RO K ad H o u := by
  cases h with
  | lst h => cases c with | lst c => exact .lst (h.less p c)
  | dct h => cases c with | dct c => exact .dct (h.less p c)
  | ins h => cases c with | ins c => exact .ins (h.less p c)
  | dead => exact .dead
end
/-- what changed below k refers to what lies below k -/
def Kept (S S1 : Sto) : Prop := ∀ (i : Nat) (o : O), i < S.objs.length → S1.objs[i]? = some o → S.objs[i]? = some o ∨ CloO S.objs.length o
def Sto.cut (S : Sto) (k : Nat) : Sto := ⟨S.objs.take k, S.lk⟩
open Classical in
noncomputable def gcR (S : Sto) (r : R U) : R U := match r with
  | .ok u S1 => if Clo S.objs.length u ∧ Kept S S1 then .ok u (S1.cut S.objs.length) else .ok u S1
  | .exc c fs S1 => if CloF S.objs.length fs ∧ Kept S S1 then .exc c fs (S1.cut S.objs.length) else .exc c fs S1
  | .no => .no
noncomputable def fnG (nl : Nat) (m : MS) (us : List U) (S : Sto) : R U := gcR S (fnM nl m us S)
theorem RS.cut {K : PySem.W.Frag} {ad ad' : List Addr} {lo : Nat → Option Obj} {H H' : Hp} {S S1 : Sto} (rs : RS K ad lo H S) (p : ad <+: ad') (rs1 : RS K ad' lo H' S1) (kp : Kept S S1) : RS K ad lo H' (S1.cut S.objs.length) := by
  have hle : ad.length ≤ ad'.length := p.length_le
  have hl : S.objs.length ≤ S1.objs.length := by rw [← rs.len, ← rs1.len]; exact hle
  refine ⟨?_, rs.nd, fun n o e => ?_, rs1.lock, fun n h => ?_⟩
  · show ad.length = (S1.objs.take _).length
    rw [List.length_take, rs.len]
    omega
  · have e' : (S1.objs.take S.objs.length)[n]? = some o := e
    have hn : n < S.objs.length := by
      have := (List.getElem?_eq_some_iff.mp e').1
      rw [List.length_take] at this
      omega
    rw [List.getElem?_take_of_lt hn] at e'
    obtain ⟨a, u, e1, ro, e2⟩ := rs1.obj n o e'
    refine ⟨a, u, get_less p (by rw [rs.len]; exact hn) e1, ro.less p ?_, e2⟩
    rcases kp n o hn e' with z | z
    · obtain ⟨_, _, _, ro0, _⟩ := rs.obj n o z
      exact ro0.clo
    · rw [rs.len]; exact z
  · obtain ⟨kvs, e⟩ := rs1.kind n h
    obtain ⟨kvs0, e0⟩ := rs.kind n h
    refine ⟨kvs, ?_⟩
    show (S1.objs.take _)[n]? = _
    rw [List.getElem?_take_of_lt (List.getElem?_eq_some_iff.mp e0).1]
    exact e
theorem spI.gc {K : PySem.W.Frag} {np : Nat} {ev : List U → Sto → R U} (vs : List V) (H : Hp) (Q : VK) (E : XK) (h : spI K np (fun us S => gcR S (ev us S)) vs H Q E) : spI K np ev vs H Q E := by
  obtain ⟨ad, lo, S, us, e, rs, q, g⟩ := h
  refine ⟨ad, lo, S, us, e, rs, q, ?_⟩
  unfold gcR at g
  dsimp only at g
  have back : ∀ {ad' : List Addr} {H' : Hp}, Adv ad H ad' H' → Adv ad H ad H' := fun x => ⟨List.prefix_refl _, fun b hb => .inl hb, x.keep, x.frz⟩
  cases e1 : ev us S with
  | no => rw [e1] at g; exact g
  | ok u S1 =>
    simp only [e1] at g
    split at g
    · rename_i hc
      intro ad' H' v x rs1 ru
      exact g ad H' v (back x) (rs.cut x.pre rs1 hc.2) (ru.less x.pre (by rw [rs.len]; exact hc.1))
    · exact g
  | exc c fs S1 =>
    simp only [e1] at g
    split at g
    · rename_i hc
      intro ad' H' C d x rs1 rx
      refine g ad H' C d (back x) (rs.cut x.pre rs1 hc.2) ?_
      obtain ⟨h1, h2⟩ := rx
      refine ⟨h1, h2.imp id ?_⟩
      rintro ⟨a, gs, e2, e3, rf, na⟩
      exact ⟨a, gs, e2, e3, rf.less x.pre (by rw [rs.len]; exact hc.1), fun z => na (by obtain ⟨t, rfl⟩ := x.pre; exact List.mem_append_left _ z)⟩
    · exact g
/-- the context: what every rule takes of it -/
structure CO (X : Cx) (E : XK) (k : Nat) : Prop where
  calm : X.calm = true
  room : Room k X.A
  nd : X.N.Nodup
  own : PassesOwn (model X.prog X.w) X.A X.env X.xe
  pass : Passes (L2.CX X.prog X.w) X E
theorem CO.u64 {X : Cx} {E : XK} {k : Nat} (c : CO X E k) : X.A.units + 64 < cLine := c.room.units
theorem CO.u1 {X : Cx} {E : XK} {k : Nat} (c : CO X E k) : X.A.units + 1 < cLine := by have := c.room.un; omega
theorem CO.u65 {X : Cx} {E : XK} {k : Nat} (c : CO X E k) : X.A.units + 65 < cLine := by have := c.room.un; omega
theorem CO.u70 {X : Cx} {E : XK} {k : Nat} (c : CO X E k) : X.A.units + 70 < cLine := by have := c.room.un; omega
theorem CX.never {P : Program} {w : World} {o : List PySem.Env} {H : Hp} {s : Shared} {e : Value} {s' : Shared} (h : L2.CX P w o H s E00 e s') : False := by
  obtain ⟨_, _, _, _, _, _, _, _, _, _, _, _, z⟩ := h
  exact z
theorem CO.blk {X : Cx} {E : XK} {k : Nat} (c : CO X E k) (s : Shared) (H : Hp) (sc : Scope) (env : PySem.Env) (fp : List Addr) : CO (X.blk s H sc env fp) E00 k :=
  ⟨c.calm, c.room, c.nd, PassesOwn.never, fun _ _ _ _ _ _ _ h => CX.never h⟩
theorem pass00 {X : Cx} : Passes (L2.CX X.prog X.w) X.nox E00 := fun _ _ _ _ _ _ _ h => CX.never h
section
variable {P : Program} {w : World} {K : PySem.W.Frag} {mg : Str → Option Value} {base : Heap} {N ps : List Str} {x qual : Str} {params : Arguments} {body : List Stmt} {scope : Scope} {dvs : List V} {kws : List (Str × V)} {f : Addr} {fd : FuncData} {k : Nat} {m : MS}
abbrev fcx (P : Program) (w : World) (K : PySem.W.Frag) (mg : Str → Option Value) (base : Heap) (N : List Str) (qual : Str) (scope : Scope) (f : Addr) (cdv : Value) (A : Around) (outer : List PySem.Env) (s : Shared) (H : Hp) (E : XK) : Cx := cxOf (L2.CX P w) P w K mg base N qual scope f cdv A outer s H E
theorem co_fn {cdv : Value} {A : Around} {outer : List PySem.Env} {s : Shared} {H : Hp} {E : XK} (nd : N.Nodup) (hr : Room k (A.deeper (envOfC qual scope s.heap.objs.size f cdv))) : CO (fcx P w K mg base N qual scope f cdv A outer s H E) E k :=
  ⟨rfl, hr, nd, passes_of rfl, passes_call (takes_of rfl rfl rfl rfl) fun _ _ _ _ h => h⟩
/-- a def by its body -/
theorem fn_I (F : FunD K x qual params body scope dvs kws f fd) (S : FnScope N ps scope)
    (hb : ∀ (cdv : Value) (A : Around) (outer : List PySem.Env) (s : Shared) (H : Hp) (E : XK), CO (fcx P w K mg base N qual scope f cdv A outer s H E) E k → SSs (fcx P w K mg base N qual scope f cdv A outer s H E) E body m) :
    FnOk P w K mg base (L2.CX P w) (k + 1) f fd ps (spI K ps.length (fnG N.length m)) :=
  FnOk.imp (F.ok S spI.len fun cdv A outer s H vs Q E hr h => ⟨_, hb cdv A outer s H E (co_fn S.nd hr), body_go h⟩) fun vs H Q E h => spI.gc vs H Q E h
/-- called with all its values by position -/
def FnI (P : Program) (w : World) (K : PySem.W.Frag) (mg : Str → Option Value) (base : Heap) (k : Nat) (f : Addr) (np : Nat) (ev : List U → Sto → R U) : Prop := FnR P w K mg base (L2.CX P w) k f (spI K np ev)
theorem FnI.of {ev : List U → Sto → R U} (F : FnOk P w K mg base (L2.CX P w) k f fd ps (spI K ps.length ev)) (hb : Binds K fd ps []) : FnI P w K mg base k f ps.length ev := by
  intro A outer s H us vs Q E hr e0 r h
  have kin : K.In s.heap := e0.mod.kin.keeps fun b o e => (e0.bs b o e).1
  have hl : us.length = ps.length := by rw [← r.length]; exact F.len _ _ _ _ h
  have b := hb s us kin (by rw [List.append_nil]; exact hl)
  rw [List.append_nil] at b
  exact F.run A outer s H ⟨us, []⟩ us vs Q E hr e0 b r h
theorem FnI.mono {j np : Nat} {ev : List U → Sto → R U} (F : FnI P w K mg base j f np ev) (h : j ≤ k) : FnI P w K mg base k f np ev :=
  fun A outer s H us vs Q E hr => F A outer s H us vs Q E (hr.mono h)
end
def xCall (np : Nat) (ev : List U → Sto → R U) (ms : MA) : ME := fun env S => (ms env S).bind fun us S1 => if us.length = np then ev us S1 else .no
def isI (c m : Str) (u : U) (S : Sto) : Bool := match u with
  | .ref n => (match S.ins n with
    | some (c', fs) => decide (c' = c) && (fs.lookup m).isNone
    | none => false)
  | _ => false
def xMeth (c m : Str) (np : Nat) (ev : List U → Sto → R U) (mo : ME) (ms : MA) : ME := fun env S => (mo env S).bind fun u S1 => if isI c m u S1 = true then (ms env S1).bind fun us S2 => (if us.length + 1 = np then ev (u :: us) S2 else .no) else .no
def isC (c : Str) (u : U) (S : Sto) : Bool := match u with
  | .ref n => (match S.ins n with
    | some (c', _) => decide (c' = c)
    | none => false)
  | _ => false
def xMake (c : Str) (np : Nat) (ev : List U → Sto → R U) (ms : MA) : ME := fun env S => (ms env S).bind fun us S1 => if us.length + 1 = np then
    (ev (.ref S1.objs.length :: us) (S1.push (.ins c []))).bind fun v S2 => (match v with
      | .non => .ok (.ref S1.objs.length) S2
      | _ => .no) else .no
def xProp (c : Str) (ev : List U → Sto → R U) (mo : ME) : ME := fun env S => (mo env S).bind fun u S1 => if isC c u S1 = true then R.nox (ev [u] S1) else .no
def xCallO (c : Str) (np : Nat) (ev : List U → Sto → R U) (mo : ME) (ms : MA) : ME := fun env S => (mo env S).bind fun u S1 => if isC c u S1 = true then (ms env S1).bind fun us S2 => (if isC c u S2 = true ∧ us.length + 1 = np then ev (u :: us) S2 else .no) else .no
section
variable {K : PySem.W.Frag} {E : XK} {ad : List Addr} {lo : Nat → Option Obj} {H : Hp} {S : Sto} {u : U} {v : V} {c m : Str}
theorem isI_ok (h : isI c m u S = true) (rs : RS K ad lo H S) (ru : RU K ad H u v) : ∃ a dx gs, v = .ref a ∧ H a = some (.ins (He.ga K c) dx gs) ∧ gs.lookup m = none := by
  unfold isI at h
  split at h
  · obtain ⟨a, rfl, ea⟩ := ru.ref_of
    split at h
    · rename_i c' fs e
      rw [Bool.and_eq_true, decide_eq_true_eq, Option.isNone_iff_eq_none] at h
      obtain ⟨rfl, h2⟩ := h
      obtain ⟨dx, gs, e1, q⟩ := rs.insH e ea
      exact ⟨a, dx, gs, rfl, e1, q.none h2⟩
    · cases h
  · cases h
theorem isC_ok (h : isC c u S = true) (rs : RS K ad lo H S) (ru : RU K ad H u v) : ∃ a dx gs, v = .ref a ∧ H a = some (.ins (He.ga K c) dx gs) := by
  unfold isC at h
  split at h
  · obtain ⟨a, rfl, ea⟩ := ru.ref_of
    split at h
    · rename_i c' fs e
      rw [decide_eq_true_eq] at h
      obtain rfl := h
      obtain ⟨dx, gs, e1, q⟩ := rs.insH e ea
      exact ⟨a, dx, gs, rfl, e1⟩
    · cases h
  · cases h
theorem Go.unx {α β : Type} {rel : List Addr → Hp → α → β → Prop} {r : R α} {Q : β → Hp → Prop} {E' : XK} (g : Go K E rel r.nox ad lo H Q) : Go K E' rel r ad lo H Q := by
  cases r with
  | ok a S' => exact g
  | exc c fs S' => exact g.elim
  | no => exact g
end
section
variable {X : Cx} {E : XK} {k j np : Nat} {f C : Addr} {ev : List U → Sto → R U} {x c m : Str} {p pos apos : Pos} {e o fe : Expr} {es : List Expr} {mo : ME} {ms : MA} {fd : FuncData} {ps : List Str}
theorem tI_call (σ : L2.St) (H : Hp) (Q : VK) (h : tI X.K E (xCall np ev ms) σ H Q) : tCB (fun vs H1 Q => spI X.K np ev vs H1 Q E) (tIs X.K E ms) σ H Q := by
  obtain ⟨ad, lo, env, S, rs, re, z⟩ := h
  refine tE.imp (Go.seq (rel := RUs X.K) rs re z) ?_
  rintro vs H1 ⟨us, ad1, S1, x1, rs1, re1, ru, z1⟩
  split at z1
  · rename_i hl
    exact ⟨ad1, lo, S1, us, hl, rs1, ru, z1⟩
  · exact z1.elim
theorem se_call (F : FnI X.prog X.w X.K X.mg X.base j f np ev) (co : CO X E k) (hj : j ≤ k) (hg : Gl X x) (hm : X.mg x = some (.ref f)) (hk : PySem.W.keepIn X.K (.ref f) = true) (ha : SA X E (e :: es) ms) (hdb : (x == ("__debug__" : Str)) = false)
    (he : starEach (e :: es) X.env = (false, eval e X.env) :: starEach es X.env := by rfl) (hpl : (backTo pos (starEach es X.env)).any (·.1) = false := by rfl) : SE X E (.Call (.Name x p) (e :: es) [] pos) (xCall np ev ms) := by
  refine .of ⟨fun pins s σ H Q I h => ?_⟩
  refine wpAny_Call_Name_kw (ld_glob I hg hm ?_ hdb)
  refine PySem.W.callWith_K (h₀ := X.base) I.ok.mod.kin hk (thn (ha.run pos pins s σ H _ I (tI_call σ H Q h)) fun us s1 ⟨vs, H1, I1, r, q⟩ => ⟨I1.kIn, ?_⟩) he hpl
  exact wpAny_call (run_fnR F (co.room.mono hj) co.pass I1 r q)
theorem tI_meth (σ : L2.St) (H : Hp) (Q : VK) (h : tI X.K E (xMeth c m np ev mo ms) σ H Q) : tMeth (He.ga X.K c) m (spI X.K np ev) [] E (tI X.K E mo) (tIs X.K E ms) σ H Q := by
  obtain ⟨ad, lo, env, S, rs, re, z⟩ := h
  refine tE.imp (Go.seq (rel := RU X.K) rs re z) ?_
  rintro v H1 ⟨u, ad1, S1, x1, rs1, re1, ru, z1⟩
  split at z1
  · rename_i hi
    obtain ⟨a, dx, gs, rfl, ea, el⟩ := isI_ok hi rs1 ru
    refine ⟨a, dx, gs, rfl, ea, el, tE.imp (Go.seq (rel := RUs X.K) rs1 re1 z1) ?_⟩
    rintro vs H2 ⟨us, ad2, S2, x2, rs2, re2, rus, z2⟩
    split at z2
    · rename_i hl
      rw [List.append_nil]
      exact ⟨ad2, lo, S2, u :: us, hl, rs2, .cons (ru.adv rs1 x2) rus, z2⟩
    · exact z2.elim
  · exact z1.elim
theorem se_meth {pl : Sem Bool} (F : FnI X.prog X.w X.K X.mg X.base j f np ev) (co : CO X E k) (hj : j ≤ k) (hc : Cls X.K (He.ga X.K c)) (hm : Meth X.K (He.ga X.K c) m f) (ho : PE X o (tI X.K E mo)) (ha : SA X E (e :: es) ms)
    (hst : starEach (e :: es) X.env = (false, eval e X.env) :: starEach es X.env := by rfl) (hpl : (backTo pos (starEach es X.env)).any (·.1) = false := by rfl)
    (ht : eval (.Call (.Attribute o m apos) (e :: es) [] pos) X.env = (do
      let ov ← eval o X.env
      standAt apos.atName
      let (f, first) ← holding [ov] (getMethod ov m pl)
      callWith pos f first (backTo pos (starEach (e :: es) X.env)) (backToKw pos (keywordEach [] X.env))) := by rfl) : SE X E (.Call (.Attribute o m apos) (e :: es) [] pos) (xMeth c m np ev mo ms) := by
  refine .of ⟨fun pins s σ H Q I h => ?_⟩
  refine PySem.W.methodCall_KW (pl := pl) (thn (ho.run pins s σ H _ I (tI_meth σ H Q h)) fun u s1 ⟨x, H1, I1, rx, a, dx, fs, ex, ea, l, q⟩ => ?_) ht
  subst ex
  obtain rfl : u = Value.ref a := rx
  refine getmeth_ok I1 ea hc hm l ?_
  refine PySem.W.callWith_K (first := [.ref a]) (h₀ := X.base) I.ok.mod.kin hm.kp (thn (ha.run pos pins s1 σ H1 _ I1 q) fun us s2 ⟨vs, H2, I2, r, q2⟩ => ⟨I2.kIn, ?_⟩) hst hpl
  have q2 : spI X.K np ev (V.ref a :: (vs ++ [])) H2 Q E := q2
  rw [List.append_nil] at q2
  exact wpAny_call (run_fnR (us := .ref a :: us) (vs := .ref a :: vs) F (co.room.mono hj) co.pass I2 (.cons rfl r) q2)
theorem se_meth0 {pl : Sem Bool} (F : FnI X.prog X.w X.K X.mg X.base j f np ev) (co : CO X E k) (hj : j ≤ k) (hc : Cls X.K (He.ga X.K c)) (hm : Meth X.K (He.ga X.K c) m f) (ho : PE X o (tI X.K E mo))
    (ht : eval (.Call (.Attribute o m apos) [] [] pos) X.env = (do
      let ov ← eval o X.env
      standAt apos.atName
      let (f, first) ← holding [ov] (getMethod ov m pl)
      callWith pos f first (backTo pos (starEach [] X.env)) (backToKw pos (keywordEach [] X.env))) := by rfl) : SE X E (.Call (.Attribute o m apos) [] [] pos) (xMeth c m np ev mo aNil) := by
  refine .of ⟨fun pins s σ H Q I h => ?_⟩
  have h' := tI_meth (ms := aNil) σ H Q h
  refine PySem.W.methodCall_KW (pl := pl) (thn (ho.run pins s σ H _ I h') fun u s1 ⟨x, H1, I1, rx, a, dx, fs, ex, ea, l, q⟩ => ?_) ht
  subst ex
  obtain rfl : u = Value.ref a := rx
  refine getmeth_ok I1 ea hc hm l ?_
  obtain ⟨ad, lo, env, S, rs, re, z⟩ := q
  have q2 := z ad H1 [] Adv.refl rs .nil
  exact PySem.W.callWith_K0 (first := [.ref a]) I1.kIn hm.kp (wpAny_call (run_fnR (us := [.ref a]) (vs := [.ref a]) F (co.room.mono hj) co.pass I1 (.cons rfl .nil) q2))
theorem tI_make (σ : L2.St) (H : Hp) (Q : VK) (h : tI X.K E (xMake c np ev ms) σ H Q) : StX.tMakeR (He.ga X.K c) (spI X.K np ev) E (tIs X.K E ms) σ H Q := by
  obtain ⟨ad, lo, env, S, rs, re, z⟩ := h
  refine tE.imp (Go.seq (rel := RUs X.K) rs re z) ?_
  rintro vs H1 ⟨us, ad1, S1, x1, rs1, re1, ru, z1⟩ x dx hx hd hne
  split at z1
  · rename_i hl
    obtain ⟨rs2, a2⟩ := rs1.grow (u := .own x) hd
    have hx2 : upd H1 dx (.own x) x = none := by rw [upd_ne (Ne.symm hne)]; exact hx
    obtain ⟨rs3, a3⟩ := rs2.push (o := .ins c []) (u := .ins (He.ga X.K c) dx []) hx2 (fun _ z => by cases z) (.ins .nil)
    have a23 := a2.trans a3
    refine ⟨ad1 ++ [x], lo, S1.push (.ins c []), .ref S1.objs.length :: us, hl, rs3, .cons (.ref ?_) (ru.adv rs1 a23), ?_⟩
    · rw [← rs1.len, List.getElem?_append_right (Nat.le_refl _), Nat.sub_self]
      rfl
    · have z2 := z1.adv a23
      cases e : ev (.ref S1.objs.length :: us) (S1.push (.ins c [])) with
      | ok v S2 =>
        rw [e] at z2
        intro ad' H' w y rs' rw'
        have z3 := Go.adv z2 y
        cases rw' with
        | non => exact ⟨rfl, Go.here z3 rs' (.ref (y.get (by rw [← rs1.len, List.getElem?_append_right (Nat.le_refl _), Nat.sub_self]; rfl)))⟩
        | _ => exact z3.elim
      | exc c' fs S2 => rw [e] at z2; exact z2
      | no => rw [e] at z2; exact z2.elim
  · exact z1.elim
theorem se_make (F : FnI X.prog X.w X.K X.mg X.base j f np ev) (co : CO X E k) (hj : j + 1 ≤ k) (M : Mk X.K (He.ga X.K c) f) (hg : Gl X c) (hm : X.mg c = some (.ref (He.ga X.K c))) (ha : SA X E (e :: es) ms) (hdb : (c == ("__debug__" : Str)) = false)
    (he : starEach (e :: es) X.env = (false, eval e X.env) :: starEach es X.env := by rfl) (hpl : (backTo pos (starEach es X.env)).any (·.1) = false := by rfl) : SE X E (.Call (.Name c p) (e :: es) [] pos) (xMake c np ev ms) :=
  .of (PE.by (StX.pe_makeR M F (co.room.mono hj) hg hm co.pass ha hdb he hpl) tI_make)
theorem tI_prop (σ : L2.St) (H : Hp) (Q : VK) (h : tI X.K E (xProp c ev mo) σ H Q) : tProp (He.ga X.K c) (spI X.K 1 ev) [] E00 (tI X.K E mo) σ H Q := by
  obtain ⟨ad, lo, env, S, rs, re, z⟩ := h
  refine tE.imp (Go.seq (rel := RU X.K) rs re z) ?_
  rintro v H1 ⟨u, ad1, S1, x1, rs1, re1, ru, z1⟩
  split at z1
  · rename_i hi
    obtain ⟨a, dx, gs, rfl, ea⟩ := isC_ok hi rs1 ru
    exact ⟨a, dx, gs, rfl, ea, ad1, lo, S1, [u], rfl, rs1, .cons ru .nil, z1.unx⟩
  · exact z1.elim
theorem se_prop {pr : Addr} (F : FnOk X.prog X.w X.K X.mg X.base (L2.CX X.prog X.w) j f fd ps (spI X.K 1 ev)) (co : CO X E k) (hj : j + 1 ≤ k) (hc : Cls X.K (He.ga X.K c)) (hp : PropOf X.K (He.ga X.K c) m pr f) (hb : Binds X.K fd ps []) (ho : PE X o (tI X.K E mo))
    (hab : attributeBase o m X.env (eval o X.env) = eval o X.env := by rfl) : SE X E (.Attribute o m pos) (xProp c ev mo) :=
  .of (PE.by (pe_prop ho hc hp F (co.room.mono hj) hb .nil pass00 hab) tI_prop)
theorem tI_callO (σ : L2.St) (H : Hp) (Q : VK) (h : tI X.K E (xCallO c np ev mo ms) σ H Q) : StX.tCallO X (He.ga X.K c) (spI X.K np ev) E (tI X.K E mo) (tIs X.K E ms) σ H Q := by
  obtain ⟨ad, lo, env, S, rs, re, z⟩ := h
  refine tE.imp (Go.seq (rel := RU X.K) rs re z) ?_
  rintro v H1 ⟨u, ad1, S1, x1, rs1, re1, ru, z1⟩
  split at z1
  case isFalse => exact z1.elim
  rename_i hi0
  obtain ⟨a, _, _, rfl, _⟩ := isC_ok hi0 rs1 ru
  refine ⟨a, rfl, tE.imp (Go.seq (rel := RUs X.K) rs1 re1 z1) ?_⟩
  rintro vs H2 ⟨us, ad2, S2, x2, rs2, re2, rus, z2⟩
  split at z2
  · rename_i hi
    obtain ⟨b, dx, gs, eb, ea⟩ := isC_ok hi.1 rs2 (ru.adv rs1 x2)
    cases eb
    exact ⟨.inr ⟨dx, gs, ea⟩, ad2, lo, S2, u :: us, hi.2, rs2, .cons (ru.adv rs1 x2) rus, z2⟩
  · exact z2.elim
theorem se_callO {g : Addr} (F : FnI X.prog X.w X.K X.mg X.base j g np ev) (co : CO X E k) (hj : j ≤ k) (hc : StX.CallO X.K (He.ga X.K c) g) (hf : PE X fe (tI X.K E mo)) (ha : SA X E (e :: es) ms)
    (ht : eval (.Call fe (e :: es) [] pos) X.env = (do callWith pos (← eval fe X.env) [] (backTo pos (starEach (e :: es) X.env)) (backToKw pos (keywordEach [] X.env))) := by rfl)
    (he : starEach (e :: es) X.env = (false, eval e X.env) :: starEach es X.env := by rfl) (hpl : (backTo pos (starEach es X.env)).any (·.1) = false := by rfl)
    (hw : ∀ whole, isTrue (.Call fe (e :: es) [] pos) X.env whole = (do let v ← whole; standAt pos; holding [v] (truthy v)) := by intro _; rfl) : SE X E (.Call fe (e :: es) [] pos) (xCallO c np ev mo ms) :=
  .of (PE.by (StX.pe_callO hf hc F (co.room.mono hj) co.pass ha ht he hpl) tI_callO) hw
end
end VI
set_option Elab.async false
set_option linter.all false
set_option maxRecDepth 100000
set_option maxHeartbeats 4000000
namespace VI
open PySem PySem.Spec PyProof.Rows L2
theorem begin_enum {v : Value} {ob : Obj} {G : Heap → Prop} (B : Begins v ob G) : Meets (Builtin.«enumerate.__new__» ⟨[.type "enumerate", v], []⟩) (fun _ R s => G s.heap ∧ R (.ok (.ret (.ref (s.heap.push ob).objs.size)))
    { s with heap := (s.heap.push ob).push { cls := .type "enumerate", data := .fields #[.none, .bool false, .ref s.heap.objs.size, rawInt 0, .none, .none] } }) := by
  refine .of_wp fun prog w A R s h => ?_
  obtain ⟨hp, g, d, tk, os⟩ := s
  obtain ⟨hG, h⟩ := h
  have sb := sub_enumerate
  have qi : ∀ {A' : Around} {E : Value → Shared → Prop} {Q : Value → Shared → Prop}, Q (.ref hp.objs.size) ⟨hp.push ob, g, d, tk, os⟩ → wpAny (model prog w) A' (pyIter v) Q E ⟨hp, g, d, tk, os⟩ := fun q => B.iter prog w _ _ ⟨hp, g, d, tk, os⟩ _ hG q
  wp_walk using qi
  refine wpAny_stack_any fun st => wpAny_pure ?_
  split
  · rename_i c _ _ _ _ _
    cases (c == Value.type "enumerate") <;> (wp_walk using qi; exact ⟨_, rfl, h⟩)
  · wp_walk using qi
    exact ⟨_, rfl, h⟩
theorem call_enum {prog : Program} {w : World} {A : Around} {E : Value → Shared → Prop} {s : Shared} {v : Value} {ob : Obj} {G : Heap → Prop} {Q : Value → Shared → Prop} (B : Begins v ob G) (hG : G s.heap)
    (h : ∀ h', IsEnum h' (s.heap.objs.size + 1) s.heap.objs.size 0 .none → h'.get? s.heap.objs.size = some ob → (∀ b o, s.heap.get? b = some o → h'.get? b = some o) → Q (.ref (s.heap.objs.size + 1)) { s with heap := h' }) :
    wpAny (model prog w) A (call (.type "enumerate") [v]) Q E s := by
  refine callType_new F.called_enumerate (by decide) (F.typeCall_enumerate_1 _) (F.newCall_enumerate_1 _) (fun obj => F.args_object_init_2 obj _) F.entry_enumerate_new (begin_enum B) ⟨hG, ?_⟩
  have z : (s.heap.push ob).objs.size = s.heap.objs.size + 1 := Heap.size_push ..
  show _ ∧ _
  rw [z]
  have e1 : IsEnum ((s.heap.push ob).push { cls := .type "enumerate", data := .fields #[.none, .bool false, .ref s.heap.objs.size, rawInt 0, .none, .none] }) (s.heap.objs.size + 1) s.heap.objs.size 0 .none := by
    have q := Heap.get?_push_size (s.heap.push ob) (o := { cls := .type "enumerate", data := .fields #[.none, .bool false, .ref s.heap.objs.size, rawInt 0, .none, .none] }) rfl
    rw [z] at q
    exact q
  exact ⟨⟨_, e1, rfl⟩, h _ e1 (Heap.get?_push_of_some _ (Heap.get?_push_size _ B.free)) fun b o x => Heap.get?_push_of_some _ (Heap.get?_push_of_some _ x)⟩
/-- the tuple at a, n long, its items in new pairs with their places -/
def Itet (K : PySem.W.Frag) (a : Addr) (n : Nat) : It :=
  ⟨fun i H => ∃ (xs : List V) (x : V), SqT K H a xs ∧ xs.length = n ∧ xs[i]? = some x, fun i H v H' => ∃ T x, v = .ref T ∧ H T = none ∧ H' = upd H T (.tup [.int (i : Nat), x]) ∧ ∀ xs, SqT K H a xs → xs[i]? = some x, fun i H => ∃ xs : List V, SqT K H a xs ∧ xs.length = n ∧ n ≤ i⟩
theorem turn_et {P : Program} {w : World} {K : PySem.W.Frag} {elts : List Expr} {kk : Nat} {tpos : Pos} (a e it : Addr) (n : Nat) :
    Turn P w K (.Tuple elts kk tpos) (Itet K a n) [e, it] e (fun i h => ((∃ old, IsEnum h e it ((i : Nat) : Int) old) ∧ h.IsTupleIter it a i ∧ e ≠ it) ∧ i ≤ n) where
  mem := by simp
  obj := fun i h st b hb => by
    obtain ⟨⟨⟨old, he⟩, ⟨o, ho, hc, hd⟩, _⟩, _⟩ := st
    rcases (show b = e ∨ b = it by simpa using hb) with rfl | rfl
    · exact ⟨_, he, fun v q => nomatch q⟩
    · exact ⟨o, ho, fun v q => by rw [hd] at q; cases q⟩
  keep := fun i h h' st k => by
    obtain ⟨⟨⟨old, he⟩, hi, hne⟩, hl⟩ := st
    exact ⟨⟨⟨old, k e (by simp) _ he⟩, hi.at fun o q => k it (by simp) o q, hne⟩, hl⟩
  item := by
    intro X hP hw hK hc i pins s σ H E I hf st hg
    subst hP hw hK
    obtain ⟨⟨⟨old, he⟩, hit, hne⟩, hl⟩ := st
    obtain ⟨xs, x, hq, hn, hx⟩ := hg
    obtain ⟨its, rv, p, hz⟩ := I.tuple hq
    obtain ⟨u, hu, ru⟩ := rv.get hx
    have p' : s.heap.IsTuple a its.toArray := p
    have nai : a ≠ it := fun z => by
      obtain ⟨o, h1, h2, _⟩ := p'
      obtain ⟨o', h1', h2', _⟩ := hit
      rw [← z, h1] at h1'
      cases h1'
      rw [h2] at h2'
      exact absurd h2' (by decide)
    have nae : a ≠ e := fun z => by
      obtain ⟨o, h1, h2, _⟩ := p'
      rw [z] at h1
      have h3 := Option.some.inj (h1.symm.trans he)
      rw [h3] at h2
      exact absurd h2 (by show ¬ Value.type "enumerate" = Value.type "tuple"; decide)
    have D := Draws.tuple (prog := X.prog) (w := X.w) (A := X.A.in1) (I.ok.hd hc) it a nai its.toArray
    have len : its.toArray.size = n := by rw [← hn, rv.length]; simp
    have hin : i < its.toArray.size := by
      have := (List.getElem?_eq_some_iff.mp hx).1
      rw [rv.length] at this
      simpa using this
    have hel : e < s.heap.objs.size := Heap.lt_size he
    have hil : it < s.heap.objs.size := by
      obtain ⟨_, q, _⟩ := hit
      exact Heap.lt_size q
    refine wpAny_pyNext_enum_itemD D he ⟨hit, p'⟩ hin hne (by simp; exact ⟨hne, fun z => nae z.symm⟩) fun y h' tk hy ho hst hT hsz hk => ?_
    have ey : y = u := by
      have h2 : its.toArray[i]? = some u := by simpa using hu
      exact Option.some.inj (hy.symm.trans h2)
    subst ey
    refine ⟨_, rfl, wpAny_letOwnedTupleGo_enum (s := { s with heap := h', toks := tk + 1 }) ho fun h'' he' sb => ?_⟩
    have hT2 : h''.get? s.heap.objs.size = some { cls := .type "tuple", data := .seq #[.int i tk, y] } := (sb.2 _ (Nat.ne_of_gt hel)).trans hT
    have nw : ObjOk X.prog X.w (upd H s.heap.objs.size (.tup [.int (i : Nat), x])) h'' s.heap.objs.size (.tup [.int (i : Nat), x]) := ⟨by show 2 ≤ sizeLine; decide, [.int i tk, y], .cons ⟨_, rfl⟩ (.cons ru .nil), ⟨_, hT2, rfl, _, rfl⟩⟩
    have J : L2.Inv X pins σ (upd H s.heap.objs.size (.tup [.int (i : Nat), x])) { s with heap := h'', toks := tk + 1 } :=
      I.turnedNew (ch := [e, it]) (fun b ob hb q => (sb.2 b (fun z => hb (by simp [z]))).trans (hk b ob (fun z => hb (by simp [z])) (fun z => hb (by simp [z])) q)) hf (Nat.le_refl _) nw
    refine ⟨.ref s.heap.objs.size, _, J, rfl, ⟨_, x, rfl, I.hok.fresh (Nat.le_refl _), rfl, fun ys hy => by rw [I.tuple_inj hy hq]; exact hx⟩, ⟨⟨⟨y, ?_⟩, hst.1.at fun o q => (sb.2 it (Ne.symm hne)).trans q, hne⟩, by omega⟩, fun b hb => ?_⟩
    · have e1 : ((i + 1 : Nat) : Int) = (i : Int) + 1 := by omega
      rw [e1]
      exact he'
    · have hb' : b < s.heap.objs.size := by
        rcases (show b = e ∨ b = it by simpa using hb) with z | z
        · rw [z]; exact hel
        · rw [z]; exact hil
      rw [upd_ne (Nat.ne_of_lt hb')]
      exact (hf b hb).1
  done := by
    intro X hP hw hK hc i pins s σ H E I hf st hg
    subst hP hw hK
    obtain ⟨⟨⟨old, he⟩, hit, hne⟩, hl⟩ := st
    obtain ⟨xs, hq, hn, hi⟩ := hg
    obtain ⟨its, rv, p, hz⟩ := I.tuple hq
    have p' : s.heap.IsTuple a its.toArray := p
    have nai : a ≠ it := fun z => by
      obtain ⟨o, h1, h2, _⟩ := p'
      obtain ⟨o', h1', h2', _⟩ := hit
      rw [← z, h1] at h1'
      cases h1'
      rw [h2] at h2'
      exact absurd h2' (by decide)
    have D := Draws.tuple (prog := X.prog) (w := X.w) (A := X.A.in1) (I.ok.hd hc) it a nai its.toArray
    have len : its.toArray.size = i := by
      have := rv.length
      simp
      omega
    obtain ⟨f0, f1, f2, f3, f4, f5⟩ := hf it (by simp)
    exact wpAny_pyNext_enum_endD D he (by rw [len]; exact ⟨hit, p'⟩) fun h' eb => ⟨rfl, I.turned (t' := s.toks) (fun b o hb q => eb b o hb q) f0 f1 f3 f4 f5⟩
  self := fun A i s Q E st h => by
    obtain ⟨⟨⟨_, he⟩, _⟩, _⟩ := st
    exact wpAny_pyIter_enum he h
def iEnumT (K : PySem.W.Frag) (ta : TA) : TI := fun σ H R => ta σ H fun vs H1 => ∃ a xs, vs = [.ref a] ∧ SqT K H1 a xs ∧ R (Itet K a xs.length) H1
theorem pi_enumT {X : Cx} {e : Expr} {ta : TA} {p pos tpos : Pos} {elts : List Expr} {kk : Nat} (hg : Gl X "enumerate") (hm : X.mg "enumerate" = none) (ha : PA X [e] ta) (hs : starEach [e] X.env = [(false, eval e X.env)] := by rfl) : PI X (.Tuple elts kk tpos) (.Call (.Name "enumerate" p) [e] [] pos) (iEnumT X.K ta) := by
  refine ⟨fun pins s σ H R I h => ?_⟩
  refine Call_ (ld_blt I hg hm boot_enumerate (PyProof.Rows.callWith_type1 (thn (ha.run pos pins s σ H _ I h) fun us s1 ⟨vs, H1, I1, r1, a, xs, ex, hq, q⟩ => ?_) hs rfl))
  subst ex
  obtain ⟨u, rfl, r⟩ := r1.one
  cases r
  obtain ⟨its, rv, p', hz⟩ := I1.tuple hq
  refine call_enum (begins_tuple a its.toArray) p' fun h' he ho hk => wpAny_pyIter_enum he ?_
  have I2 : L2.Inv X pins σ H1 { s1 with heap := h' } := I1.kept (t' := s1.toks) hk
  refine ⟨s1.heap.objs.size + 1, [s1.heap.objs.size + 1, s1.heap.objs.size], _, _, H1, rfl, I2, turn_et a (s1.heap.objs.size + 1) s1.heap.objs.size xs.length, ⟨⟨⟨.none, he⟩, ⟨_, ho, rfl, rfl⟩, Nat.succ_ne_self _⟩, Nat.zero_le _⟩, fun b hb => ?_, q⟩
  have hle : s1.heap.objs.size ≤ b := by
    rcases (show b = s1.heap.objs.size + 1 ∨ b = s1.heap.objs.size by simpa using hb) with z | z
    · rw [z]; exact Nat.le_succ _
    · rw [z]; exact Nat.le_refl _
  exact I1.fpOk hle (I1.hok.fresh hle)
end VI
set_option Elab.async false
set_option linter.all false
set_option maxRecDepth 100000
set_option maxHeartbeats 4000000
namespace VI
open PySem PySem.Spec PyProof.Rows L2
section
variable {prog : Program} {w : World} {A : Around} {E : Value → Shared → Prop} {s : Shared} {T : String} {r d : Addr} {n : Nat} {P : Nat → Value → Prop} {OK : Heap → Prop}
theorem collect_run {R : Result → Shared → Prop} (D : PySem.W.KdlSrc prog w T r d n P OK) (hh : A.handled = none) (ok : OK s.heap) (hn : n ≤ sizeLine)
    (hR : ∀ (h' : Heap) (tk : Nat) (acc : Array Value) (c : Nat), (∀ b o, s.heap.get? b = some o → h'.get? b = some o) → h'.get? s.heap.objs.size = some { cls := .type "list", dict := none, data := .seq acc c, slots := #[] } → ItemsOf P acc n → R (.ok (.ret (.ref s.heap.objs.size))) { s with heap := h', toks := tk }) :
    codeAny (model prog w) A (.builtin "proto.collect" ⟨[.ref r], []⟩) R s := by
  have hlt := D.there _ ok
  refine codeAny_builtin F.entry_proto_collect ?_
  rw [Around.under_plainId F.plain_proto_collect _]
  show wpAny _ A.in1 (newList [] >>= fun y => again (.builtin "list.__iadd__" ⟨[y, .ref r], []⟩)) _ _ s
  refine wpAny_bind (wpAny_newObj_type ?_)
  refine wpAny_pure ⟨plainId_quiet F.plain_list_iadd _, codeAny_builtin F.entry_list_iadd ?_⟩
  rw [Around.under_plainId F.plain_list_iadd _]
  have e1 : (s.heap.push { cls := .type "list", data := .seq ([] : List Value).toArray }).get? s.heap.objs.size = some { cls := .type "list", data := .seq ([] : List Value).toArray } := Heap.get?_push_size _ rfl
  show wpAny _ A.in1 (Builtin.List.listExtendWith (.ref s.heap.objs.size) (.ref r) (.ref s.heap.objs.size)) _ _ _
  refine PySem.W.kdl_extend (R := R) (s := { s with heap := s.heap.push { cls := .type "list", data := .seq ([] : List Value).toArray } }) D hh (D.keep _ _ ok fun b _ o e => Heap.get?_push_of_some _ e) s.heap.objs.size (Nat.ne_of_gt hlt.1) (Nat.ne_of_gt hlt.2) (.ref s.heap.objs.size) _ e1 (fun h' tk acc c' hk hS hacc => ?_) hn
  exact hR h' tk acc c' (fun b o e => hk b o (Nat.ne_of_lt (Heap.lt_size e)) (Heap.get?_push_of_some _ e)) hS hacc
theorem collect_src {Q : List Value → Shared → Prop} (D : PySem.W.KdlSrc prog w T r d n P OK) (hh : A.handled = none) (ok : OK s.heap) (hn : n ≤ sizeLine)
    (hQ : ∀ (h' : Heap) (tk : Nat) (acc : Array Value), (∀ b o, s.heap.get? b = some o → h'.get? b = some o) → ItemsOf P acc n → Q acc.toList { s with heap := h', toks := tk }) : wpAny (model prog w) A (collect (.ref r)) Q E s := by
  unfold collect
  refine wpAny_bind (wpAny_runValue (collect_run D hh ok hn fun h' tk acc c hk hS hacc => ?_))
  show wpAny _ A (load s.heap.objs.size >>= _) _ _ { s with heap := h', toks := tk }
  refine wpAny_bind (wpAny_load hS (wpAny_pure ?_))
  exact hQ h' tk acc hk hacc
theorem new_src {Q : Value → Shared → Prop} (D : PySem.W.KdlSrc prog w T r d n P OK) (hh : A.handled = none) (ok : OK s.heap) (hn : n ≤ sizeLine)
    (h : ∀ (h' : Heap) (tk : Nat) (acc : Array Value), (∀ b o, s.heap.get? b = some o → h'.get? b = some o) → ItemsOf P acc n → Q (.ref h'.objs.size) { s with heap := h'.push { cls := .type "tuple", data := .seq acc }, toks := tk }) :
    codeAny (model prog w) A (.call (.builtin "tuple.__new__") ⟨[.type "tuple", .ref r], []⟩) (wants Q E) s := by
  refine codeAny_of_tree ?_
  show wpAny _ A.in1 (do checkBuiltinCall "tuple.__new__" ⟨[.type "tuple", .ref r], []⟩; again (.builtin "tuple.__new__" ⟨[.type "tuple", .ref r], []⟩)) _ _ s
  refine wpAny_bind (wpAny_of_eq (F.newCall_tuple_1 _) (wpAny_pure ⟨plainId_quiet F.plain_tuple_new _, codeAny_builtin F.entry_tuple_new ?_⟩))
  rw [Around.under_plainId F.plain_tuple_new _]
  have a1 := sub_tuple_self
  have a2 := init_tuple_lookup
  have a3 := madeHere_tuple
  have a4 : s.TypeIs (.ref r) T := D.type s ok
  have a5 : A.in1.handled = none := hh
  have a6 := D.notTuple
  wp_walk using wpAny_typeOf a4, collect_src (A := A.in1) D a5 ok hn
  intro h' tk acc hk hacc
  show wpAny _ _ (Builtin.Tuple.tupleExact acc.toList.toArray >>= fun v => ret v) _ _ _
  unfold Builtin.Tuple.tupleExact
  refine wpAny_bind (wpAny_newObj_type ?_ (by show acc.toList.toArray.size ≤ sizeLine; simp only [Array.toArray_toList]; rw [hacc.1]; exact hn))
  refine wpAny_pure ?_
  rw [Array.toArray_toList]
  exact h h' tk acc hk hacc
theorem call_tuple_src {Q : Value → Shared → Prop} (D : PySem.W.KdlSrc prog w T r d n P OK) (hh : A.handled = none) (ok : OK s.heap) (hn : n ≤ sizeLine)
    (hQ : ∀ (h' : Heap) (tk : Nat) (acc : Array Value), (∀ b o, s.heap.get? b = some o → h'.get? b = some o) → ItemsOf P acc n → Q (.ref h'.objs.size) { s with heap := h'.push { cls := .type "tuple", data := .seq acc }, toks := tk }) :
    wpAny (model prog w) A (call (.type "tuple") [.ref r]) Q E s := by
  refine callType_codes (Q₁ := fun obj s₁ => s₁.TypeIs obj "tuple" ∧ Q obj s₁) F.called_tuple (F.typeCall_tuple_1 _) F.entry_object_init
    (new_src (A := A.in1) D hh ok hn fun h' tk acc hk hacc => ⟨⟨_, Heap.get?_push_size _ rfl, rfl⟩, hQ h' tk acc hk hacc⟩) fun obj s₁ h₁ => ?_
  exact ⟨h₁.1, F.args_object_init_2 obj _, object_init_meets F.called_tuple.init.lookup F.called_tuple.made (by decide) prog w A.in1 _ s₁ ⟨h₁.1, rfl, h₁.2⟩⟩
end
def rTupD : List V → Hp → VK → Prop := fun xs H Q => ∃ p kvs, xs = [.ref p] ∧ Rd H p (.dK kvs) ∧ ∀ q, H q = none → Q (.ref q) (upd H q (.tup (kvs.map fun kv => kV kv.1)))
theorem call_tuple_dK {X : Cx} (hc : X.calm = true) : CallR X (.type "tuple") rTupD := by
  intro pins s σ H xs us Q I r h
  obtain ⟨p, kvs, rfl, hk, q⟩ := h
  obtain ⟨u, rfl, rx⟩ := vals1 r
  obtain rfl : u = Value.ref p := rx
  obtain ⟨z, lo, vs, rk, hd⟩ := (show ObjOk X.prog X.w H s.heap p (.dK kvs) from hk.ok I.hok)
  obtain ⟨ep, hat⟩ := hd.dictAt
  have hl : kvs.length = vs.length := Paired.length rk
  refine call_tuple_src (PySem.W.kdl_dict (knd := mixKind X.prog X.w) (kvs := vs) (ep := ep) lo) (I.ok.hd hc) hat (by rw [← hl]; exact z) fun h' tk acc hkeep hacc => ?_
  have I1 := I.kept (t' := tk) hkeep
  have hf : H h'.objs.size = none := I1.hok.fresh (Nat.le_refl _)
  refine ⟨.ref h'.objs.size, upd H h'.objs.size (.tup (kvs.map fun kv => kV kv.1)), I1.laid (t' := tk) (fun b u e => Heap.get?_push_of_some _ e) (Nat.le_refl _) ?_, rfl, q _ hf⟩
  refine ⟨by rw [List.length_map]; exact z, acc.toList, ?_, ⟨_, Heap.get?_push_size _ rfl, rfl, _, by rw [Array.toArray_toList]⟩⟩
  have el : acc.toList.length = acc.size := by simp
  refine vals_of_at (by rw [List.length_map, el, hacc.1, hl]) fun j x y h1 h2 => ?_
  obtain ⟨k, v, hky, hi⟩ := hacc.2 j y (by rw [← Array.getElem?_toList]; exact h2)
  have e1 : (kvs.map (·.1))[j]? = some k := by
    rw [KV.keys rk, List.getElem?_map, hky]
    rfl
  rw [List.getElem?_map] at h1 e1
  cases e2 : kvs[j]? with
  | none => rw [e2] at e1; cases e1
  | some kv =>
    rw [e2] at e1 h1
    cases e1
    cases h1
    exact keyIs_rel hi
end VI
set_option Elab.async false
set_option linter.all false
set_option maxRecDepth 100000
set_option maxHeartbeats 4000000
namespace VI
open PySem L2 RZ
def nxE (us : List U) : Nx := fun i _ => some (us[i]?.map fun u => .tup [.int (i : Nat), u])
def nxELive (n : Nat) : Nx := fun i S => (S.lst n).map fun us => us[i]?.map fun u => .tup [.int (i : Nat), u]
def iEnum (ms : MA) : MI := fun env S => (ms env S).bind fun us S1 => match us with
  | [.tup us] => .ok (nxE us) S1
  | [.fl us] => .ok (nxE us) S1
  | [.ref n] => (match S1.lst n with
    | some _ => .ok (nxELive n) S1
    | none => .no)
  | _ => .no
def nxZ (us ws : List U) : Nx := fun i _ => match us[i]?, ws[i]? with
  | some u, some w => some (some (.tup [u, w]))
  | _, _ => some none
def iZip (ms : MA) : MI := fun env S => (ms env S).bind fun us S1 => match us with
  | [.tup us, .tup ws] => .ok (nxZ us ws) S1
  | [.fl us, .fl ws] => .ok (nxZ us ws) S1
  | _ => .no
section
variable {K : PySem.W.Frag} {E : XK} {ad : List Addr} {lo : Nat → Option Obj} {H : Hp} {S : Sto}
theorem RUs.nth {us : List U} {vs : List V} (q : RUs K ad H us vs) (i : Nat) : match us[i]? with
    | some u => ∃ v, vs[i]? = some v ∧ RU K ad H u v
    | none => vs.length ≤ i := by
  cases e : us[i]? with
  | some u => exact q.get e
  | none => rw [← q.length]; exact List.getElem?_eq_none_iff.mp e
theorem RIt.enumT {a : Addr} {us : List U} {vs : List V} (rs0 : RS K ad lo H S) (hs : SqT K H a vs) (q : RUs K ad H us vs) : RIt K ad H (nxE us) (Itet K a vs.length) := by
  intro ad1 lo1 H1 S1 i x rs
  have hs1 := SqT.adv rs0 x hs
  have z := (q.adv rs0 x).nth i
  unfold nxE
  cases e : us[i]? with
  | none => rw [e] at z; exact ⟨vs, hs1, rfl, z⟩
  | some u =>
    rw [e] at z
    obtain ⟨v, e1, r⟩ := z
    refine ⟨⟨vs, v, hs1, rfl, e1⟩, fun y H' hy => ?_⟩
    obtain ⟨T, w, rfl, hT, rfl, hw⟩ := hy
    have e2 := hw vs hs1
    rw [e1] at e2
    cases e2
    obtain ⟨rs', x', ru'⟩ := rs.tup hT (.cons (.int (i : Nat)) (.cons r .nil))
    exact ⟨x', rs', ru'⟩
theorem RIt.enumF {a : Addr} {o : Obj} {us : List U} {vs : List V} (rs0 : RS K ad lo H S) (hs : H a = some (.frz o (.lst vs))) (q : RUs K ad H us vs) : RIt K ad H (nxE us) (Ite K a) := by
  intro ad1 lo1 H1 S1 i x rs
  have hs1 : SqL K H1 a vs := .inl (.inr ⟨_, x.frz _ _ _ hs⟩)
  have z := (q.adv rs0 x).nth i
  unfold nxE
  cases e : us[i]? with
  | none => rw [e] at z; exact ⟨vs, hs1, z⟩
  | some u =>
    rw [e] at z
    obtain ⟨v, e1, r⟩ := z
    refine ⟨⟨vs, v, hs1, e1⟩, fun y H' hy => ?_⟩
    obtain ⟨T, w, rfl, hT, rfl, hw⟩ := hy
    have e2 := hw vs hs1
    rw [e1] at e2
    cases e2
    obtain ⟨rs', x', ru'⟩ := rs.tup hT (.cons (.int (i : Nat)) (.cons r .nil))
    exact ⟨x', rs', ru'⟩
theorem RIt.enumL {a : Addr} {n : Nat} (ea : ad[n]? = some a) : RIt K ad H (nxELive n) (Ite K a) := by
  intro ad1 lo1 H1 S1 i x rs
  have ea1 := x.get ea
  unfold nxELive
  cases e : S1.lst n with
  | none => trivial
  | some us =>
    obtain ⟨vs, hs, q, _⟩ := rs.sql e ea1
    have z := q.nth i
    simp only [Option.map_some]
    cases e0 : us[i]? with
    | none => rw [e0] at z; exact ⟨vs, hs, z⟩
    | some u =>
      rw [e0] at z
      obtain ⟨v, e1, r⟩ := z
      refine ⟨⟨vs, v, hs, e1⟩, fun y H' hy => ?_⟩
      obtain ⟨T, w, rfl, hT, rfl, hw⟩ := hy
      have e2 := hw vs hs
      rw [e1] at e2
      cases e2
      obtain ⟨rs', x', ru'⟩ := rs.tup hT (.cons (.int (i : Nat)) (.cons r .nil))
      exact ⟨x', rs', ru'⟩
theorem RIt.zipT {a b : Addr} {us ws : List U} {vs zs : List V} (rs0 : RS K ad lo H S) (hs : SqT K H a vs) (hz : SqT K H b zs) (q : RUs K ad H us vs) (p : RUs K ad H ws zs) : RIt K ad H (nxZ us ws) (ItzT K a b) := by
  intro ad1 lo1 H1 S1 i x rs
  have hs1 := SqT.adv rs0 x hs
  have hz1 := SqT.adv rs0 x hz
  have z := (q.adv rs0 x).nth i
  have y := (p.adv rs0 x).nth i
  unfold nxZ
  cases e : us[i]? with
  | none => rw [e] at z; exact ⟨vs, zs, hs1, hz1, .inl z⟩
  | some u =>
    rw [e] at z
    cases e' : ws[i]? with
    | none => rw [e'] at y; exact ⟨vs, zs, hs1, hz1, .inr y⟩
    | some w =>
      rw [e'] at y
      obtain ⟨v, e1, r⟩ := z
      obtain ⟨v', e1', r'⟩ := y
      refine ⟨⟨vs, zs, v, v', hs1, hz1, e1, e1'⟩, fun y H' hy => ?_⟩
      obtain ⟨T, w1, w2, rfl, hT, rfl, hw1, hw2⟩ := hy
      have e2 := hw1 vs hs1
      have e3 := hw2 zs hz1
      rw [e1] at e2
      rw [e1'] at e3
      cases e2
      cases e3
      obtain ⟨rs', x', ru'⟩ := rs.tup hT (.cons r (.cons r' .nil))
      exact ⟨x', rs', ru'⟩
theorem RIt.zipF {a b : Addr} {o o2 : Obj} {us ws : List U} {vs zs : List V} (rs0 : RS K ad lo H S) (hs : H a = some (.frz o (.lst vs))) (hz : H b = some (.frz o2 (.lst zs))) (q : RUs K ad H us vs) (p : RUs K ad H ws zs) : RIt K ad H (nxZ us ws) (Itz K a b) := by
  intro ad1 lo1 H1 S1 i x rs
  have hs1 : SqL K H1 a vs := .inl (.inr ⟨_, x.frz _ _ _ hs⟩)
  have hz1 : SqL K H1 b zs := .inl (.inr ⟨_, x.frz _ _ _ hz⟩)
  have z := (q.adv rs0 x).nth i
  have y := (p.adv rs0 x).nth i
  unfold nxZ
  cases e : us[i]? with
  | none => rw [e] at z; exact ⟨vs, zs, hs1, hz1, .inl z⟩
  | some u =>
    rw [e] at z
    cases e' : ws[i]? with
    | none => rw [e'] at y; exact ⟨vs, zs, hs1, hz1, .inr y⟩
    | some w =>
      rw [e'] at y
      obtain ⟨v, e1, r⟩ := z
      obtain ⟨v', e1', r'⟩ := y
      refine ⟨⟨vs, zs, v, v', hs1, hz1, e1, e1'⟩, fun y H' hy => ?_⟩
      obtain ⟨T, w1, w2, rfl, hT, rfl, hw1, hw2⟩ := hy
      have e2 := hw1 vs hs1
      have e3 := hw2 zs hz1
      rw [e1] at e2
      rw [e1'] at e3
      cases e2
      cases e3
      obtain ⟨rs', x', ru'⟩ := rs.tup hT (.cons r (.cons r' .nil))
      exact ⟨x', rs', ru'⟩
theorem RUs.one_of {u : U} {vs : List V} (q : RUs K ad H [u] vs) : ∃ v, vs = [v] ∧ RU K ad H u v := by
  cases q with
  | cons r t => cases t; exact ⟨_, rfl, r⟩
theorem RUs.two_of {u w : U} {vs : List V} (q : RUs K ad H [u, w] vs) : ∃ v v', vs = [v, v'] ∧ RU K ad H u v ∧ RU K ad H w v' := by
  cases q with
  | cons r t => cases t with | cons r' t => cases t; exact ⟨_, _, rfl, r, r'⟩
end
section
variable {X : Cx} {E : XK} {e e2 : Expr} {ms : MA} {p pos tpos : Pos} {elts : List Expr} {kk : Nat}
theorem si_enum (hg : Gl X "enumerate") (hm : X.mg "enumerate" = none) (ha : SA X E [e] ms) (hs : starEach [e] X.env = [(false, eval e X.env)] := by rfl) : SI X E (.Tuple elts kk tpos) (.Call (.Name "enumerate" p) [e] [] pos) (iEnum ms) := by
  refine PI.by (PI.or (pi_enum hg hm ha hs) (pi_enumT hg hm ha hs)) fun σ H R' h => ?_
  obtain ⟨ad, lo, env, S, rs, re, g⟩ := h
  unfold iEnum at g
  cases em : ms env S with
  | no => rw [em] at g; exact g.elim
  | exc c fs S1 => rw [em] at g; exact .inl ⟨ad, lo, env, S, rs, re, by rw [em]; exact g⟩
  | ok us S1 =>
    rw [em, VI.R.bind_ok] at g
    split at g
    · refine .inr ⟨ad, lo, env, S, rs, re, ?_⟩
      rw [em]
      intro ad1 H1 v x rs1 ru
      obtain ⟨w, rfl, rw'⟩ := ru.one_of
      obtain ⟨a, vs, rfl, hs, q⟩ := rw'.tup_of
      exact ⟨a, vs, rfl, hs, g ad1 H1 _ x rs1 (RIt.enumT rs1 hs q)⟩
    · refine .inl ⟨ad, lo, env, S, rs, re, ?_⟩
      rw [em]
      intro ad1 H1 v x rs1 ru
      obtain ⟨w, rfl, rw'⟩ := ru.one_of
      cases rw' with
      | fl hs q => exact ⟨_, _, rfl, .inl (.inr ⟨_, hs⟩), g ad1 H1 _ x rs1 (RIt.enumF rs1 hs q)⟩
    · split at g
      · rename_i us' el
        refine .inl ⟨ad, lo, env, S, rs, re, ?_⟩
        rw [em]
        intro ad1 H1 v x rs1 ru
        obtain ⟨w, rfl, rw'⟩ := ru.one_of
        obtain ⟨a, rfl, ea⟩ := rw'.ref_of
        obtain ⟨vs, hs, q, _⟩ := rs1.sql el ea
        exact ⟨a, vs, rfl, hs, g ad1 H1 _ x rs1 (RIt.enumL ea)⟩
      · exact g.elim
    · exact g.elim
theorem si_zip (hg : Gl X "zip") (hm : X.mg "zip" = none) (ha : SA X E [e, e2] ms) (hs : starEach [e, e2] X.env = (false, eval e X.env) :: starEach [e2] X.env := by rfl) (hpl : (backTo pos (starEach [e2] X.env)).any (·.1) = false := by rfl) : SI X E (.Tuple elts kk tpos) (.Call (.Name "zip" p) [e, e2] [] pos) (iZip ms) := by
  refine PI.by (pi_zipA hg hm ha hs hpl) fun σ H R' h => ?_
  obtain ⟨ad, lo, env, S, rs, re, g⟩ := h
  refine ⟨ad, lo, env, S, rs, re, ?_⟩
  unfold iZip at g
  cases em : ms env S with
  | no => rw [em] at g; exact g.elim
  | exc c fs S1 => rw [em] at g; exact g
  | ok us S1 =>
    rw [em, VI.R.bind_ok] at g
    split at g
    · intro ad1 H1 v x rs1 ru
      obtain ⟨w, w', rfl, r1, r2⟩ := ru.two_of
      obtain ⟨a, vs, rfl, hs, q⟩ := r1.tup_of
      obtain ⟨b, zs, rfl, hz, q'⟩ := r2.tup_of
      exact ⟨a, b, vs, zs, rfl, .inr ⟨hs, hz, g ad1 H1 _ x rs1 (RIt.zipT rs1 hs hz q q')⟩⟩
    · intro ad1 H1 v x rs1 ru
      obtain ⟨w, w', rfl, r1, r2⟩ := ru.two_of
      cases r1 with
      | fl hs q => cases r2 with
        | fl hz q' => exact ⟨_, _, _, _, rfl, .inl ⟨.inl (.inr ⟨_, hs⟩), .inl (.inr ⟨_, hz⟩), g ad1 H1 _ x rs1 (RIt.zipF rs1 hs hz q q')⟩⟩
    · exact g.elim
end
end VI
set_option Elab.async false
set_option linter.all false
set_option maxRecDepth 100000
set_option maxHeartbeats 4000000
namespace VI
open PySem L2
inductive Ty where
  | non | bool | int | str | tup | lst | dct
  deriving DecidableEq
def Ty.nm : Ty → String
  | .non => "NoneType" | .bool => "bool" | .int => "int" | .str => "str" | .tup => "tuple" | .lst => "list" | .dct => "dict"
def tyU (u : U) (S : Sto) : Option Ty := match u with
  | .non => some .non
  | .bl _ => some .bool
  | .int _ => some .int
  | .str _ => some .str
  | .tup _ => some .tup
  | .sc _ => some .lst
  | .fl _ => some .lst
  | .fd _ => some .dct
  | .ref n => match S.objs[n]? with
    | some (.lst _) => some .lst
    | some (.dct _) => some .dct
    | _ => none
def isB (a b : Ty) : Bool := decide (a = b) || (match a, b with | .bool, .int => true | _, _ => false)
theorem kit_isB : ∀ (a b : Ty), b ≠ .non → kitB a.nm b.nm = some (isB a b) := by
  intro a b h
  cases b with
  | non => exact absurd rfl h
  | _ => cases a <;> decide +kernel
theorem kitAny_isB {K : PySem.W.Frag} (a : Ty) : ∀ bs : List Ty, (∀ b ∈ bs, b ≠ .non) → PySem.W.kitAny K (.type a.nm) (bs.map fun b => .type b.nm) = some (bs.any fun b => isB a b)
  | [], _ => rfl
  | b :: bs, h => kitAny_cons (kit_ty (kit_isB a b (h b (by simp)))) (fun e => by rw [List.any_cons, e, Bool.false_or]; exact kitAny_isB a bs fun x hx => h x (by simp [hx])) (fun e => by rw [List.any_cons, e, Bool.true_or])
/-- what is known of an own class's instances -/
structure ITy (K : PySem.W.Frag) (c : Str) : Prop where
  cls : Cls K (He.ga K c)
  ha : PySem.W.findIn K (.ref (He.ga K c)) "__class__" = some (some (.builtin "object.__class__"))
  hn : PySem.W.specialIn K (.builtin "object.__class__") "__get__" = some (some (.builtin "getset_descriptor.__get__"))
  htk : PySem.W.takesIn K (.builtin "object.__class__") = some true
  hm : PySem.W.mroIn K (He.ga K c) (.type "object") = some true
  nb : ∀ b : Ty, PySem.W.kitOne K (.ref (He.ga K c)) (.type b.nm) = some false
  bn : ∀ b : Ty, PySem.W.kitOne K (.type b.nm) (.ref (He.ga K c)) = some false
def insU (u : U) (S : Sto) : Option Str := match u with
  | .ref n => (S.ins n).map (·.1)
  | _ => none
/-- isinstance(u, b), b built in; tb: the own classes that are known -/
def isiB (tb : Str → Bool) (bs : List Ty) (u : U) (S : Sto) : R U := match tyU u S with
  | some a => .ok (.bl (bs.any fun b => isB a b)) S
  | none => match insU u S with
    | some c => if tb c = true then .ok (.bl false) S else .no
    | none => .no
/-- isinstance(u, d), d an own class -/
def isiO (tb : Str → Bool) (d : Str) (u : U) (S : Sto) : R U := match tyU u S with
  | some a => .ok (.bl false) S
  | none => match insU u S with
    | some c => if tb c = true then .ok (.bl (decide (c = d))) S else .no
    | none => .no
section
variable {K : PySem.W.Frag} {E : XK} {ad : List Addr} {lo : Nat → Option Obj} {H : Hp} {S : Sto} {u : U} {v : V}
theorem ty_ok (rs : RS K ad lo H S) (ru : RU K ad H u v) {a : Ty} (e : tyU u S = some a) : TyX K H v (.type a.nm) := by
  cases ru with
  | non => cases e; exact .base .non
  | bl b => cases e; exact .base (.bl b)
  | int i => cases e; exact .base (.int i)
  | str x => cases e; exact .base (.str x)
  | tup hs q =>
    cases e
    rcases hs with (hs | ⟨o, hs⟩) | ⟨o, its, n, hk, hc, _⟩
    · exact .base (.tup hs)
    · exact .fTuple hs
    · exact .kTuple hk hc
  | sc hs q => cases e; exact .base (.frz hs)
  | sck hs q => cases e; obtain ⟨o, is, n, hk, hc, _⟩ := hs; exact .kList hk hc
  | fl hs q => cases e; exact .base (.frz hs)
  | fd hs _ q => cases e; exact .fDict hs
  | @ref n a ea =>
    unfold tyU at e
    simp only at e
    split at e
    · rename_i xs eo
      cases e
      obtain ⟨b, w, e1, ro, e2⟩ := rs.obj n _ eo
      rw [ea] at e1
      cases e1
      cases ro with
      | lst q =>
        rw [rs.noL (by unfold Sto.lst; rw [eo])] at e2
        exact .base (.lst e2)
    · rename_i kvs eo
      cases e
      obtain ⟨b, w, e1, ro, e2⟩ := rs.obj n _ eo
      rw [ea] at e1
      cases e1
      cases ro with
      | dct q =>
        cases l : lo n with
        | none => rw [l] at e2; exact .base (.dK e2)
        | some o => rw [l] at e2; exact .fDict e2
    · cases e
theorem ins_ok (rs : RS K ad lo H S) (ru : RU K ad H u v) {c : Str} (e : insU u S = some c) (t : ITy K c) : TyX K H v (.ref (He.ga K c)) := by
  cases ru with
  | @ref n a ea =>
    have e' : (S.ins n).map (·.1) = some c := e
    cases ei : S.ins n with
    | none => rw [ei] at e'; cases e'
    | some p =>
      rw [ei] at e'
      cases e'
      obtain ⟨dx, gs, e1, _⟩ := rs.insH (c := p.1) (fs := p.2) ei ea
      exact .base (.ins e1 t.cls t.ha t.hn t.htk t.hm)
  | _ => cases e
end
section
variable {X : Cx} {E : XK} {e : Expr} {m : ME} {p p2 p3 pos : Pos}
theorem pe_tyN {x : Str} {T : String} (hg : Gl X x) (hm : X.mg x = none) (hv : bootBuiltins x = some (.type T)) (hn : x ≠ "__name__") (hd : (x == ("__debug__" : Str)) = false) : PE X (.Name x p) (tC (.ty T)) :=
  ⟨fun pins s σ H Q I h => ld_blt I hg hm hv ⟨.ty T, H, I, rfl, h⟩ hn hd⟩
theorem x1_1 {g : U → Sto → R U} {tv : TE} {r : List V → Hp → VK → Prop} {c : V} (htv : ∀ σ H Q, Q c H → tv σ H Q) (h1 : ∀ x H Q, rI1 X.K E g x H Q → r [x, c] H Q) (σ : St) (H : Hp) (Q : VK) (h : tI X.K E (x1 g m) σ H Q) : tCB r (tCons (tI X.K E m) (tCons tv tNil)) σ H Q :=
  tE.imp (tI_1 σ H Q h) fun x H1 q => htv σ H1 _ (h1 x H1 Q q)
/-- isinstance(e, str) -/
theorem se_isi {tb : Str → Bool} (b : Ty) {x : Str} (hb : b ≠ .non) (ht : ∀ c, tb c = true → ITy X.K c) (hg : Gl X "isinstance") (hm : X.mg "isinstance" = none) (hg2 : Gl X x) (hm2 : X.mg x = none) (hv : bootBuiltins x = some (.type b.nm)) (hn : x ≠ "__name__") (hd : (x == ("__debug__" : Str)) = false) (he : PE X e (tI X.K E m))
    (hs : starEach [e, .Name x p2] X.env = (false, eval e X.env) :: starEach [.Name x p2] X.env := by rfl) : SE X E (.Call (.Name "isinstance" p) [e, .Name x p2] [] pos) (x1 (isiB tb [b]) m) := by
  refine .of (PE.by (pe_callB call_isi hg hm PyProof.Rows.boot_isinstance (pa_cons he (pa_cons (pe_tyN hg2 hm2 hv hn hd) pa_nil) hs) (by decide) (by decide) hs rfl) (x1_1 (c := .ty b.nm) (fun σ H Q q => q) ?_))
  rintro v H Q ⟨ad, lo, S, u, rs, ru, g⟩
  unfold isiB at g
  split at g
  · rename_i a ea
    refine ⟨v, .ty b.nm, .type a.nm, .type b.nm, isB a b, rfl, .ty _, ty_ok rs ru ea, kit_ty (kit_isB a b hb), ?_⟩
    rw [List.any_cons, List.any_nil, Bool.or_false] at g
    exact Go.here g rs (.bl _)
  · split at g
    · rename_i c ec
      split at g
      · rename_i htc
        exact ⟨v, .ty b.nm, _, .type b.nm, false, rfl, .ty _, ins_ok rs ru ec (ht c htc), (ht c htc).nb b, Go.here g rs (.bl _)⟩
      · exact g.elim
    · exact g.elim
/-- isinstance(e, C), C an own class -/
theorem se_isiO {tb : Str → Bool} {d : Str} (hd : ITy X.K d) (ht : ∀ c, tb c = true → ITy X.K c ∧ PySem.W.kitOne X.K (.ref (He.ga X.K c)) (.ref (He.ga X.K d)) = some (decide (c = d))) (hg : Gl X "isinstance") (hm : X.mg "isinstance" = none) (hg2 : Gl X d) (hm2 : X.mg d = some (.ref (He.ga X.K d))) (hdb : (d == ("__debug__" : Str)) = false) (he : PE X e (tI X.K E m))
    (hs : starEach [e, .Name d p2] X.env = (false, eval e X.env) :: starEach [.Name d p2] X.env := by rfl) : SE X E (.Call (.Name "isinstance" p) [e, .Name d p2] [] pos) (x1 (isiO tb d) m) := by
  refine .of (PE.by (pe_callB call_isi hg hm PyProof.Rows.boot_isinstance (pa_cons he (pa_cons (pe_glob (v := .ref (He.ga X.K d)) hg2 hm2 rfl hdb) pa_nil) hs) (by decide) (by decide) hs rfl) (x1_1 (c := .ref (He.ga X.K d)) (fun σ H Q q => q) ?_))
  rintro v H Q ⟨ad, lo, S, u, rs, ru, g⟩
  unfold isiO at g
  split at g
  · rename_i a ea
    exact ⟨v, .ref (He.ga X.K d), .type a.nm, .ref (He.ga X.K d), false, rfl, .own _, ty_ok rs ru ea, hd.bn a, Go.here g rs (.bl _)⟩
  · split at g
    · rename_i c ec
      split at g
      · rename_i htc
        exact ⟨v, .ref (He.ga X.K d), _, .ref (He.ga X.K d), _, rfl, .own _, ins_ok rs ru ec (ht c htc).1, (ht c htc).2, Go.here g rs (.bl _)⟩
      · exact g.elim
    · exact g.elim
/-- isinstance(e, (list, tuple)) -/
theorem se_isi2 {tb : Str → Bool} (b b2 : Ty) {x y : Str} {kt : Nat} (hb : b ≠ .non) (hb2 : b2 ≠ .non) (ht : ∀ c, tb c = true → ITy X.K c) (hg : Gl X "isinstance") (hm : X.mg "isinstance" = none) (hgx : Gl X x) (hmx : X.mg x = none) (hvx : bootBuiltins x = some (.type b.nm)) (hnx : x ≠ "__name__") (hdx : (x == ("__debug__" : Str)) = false)
    (hgy : Gl X y) (hmy : X.mg y = none) (hvy : bootBuiltins y = some (.type b2.nm)) (hny : y ≠ "__name__") (hdy : (y == ("__debug__" : Str)) = false) (he : PE X e (tI X.K E m)) {p4 : Pos}
    (hs : starEach [e, .Tuple [.Name x p2, .Name y p3] kt p4] X.env = (false, eval e X.env) :: starEach [.Tuple [.Name x p2, .Name y p3] kt p4] X.env := by rfl) : SE X E (.Call (.Name "isinstance" p) [e, .Tuple [.Name x p2, .Name y p3] kt p4] [] pos) (x1 (isiB tb [b, b2]) m) := by
  refine .of (PE.by (pe_callB call_isiT hg hm PyProof.Rows.boot_isinstance (pa_cons he (pa_cons (pe_tup (pa_cons (pe_tyN hgx hmx hvx hnx hdx) (pa_cons (pe_tyN hgy hmy hvy hny hdy) pa_nil))) pa_nil) hs) (by decide) (by decide) hs rfl) ?_)
  intro σ H Q h
  refine tE.imp (tI_1 σ H Q h) ?_
  rintro v H1 ⟨ad, lo, S, u, rs, ru, g⟩
  refine ⟨by show 2 ≤ sizeLine; decide, fun t ht0 => ?_⟩
  obtain ⟨rs', x'⟩ := rs.grow (u := .tup [.ty b.nm, .ty b2.nm]) ht0
  have ru' := ru.adv rs x'
  unfold isiB at g
  split at g
  · rename_i a ea
    exact ⟨v, t, [.ty b.nm, .ty b2.nm], .type a.nm, [.type b.nm, .type b2.nm], _, rfl, upd_same .., .cons (.ty _) (.cons (.ty _) .nil), ty_ok rs' ru' ea, kitAny_isB a [b, b2] (by intro z hz; rcases List.mem_cons.mp hz with rfl | hz; exact hb; rw [List.mem_singleton.mp hz]; exact hb2), Go.now g x' rs' (.bl _)⟩
  · split at g
    · rename_i c ec
      split at g
      · rename_i htc
        exact ⟨v, t, [.ty b.nm, .ty b2.nm], _, [.type b.nm, .type b2.nm], false, rfl, upd_same .., .cons (.ty _) (.cons (.ty _) .nil), ins_ok rs' ru' ec (ht c htc), kitAny_cons ((ht c htc).nb b) (fun _ => kitAny_cons ((ht c htc).nb b2) (fun _ => kitAny_nil) (fun z => nomatch z)) (fun z => nomatch z), Go.now g x' rs' (.bl _)⟩
      · exact g.elim
    · exact g.elim
end
end VI
set_option Elab.async false
set_option linter.all false
set_option maxRecDepth 100000
set_option maxHeartbeats 4000000
namespace VI
open PySem L2
def leS (a b : Str) : Bool := decide (a.cps.toList ≤ b.cps.toList)
def sortS (ks : List Str) : List Str := ks.mergeSort leS
theorem leS_iff {a b : Str} : leS a b = true ↔ a.cps.toList ≤ b.cps.toList := by unfold leS; exact decide_eq_true_iff
theorem leS_trans (a b c : Str) (h : leS a b = true) (k : leS b c = true) : leS a c = true := leS_iff.mpr (List.le_trans (leS_iff.mp h) (leS_iff.mp k))
theorem leS_total (a b : Str) : (leS a b || leS b a) = true := by
  rw [Bool.or_eq_true, leS_iff, leS_iff]
  exact List.le_total _ _
theorem leS_anti {a b : Str} (h : leS a b = true) (k : leS b a = true) : a = b := by
  have e := List.le_antisymm (leS_iff.mp h) (leS_iff.mp k)
  cases a
  cases b
  exact congrArg Str.mk (Array.toList_inj.mp e)
theorem perm_sorted_eq : ∀ {xs ys : List Str}, xs.Perm ys → xs.Pairwise (fun a b => leS a b = true) → ys.Pairwise (fun a b => leS a b = true) → xs = ys
  | [], ys, p, _, _ => by rw [List.nil_perm.mp p]
  | x :: xs, ys, p, hx, hy => by
    cases ys with
    | nil => exact absurd p.length_eq (by simp)
    | cons y ys =>
      obtain ⟨h1, h2⟩ := List.pairwise_cons.mp hx
      obtain ⟨k1, k2⟩ := List.pairwise_cons.mp hy
      have e : x = y := by
        have m1 : x ∈ y :: ys := p.mem_iff.mp (by simp)
        have m2 : y ∈ x :: xs := p.mem_iff.mpr (by simp)
        rcases List.mem_cons.mp m1 with e | m1
        · exact e
        · rcases List.mem_cons.mp m2 with e | m2
          · exact e.symm
          · exact leS_anti (h1 y m2) (k1 x m1)
      subst e
      rw [perm_sorted_eq (List.Perm.cons_inv p) h2 k2]
theorem rising_pair : ∀ (p : Str) (l : List Str), PyProof.Rows.risingS p l = true → (p :: l).Pairwise (fun a b => leS a b = true)
  | p, [], _ => by simp
  | p, x :: r, h => by
    have h' : (!PySem.Spec.ltCps x.cps.toList p.cps.toList && PyProof.Rows.risingS x r) = true := h
    rw [Bool.and_eq_true, Bool.not_eq_true', PyProof.Rows.ltCps_eq, decide_eq_false_iff_not] at h'
    have hp : leS p x = true := leS_iff.mpr (List.not_lt.mp h'.1)
    have ih := rising_pair x r h'.2
    refine List.pairwise_cons.mpr ⟨fun y hy => ?_, ih⟩
    rcases List.mem_cons.mp hy with rfl | hy
    · exact hp
    · exact leS_trans _ _ _ hp ((List.pairwise_cons.mp ih).1 y hy)
theorem sortS_of {ks ys : List Str} (p : ys.Perm ks) (h : PyProof.Rows.sortedS ys = true) : ys = sortS ks := by
  refine perm_sorted_eq (p.trans (List.mergeSort_perm ks leS).symm) ?_ (List.pairwise_mergeSort leS_trans leS_total ks)
  cases ys with
  | nil => exact .nil
  | cons y r => exact rising_pair y r h
def nSortD (m : ME) : MA := fun env S => (m env S).bind fun u S1 => match dctU u S1 with
  | some kvs => if kvs.length < 64 then .ok ((sortS (kvs.map (·.1))).map U.str) S1 else .no
  | none => .no
def bTupD (us : List U) (S : Sto) : R U := match us with
  | [u] => (match dctU u S with
    | some kvs => .ok (.tup (keysU kvs)) S
    | none => .no)
  | _ => .no
section
variable {K : PySem.W.Frag} {E : XK} {ad : List Addr} {lo : Nat → Option Obj} {H : Hp} {S : Sto}
theorem RUs.strs : ∀ (ks : List Str), RUs K ad H (ks.map U.str) (ks.map V.str)
  | [] => .nil
  | k :: ks => .cons (.str k) (RUs.strs ks)
theorem RF.keys : ∀ {kvs : List (Str × U)} {ws : List (Str × V)}, RF K ad H kvs ws → (ws.map fun p => ((Sum.inr p.1 : Key), p.2)).map (·.1) = (kvs.map (·.1)).map Sum.inr
  | _, _, .nil => rfl
  | _, _, .cons _ t => by
    rw [List.map_cons, List.map_cons, List.map_cons, List.map_cons, RF.keys t]
theorem RF.keysV : ∀ {kvs : List (Str × U)} {ws : List (Str × V)}, RF K ad H kvs ws → RUs K ad H (keysU kvs) ((ws.map fun p => ((Sum.inr p.1 : Key), p.2)).map fun kv => kV kv.1)
  | _, _, .nil => .nil
  | _, _, .cons _ t => .cons (.str _) (RF.keysV t)
end
section
variable {X : Cx} {E : XK} {e o : Expr} {m mo : ME} {ms : MA} {p pos apos : Pos}
theorem sn_sortD (hc : X.calm = true) (hg : Gl X "sorted") (hm : X.mg "sorted" = none) (hv : bootBuiltins "sorted" = some (.builtin "sorted")) (he : PE X e (tI X.K E m))
    (hs : starEach [e] X.env = (false, eval e X.env) :: starEach [] X.env := by rfl) : SN X E (.Call (.Name "sorted" p) [e] [] pos) (nSortD m) := by
  refine PE.by (pe_callB (call_sortedD hc) hg hm hv (pa_cons he pa_nil hs) (by decide) (by decide) hs rfl) fun σ H Q h => ?_
  obtain ⟨ad, lo, env, S, rs, re, z⟩ := h
  refine tE.imp (Go.seq (rel := RU X.K) rs re z) ?_
  rintro v H1 ⟨u, ad1, S1, x1, rs1, re1, ru, z1⟩
  split at z1
  · rename_i kvs ek
    split at z1
    · rename_i hl
      obtain ⟨a, ws, rfl, hd, q⟩ := dctU_ok rs1 ru ek
      refine ⟨a, _, kvs.map (·.1), rfl, hd, q.keys, by rw [List.length_map]; exact hl, fun ys t hp hso ht => ?_⟩
      rw [sortS_of hp hso]
      exact Go.newN x1 rs1 z1 ht (RUs.strs _)
    · exact z1.elim
  · exact z1.elim
theorem call_tupDI (hc : X.calm = true) : CallR X (.type "tuple") (rIs X.K E bTupD) := by
  refine CallR.by (call_tuple_dK hc) ?_
  rintro xs H Q ⟨ad, lo, S, us, rs, ru, g⟩
  unfold bTupD at g
  split at g
  · obtain ⟨v, rfl, rv⟩ := ru.one_of
    split at g
    · rename_i kvs ek
      obtain ⟨a, ws, rfl, hd, q⟩ := dctU_ok rs rv ek
      refine ⟨a, _, rfl, hd, fun t ht => ?_⟩
      obtain ⟨rs', x', ru'⟩ := rs.tup ht q.keysV
      exact Go.now g x' rs' ru'
    · exact g.elim
  · exact g.elim
def mExtend (u : U) (us : List U) (S : Sto) : R U := match u, us with
  | .ref n, [w] => (match S.lst n, plU w S with
    | some xs, some zs => if xs.length + zs.length ≤ sizeLine then .ok .non (S.put n (.lst (xs ++ zs))) else .no
    | _, _ => .no)
  | _, _ => .no
def rExtR : V → List V → Hp → VK → Prop := fun x vs H Q => ∃ l b xs zs, x = .ref l ∧ vs = [.ref b] ∧ H l = some (.lst xs) ∧ Rd H b (.lst zs) ∧ xs.length + zs.length ≤ sizeLine ∧ Q .non (upd H l (.lst (xs ++ zs)))
theorem mt_extR : MtR X "list.extend" rExtR := by
  intro pins s σ H x vs v us Q I rx rv h
  obtain ⟨l, b, xs, zs, rfl, rfl, hH, hB, hz, q⟩ := h
  cases rx
  obtain ⟨u, rfl, ru⟩ := rv.one
  cases ru
  obtain ⟨z, its, n, r, hl, e⟩ := I.lstM hH
  obtain ⟨z2, its2, n2, r2, e2⟩ := hB.ok I.hok
  have hl2 := r2.length
  have hsz : its.toArray.size + its2.toArray.size ≤ sizeLine := by rw [List.size_toArray, List.size_toArray]; omega
  have hlong : ¬ (!its.toArray.isEmpty && Builtin.List.listTooLong (its.toArray.size + its2.toArray.size)) = true := by
    rw [notLongL hsz, Bool.and_false]
    exact Bool.false_ne_true
  refine call_meets F.slot_list_extend ⟨_, e, rfl⟩ F.entry_list_extend (F.args_list_extend_2 _ _)
    (AutoSeq1.list_extend_list_list_0 l its.toArray n b its2.toArray n2 hlong (by rw [List.size_toArray]; omega) (by omega)) ⟨e, e2, ?_⟩
  exact ⟨.non, _, I.lset (its' := its ++ its2) hH e (by simp) (r.append r2) (by rw [List.length_append]; omega), rfl, q⟩
theorem mt_extendI : MtR X "list.extend" (rMt X.K E mExtend) := by
  refine MtR.by (id := "list.extend") (r := rExtR) mt_extR ?_
  rintro x xs H Q ⟨ad, lo, S, u, us, rs, ru, rus, g⟩
  unfold mExtend at g
  split at g
  · obtain ⟨a, rfl, ea⟩ := ru.ref_of
    obtain ⟨w, rfl, rw'⟩ := rus.one_of
    split at g
    · rename_i ys zs e1 e2
      split at g
      · rename_i hh
        obtain ⟨vs, hv, q⟩ := rs.lstH e1 ea
        obtain ⟨b, ws, rfl, hw, q'⟩ := plU_ok rs rw' e2
        refine ⟨a, b, vs, ws, rfl, rfl, hv, hw, by rw [← q.length, ← q'.length]; exact hh, ?_⟩
        obtain ⟨rs', x'⟩ := rs.put (o := .lst _) (u := .lst (vs ++ ws)) (Sto.lst_eq e1) ea (rs.noL e1) (by intro _ _ z; cases z) (.lst (q.append q'))
        exact Go.now g x' rs' RU.non
      · exact g.elim
    · exact g.elim
  · exact g.elim
def joinU (a : Str) (w : U) (S : Sto) : R U := match seqU w S with
  | some us => (match strsOf us with
    | some ys => if (ys.map (·.length)).sum + ys.length * a.length ≤ 16777216 then .ok (.str (Txt.join a ys)) S else .no
    | none => .no)
  | none => .no
def xJoin (mo me : ME) : ME := fun env S => (mo env S).bind fun u S1 => match u with
  | .str a => (me env S1).bind fun w S2 => joinU a w S2
  | _ => .no
theorem se_join (ho : PE X o (tI X.K E mo)) (he : PE X e (tI X.K E m)) (hs : starEach [e] X.env = [(false, eval e X.env)] := by rfl) (hbase : attributeBase o "join" X.env (eval o X.env) = eval o X.env := by rfl) (hline : (apos.endLine == pos.line) = true := by rfl) :
    SE X E (.Call (.Attribute o "join" apos) [e] [] pos) (xJoin mo m) := by
  refine .of (PE.by (pe_join ho he hs hbase hline) fun σ H Q h => ?_)
  obtain ⟨ad, lo, env, S, rs, re, z⟩ := h
  refine tE.imp (Go.seq (rel := RU X.K) rs re z) ?_
  rintro v H1 ⟨u, ad1, S1, x1, rs1, re1, ru, z1⟩
  cases ru with
  | str a =>
    refine ⟨⟨a, rfl⟩, tE.imp (Go.seq (rel := RU X.K) rs1 re1 z1) ?_⟩
    rintro y H2 ⟨w, ad2, S2, x2, rs2, re2, rw', z2⟩
    unfold joinU at z2
    split at z2
    · rename_i us e1
      split at z2
      · rename_i ys e2
        split at z2
        · rename_i hl
          obtain ⟨t, vs, rfl, hq, q⟩ := seqU_ok rs2 rw' e1
          have ev := strsOf_ok q e2
          subst ev
          exact ⟨a, t, ys, rfl, rfl, hq, hl, Go.here z2 rs2 (.str _)⟩
        · exact z2.elim
      · exact z2.elim
    · exact z2.elim
  | _ => exact z1.elim
def opAug (u w : U) (S : Sto) : R U := match u, w with
  | .int i, .int j => .ok (.int (i + j)) S
  | _, _ => .no
def sAug (i : Nat) (m : ME) : MS := fun env S => match env[i]? with
  | some (some u) => (m env S).bind fun w S1 => (opAug u w S1).bind fun z S2 => .ok (.nx (env.set i (some z))) S2
  | _ => .no
theorem ss_aug {i : Nat} {x : Str} {pos' : Pos} (hN : X.N.Nodup) (hi : X.N[i]? = some x) (hx : Loc X.env.scope x) (hf : X.fn x = true ∨ X.env.scope.names.lookup x = some .local) (he : PE X e (tI X.K E m)) : SS X E (.AugAssign (.Name x pos') .Add e pos) (sAug i m) := by
  refine PS.by (ps_aug hN hi hx he ip_add hf) fun D σ H h => ?_
  obtain ⟨ad, lo, env, S, rs, re, z⟩ := h
  unfold sAug at z
  split at z
  · rename_i u eu
    obtain ⟨v, ev, rv⟩ := re.2 i u eu
    refine ⟨v, ev, tE.imp (GoF.seq (rel := RU X.K) rs re z) ?_⟩
    rintro y H1 ⟨w, ad1, S1, x1, rs1, re1, rw', z1⟩
    have rv1 := rv.adv rs x1
    unfold opAug at z1
    split at z1
    · cases rv1
      cases rw'
      refine ⟨_, _, rfl, rfl, ?_⟩
      exact z1 ad1 H1 _ Adv.refl rs1 (re1.set (.int _))
    · exact z1.elim
  · exact z.elim
def sNo : MS := fun _ _ => .no
theorem ss_no {st : Stmt} : SS X E st sNo := PS.by ps_never fun D σ H h => by
  obtain ⟨ad, lo, env, S, rs, re, z⟩ := h
  exact z
end
def lenO (c : Str) (ev : List U → Sto → R U) (us : List U) (S : Sto) : R U := match us with
  | [u] => if isC c u S = true then (R.nox (ev [u] S)).bind fun w S1 => (match w with
      | .int n => if 0 ≤ n ∧ n.natAbs < 2 ^ 63 then .ok (.int n) S1 else .no
      | _ => .no) else .no
  | _ => .no
section
variable {X : Cx} {E : XK} {k j : Nat} {f : Addr} {c : Str} {ev : List U → Sto → R U}
theorem call_lenO (F : FnI X.prog X.w X.K X.mg X.base j f 1 ev) (co : CO X E k) (hj : j + 1 ≤ k) (hs : PySem.W.findIn X.K (.ref (He.ga X.K c)) "__len__" = some (some (.ref f))) (hf : PySem.W.isFn X.K (.ref f) = true) : CallR X (.builtin "len") (rIs X.K E (lenO c ev)) := by
  intro pins s σ H xs us Q I r h
  obtain ⟨ad, lo, S, ws, rs, ru, g⟩ := h
  unfold lenO at g
  split at g
  · obtain ⟨v, rfl, rv⟩ := ru.one_of
    split at g
    · rename_i hi
      obtain ⟨a, dx, gs, rfl, ea⟩ := isC_ok hi rs rv
      obtain ⟨u, rfl, rx⟩ := vals1 r
      obtain rfl : u = Value.ref a := rx
      obtain ⟨mA, O, _, _, _, _⟩ := ins_get I.hok ea
      obtain ⟨od, J, _⟩ := O.look
      obtain ⟨mm, Fr⟩ := I.fr
      refine PySem.W.len_K Fr I.ok.mod.kin J hs hf (wpAny_call ?_)
      have sp : spI X.K 1 ev [.ref a] H (fun v H' => ∃ n : Int, v = .int n ∧ (0 ≤ n ∧ n < 2 ^ 63) ∧ Q (.int n) H') E00 := by
        refine ⟨ad, lo, S, _, rfl, rs, ru, ?_⟩
        cases e : ev [_] S with
        | no => rw [e] at g; exact g.elim
        | exc c' fs S1 => rw [e] at g; exact g.elim
        | ok w S1 =>
          rw [e] at g
          intro ad' H' v' x rs' rw'
          have g' := Go.adv (r := (R.ok w S1).nox.bind _) g x
          cases rw' with
          | int n =>
            have g' : Go X.K E (RU X.K) (if 0 ≤ n ∧ n.natAbs < 2 ^ 63 then .ok (.int n) S1 else .no) ad' lo H' Q := g'
            split at g'
            · rename_i hb
              exact ⟨n, rfl, ⟨hb.1, by omega⟩, Go.here g' rs' (.int n)⟩
            · exact g'.elim
          | _ => exact g'.elim
      refine codeAny_mono (F X.A.in1 X.stack s H [.ref a] [.ref a] _ E00 (co.room.mono hj).in1 I.env0.in1 (.cons rfl .nil) sp) fun res s' hq => ?_
      cases res with
      | error er => exact (CX.never hq).elim
      | ok fl =>
        cases fl with
        | ret w =>
          obtain ⟨y, H', I3, ry, n, ey, hb, q⟩ := I.after hq
          subst ey
          obtain ⟨t, rfl⟩ := ry
          exact ⟨hb, .int n, H', I3.tok _, ⟨_, rfl⟩, q⟩
        | next => exact False.elim hq
        | brk => exact False.elim hq
        | cont => exact False.elim hq
    · exact g.elim
  · exact g.elim
end
end VI
set_option Elab.async false
set_option linter.all false
set_option maxRecDepth 100000
set_option maxHeartbeats 4000000
namespace VI
open PySem L2 He
abbrev FnT : Type := Option (Str × Str × Arguments × FuncBody × Scope × Addr × List (Str × Addr) × Addr)
def fnT (K : PySem.W.Frag) (a : Addr) : FnT := match K.lookup a with
  | some ⟨_, _, .func fd, _⟩ => some (fd.name, fd.qualname, fd.params, fd.body, fd.scope, fd.globals, fd.closure, fd.builtins)
  | _ => none
/-- a def: how it is found, its text -/
structure DG where
  ad : PySem.W.Frag → Addr
  name : Str
  qual : Str
  params : Arguments
  body : List Stmt
  scope : Scope
  dfl : List Dv := []
def DG.val (d : DG) : FnT := some (d.name, d.qual, d.params, .stmts d.body, d.scope, mainGlobals, [], builtinsNs)
def DG.dvs (K : PySem.W.Frag) (d : DG) : List V := d.dfl.map (Dv.v K)
def DG.ok (K : PySem.W.Frag) (d : DG) : Bool := PySem.W.keepIn K (.ref (d.ad K)) && (match K.lookup (d.ad K) with
  | some ⟨_, _, .func fd, _⟩ => PySem.W.codeIn K fd.code d.qual && dflB K fd.defaults (d.dvs K)
  | _ => false)
def FunG (K : PySem.W.Frag) (d : DG) (fd : FuncData) : Prop := FunD K d.name d.qual d.params d.body d.scope (d.dvs K) [] (d.ad K) fd
theorem DG.fun_ {K : PySem.W.Frag} {d : DG} (e : fnT K (d.ad K) = d.val) (c : d.ok K = true) : ∃ fd, FunG K d fd := by
  obtain ⟨kp, c2⟩ := ba c
  unfold fnT at e
  cases q : K.lookup (d.ad K) with
  | none => rw [q] at c2; cases c2
  | some o =>
    obtain ⟨oc, od, dt, osl⟩ := o
    rw [q] at c2 e
    cases dt with
    | func fd =>
      obtain ⟨a1, a2, a3, a4, a5, a6, a7, a8, a9, a10, a11, a12, a13, a14, a15⟩ := fd
      have e2 : (some (a1, a2, a3, a4, a5, a6, a7, a15) : FnT) = some (d.name, d.qual, d.params, .stmts d.body, d.scope, mainGlobals, [], builtinsNs) := e
      simp only [Option.some.injEq, Prod.mk.injEq] at e2
      obtain ⟨rfl, rfl, rfl, rfl, rfl, rfl, rfl, rfl⟩ := e2
      obtain ⟨k1, k2⟩ := ba (show (PySem.W.codeIn K a13 d.qual && dflB K a8 (d.dvs K)) = true from c2)
      exact ⟨_, ⟨oc, od, a8, a9, a10, a11, a12, a13, a14, osl, rfl, q, k1, dflB_ok k2, .inl rfl⟩, kp⟩
    | _ => cases c2
abbrev Ex := PySem.W.Frag → Bool
abbrev AlG : Type := Bool × List FnT
def obsG' (ex : List Ex) (dg : List DG) (K : PySem.W.Frag) : AlG := ((ex.all fun f => f K) && dg.all fun d => d.ok K, dg.map fun d => fnT K (d.ad K))
def valG' (dg : List DG) : AlG := (true, dg.map DG.val)
def SaysG (ex : List Ex) (dg : List DG) (K : PySem.W.Frag) : Prop := obsG' ex dg K = valG' dg
def refsX (o : Obj) : List Addr := match o.data with
  | .seq its _ => its.toList.flatMap refV
  | .dict es _ => es.toList.flatMap fun e => refV e.val
  | .func fd => refV fd.code ++ refV fd.defaults
  | .cls cd => [cd.ns]
  | .fields vs => vs.toList.flatMap refV
  | _ => []
def asX (g : Addr → Option Obj) : Nat → List Addr → List Addr
  | 0, as => as
  | n + 1, as => as ++ asX g n (as.flatMap fun a => match g a with
    | some o => refsX o
    | none => [])
def obsH (n : Nat) (ex : List Ex) (dg : List DG) (g : Addr → Option Obj) : AlG := obsG' ex dg (frG g (sysModules :: cStatics :: asX g n [mainGlobals]))
def hookG (n : Nat) (ex : List Ex) (dg : List DG) : PySem.W.Hook where
  α := AlG
  obs := fun s => obsH n ex dg s.heap.get?
  val := fun _ => valG' dg
  says := fun _ h => ∃ K : PySem.W.Frag, K.In h ∧ SaysG ex dg K
  of := fun _ _ e => ⟨_, frG_in, e⟩
  keeps := fun _ _ _ ⟨K, hK, c⟩ k => ⟨K, PySem.W.Frag.In.keeps hK k, c⟩
theorem obsH_eq {n : Nat} {ex : List Ex} {dg : List DG} {g : Addr → Option Obj} {s : Shared} (h : ∀ a, g a = s.heap.get? a) : obsH n ex dg g = (hookG n ex dg).obs s := by
  have e : g = s.heap.get? := funext h
  rw [e]
  rfl
section
variable {ex : List Ex} {dg : List DG} {K : PySem.W.Frag}
theorem SaysG.fact (c : SaysG ex dg K) (i : Nat) {f : Ex} (h : ex[i]? = some f := by rfl) : f K = true := by
  have c1 := (ba (show ((ex.all fun f => f K) && dg.all fun d => d.ok K) = true from congrArg (fun z : AlG => z.1) c)).1
  exact List.all_eq_true.mp c1 f (List.mem_of_getElem? h)
theorem SaysG.def_ (c : SaysG ex dg K) (i : Nat) {d : DG} (h : dg[i]? = some d := by rfl) : ∃ fd, FunG K d fd := by
  have c2 := (ba (show ((ex.all fun f => f K) && dg.all fun d => d.ok K) = true from congrArg (fun z : AlG => z.1) c)).2
  have e2 := congrArg (fun z : AlG => z.2[i]?) c
  have e3 : (dg.map fun d => fnT K (d.ad K))[i]? = (dg.map DG.val)[i]? := e2
  rw [List.getElem?_map, List.getElem?_map, h] at e3
  exact DG.fun_ (Option.some.inj e3) (List.all_eq_true.mp c2 d (List.mem_of_getElem? h))
end
def pAd (c m : Str) (K : PySem.W.Frag) : Addr := match PySem.W.recIn K (ma K (ga K c) m) "property" with
  | some (.ref g :: _) => g
  | _ => 0
def propB (c m : Str) : Ex := fun K => eqO (PySem.W.findIn K (.ref (ga K c)) m) (some (some (.ref (ma K (ga K c) m)))) && (eqO (PySem.W.specialIn K (.ref (ma K (ga K c) m)) "__get__") (some (some (.builtin "property.__get__"))) && (decide (PySem.W.takesIn K (.ref (ma K (ga K c) m)) = some true) &&
  (match PySem.W.recIn K (ma K (ga K c) m) "property" with
    | some (.ref _ :: _) => true
    | _ => false)))
theorem propB_ok {K : PySem.W.Frag} {c m : Str} (h : propB c m K = true) : PropOf K (ga K c) m (ma K (ga K c) m) (pAd c m K) := by
  obtain ⟨h1, h⟩ := ba h
  obtain ⟨h2, h⟩ := ba h
  obtain ⟨h3, h4⟩ := ba h
  refine ⟨eqO_ok h1, eqO_ok h2, of_decide_eq_true h3, ?_⟩
  unfold pAd
  split at h4
  · rename_i g r e
    exact ⟨r, by rw [e]⟩
  · cases h4
def tys : List Ty := [.non, .bool, .int, .str, .tup, .lst, .dct]
def ityB (c : Str) : Ex := fun K => (Fa.cls c).ok K && (eqO (PySem.W.findIn K (.ref (ga K c)) "__class__") (some (some (.builtin "object.__class__"))) && (eqO (PySem.W.specialIn K (.builtin "object.__class__") "__get__") (some (some (.builtin "getset_descriptor.__get__"))) &&
  (decide (PySem.W.takesIn K (.builtin "object.__class__") = some true) && (decide (PySem.W.mroIn K (ga K c) (.type "object") = some true) && ((tys.all fun b => decide (PySem.W.kitOne K (.ref (ga K c)) (.type b.nm) = some false)) && (tys.all fun b => decide (PySem.W.kitOne K (.type b.nm) (.ref (ga K c)) = some false)))))))
theorem mem_tys (b : Ty) : b ∈ tys := by cases b <;> decide
theorem ityB_ok {K : PySem.W.Frag} {c : Str} (h : ityB c K = true) : ITy K c := by
  obtain ⟨h1, h⟩ := ba h
  obtain ⟨h2, h⟩ := ba h
  obtain ⟨h3, h⟩ := ba h
  obtain ⟨h4, h⟩ := ba h
  obtain ⟨h5, h⟩ := ba h
  obtain ⟨h6, h7⟩ := ba h
  exact ⟨cls_ok h1, eqO_ok h2, eqO_ok h3, of_decide_eq_true h4, of_decide_eq_true h5, fun b => of_decide_eq_true (List.all_eq_true.mp h6 b (mem_tys b)), fun b => of_decide_eq_true (List.all_eq_true.mp h7 b (mem_tys b))⟩
def kitB' (c d : Str) (b : Bool) : Ex := fun K => decide (PySem.W.kitOne K (.ref (ga K c)) (.ref (ga K d)) = some b)
theorem kitB_ok {K : PySem.W.Frag} {c d : Str} {b : Bool} (h : kitB' c d b K = true) : PySem.W.kitOne K (.ref (ga K c)) (.ref (ga K d)) = some b := of_decide_eq_true h
def callB (c : Str) : Ex := fun K => eqO (PySem.W.findIn K (.ref (ga K c)) "__call__") (some (some (.ref (ma K (ga K c) "__call__")))) && (PySem.W.isFn K (.ref (ma K (ga K c) "__call__")) && PySem.W.fnIn K (ma K (ga K c) "__call__"))
theorem callB_ok {K : PySem.W.Frag} {c : Str} (h : callB c K = true) : StX.CallO K (ga K c) (ma K (ga K c) "__call__") := by
  obtain ⟨h1, h⟩ := ba h
  obtain ⟨h2, h3⟩ := ba h
  exact ⟨eqO_ok h1, h2, h3⟩
def fa (f : Fa) : Ex := fun K => f.ok K
/-- the module's names; all of these stand for objects, none of those is there -/
def gloB (xs : List Str) : Ex := fun K => xs.all fun x => (Fa.glo x).ok K
def freeB (xs : List Str) : Ex := fun K => xs.all fun x => (Fa.free x).ok K
theorem gloB_ok {K : PySem.W.Frag} {h : Heap} {mg : Str → Option Value} (X : K.In h) (G : h.Ns mainGlobals mg) {xs : List Str} (c : gloB xs K = true) (i : Nat) {x : Str} (e : xs[i]? = some x := by rfl) : mg x = some (.ref (ga K x)) :=
  glo_ok X G (List.all_eq_true.mp c x (List.mem_of_getElem? e))
theorem freeB_ok {K : PySem.W.Frag} {h : Heap} {mg : Str → Option Value} (X : K.In h) (G : h.Ns mainGlobals mg) {xs : List Str} (c : freeB xs K = true) (i : Nat) {x : Str} (e : xs[i]? = some x := by rfl) : mg x = none :=
  free_ok X G (List.all_eq_true.mp c x (List.mem_of_getElem? e))
/-- a def's address by its names -/
def dAd (c : Option Str) (m : Str) : PySem.W.Frag → Addr := fun K => match c with
  | none => ga K m
  | some c => ma K (ga K c) m
def topOf (P : Program) (i : Nat) : Stmt := P.main.body.getD i (.Pass ⟨0, 0, 0, 0⟩)
end VI
set_option Elab.async false
set_option linter.all false
set_option maxRecDepth 100000
set_option maxHeartbeats 4000000
namespace VI
open PySem L2 He
section
variable {X : Cx} {E : XK} {k : Nat} {x y : Str} {e o a b : Expr} {es : List Expr} {pos pos' p p2 apos : Pos} {m mo ma mb : ME} {ms : MA}
theorem gvl (i : Nat) (hN : X.N[i]? = some x := by kernel_rfl) (hk : X.env.scope.names.lookup x = some .local := by kernel_rfl) (hd : (x == ("__debug__" : Str)) = false := by kernel_rfl) (hc : (x == ("__classdict__" : Str)) = false := by kernel_rfl) : SE X E (.Name x pos) (xVar i) := se_var hN (.inl hk) hd hc
theorem gvc (i : Nat) (hN : X.N[i]? = some x := by kernel_rfl) (hk : X.env.scope.names.lookup x = some .cell := by kernel_rfl) (hd : (x == ("__debug__" : Str)) = false := by kernel_rfl) (hc : (x == ("__classdict__" : Str)) = false := by kernel_rfl) : SE X E (.Name x pos) (xVar i) := se_var hN (.inr (.inl hk)) hd hc
theorem gint {i : Int} (h : ∃ t, X.mg x = some (.int i t)) (hg : X.env.kindOf x = some .globalImplicit := by kernel_rfl) (hd : (x == ("__debug__" : Str)) = false := by kernel_rfl) : SE X E (.Name x pos) (xC (.int i)) := by
  obtain ⟨t, h⟩ := h
  exact se_glob (v := .int i) hg h ⟨t, rfl⟩ (fun _ _ => .int i) hd
theorem gstr {z : Str} (h : ∃ t, X.mg x = some (.str z t)) (hg : X.env.kindOf x = some .globalImplicit := by kernel_rfl) (hd : (x == ("__debug__" : Str)) = false := by kernel_rfl) : SE X E (.Name x pos) (xC (.str z)) := by
  obtain ⟨t, h⟩ := h
  exact se_glob (v := .str z) hg h ⟨t, rfl⟩ (fun _ _ => .str z) hd
theorem ggl (co : CO X E k) (i : Nat) (hN : X.N[i]? = some x := by kernel_rfl) (hk : X.env.scope.names.lookup x = some .local := by kernel_rfl) : SG X E (.Name x pos) (gN i) := sg_name co.nd hN (.inl hk) (.inr hk)
theorem ggc (co : CO X E k) (i : Nat) (hN : X.N[i]? = some x := by kernel_rfl) (hk : X.env.scope.names.lookup x = some .cell := by kernel_rfl) (hf : X.fn x = true := by kernel_rfl) : SG X E (.Name x pos) (gN i) := sg_name co.nd hN (.inr hk) (.inl hf)
theorem gsl (co : CO X E k) (i : Nat) (he : PE X e (tI X.K E m)) (hN : X.N[i]? = some x := by kernel_rfl) (hk : X.env.scope.names.lookup x = some .local := by kernel_rfl) (hs : swapsWith e (some (.Name x pos')) pos.line X.env = pure false := by rfl) : SS X E (.Assign [.Name x pos'] e pos) (sAsg m (gN i)) := ss_set co.nd hN (.inl hk) (.inr hk) he hs
theorem gsc (co : CO X E k) (i : Nat) (he : PE X e (tI X.K E m)) (hN : X.N[i]? = some x := by kernel_rfl) (hk : X.env.scope.names.lookup x = some .cell := by kernel_rfl) (hf : X.fn x = true := by kernel_rfl) (hs : swapsWith e (some (.Name x pos')) pos.line X.env = pure false := by rfl) : SS X E (.Assign [.Name x pos'] e pos) (sAsg m (gN i)) := ss_set co.nd hN (.inr hk) (.inl hf) he hs
theorem gaug (co : CO X E k) (i : Nat) (he : PE X e (tI X.K E m)) (hN : X.N[i]? = some x := by kernel_rfl) (hk : X.env.scope.names.lookup x = some .local := by kernel_rfl) : SS X E (.AugAssign (.Name x pos') .Add e pos) (sAug i m) := ss_aug co.nd hN (.inl hk) (.inr hk) he
theorem gpar2 {i j : Nat} {q r : Expr} {px py pt : Pos} {kt k2 pt2} (co : CO X E k) (hij : i ≠ j) (ha : SA X E [q, r] ms) (hi : X.N[i]? = some x := by kernel_rfl) (hj : X.N[j]? = some y := by kernel_rfl)
    (hx : X.env.scope.names.lookup x = some .local := by kernel_rfl) (hy : X.env.scope.names.lookup y = some .local := by kernel_rfl)
    (hw : swappedStores [.Tuple [.Name x px, .Name y py] kt pt] (.Tuple [q, r] k2 pt2) X.env = pure (some [x, y]) := by kernel_rfl) : SS X E (.Assign [.Tuple [.Name x px, .Name y py] kt pt] (.Tuple [q, r] k2 pt2) pos) (sPar [i, j] ms) :=
  ss_par2 co.calm co.nd hi hj hij hx hy ha hw rfl
/-- the target of a comprehension -/
theorem gt1 (nd : X.N.Nodup) (i : Nat) (hN : X.N[i]? = some x := by kernel_rfl) (hk : X.env.scope.names.lookup x = some .local := by kernel_rfl) : PG X (.Name x pos) ((Tg.one i).h X.K) := pg_name nd hN (.inl hk) (.inr hk)
theorem gt2 {kt : Nat} {pt : Pos} (nd : X.N.Nodup) (hc : X.calm = true) (i j : Nat) (hN : X.N[i]? = some x := by kernel_rfl) (hk : X.env.scope.names.lookup x = some .local := by kernel_rfl) (hN2 : X.N[j]? = some y := by kernel_rfl) (hk2 : X.env.scope.names.lookup y = some .local := by kernel_rfl) :
    PG X (.Tuple [.Name x pos, .Name y pos'] kt pt) ((Tg.many [i, j]).h X.K) := pg_tup hc (pgs_cons (pg_name nd hN (.inl hk) (.inr hk)) (pgs_cons (pg_name nd hN2 (.inl hk2) (.inr hk2)) pgs_nil)) rfl rfl
variable {j np : Nat} {f : Addr} {ev : List U → Sto → R U} {c : Str}
theorem gcall (F : FnI X.prog X.w X.K X.mg X.base j f np ev) (co : CO X E k) (hm : X.mg x = some (.ref f)) (hk : PySem.W.keepIn X.K (.ref f) = true) (ha : SA X E (e :: es) ms) (hj : j ≤ k := by decide) (hg : X.env.kindOf x = some .globalImplicit := by kernel_rfl) (hdb : (x == ("__debug__" : Str)) = false := by kernel_rfl)
    (he : starEach (e :: es) X.env = (false, eval e X.env) :: starEach es X.env := by rfl) (hpl : (backTo pos (starEach es X.env)).any (·.1) = false := by rfl) : SE X E (.Call (.Name x p) (e :: es) [] pos) (xCall np ev ms) := se_call F co hj hg hm hk ha hdb he hpl
theorem gmake (F : FnI X.prog X.w X.K X.mg X.base j f np ev) (co : CO X E k) (M : Mk X.K (ga X.K c) f) (hm : X.mg c = some (.ref (ga X.K c))) (ha : SA X E (e :: es) ms) (hj : j + 1 ≤ k := by decide) (hg : X.env.kindOf c = some .globalImplicit := by kernel_rfl) (hdb : (c == ("__debug__" : Str)) = false := by kernel_rfl)
    (he : starEach (e :: es) X.env = (false, eval e X.env) :: starEach es X.env := by rfl) (hpl : (backTo pos (starEach es X.env)).any (·.1) = false := by rfl) : SE X E (.Call (.Name c p) (e :: es) [] pos) (xMake c np ev ms) := se_make F co hj M hg hm ha hdb he hpl
/-- a function that is built in -/
theorem gB {id : String} {g : List U → Sto → R U} (hc : CallR X (.builtin id) (rIs X.K E g)) (hm : X.mg x = none) (hv : bootBuiltins x = some (.builtin id)) (ha : SA X E (e :: es) ms) (hg : X.env.kindOf x = some .globalImplicit := by kernel_rfl) (hn : x ≠ "__name__" := by decide) (hdb : (x == ("__debug__" : Str)) = false := by kernel_rfl)
    (he : starEach (e :: es) X.env = (false, eval e X.env) :: starEach es X.env := by rfl) (hpl : (backTo pos (starEach es X.env)).any (·.1) = false := by rfl) : SE X E (.Call (.Name x p) (e :: es) [] pos) (xB g ms) := se_callB hc hg hm hv ha hn hdb he hpl
theorem gBN {id : String} {g : List U → Sto → R U} (hc : CallR X (.builtin id) (rLl X.K E g)) (hm : X.mg x = none) (hv : bootBuiltins x = some (.builtin id)) (ha : SN X E e ms) (hg : X.env.kindOf x = some .globalImplicit := by kernel_rfl) (hn : x ≠ "__name__" := by decide) (hdb : (x == ("__debug__" : Str)) = false := by kernel_rfl)
    (he : starEach [e] X.env = (false, eval e X.env) :: starEach [] X.env := by rfl) : SE X E (.Call (.Name x p) [e] [] pos) (xB g ms) := se_callBN hc hg hm hv ha hn hdb he
theorem gTy {T : String} {g : List U → Sto → R U} (hc : CallR X (.type T) (rIs X.K E g)) (hm : X.mg x = none) (hv : bootBuiltins x = some (.type T)) (ha : SA X E (e :: es) ms) (hg : X.env.kindOf x = some .globalImplicit := by kernel_rfl) (hn : x ≠ "__name__" := by decide) (hdb : (x == ("__debug__" : Str)) = false := by kernel_rfl)
    (he : starEach (e :: es) X.env = (false, eval e X.env) :: starEach es X.env := by rfl) (hpl : (backTo pos (starEach es X.env)).any (·.1) = false := by rfl) : SE X E (.Call (.Name x p) (e :: es) [] pos) (xB g ms) := se_callT hc hg hm hv ha hn hdb he hpl
theorem gTL {T : String} {g : List U → Sto → R U} (hc : CallR X (.type T) (rL1 X.K E g)) (hm : X.mg x = none) (hv : bootBuiltins x = some (.type T)) (ha : SL X E e ms) (hg : X.env.kindOf x = some .globalImplicit := by kernel_rfl) (hn : x ≠ "__name__" := by decide) (hdb : (x == ("__debug__" : Str)) = false := by kernel_rfl)
    (he : starEach [e] X.env = (false, eval e X.env) :: starEach [] X.env := by rfl) : SE X E (.Call (.Name x p) [e] [] pos) (xB g ms) := se_callTL hc hg hm hv ha hn hdb he
theorem gnT {T : String} {g : List U → Sto → R (List U)} (hc : CallR X (.type T) (rLN X.K E g)) (hm : X.mg x = none) (hv : bootBuiltins x = some (.type T)) (ha : SL X E e ms) (hg : X.env.kindOf x = some .globalImplicit := by kernel_rfl) (hn : x ≠ "__name__" := by decide) (hdb : (x == ("__debug__" : Str)) = false := by kernel_rfl)
    (he : starEach [e] X.env = (false, eval e X.env) :: starEach [] X.env := by rfl) : SN X E (.Call (.Name x p) [e] [] pos) (nB g ms) := sn_callT hc hg hm hv ha hn hdb he
theorem gisi {tb : Str → Bool} (t : Ty) (ht : ∀ c, tb c = true → ITy X.K c) (hm : X.mg "isinstance" = none) (hm2 : X.mg x = none) (he : PE X e (tI X.K E m)) (hv : bootBuiltins x = some (.type t.nm) := by kernel_rfl) (hb : t ≠ .non := by decide) (hg : X.env.kindOf "isinstance" = some .globalImplicit := by kernel_rfl) (hg2 : X.env.kindOf x = some .globalImplicit := by kernel_rfl) (hn : x ≠ "__name__" := by decide) (hd : (x == ("__debug__" : Str)) = false := by kernel_rfl)
    (hs : starEach [e, .Name x p2] X.env = (false, eval e X.env) :: starEach [.Name x p2] X.env := by rfl) : SE X E (.Call (.Name "isinstance" p) [e, .Name x p2] [] pos) (x1 (isiB tb [t]) m) := se_isi t hb ht hg hm hg2 hm2 hv hn hd he hs
theorem gisiO {tb : Str → Bool} {d : Str} (hd : ITy X.K d) (ht : ∀ c, tb c = true → ITy X.K c ∧ PySem.W.kitOne X.K (.ref (He.ga X.K c)) (.ref (He.ga X.K d)) = some (decide (c = d))) (hm : X.mg "isinstance" = none) (hm2 : X.mg d = some (.ref (ga X.K d))) (he : PE X e (tI X.K E m)) (hg : X.env.kindOf "isinstance" = some .globalImplicit := by kernel_rfl) (hg2 : X.env.kindOf d = some .globalImplicit := by kernel_rfl) (hdb : (d == ("__debug__" : Str)) = false := by kernel_rfl)
    (hs : starEach [e, .Name d p2] X.env = (false, eval e X.env) :: starEach [.Name d p2] X.env := by rfl) : SE X E (.Call (.Name "isinstance" p) [e, .Name d p2] [] pos) (x1 (isiO tb d) m) := se_isiO hd ht hg hm hg2 hm2 hdb he hs
theorem gisi2 {tb : Str → Bool} (t t2 : Ty) {kt : Nat} {p3 p4 : Pos} (ht : ∀ c, tb c = true → ITy X.K c) (hm : X.mg "isinstance" = none) (hmx : X.mg x = none) (hmy : X.mg y = none) (he : PE X e (tI X.K E m)) (hvx : bootBuiltins x = some (.type t.nm) := by kernel_rfl) (hvy : bootBuiltins y = some (.type t2.nm) := by kernel_rfl) (hb : t ≠ .non := by decide) (hb2 : t2 ≠ .non := by decide) (hg : X.env.kindOf "isinstance" = some .globalImplicit := by kernel_rfl) (hgx : X.env.kindOf x = some .globalImplicit := by kernel_rfl) (hgy : X.env.kindOf y = some .globalImplicit := by kernel_rfl) (hnx : x ≠ "__name__" := by decide) (hdx : (x == ("__debug__" : Str)) = false := by kernel_rfl) (hny : y ≠ "__name__" := by decide) (hdy : (y == ("__debug__" : Str)) = false := by kernel_rfl)
    (hs : starEach [e, .Tuple [.Name x p2, .Name y p3] kt p4] X.env = (false, eval e X.env) :: starEach [.Tuple [.Name x p2, .Name y p3] kt p4] X.env := by rfl) : SE X E (.Call (.Name "isinstance" p) [e, .Tuple [.Name x p2, .Name y p3] kt p4] [] pos) (x1 (isiB tb [t, t2]) m) := se_isi2 t t2 hb hb2 ht hg hm hgx hmx hvx hnx hdx hgy hmy hvy hny hdy he hs
theorem gsorted (co : CO X E k) (hm : X.mg "sorted" = none) (ha : SLs X E e ms) (hg : X.env.kindOf "sorted" = some .globalImplicit := by kernel_rfl) (he : starEach [e] X.env = (false, eval e X.env) :: starEach [] X.env := by rfl) : SN X E (.Call (.Name "sorted" p) [e] [] pos) (nB nSorted ms) := sn_sorted co.u70 hg hm PyProof.Rows.boot_sorted ha he
theorem gsortD (co : CO X E k) (hm : X.mg "sorted" = none) (he : PE X e (tI X.K E m)) (hg : X.env.kindOf "sorted" = some .globalImplicit := by kernel_rfl) (hs : starEach [e] X.env = (false, eval e X.env) :: starEach [] X.env := by rfl) : SN X E (.Call (.Name "sorted" p) [e] [] pos) (nSortD m) := sn_sortD co.calm hg hm PyProof.Rows.boot_sorted he hs
theorem grange1 {q : Expr} {tg : Expr} (hm : X.mg "range" = none) (ha : SA X E [q] ms) (hg : X.env.kindOf "range" = some .globalImplicit := by kernel_rfl) (hs : starEach [q] X.env = [(false, eval q X.env)] := by rfl) : SI X E tg (.Call (.Name "range" p) [q] [] pos) (iRange1 ms) := si_range1 hg hm ha hs
theorem genum {elts : List Expr} {kk : Nat} {tpos : Pos} (hm : X.mg "enumerate" = none) (ha : SA X E [e] ms) (hg : X.env.kindOf "enumerate" = some .globalImplicit := by kernel_rfl) (hs : starEach [e] X.env = [(false, eval e X.env)] := by rfl) : SI X E (.Tuple elts kk tpos) (.Call (.Name "enumerate" p) [e] [] pos) (iEnum ms) := si_enum hg hm ha hs
theorem gzip {elts : List Expr} {kk : Nat} {tpos : Pos} (hm : X.mg "zip" = none) (ha : SA X E [e, o] ms) (hg : X.env.kindOf "zip" = some .globalImplicit := by kernel_rfl) (hs : starEach [e, o] X.env = (false, eval e X.env) :: starEach [o] X.env := by rfl) (hpl : (backTo pos (starEach [o] X.env)).any (·.1) = false := by rfl) : SI X E (.Tuple elts kk tpos) (.Call (.Name "zip" p) [e, o] [] pos) (iZip ms) := si_zip hg hm ha hs hpl
theorem gdictPF (co : CO X E k) (hm : X.mg "dict" = none) (ha : SN X E e ms) (hg : X.env.kindOf "dict" = some .globalImplicit := by kernel_rfl) (he : starEach [e] X.env = (false, eval e X.env) :: starEach [] X.env := by rfl) : SE X E (.Call (.Name "dict" p) [e] [] pos) (xB bDictPF ms) := se_dictPF co.calm hg hm PyProof.Rows.boot_dict ha he
theorem gif {c : Expr} {mc : ME} (hc : SE X E c mc) (ha : PE X a (tI X.K E ma)) (hb : PE X b (tI X.K E mb)) : PE X (.IfExp c a b pos) (tI X.K E (xIf mc ma mb)) := PE.by (pe_ifExp hc.pt ha hb) tI_if
theorem gprop {pr : Addr} {ps : List Str} {q : Str} (F : ∃ fd, FnOk X.prog X.w X.K X.mg X.base (L2.CX X.prog X.w) j f fd ps (spI X.K 1 ev) ∧ Binds X.K fd ps []) (co : CO X E k) (hc : Cls X.K (ga X.K c)) (hp : PropOf X.K (ga X.K c) q pr f) (ho : PE X o (tI X.K E mo)) (hj : j + 1 ≤ k := by decide)
    (hab : attributeBase o q X.env (eval o X.env) = eval o X.env := by rfl) : SE X E (.Attribute o q pos) (xProp c ev mo) := by
  obtain ⟨fd, F, B⟩ := F
  exact se_prop F co hj hc hp B ho hab
end
end VI
set_option Elab.async false
set_option linter.all false
set_option maxRecDepth 100000
set_option maxHeartbeats 4000000
namespace VI
open PySem L2 He
def S0 : Sto := ⟨[], []⟩
theorem ints_ok {K : PySem.W.Frag} {ad : List Addr} {H : Hp} : ∀ ns : List Int, RUs K ad H (ns.map U.int) (ns.map V.int)
  | [] => .nil
  | n :: ns => .cons (.int n) (ints_ok ns)
theorem start_ok {K : PySem.W.Frag} {ev : Nat → List U → Sto → R U} {H : Hp} {a : Addr} {ns : List Int} (hO : Only H) (hS : SqL K H a (ns.map V.int)) (h : ∃ n S', ev n [.sc (ns.map U.int)] S0 = .ok (.bl true) S') : ∃ n, spI K 1 (ev n) [.ref a] H (fun v _ => v = .bl true) fun _ _ _ => False := by
  obtain ⟨n, S', e⟩ := h
  have r : RU K [] H (.sc (ns.map U.int)) (.ref a) := by
    rcases hS with (hS | ⟨o, hS⟩) | hS
    · rcases hO a with z | ⟨o, xs, z⟩
      · rw [hS] at z; cases z
      · rw [hS] at z; cases z
    · exact .sc hS (ints_ok ns)
    · exact .sck hS (ints_ok ns)
  refine ⟨n, [], fun _ => none, S0, [.sc (ns.map U.int)], rfl, ⟨rfl, List.nodup_nil, fun m o e => ?_, fun m h => ?_, fun m h => ?_⟩, .cons r .nil, ?_⟩
  · cases m <;> cases e
  · cases h
  · cases h
  · rw [e]
    intro ad' H' v x rs rv
    cases rv
    rfl
/-- the fuel is anyone's -/
theorem FnOk.any {P : Program} {w : World} {K : PySem.W.Frag} {mg : Str → Option Value} {base : Heap} {CX : CXT} {k np : Nat} {f : Addr} {fd : FuncData} {ps : List Str} {ev : Nat → List U → Sto → R U} (h : ∀ n, FnOk P w K mg base CX k f fd ps (spI K np (ev n))) :
    FnOk P w K mg base CX k f fd ps (fun vs H Q E => ∃ n, spI K np (ev n) vs H Q E) :=
  ⟨fun vs H Q E ⟨n, z⟩ => (h n).len vs H Q E z, fun A outer s H args us vs Q E hr he hb hv ⟨n, z⟩ => (h n).run A outer s H args us vs Q E hr he hb hv z⟩
def boundS : List Stmt → List Str
  | [] => []
  | (.FunctionDef n _ _ _ _ _ _ _ _ _) :: r => n :: boundS r
  | (.ClassDef c _ _ _ _ _ _ _ _ _ _) :: r => c :: boundS r
  | (.Assign [.Name x _] _ _) :: r => x :: boundS r
  | _ :: r => boundS r
def namesS (P : Program) : List Str := ((boundS P.main.body).filter fun (x : Str) => !(decide (x = "law"))).eraseDups
end VI
set_option Elab.async false
set_option linter.all false
set_option maxRecDepth 100000
set_option maxHeartbeats 0
namespace Gn
open PySem L2 He VI
def tb_own_flags (c : Str) : Bool := decide (c = "Program")
def tb_own_handlers (c : Str) : Bool := decide (c = "Program")
def tb_own_program (c : Str) : Bool := decide (c = "Loop")
def tb_own_pile (c : Str) : Bool := decide (c = "Loop")
def tb_own_state (c : Str) : Bool := decide (c = "Loop")
def tb_own_lost (c : Str) : Bool := decide (c = "Loop")
def tb_own_past (c : Str) : Bool := decide (c = "Loop")
def tb_own_first (c : Str) : Bool := decide (c = "Loop")
def tbI (c : Str) : Bool := decide (c = "Program") || decide (c = "Loop")
noncomputable def m__law_begin (n : Nat) : MS :=
  (sSeq (sAsg (xNew (nComp n [2] (iOf (xVar 0)) (.one 2) (bOf (x2 (opI fun i j => decide (j ≤ i)) (xB bAbs (aCons (xVar 2) aNil)) (x2 opPow (xC (.int 10)) (xC (.int 18))))) (x2 opSub (xB bAbs (aCons (xVar 2) aNil)) (x2 opPow (xC (.int 10)) (xC (.int 18)))))) (gN 1))
  (sRet (xDisp (pAll [((xC (.str "great")), (xVar 1)), ((xC (.str "cells")), (xNewF (nComp n [2] (iOf (xVar 0)) (.one 2) tYesU (x2 opMod (xB bInt (aCons (xB bAbs (aCons (xVar 2) aNil)) aNil)) (xC (.int 2147483629)))))), ((xC (.str "rest")), (xC (.int 0))), ((xC (.str "turn")), (xC (.int 0)))]))))
noncomputable def e__law_begin (n : Nat) : List U → Sto → R U := fnG 3 (m__law_begin n)
noncomputable def m__law_blend (n : Nat) : MS :=
  (sSeq (sPar [1, 2] (aCons (x2 opAdd (x2 opIx (xVar 0) (xC (.str "turn"))) (xC (.int 1))) (aCons (xC (.int 0)) aNil)))
  (sSeq (sAsg (xVar 1) (gSubI (xVar 0) (xC (.str "turn"))))
  (sSeq (sFor n (iNew (lim (aCons (xC (.int 2147483629)) (aCons (xC (.int 2147483587)) (aCons (xC (.int 2147483579)) (aCons (xC (.int 2147483563)) aNil)))))) (gN 3)
  (sSeq (sAsg (x2 opMod (xB bInt (aCons (x2 opAdd (x2 opMul (xVar 1) (xC (.int 69621))) (x2 opDiv (xVar 3) (xC (.int 11)))) aNil)) (xVar 3)) (gN 4))
  (sSeq (sFor n (iOf (x2 opIx (xVar 0) (xC (.str "cells")))) (gN 5)
  (sAsg (x2 opMod (xB bInt (aCons (x2 opAdd (x2 opAdd (x2 opMul (xVar 4) (xC (.int 48271))) (xVar 5)) (xVar 1)) aNil)) (xVar 3)) (gN 4)))
  (sAsg (x2 opAdd (x2 opMul (xVar 2) (xC (.int 2147483647))) (x2 opMod (xB bInt (aCons (x2 opPow (xVar 4) (xC (.int 5))) aNil)) (xVar 3))) (gN 2)))))
  (sRet (xVar 2)))))
noncomputable def e__law_blend (n : Nat) : List U → Sto → R U := fnG 6 (m__law_blend n)
noncomputable def m__law_take (n : Nat) : MS :=
  (sSeq (sIf (x2 opEq (x2 opIx (xVar 0) (xC (.str "rest"))) (xC (.int 0)))
  (sAsg (xIf (x2 opNe (x2 opIx (xVar 0) (xC (.str "great"))) (xNewF (lim aNil))) (xM isLst mPop (x2 opIx (xVar 0) (xC (.str "great"))) (aCons (xC (.int 0)) aNil)) (xCall 1 (e__law_blend n) (aCons (xVar 0) aNil))) (gSubI (xVar 0) (xC (.str "rest"))))
  sNil)
  (sSeq (sAsg (x2 opMod (xB bInt (aCons (x2 opIx (xVar 0) (xC (.str "rest"))) aNil)) (xVar 1)) (gN 2))
  (sSeq (sAsg (x2 opDiv (x2 opIx (xVar 0) (xC (.str "rest"))) (xVar 1)) (gSubI (xVar 0) (xC (.str "rest"))))
  (sRet (xVar 2)))))
noncomputable def e__law_take (n : Nat) : List U → Sto → R U := fnG 3 (m__law_take n)
noncomputable def m__law_pick (n : Nat) : MS :=
  (sRet (x2 opIx (xVar 1) (xCall 2 (e__law_take n) (aCons (xVar 0) (aCons (xB bLen (aCons (xVar 1) aNil)) aNil)))))
noncomputable def e__law_pick (n : Nat) : List U → Sto → R U := fnG 2 (m__law_pick n)
noncomputable def m__law_word (n : Nat) : MS :=
  (sSeq (sAsg (xNewF (lim (aCons (xC (.str "on")) (aCons (xC (.str "off")) (aCons (xC (.str "set")) (aCons (xC (.str "say")) (aCons (xC (.str "skip")) (aCons (xC (.str "wait")) (aCons (xC (.str "later")) (aCons (xC (.str "flags")) (aCons (xC (.str "held")) (aCons (xC (.str "a")) (aCons (xC (.str "b")) (aCons (xC (.str "c")) (aCons (xC (.str "zzzzzzzz")) aNil))))))))))))))) (gN 1))
  (sSeq (sIf (x2 opEq (xCall 2 (e__law_take n) (aCons (xVar 0) (aCons (xC (.int 2)) aNil))) (xC (.int 0)))
  (sRet (xCall 2 (e__law_pick n) (aCons (xVar 0) (aCons (xVar 1) aNil))))
  sNil)
  (sSeq (sAsg (xC (.str "abcdefghijklmnopqrstuvwxyz")) (gN 2))
  (sRet (xJoin (xC (.str "")) (xNewF (nComp n [3] (iRange1 (aCons (x2 opAdd (xC (.int 1)) (xCall 2 (e__law_take n) (aCons (xVar 0) (aCons (xCall 2 (e__law_pick n) (aCons (xVar 0) (aCons (xNewF (lim (aCons (xC (.int 1)) (aCons (xC (.int 2)) (aCons (xC (.int 8)) aNil))))) aNil))) aNil)))) aNil)) (.one 3) tYesU (xCall 2 (e__law_pick n) (aCons (xVar 0) (aCons (xVar 2) aNil))))))))))
noncomputable def e__law_word (n : Nat) : List U → Sto → R U := fnG 4 (m__law_word n)
noncomputable def m__law_words (n : Nat) : MS :=
  (sSeq (sAsg (xNew (lim aNil)) (gN 2))
  (sSeq (sFor n (iRange1 (aCons (xVar 1) aNil)) (gN 3)
  (sSeq (sAsg (xCall 1 (e__law_word n) (aCons (xVar 0) aNil)) (gN 4))
  (sSeq (sAsg (x2 opAdd (xNewF (lim (aCons (xVar 4) aNil))) (xNewF (nComp n [6] (iOf (xC (.str "abcdefghijklmnopqrstuvwxyz"))) (.one 6) tYesU (x2 opAdd (xSl (xVar 4) oNone (oSome (xC (.int 7)))) (xVar 6))))) (gN 5))
  (sExpr (xM isLst mAppend (xVar 2) (aCons (x2 opIx (xNewF (nComp n [7] (iOf (xVar 5)) (.one 7) (bOf (x2 opNotIn (xVar 7) (xVar 2))) (xVar 7))) (xC (.int 0))) aNil))))))
  (sRet (xVar 2))))
noncomputable def e__law_words (n : Nat) : List U → Sto → R U := fnG 8 (m__law_words n)
noncomputable def m__law_order (n : Nat) : MS :=
  (sSeq (sPar [2, 3] (aCons (xNew (nB nList (lOf (xVar 1)))) (aCons (xNew (lim aNil)) aNil)))
  (sSeq (sWhile n (x2 opNe (xVar 2) (xNewF (lim aNil)))
  (sExpr (xM isLst mAppend (xVar 3) (aCons (xM isLst mPop (xVar 2) (aCons (xCall 2 (e__law_take n) (aCons (xVar 0) (aCons (xB bLen (aCons (xVar 2) aNil)) aNil))) aNil)) aNil))))
  (sRet (xFrz (xVar 3)))))
noncomputable def e__law_order (n : Nat) : List U → Sto → R U := fnG 4 (m__law_order n)
noncomputable def m__law_condition (n : Nat) : MS :=
  (sSeq (sAsg (xSl (xCall 2 (e__law_order n) (aCons (xVar 0) (aCons (xVar 1) aNil))) oNone (oSome (xCall 2 (e__law_pick n) (aCons (xVar 0) (aCons (xNewF (lim (aCons (xC (.int 0)) (aCons (xC (.int 1)) (aCons (xC (.int 1)) (aCons (xC (.int 1)) (aCons (xC (.int 1)) (aCons (xC (.int 1)) (aCons (xC (.int 2)) (aCons (xC (.int 2)) (aCons (xC (.int 3)) (aCons (xC (.int 4)) aNil)))))))))))) aNil))))) (gN 2))
  (sRet (xB bDictPF (nComp n [3] (iOf (xVar 2)) (.one 3) tYesU (xTup (aCons (xVar 3) (aCons (x2 (opI fun i j => decide (j < i)) (xCall 2 (e__law_take n) (aCons (xVar 0) (aCons (xC (.int 3)) aNil))) (xC (.int 0))) aNil)))))))
noncomputable def e__law_condition (n : Nat) : List U → Sto → R U := fnG 4 (m__law_condition n)
noncomputable def m__law_row (n : Nat) : MS :=
  (sSeq (sPar [3, 4] (aCons (x2 opIx (xVar 1) (xC (.str "flags"))) (aCons (xCall 2 (e__law_take n) (aCons (xVar 0) (aCons (xC (.int 10)) aNil))) aNil)))
  (sSeq (sIf (xAnd (x2 opLt (xVar 4) (xC (.int 4))) (x2 opNe (xVar 3) (xNewF (lim aNil))))
  (sRet (xTup (aCons (xC (.str "set")) (aCons (xCall 2 (e__law_pick n) (aCons (xVar 0) (aCons (xVar 3) aNil))) (aCons (x2 opEq (xCall 2 (e__law_take n) (aCons (xVar 0) (aCons (xC (.int 2)) aNil))) (xC (.int 0))) aNil)))))
  sNil)
  (sSeq (sIf (xAnd (x2 opEq (xVar 4) (xC (.int 4))) (x2 (opI fun i j => decide (j < i)) (xVar 2) (xC (.int 0))))
  (sRet (xTup (aCons (xC (.str "skip")) (aCons (xCall 2 (e__law_condition n) (aCons (xVar 0) (aCons (xVar 3) aNil))) (aCons (x2 opAdd (xC (.int 1)) (xCall 2 (e__law_take n) (aCons (xVar 0) (aCons (xVar 2) aNil)))) aNil)))))
  sNil)
  (sSeq (sIf (xAnd (x2 (opI fun i j => decide (j < i)) (xVar 4) (xC (.int 5))) (x2 (opI fun i j => decide (j < i)) (x2 opIx (xVar 1) (xC (.str "room"))) (xC (.int 0))))
  (sSeq (sAsg (x2 opSub (x2 opIx (xVar 1) (xC (.str "room"))) (xC (.int 1))) (gSubI (xVar 1) (xC (.str "room"))))
  (sSeq (sAsg (xCall 2 (e__law_pick n) (aCons (xVar 0) (aCons (xNewF (lim (aCons (xC (.str "wait")) (aCons (xC (.str "wait")) (aCons (xC (.str "later")) aNil))))) aNil))) (gN 5))
  (sRet (xTup (aCons (xVar 5) (aCons (xCall 2 (e__law_condition n) (aCons (xVar 0) (aCons (xVar 3) aNil))) aNil))))))
  sNil)
  (sRet (xTup (aCons (xC (.str "say")) (aCons (xCall 2 (e__law_pick n) (aCons (xVar 0) (aCons (x2 opIx (xVar 1) (xC (.str "words"))) aNil))) aNil))))))))
noncomputable def e__law_row (n : Nat) : List U → Sto → R U := fnG 6 (m__law_row n)
noncomputable def m__law_plan (n : Nat) : MS :=
  (sSeq (sAsg (xCall 2 (e__law_words n) (aCons (xVar 0) (aCons (x2 opAdd (xVar 1) (xVar 2)) aNil))) (gN 5))
  (sSeq (sAsg (xDisp (pAll [((xC (.str "flags")), (xSl (xVar 5) oNone (oSome (xCall 2 (e__law_take n) (aCons (xVar 0) (aCons (x2 opAdd (xVar 1) (xC (.int 1))) aNil)))))), ((xC (.str "handlers")), xD0), ((xC (.str "words")), (xNewF (lim (aCons (xC (.str "on")) (aCons (xC (.str "x")) (aCons (xC (.str "hello")) aNil))))))])) (gN 6))
  (sSeq (sAsg (xVar 4) (gSubI (xVar 6) (xC (.str "room"))))
  (sSeq (sIf (xAnd (x2 opNe (x2 opIx (xVar 6) (xC (.str "flags"))) (xNewF (lim aNil))) (x2 opEq (xCall 2 (e__law_take n) (aCons (xVar 0) (aCons (xC (.int 3)) aNil))) (xC (.int 0))))
  (sAsg (x2 opIx (xVar 5) (xC (.int 0))) (gSubI (xVar 5) (xVar 1)))
  sNil)
  (sSeq (sAsg (x2 opIx (xVar 6) (xC (.str "handlers"))) (gN 7))
  (sSeq (sFor n (iOf (xSl (xVar 5) (oSome (xVar 1)) (oSome (x2 opAdd (x2 opAdd (xVar 1) (xC (.int 1))) (xCall 2 (e__law_take n) (aCons (xVar 0) (aCons (xVar 2) aNil))))))) (gN 8)
  (sSeq (sAsg (xIf (x2 opEq (xCall 2 (e__law_take n) (aCons (xVar 0) (aCons (xC (.int 3)) aNil))) (xC (.int 0))) (xCall 2 (e__law_condition n) (aCons (xVar 0) (aCons (x2 opIx (xVar 6) (xC (.str "flags"))) aNil))) xD0F) (gN 9))
  (sSeq (sAsg (x2 opAdd (xC (.int 1)) (xCall 2 (e__law_take n) (aCons (xVar 0) (aCons (xVar 3) aNil)))) (gN 10))
  (sAsg (xTup (aCons (xVar 9) (aCons (xNewF (nComp n [11] (iRange1 (aCons (xVar 10) aNil)) (.one 11) tYesU (xCall 3 (e__law_row n) (aCons (xVar 0) (aCons (xVar 6) (aCons (x2 opSub (x2 opSub (xVar 10) (xVar 11)) (xC (.int 1))) aNil)))))) aNil))) (gSubI (xVar 7) (xVar 8))))))
  (sRet (xFrz (xVar 6)))))))))
noncomputable def e__law_plan (n : Nat) : List U → Sto → R U := fnG 12 (m__law_plan n)
noncomputable def m_is_list (n : Nat) : MS :=
  (sRet (x1 (isiB tbI [.lst, .tup]) (xVar 0)))
noncomputable def e_is_list (n : Nat) : List U → Sto → R U := fnG 1 (m_is_list n)
noncomputable def m_is_name (n : Nat) : MS :=
  (sRet (xAnd (x1 (isiB tbI [.str]) (xVar 0)) (xAnd (xChain (opI fun i j => decide (i ≤ j)) (opI fun i j => decide (i ≤ j)) (xC (.int 1)) (xB bLen (aCons (xVar 0) aNil)) (xC (.int 8))) (xB bAll (nComp n [1] (iOf (xVar 0)) (.one 1) tYesU (x2 opIn (xVar 1) (xC (.str "abcdefghijklmnopqrstuvwxyz"))))))))
noncomputable def e_is_name (n : Nat) : List U → Sto → R U := fnG 2 (m_is_name n)
noncomputable def m_need_flags (n : Nat) : MS :=
  (sSeq (sIf (xOr (xNot (xCall 1 (e_is_list n) (aCons (xVar 0) aNil))) (x2 (opI fun i j => decide (j < i)) (xB bLen (aCons (xVar 0) aNil)) (xC (.int 4))))
  sNo
  sNil)
  (sFor n (iEnum (aCons (xVar 0) aNil)) (gT [(gN 1), (gN 2)])
  (sIf (xOr (xNot (xCall 1 (e_is_name n) (aCons (xVar 2) aNil))) (x2 opIn (xVar 2) (xSl (xVar 0) oNone (oSome (xVar 1)))))
  sNo
  sNil)))
noncomputable def e_need_flags (n : Nat) : List U → Sto → R U := fnG 3 (m_need_flags n)
noncomputable def m_is_pair (n : Nat) : MS :=
  (sRet (xAnd (x1 (isiB tbI [.tup]) (xVar 0)) (x2 opEq (xB bLen (aCons (xVar 0) aNil)) (xC (.int 2)))))
noncomputable def e_is_pair (n : Nat) : List U → Sto → R U := fnG 1 (m_is_pair n)
noncomputable def m_is_flag (n : Nat) : MS :=
  (sRet (xAnd (x1 (isiB tbI [.str]) (xVar 1)) (x2 opIn (xVar 1) (xVar 0))))
noncomputable def e_is_flag (n : Nat) : List U → Sto → R U := fnG 2 (m_is_flag n)
noncomputable def m_is_condition (n : Nat) : MS :=
  (sRet (xAnd (x1 (isiB tbI [.dct]) (xVar 1)) (xB bAll (nCompD n [2] (xVar 1) keysU (.one 2) tYesU (xAnd (xCall 2 (e_is_flag n) (aCons (xVar 0) (aCons (xVar 2) aNil))) (x1 (isiB tbI [.bool]) (x2 opIx (xVar 1) (xVar 2))))))))
noncomputable def e_is_condition (n : Nat) : List U → Sto → R U := fnG 3 (m_is_condition n)
noncomputable def m_is_number (n : Nat) : MS :=
  (sRet (xAnd (x1 (isiB tbI [.int]) (xVar 0)) (xNot (x1 (isiB tbI [.bool]) (xVar 0)))))
noncomputable def e_is_number (n : Nat) : List U → Sto → R U := fnG 1 (m_is_number n)
noncomputable def m_is_row (n : Nat) : MS :=
  (sSeq (sIf (xOr (xNot (x1 (isiB tbI [.tup]) (xVar 1))) (xOr (x2 opLt (xB bLen (aCons (xVar 1) aNil)) (xC (.int 2))) (xNot (x1 (isiB tbI [.str]) (x2 opIx (xVar 1) (xC (.int 0)))))))
  (sRet (xC (.bl false)))
  sNil)
  (sSeq (sPar [3, 4] (aCons (x2 opIx (xVar 1) (xC (.int 0))) (aCons (xB bLen (aCons (xVar 1) aNil)) aNil)))
  (sSeq (sIf (x2 opEq (xVar 3) (xC (.str "set")))
  (sRet (xAnd (x2 opEq (xVar 4) (xC (.int 3))) (xAnd (xCall 2 (e_is_flag n) (aCons (xVar 0) (aCons (x2 opIx (xVar 1) (xC (.int 1))) aNil))) (x1 (isiB tbI [.bool]) (x2 opIx (xVar 1) (xC (.int 2)))))))
  sNil)
  (sSeq (sIf (x2 opEq (xVar 3) (xC (.str "say")))
  (sRet (xAnd (x2 opEq (xVar 4) (xC (.int 2))) (xCall 1 (e_is_name n) (aCons (x2 opIx (xVar 1) (xC (.int 1))) aNil))))
  sNil)
  (sSeq (sIf (x2 opEq (xVar 3) (xC (.str "skip")))
  (sRet (xAnd (x2 opEq (xVar 4) (xC (.int 3))) (xAnd (xCall 2 (e_is_condition n) (aCons (xVar 0) (aCons (x2 opIx (xVar 1) (xC (.int 1))) aNil))) (xAnd (xCall 1 (e_is_number n) (aCons (x2 opIx (xVar 1) (xC (.int 2))) aNil)) (xChain (opI fun i j => decide (i ≤ j)) (opI fun i j => decide (i ≤ j)) (xC (.int 1)) (x2 opIx (xVar 1) (xC (.int 2))) (xVar 2))))))
  sNil)
  (sRet (xAnd (x2 opIn (xVar 3) (xTup (aCons (xC (.str "wait")) (aCons (xC (.str "later")) aNil)))) (xAnd (x2 opEq (xVar 4) (xC (.int 2))) (xCall 2 (e_is_condition n) (aCons (xVar 0) (aCons (x2 opIx (xVar 1) (xC (.int 1))) aNil)))))))))))
noncomputable def e_is_row (n : Nat) : List U → Sto → R U := fnG 5 (m_is_row n)
noncomputable def m_need_handler (n : Nat) : MS :=
  (sSeq (sIf (xOr (xNot (xCall 1 (e_is_name n) (aCons (xVar 1) aNil))) (xOr (xNot (xCall 1 (e_is_pair n) (aCons (xVar 2) aNil))) (xNot (xCall 2 (e_is_condition n) (aCons (xVar 0) (aCons (x2 opIx (xVar 2) (xC (.int 0))) aNil))))))
  sNo
  sNil)
  (sSeq (sIf (xOr (xNot (xCall 1 (e_is_list n) (aCons (x2 opIx (xVar 2) (xC (.int 1))) aNil))) (xNot (xChain (opI fun i j => decide (i ≤ j)) (opI fun i j => decide (i ≤ j)) (xC (.int 1)) (xB bLen (aCons (x2 opIx (xVar 2) (xC (.int 1))) aNil)) (xC (.int 8)))))
  sNo
  sNil)
  (sFor n (iEnum (aCons (x2 opIx (xVar 2) (xC (.int 1))) aNil)) (gT [(gN 3), (gN 4)])
  (sIf (xNot (xCall 3 (e_is_row n) (aCons (xVar 0) (aCons (xVar 4) (aCons (x2 opSub (x2 opSub (xB bLen (aCons (x2 opIx (xVar 2) (xC (.int 1))) aNil)) (xVar 3)) (xC (.int 1))) aNil)))))
  sNo
  sNil))))
noncomputable def e_need_handler (n : Nat) : List U → Sto → R U := fnG 5 (m_need_handler n)
noncomputable def m_sorted_condition (n : Nat) : MS :=
  (sRet (xDcompF n [1] (iNew (nSortD (xVar 0))) (.one 1) tYesU (xVar 1) (x2 opIx (xVar 0) (xVar 1))))
noncomputable def e_sorted_condition (n : Nat) : List U → Sto → R U := fnG 2 (m_sorted_condition n)
noncomputable def m_copied_row (n : Nat) : MS :=
  (sSeq (sIf (x2 opIn (x2 opIx (xVar 0) (xC (.int 0))) (xTup (aCons (xC (.str "set")) (aCons (xC (.str "say")) aNil))))
  (sRet (xVar 0))
  sNil)
  (sRet (xTup (aCons (x2 opIx (xVar 0) (xC (.int 0))) (aCons (xCall 1 (e_sorted_condition n) (aCons (x2 opIx (xVar 0) (xC (.int 1))) aNil)) (aStar (lOf (xSl (xVar 0) (oSome (xC (.int 2))) oNone)) aNil))))))
noncomputable def e_copied_row (n : Nat) : List U → Sto → R U := fnG 1 (m_copied_row n)
noncomputable def m_copied_handler (n : Nat) : MS :=
  (sRet (xTup (aCons (xCall 1 (e_sorted_condition n) (aCons (x2 opIx (xVar 0) (xC (.int 0))) aNil)) (aCons (xB bTuple (nComp n [1] (iOf (x2 opIx (xVar 0) (xC (.int 1)))) (.one 1) tYesU (xCall 1 (e_copied_row n) (aCons (xVar 1) aNil)))) aNil))))
noncomputable def e_copied_handler (n : Nat) : List U → Sto → R U := fnG 2 (m_copied_handler n)
noncomputable def m_Program_places (n : Nat) : MS :=
  (sSeq (sAsg (xNew (lim aNil)) (gN 2))
  (sSeq (sForD n (xFld tb_own_handlers "own_handlers" (xVar 0)) keysU (gN 3)
  (sExpr (xM isLst mExtend (xVar 2) (aCons (xNewF (nComp n [4, 5] (iEnum (aCons (x2 opIx (x2 opIx (xFld tb_own_handlers "own_handlers" (xVar 0)) (xVar 3)) (xC (.int 1))) aNil)) (.many [4, 5]) (bOf (x2 opEq (x2 opIx (xVar 5) (xC (.int 0))) (xVar 1))) (xTup (aCons (xVar 3) (aCons (xVar 4) aNil))))) aNil))))
  (sRet (xB bTuple (lOf (xVar 2))))))
noncomputable def e_Program_places (n : Nat) : List U → Sto → R U := fnG 6 (m_Program_places n)
noncomputable def m_Programzz_initzz (n : Nat) : MS :=
  (sSeq (sExpr (xCall 1 (e_need_flags n) (aCons (xVar 1) aNil)))
  (sSeq (sIf (xOr (xNot (x1 (isiB tbI [.dct]) (xVar 2))) (xNot (xChain (opI fun i j => decide (i ≤ j)) (opI fun i j => decide (i ≤ j)) (xC (.int 1)) (xB bLen (aCons (xVar 2) aNil)) (xC (.int 4)))))
  sNo
  sNil)
  (sSeq (sAsg (xNewF (nCompD n [4] (xVar 2) keysU (.one 4) (bOf (xNot (x1 (isiB tbI [.str]) (xVar 4)))) (xVar 4))) (gN 3))
  (sSeq (sFor n (iOf (x2 opAdd (xVar 3) (xNewF (nB nSorted (nCompD n [4] (xVar 2) keysU (.one 4) (bOf (x1 (isiB tbI [.str]) (xVar 4))) (xVar 4)))))) (gN 4)
  (sExpr (xCall 3 (e_need_handler n) (aCons (xVar 1) (aCons (xVar 4) (aCons (x2 opIx (xVar 2) (xVar 4)) aNil))))))
  (sSeq (sFldS tb_own_flags "own_flags" (xVar 0) (xB bTuple (nB nSorted (lstOf (xVar 1)))))
  (sSeq (sFldS tb_own_handlers "own_handlers" (xVar 0) (xDcompF n [4] (iNew (nSortD (xVar 2))) (.one 4) tYesU (xVar 4) (xCall 1 (e_copied_handler n) (aCons (x2 opIx (xVar 2) (xVar 4)) aNil))))
  (sIf (x2 (opI fun i j => decide (j < i)) (x2 opAdd (xB bLen (aCons (xMeth "Program" "places" 2 (e_Program_places n) (xVar 0) (aCons (xC (.str "wait")) aNil)) aNil)) (xB bLen (aCons (xMeth "Program" "places" 2 (e_Program_places n) (xVar 0) (aCons (xC (.str "later")) aNil)) aNil))) (xC (.int 6)))
  sNo
  sNil)))))))
noncomputable def e_Programzz_initzz (n : Nat) : List U → Sto → R U := fnG 5 (m_Programzz_initzz n)
noncomputable def m__law_made (n : Nat) : MS :=
  (sRet (xMake "Program" 3 (e_Programzz_initzz n) (aCons (x2 opIx (xVar 0) (xC (.str "flags"))) (aCons (x2 opIx (xVar 0) (xC (.str "handlers"))) aNil))))
noncomputable def e__law_made (n : Nat) : List U → Sto → R U := fnG 1 (m__law_made n)
noncomputable def m__law_places (n : Nat) : MS :=
  (sSeq (sAsg (xNewF (lim aNil)) (gN 2))
  (sSeq (sFor n (iNew (nSortD (x2 opIx (xVar 0) (xC (.str "handlers"))))) (gN 3)
  (sSeq (sAsg (x2 opIx (x2 opIx (x2 opIx (xVar 0) (xC (.str "handlers"))) (xVar 3)) (xC (.int 1))) (gN 4))
  (sAsg (x2 opAdd (xVar 2) (xNewF (nComp n [5] (iRange1 (aCons (xB bLen (aCons (xVar 4) aNil)) aNil)) (.one 5) (bOf (x2 opEq (x2 opIx (x2 opIx (xVar 4) (xVar 5)) (xC (.int 0))) (xVar 1))) (xTup (aCons (xVar 3) (aCons (xVar 5) aNil)))))) (gN 2))))
  (sRet (xVar 2))))
noncomputable def e__law_places (n : Nat) : List U → Sto → R U := fnG 6 (m__law_places n)
noncomputable def m__law_any_state (n : Nat) : MS :=
  (sSeq (sAsg (xNewF (nB nSorted (nComp n [3] (iOf (x2 opIx (xVar 1) (xC (.str "flags")))) (.one 3) (bOf (x2 opEq (xCall 2 (e__law_take n) (aCons (xVar 0) (aCons (xC (.int 2)) aNil))) (xC (.int 0)))) (xVar 3)))) (gN 2))
  (sRet (xTup (aCons (xB bTuple (lOf (xVar 2))) (aCons (xB bTuple (nComp n [4] (iOf (xCall 2 (e__law_places n) (aCons (xVar 1) (aCons (xC (.str "later")) aNil)))) (.one 4) (bOf (x2 opEq (xCall 2 (e__law_take n) (aCons (xVar 0) (aCons (xC (.int 2)) aNil))) (xC (.int 0)))) (xVar 4))) aNil)))))
noncomputable def e__law_any_state (n : Nat) : List U → Sto → R U := fnG 5 (m__law_any_state n)
noncomputable def m_need_program (n : Nat) : MS :=
  (sIf (xNot (x1 (isiO tbI "Program") (xVar 0)))
  sNo
  sNil)
noncomputable def e_need_program (n : Nat) : List U → Sto → R U := fnG 1 (m_need_program n)
noncomputable def m_is_place (n : Nat) : MS :=
  (sSeq (sIf (xOr (xNot (xCall 1 (e_is_pair n) (aCons (xVar 1) aNil))) (xOr (xNot (x1 (isiB tbI [.str]) (x2 opIx (xVar 1) (xC (.int 0))))) (xNot (xCall 1 (e_is_number n) (aCons (x2 opIx (xVar 1) (xC (.int 1))) aNil)))))
  (sRet (xC (.bl false)))
  sNil)
  (sRet (x2 opIn (xVar 1) (xMeth "Program" "places" 2 (e_Program_places n) (xVar 0) (aCons (xVar 2) aNil)))))
noncomputable def e_is_place (n : Nat) : List U → Sto → R U := fnG 3 (m_is_place n)
noncomputable def m_need_pile (n : Nat) : MS :=
  (sSeq (sIf (xNot (xCall 1 (e_is_list n) (aCons (xVar 1) aNil)))
  sNo
  sNil)
  (sFor n (iEnum (aCons (xVar 1) aNil)) (gT [(gN 2), (gN 3)])
  (sIf (xNot (xCall 3 (e_is_place n) (aCons (xVar 0) (aCons (xVar 3) (aCons (xC (.str "wait")) aNil)))))
  sNo
  sNil)))
noncomputable def e_need_pile (n : Nat) : List U → Sto → R U := fnG 4 (m_need_pile n)
noncomputable def m_rises (n : Nat) : MS :=
  (sRet (xB bAll (nComp n [1, 2] (iZip (aCons (xVar 0) (aCons (xSl (xVar 0) (oSome (xC (.int 1))) oNone) aNil))) (.many [1, 2]) tYesU (x2 opLt (xVar 1) (xVar 2)))))
noncomputable def e_rises (n : Nat) : List U → Sto → R U := fnG 3 (m_rises n)
noncomputable def m_is_state (n : Nat) : MS :=
  (sSeq (sExpr (xCall 1 (e_need_program n) (aCons (xVar 0) aNil)))
  (sSeq (sIf (xOr (xNot (xCall 1 (e_is_pair n) (aCons (xVar 1) aNil))) (xOr (xNot (x1 (isiB tbI [.tup]) (x2 opIx (xVar 1) (xC (.int 0))))) (xNot (x1 (isiB tbI [.tup]) (x2 opIx (xVar 1) (xC (.int 1)))))))
  (sRet (xC (.bl false)))
  sNil)
  (sSeq (sIf (xNot (xB bAll (nComp n [2] (iOf (x2 opIx (xVar 1) (xC (.int 0)))) (.one 2) tYesU (xCall 2 (e_is_flag n) (aCons (xFld tb_own_flags "own_flags" (xVar 0)) (aCons (xVar 2) aNil))))))
  (sRet (xC (.bl false)))
  sNil)
  (sSeq (sIf (xNot (xB bAll (nComp n [3] (iOf (x2 opIx (xVar 1) (xC (.int 1)))) (.one 3) tYesU (xCall 3 (e_is_place n) (aCons (xVar 0) (aCons (xVar 3) (aCons (xC (.str "later")) aNil)))))))
  (sRet (xC (.bl false)))
  sNil)
  (sRet (xAnd (xCall 1 (e_rises n) (aCons (x2 opIx (xVar 1) (xC (.int 0))) aNil)) (xCall 1 (e_rises n) (aCons (x2 opIx (xVar 1) (xC (.int 1))) aNil))))))))
noncomputable def e_is_state (n : Nat) : List U → Sto → R U := fnG 4 (m_is_state n)
noncomputable def m_need_state (n : Nat) : MS :=
  (sIf (xNot (xCall 2 (e_is_state n) (aCons (xVar 0) (aCons (xVar 1) aNil))))
  sNo
  sNil)
noncomputable def e_need_state (n : Nat) : List U → Sto → R U := fnG 2 (m_need_state n)
noncomputable def m_is_true (n : Nat) : MS :=
  (sRet (xB bAll (nCompD n [2] (xVar 0) keysU (.one 2) tYesU (x2 opEq (x2 opIn (xVar 2) (x2 opIx (xVar 1) (xC (.int 0)))) (x2 opIx (xVar 0) (xVar 2))))))
noncomputable def e_is_true (n : Nat) : List U → Sto → R U := fnG 3 (m_is_true n)
noncomputable def m_rows_of (n : Nat) : MS :=
  (sRet (x2 opIx (x2 opIx (xFld tb_own_handlers "own_handlers" (xVar 0)) (xVar 1)) (xC (.int 1))))
noncomputable def e_rows_of (n : Nat) : List U → Sto → R U := fnG 2 (m_rows_of n)
noncomputable def m_condition_at (n : Nat) : MS :=
  (sRet (x2 opIx (x2 opIx (xCall 2 (e_rows_of n) (aCons (xVar 0) (aCons (x2 opIx (xVar 1) (xC (.int 0))) aNil))) (x2 opIx (xVar 1) (xC (.int 1)))) (xC (.int 1))))
noncomputable def e_condition_at (n : Nat) : List U → Sto → R U := fnG 2 (m_condition_at n)
noncomputable def m_ready_place (n : Nat) : MS :=
  (sSeq (sFor n (iOf (x2 opIx (xVar 1) (xC (.int 1)))) (gN 2)
  (sIf (xCall 2 (e_is_true n) (aCons (xCall 2 (e_condition_at n) (aCons (xVar 0) (aCons (xVar 2) aNil))) (aCons (xVar 1) aNil)))
  (sRet (xVar 2))
  sNil))
  (sRet (xC .non)))
noncomputable def e_ready_place (n : Nat) : List U → Sto → R U := fnG 3 (m_ready_place n)
noncomputable def m_without (n : Nat) : MS :=
  (sRet (xTup (aCons (x2 opIx (xVar 0) (xC (.int 0))) (aCons (xB bTuple (nComp n [2] (iOf (x2 opIx (xVar 0) (xC (.int 1)))) (.one 2) (bOf (x2 opNe (xVar 2) (xVar 1))) (xVar 2))) aNil))))
noncomputable def e_without (n : Nat) : List U → Sto → R U := fnG 3 (m_without n)
noncomputable def m_Loop_looked (n : Nat) : MS :=
  (sSeq (sAsg (xCall 2 (e_ready_place n) (aCons (xFld tb_own_program "own_program" (xVar 0)) (aCons (xFld tb_own_state "own_state" (xVar 0)) aNil))) (gN 1))
  (sSeq (sIf (x2 opIsNot (xVar 1) (xC .non))
  (sSeq (sFldS tb_own_state "own_state" (xVar 0) (xCall 2 (e_without n) (aCons (xFld tb_own_state "own_state" (xVar 0)) (aCons (xVar 1) aNil))))
  (sRet (xTup (aCons (xVar 1) (aCons (xNewF (lim aNil)) aNil)))))
  sNil)
  (sSeq (sIf (xOr (x2 opEq (xB bLen (aCons (xFld tb_own_pile "own_pile" (xVar 0)) aNil)) (xC (.int 0))) (xNot (xCall 2 (e_is_true n) (aCons (xCall 2 (e_condition_at n) (aCons (xFld tb_own_program "own_program" (xVar 0)) (aCons (x2 opIx (xFld tb_own_pile "own_pile" (xVar 0)) (x1 opNeg (xC (.int 1)))) aNil))) (aCons (xFld tb_own_state "own_state" (xVar 0)) aNil)))))
  (sRet (xTup (aCons (xC .non) (aCons (xNewF (lim aNil)) aNil))))
  sNil)
  (sSeq (sAsg (x2 opIx (xFld tb_own_pile "own_pile" (xVar 0)) (x1 opNeg (xC (.int 1)))) (gN 1))
  (sSeq (sFldS tb_own_pile "own_pile" (xVar 0) (xSl (xFld tb_own_pile "own_pile" (xVar 0)) oNone (oSome (x1 opNeg (xC (.int 1))))))
  (sRet (xTup (aCons (xVar 1) (aCons (xNewF (lim (aCons (xC (.str "-")) aNil))) aNil)))))))))
noncomputable def e_Loop_looked (n : Nat) : List U → Sto → R U := fnG 2 (m_Loop_looked n)
noncomputable def m_with_flag (n : Nat) : MS :=
  (sSeq (sAsg (xNewF (nComp n [4] (iOf (x2 opIx (xVar 0) (xC (.int 0)))) (.one 4) (bOf (x2 opNe (xVar 4) (xVar 1))) (xVar 4))) (gN 3))
  (sRet (xTup (aCons (xB bTuple (nB nSorted (lstOf (xIf (xVar 2) (x2 opAdd (xVar 3) (xNewF (lim (aCons (xVar 1) aNil)))) (xVar 3))))) (aCons (x2 opIx (xVar 0) (xC (.int 1))) aNil)))))
noncomputable def e_with_flag (n : Nat) : List U → Sto → R U := fnG 5 (m_with_flag n)
noncomputable def m_run (n : Nat) : MS :=
  (sSeq (sPar [4, 5] (aCons (xCall 2 (e_rows_of n) (aCons (xVar 0) (aCons (xVar 1) aNil))) (aCons (xNew (lim aNil)) aNil)))
  (sSeq (sWhile n (x2 opLt (xVar 2) (xB bLen (aCons (xVar 4) aNil)))
  (sSeq (sPar [6, 7] (aCons (x2 opIx (xVar 4) (xVar 2)) (aCons (xTup (aCons (xVar 1) (aCons (xVar 2) aNil))) aNil)))
  (sSeq (sAug 2 (xC (.int 1)))
  (sIf (x2 opEq (x2 opIx (xVar 6) (xC (.int 0))) (xC (.str "set")))
  (sAsg (xCall 3 (e_with_flag n) (aCons (xVar 3) (aCons (x2 opIx (xVar 6) (xC (.int 1))) (aCons (x2 opIx (xVar 6) (xC (.int 2))) aNil)))) (gN 3))
  (sIf (x2 opEq (x2 opIx (xVar 6) (xC (.int 0))) (xC (.str "say")))
  (sExpr (xM isLst mAppend (xVar 5) (aCons (x2 opIx (xVar 6) (xC (.int 1))) aNil)))
  (sIf (x2 opEq (x2 opIx (xVar 6) (xC (.int 0))) (xC (.str "skip")))
  (sAug 2 (xIf (xCall 2 (e_is_true n) (aCons (x2 opIx (xVar 6) (xC (.int 1))) (aCons (xVar 3) aNil))) (x2 opIx (xVar 6) (xC (.int 2))) (xC (.int 0))))
  (sIf (xNot (xCall 2 (e_is_true n) (aCons (x2 opIx (xVar 6) (xC (.int 1))) (aCons (xVar 3) aNil))))
  (sSeq (sIf (x2 opEq (x2 opIx (xVar 6) (xC (.int 0))) (xC (.str "wait")))
  (sRet (xTup (aCons (xVar 3) (aCons (xFrz (xVar 5)) (aCons (xVar 7) (aCons (xC .non) aNil))))))
  sNil)
  (sSeq (sIf (x2 opIn (xVar 7) (x2 opIx (xVar 3) (xC (.int 1))))
  (sRet (xTup (aCons (xVar 3) (aCons (xFrz (xVar 5)) (aCons (xC .non) (aCons (xVar 7) aNil))))))
  sNil)
  (sRet (xTup (aCons (xTup (aCons (x2 opIx (xVar 3) (xC (.int 0))) (aCons (xB bTuple (nB nSorted (lim (aStar (lOf (x2 opIx (xVar 3) (xC (.int 1)))) (aCons (xVar 7) aNil))))) aNil))) (aCons (xFrz (xVar 5)) (aCons (xC .non) (aCons (xC .non) aNil))))))))
  sNil)))))))
  (sRet (xTup (aCons (xVar 3) (aCons (xFrz (xVar 5)) (aCons (xC .non) (aCons (xC .non) aNil))))))))
noncomputable def e_run (n : Nat) : List U → Sto → R U := fnG 8 (m_run n)
noncomputable def m_Loop_gone_on (n : Nat) : MS :=
  (sSeq (sAsg (xIf (x2 opIsNot (xVar 1) (xC .non)) (xTup (aCons (xC .non) (aCons (xNewF (lim aNil)) aNil))) (xMeth "Loop" "looked" 1 (e_Loop_looked n) (xVar 0) aNil)) (gT [(gN 2), (gN 3)]))
  (sSeq (sAsg (xIf (x2 opIsNot (xVar 1) (xC .non)) (xTup (aCons (xVar 1) (aCons (x1 opNeg (xC (.int 1))) aNil))) (xVar 2)) (gN 4))
  (sSeq (sWhile n (x2 opIsNot (xVar 4) (xC .non))
  (sSeq (sAsg (xCall 4 (e_run n) (aCons (xFld tb_own_program "own_program" (xVar 0)) (aCons (x2 opIx (xVar 4) (xC (.int 0))) (aCons (x2 opAdd (x2 opIx (xVar 4) (xC (.int 1))) (xC (.int 1))) (aCons (xFld tb_own_state "own_state" (xVar 0)) aNil))))) (gT [(gN 5), (gN 6), (gN 7), (gN 8)]))
  (sSeq (sFldS tb_own_state "own_state" (xVar 0) (xVar 5))
  (sSeq (sAsg (xNew (lim (aStar (lOf (xVar 3)) (aStar (lOf (xVar 6)) aNil)))) (gN 3))
  (sSeq (sIf (x2 opIsNot (xVar 8) (xC .non))
  (sFldS tb_own_lost "own_lost" (xVar 0) (xTup (aStar (lOf (xFld tb_own_lost "own_lost" (xVar 0))) (aCons (xVar 8) aNil))))
  sNil)
  (sSeq (sIf (x2 opIsNot (xVar 7) (xC .non))
  (sSeq (sFldS tb_own_pile "own_pile" (xVar 0) (xTup (aStar (lOf (xFld tb_own_pile "own_pile" (xVar 0))) (aCons (xVar 7) aNil))))
  (sExpr (xM isLst mAppend (xVar 3) (aCons (xC (.str "+")) aNil))))
  sNil)
  (sSeq (sAsg (xMeth "Loop" "looked" 1 (e_Loop_looked n) (xVar 0) aNil) (gT [(gN 4), (gN 9)]))
  (sAsg (xNew (lim (aStar (lOf (xVar 3)) (aStar (lOf (xVar 9)) aNil)))) (gN 3)))))))))
  (sRet (xB bTuple (lOf (xVar 3)))))))
noncomputable def e_Loop_gone_on (n : Nat) : List U → Sto → R U := fnG 10 (m_Loop_gone_on n)
noncomputable def m_Loopzz_initzz (n : Nat) : MS :=
  (sSeq (sExpr (xCall 1 (e_need_program n) (aCons (xVar 1) aNil)))
  (sSeq (sExpr (xCall 2 (e_need_pile n) (aCons (xVar 1) (aCons (xVar 2) aNil))))
  (sSeq (sExpr (xCall 2 (e_need_state n) (aCons (xVar 1) (aCons (xVar 3) aNil))))
  (sSeq (sFldS tb_own_program "own_program" (xVar 0) (xVar 1))
  (sSeq (sFldS tb_own_pile "own_pile" (xVar 0) (xB bTuple (lOf (xVar 2))))
  (sSeq (sFldS tb_own_state "own_state" (xVar 0) (xVar 3))
  (sSeq (sFldS tb_own_lost "own_lost" (xVar 0) (xTup aNil))
  (sSeq (sFldS tb_own_past "own_past" (xVar 0) (xNew (lim aNil)))
  (sFldS tb_own_first "own_first" (xVar 0) (xMeth "Loop" "gone_on" 2 (e_Loop_gone_on n) (xVar 0) (aCons (xC .non) aNil)))))))))))
noncomputable def e_Loopzz_initzz (n : Nat) : List U → Sto → R U := fnG 4 (m_Loopzz_initzz n)
noncomputable def m_Loopzz_lenzz (n : Nat) : MS :=
  (sRet (xB bLen (aCons (xFld tb_own_pile "own_pile" (xVar 0)) aNil)))
noncomputable def e_Loopzz_lenzz (n : Nat) : List U → Sto → R U := fnG 1 (m_Loopzz_lenzz n)
noncomputable def m_Loop_state (n : Nat) : MS :=
  (sRet (xFld tb_own_state "own_state" (xVar 0)))
noncomputable def e_Loop_state (n : Nat) : List U → Sto → R U := fnG 1 (m_Loop_state n)
noncomputable def m_Loop_pile (n : Nat) : MS :=
  (sRet (xFld tb_own_pile "own_pile" (xVar 0)))
noncomputable def e_Loop_pile (n : Nat) : List U → Sto → R U := fnG 1 (m_Loop_pile n)
noncomputable def m__law_agree (n : Nat) : MS :=
  (sSeq (sIf (x2 opEq (xB (lenO "Loop" (e_Loopzz_lenzz n)) (aCons (xVar 0) aNil)) (xC (.int 0)))
  (sRet (x2 opEq (xSl (xVar 4) oNone (oSome (xB bLen (aCons (xVar 3) aNil)))) (xVar 3)))
  sNil)
  (sRet (xAnd (x2 opEq (xVar 3) (xVar 4)) (xAnd (x2 opEq (xProp "Loop" (e_Loop_state n) (xVar 1)) (xProp "Loop" (e_Loop_state n) (xVar 0))) (x2 opEq (xProp "Loop" (e_Loop_pile n) (xVar 1)) (x2 opAdd (xVar 2) (xProp "Loop" (e_Loop_pile n) (xVar 0))))))))
noncomputable def e__law_agree (n : Nat) : List U → Sto → R U := fnG 5 (m__law_agree n)
noncomputable def m_Loop_first (n : Nat) : MS :=
  (sRet (xFld tb_own_first "own_first" (xVar 0)))
noncomputable def e_Loop_first (n : Nat) : List U → Sto → R U := fnG 1 (m_Loop_first n)
noncomputable def m_events_in (n : Nat) : MS :=
  (sRet (xNewF (nCompD n [2, 3] (xFld tb_own_handlers "own_handlers" (xVar 0)) itemsU (.many [2, 3]) (bOf (xCall 2 (e_is_true n) (aCons (x2 opIx (xVar 3) (xC (.int 0))) (aCons (xVar 1) aNil)))) (xVar 2))))
noncomputable def e_events_in (n : Nat) : List U → Sto → R U := fnG 4 (m_events_in n)
noncomputable def m_possible (n : Nat) : MS :=
  (sSeq (sExpr (xCall 2 (e_need_state n) (aCons (xVar 0) (aCons (xVar 1) aNil))))
  (sRet (xB bTuple (lOf (xCall 2 (e_events_in n) (aCons (xVar 0) (aCons (xVar 1) aNil)))))))
noncomputable def e_possible (n : Nat) : List U → Sto → R U := fnG 2 (m_possible n)
noncomputable def m_Program_names (n : Nat) : MS :=
  (sRet (xB bTupD (aCons (xFld tb_own_handlers "own_handlers" (xVar 0)) aNil)))
noncomputable def e_Program_names (n : Nat) : List U → Sto → R U := fnG 1 (m_Program_names n)
noncomputable def m_Loopzz_callzz (n : Nat) : MS :=
  (sSeq (sIf (xOr (xNot (x1 (isiB tbI [.str]) (xVar 1))) (x2 opNotIn (xVar 1) (xProp "Program" (e_Program_names n) (xFld tb_own_program "own_program" (xVar 0)))))
  sNo
  sNil)
  (sSeq (sIf (x2 opNotIn (xVar 1) (xCall 2 (e_events_in n) (aCons (xFld tb_own_program "own_program" (xVar 0)) (aCons (xFld tb_own_state "own_state" (xVar 0)) aNil))))
  sNo
  sNil)
  (sSeq (sExpr (xM isLst mAppend (xFld tb_own_past "own_past" (xVar 0)) (aCons (xTup (aCons (xVar 1) (aCons (xFld tb_own_pile "own_pile" (xVar 0)) (aCons (xFld tb_own_state "own_state" (xVar 0)) (aCons (xFld tb_own_lost "own_lost" (xVar 0)) aNil))))) aNil)))
  (sRet (xMeth "Loop" "gone_on" 2 (e_Loop_gone_on n) (xVar 0) (aCons (xVar 1) aNil))))))
noncomputable def e_Loopzz_callzz (n : Nat) : List U → Sto → R U := fnG 2 (m_Loopzz_callzz n)
noncomputable def m_law (n : Nat) : MS :=
  (sSeq (sAsg (xCall 1 (e__law_begin n) (aCons (xVar 0) aNil)) (gN 1))
  (sSeq (sFor n (iRange1 (aCons (x2 opAdd (xC (.int 4)) (xB bMin (aCons (xB bLen (aCons (xVar 0) aNil)) (aCons (xC (.int 16)) aNil)))) aNil)) (gN 2)
  (sSeq (sAsg (xCall 5 (e__law_plan n) (aCons (xVar 1) (aCons (xC (.int 3)) (aCons (xC (.int 4)) (aCons (xC (.int 7)) (aCons (xC (.int 6)) aNil)))))) (gN 3))
  (sSeq (sAsg (xTup (aCons (xCall 1 (e__law_made n) (aCons (xVar 3) aNil)) (aCons (xCall 2 (e__law_places n) (aCons (xVar 3) (aCons (xC (.str "wait")) aNil))) aNil))) (gT [(gN 4), (gN 5)]))
  (sSeq (sIf (x2 opEq (xVar 5) (xNewF (lim aNil)))
  sCnt
  sNil)
  (sSeq (sAsg (xNewF (nComp n [15] (iRange1 (aCons (x2 opAdd (xC (.int 1)) (xCall 2 (e__law_take n) (aCons (xVar 1) (aCons (xC (.int 3)) aNil)))) aNil)) (.one 15) tYesU (xCall 2 (e__law_pick n) (aCons (xVar 1) (aCons (xVar 5) aNil))))) (gN 6))
  (sSeq (sPar [7, 8] (aCons (xCall 2 (e__law_any_state n) (aCons (xVar 1) (aCons (xVar 3) aNil))) (aCons (x2 opAdd (xC (.int 1)) (xCall 2 (e__law_take n) (aCons (xVar 1) (aCons (xC (.int 6)) aNil)))) aNil)))
  (sSeq (sAsg (xB bTuple (nComp n [15] (iRange1 (aCons (xVar 8) aNil)) (.one 15) tYesU (xCall 2 (e__law_pick n) (aCons (xVar 1) (aCons (xVar 5) aNil))))) (gN 9))
  (sSeq (sPar [10, 11] (aCons (xMake "Loop" 4 (e_Loopzz_initzz n) (aCons (xVar 4) (aCons (xVar 6) (aCons (xVar 7) aNil)))) (aCons (xMake "Loop" 4 (e_Loopzz_initzz n) (aCons (xVar 4) (aCons (x2 opAdd (xNewF (nB nList (lOf (xVar 9)))) (xVar 6)) (aCons (xVar 7) aNil)))) aNil)))
  (sSeq (sIf (xNot (xCall 5 (e__law_agree n) (aCons (xVar 10) (aCons (xVar 11) (aCons (xVar 9) (aCons (xProp "Loop" (e_Loop_first n) (xVar 10)) (aCons (xProp "Loop" (e_Loop_first n) (xVar 11)) aNil)))))))
  (sRet (xC (.bl false)))
  sNil)
  (sFor n (iRange1 (aCons (xCall 2 (e__law_take n) (aCons (xVar 1) (aCons (xC (.int 16)) aNil))) aNil)) (gN 12)
  (sSeq (sAsg (xCall 2 (e_possible n) (aCons (xVar 4) (aCons (xProp "Loop" (e_Loop_state n) (xVar 10)) aNil))) (gN 13))
  (sSeq (sIf (xOr (x2 opEq (xB bLen (aCons (xVar 13) aNil)) (xC (.int 0))) (x2 opEq (xB (lenO "Loop" (e_Loopzz_lenzz n)) (aCons (xVar 10) aNil)) (xC (.int 0))))
  sBrk
  sNil)
  (sSeq (sAsg (xCall 2 (e__law_pick n) (aCons (xVar 1) (aCons (xVar 13) aNil))) (gN 14))
  (sIf (xNot (xCall 5 (e__law_agree n) (aCons (xVar 10) (aCons (xVar 11) (aCons (xVar 9) (aCons (xCallO "Loop" 2 (e_Loopzz_callzz n) (xVar 10) (aCons (xVar 14) aNil)) (aCons (xCallO "Loop" 2 (e_Loopzz_callzz n) (xVar 11) (aCons (xVar 14) aNil)) aNil)))))))
  (sRet (xC (.bl false)))
  sNil))))))))))))))
  (sRet (xC (.bl true)))))
noncomputable def e_law (n : Nat) : List U → Sto → R U := fnG 16 (m_law n)
end Gn
set_option Elab.async false
set_option linter.all false
set_option maxRecDepth 100000
set_option maxHeartbeats 0
namespace Gn
open PySem L2 He VI
abbrev prog : Program := PySem.Challenge.pw_innerloops_k18_whole_the_top_alone_matte
def g__law_begin : DG := ⟨(dAd none "_law_begin"), "_law_begin", "_law_begin", defArgs (topOf prog 52), defBody (topOf prog 52), defScope (topOf prog 52), []⟩
def g__law_blend : DG := ⟨(dAd none "_law_blend"), "_law_blend", "_law_blend", defArgs (topOf prog 53), defBody (topOf prog 53), defScope (topOf prog 53), []⟩
def g__law_take : DG := ⟨(dAd none "_law_take"), "_law_take", "_law_take", defArgs (topOf prog 54), defBody (topOf prog 54), defScope (topOf prog 54), []⟩
def g__law_pick : DG := ⟨(dAd none "_law_pick"), "_law_pick", "_law_pick", defArgs (topOf prog 55), defBody (topOf prog 55), defScope (topOf prog 55), []⟩
def g__law_word : DG := ⟨(dAd none "_law_word"), "_law_word", "_law_word", defArgs (topOf prog 57), defBody (topOf prog 57), defScope (topOf prog 57), []⟩
def g__law_words : DG := ⟨(dAd none "_law_words"), "_law_words", "_law_words", defArgs (topOf prog 58), defBody (topOf prog 58), defScope (topOf prog 58), []⟩
def g__law_order : DG := ⟨(dAd none "_law_order"), "_law_order", "_law_order", defArgs (topOf prog 56), defBody (topOf prog 56), defScope (topOf prog 56), []⟩
def g__law_condition : DG := ⟨(dAd none "_law_condition"), "_law_condition", "_law_condition", defArgs (topOf prog 59), defBody (topOf prog 59), defScope (topOf prog 59), []⟩
def g__law_row : DG := ⟨(dAd none "_law_row"), "_law_row", "_law_row", defArgs (topOf prog 60), defBody (topOf prog 60), defScope (topOf prog 60), []⟩
def g__law_plan : DG := ⟨(dAd none "_law_plan"), "_law_plan", "_law_plan", defArgs (topOf prog 61), defBody (topOf prog 61), defScope (topOf prog 61), []⟩
def g_is_list : DG := ⟨(dAd none "is_list"), "is_list", "is_list", defArgs (topOf prog 24), defBody (topOf prog 24), defScope (topOf prog 24), []⟩
def g_is_name : DG := ⟨(dAd none "is_name"), "is_name", "is_name", defArgs (topOf prog 19), defBody (topOf prog 19), defScope (topOf prog 19), []⟩
def g_need_flags : DG := ⟨(dAd none "need_flags"), "need_flags", "need_flags", defArgs (topOf prog 26), defBody (topOf prog 26), defScope (topOf prog 26), []⟩
def g_is_pair : DG := ⟨(dAd none "is_pair"), "is_pair", "is_pair", defArgs (topOf prog 25), defBody (topOf prog 25), defScope (topOf prog 25), []⟩
def g_is_flag : DG := ⟨(dAd none "is_flag"), "is_flag", "is_flag", defArgs (topOf prog 21), defBody (topOf prog 21), defScope (topOf prog 21), []⟩
def g_is_condition : DG := ⟨(dAd none "is_condition"), "is_condition", "is_condition", defArgs (topOf prog 22), defBody (topOf prog 22), defScope (topOf prog 22), []⟩
def g_is_number : DG := ⟨(dAd none "is_number"), "is_number", "is_number", defArgs (topOf prog 20), defBody (topOf prog 20), defScope (topOf prog 20), []⟩
def g_is_row : DG := ⟨(dAd none "is_row"), "is_row", "is_row", defArgs (topOf prog 23), defBody (topOf prog 23), defScope (topOf prog 23), []⟩
def g_need_handler : DG := ⟨(dAd none "need_handler"), "need_handler", "need_handler", defArgs (topOf prog 27), defBody (topOf prog 27), defScope (topOf prog 27), []⟩
def g_sorted_condition : DG := ⟨(dAd none "sorted_condition"), "sorted_condition", "sorted_condition", defArgs (topOf prog 28), defBody (topOf prog 28), defScope (topOf prog 28), []⟩
def g_copied_row : DG := ⟨(dAd none "copied_row"), "copied_row", "copied_row", defArgs (topOf prog 29), defBody (topOf prog 29), defScope (topOf prog 29), []⟩
def g_copied_handler : DG := ⟨(dAd none "copied_handler"), "copied_handler", "copied_handler", defArgs (topOf prog 30), defBody (topOf prog 30), defScope (topOf prog 30), []⟩
def g_Program_places : DG := ⟨(dAd (some "Program") "places"), "places", "Program.places", defArgs (inClass (topOf prog 31) 7), defBody (inClass (topOf prog 31) 7), defScope (inClass (topOf prog 31) 7), []⟩
def g_Programzz_initzz : DG := ⟨(dAd (some "Program") "__init__"), "__init__", "Program.__init__", defArgs (inClass (topOf prog 31) 0), defBody (inClass (topOf prog 31) 0), defScope (inClass (topOf prog 31) 0), []⟩
def g__law_made : DG := ⟨(dAd none "_law_made"), "_law_made", "_law_made", defArgs (topOf prog 62), defBody (topOf prog 62), defScope (topOf prog 62), []⟩
def g__law_places : DG := ⟨(dAd none "_law_places"), "_law_places", "_law_places", defArgs (topOf prog 63), defBody (topOf prog 63), defScope (topOf prog 63), []⟩
def g__law_any_state : DG := ⟨(dAd none "_law_any_state"), "_law_any_state", "_law_any_state", defArgs (topOf prog 64), defBody (topOf prog 64), defScope (topOf prog 64), []⟩
def g_need_program : DG := ⟨(dAd none "need_program"), "need_program", "need_program", defArgs (topOf prog 32), defBody (topOf prog 32), defScope (topOf prog 32), []⟩
def g_is_place : DG := ⟨(dAd none "is_place"), "is_place", "is_place", defArgs (topOf prog 35), defBody (topOf prog 35), defScope (topOf prog 35), []⟩
def g_need_pile : DG := ⟨(dAd none "need_pile"), "need_pile", "need_pile", defArgs (topOf prog 49), defBody (topOf prog 49), defScope (topOf prog 49), []⟩
def g_rises : DG := ⟨(dAd none "rises"), "rises", "rises", defArgs (topOf prog 36), defBody (topOf prog 36), defScope (topOf prog 36), []⟩
def g_is_state : DG := ⟨(dAd none "is_state"), "is_state", "is_state", defArgs (topOf prog 37), defBody (topOf prog 37), defScope (topOf prog 37), []⟩
def g_need_state : DG := ⟨(dAd none "need_state"), "need_state", "need_state", defArgs (topOf prog 38), defBody (topOf prog 38), defScope (topOf prog 38), []⟩
def g_is_true : DG := ⟨(dAd none "is_true"), "is_true", "is_true", defArgs (topOf prog 39), defBody (topOf prog 39), defScope (topOf prog 39), []⟩
def g_rows_of : DG := ⟨(dAd none "rows_of"), "rows_of", "rows_of", defArgs (topOf prog 33), defBody (topOf prog 33), defScope (topOf prog 33), []⟩
def g_condition_at : DG := ⟨(dAd none "condition_at"), "condition_at", "condition_at", defArgs (topOf prog 34), defBody (topOf prog 34), defScope (topOf prog 34), []⟩
def g_ready_place : DG := ⟨(dAd none "ready_place"), "ready_place", "ready_place", defArgs (topOf prog 48), defBody (topOf prog 48), defScope (topOf prog 48), []⟩
def g_without : DG := ⟨(dAd none "without"), "without", "without", defArgs (topOf prog 46), defBody (topOf prog 46), defScope (topOf prog 46), []⟩
def g_Loop_looked : DG := ⟨(dAd (some "Loop") "looked"), "looked", "Loop.looked", defArgs (inClass (topOf prog 50) 7), defBody (inClass (topOf prog 50) 7), defScope (inClass (topOf prog 50) 7), []⟩
def g_with_flag : DG := ⟨(dAd none "with_flag"), "with_flag", "with_flag", defArgs (topOf prog 45), defBody (topOf prog 45), defScope (topOf prog 45), []⟩
def g_run : DG := ⟨(dAd none "run"), "run", "run", defArgs (topOf prog 47), defBody (topOf prog 47), defScope (topOf prog 47), []⟩
def g_Loop_gone_on : DG := ⟨(dAd (some "Loop") "gone_on"), "gone_on", "Loop.gone_on", defArgs (inClass (topOf prog 50) 8), defBody (inClass (topOf prog 50) 8), defScope (inClass (topOf prog 50) 8), []⟩
def g_Loopzz_initzz : DG := ⟨(dAd (some "Loop") "__init__"), "__init__", "Loop.__init__", defArgs (inClass (topOf prog 50) 0), defBody (inClass (topOf prog 50) 0), defScope (inClass (topOf prog 50) 0), [.adr (dflAt ("Loop", some "__init__") 0), .adr (dflAt ("Loop", some "__init__") 1)]⟩
def g_Loopzz_lenzz : DG := ⟨(dAd (some "Loop") "__len__"), "__len__", "Loop.__len__", defArgs (inClass (topOf prog 50) 6), defBody (inClass (topOf prog 50) 6), defScope (inClass (topOf prog 50) 6), []⟩
def g_Loop_state : DG := ⟨(pAd "Loop" "state"), "state", "Loop.state", defArgs (inClass (topOf prog 50) 3), defBody (inClass (topOf prog 50) 3), defScope (inClass (topOf prog 50) 3), []⟩
def g_Loop_pile : DG := ⟨(pAd "Loop" "pile"), "pile", "Loop.pile", defArgs (inClass (topOf prog 50) 2), defBody (inClass (topOf prog 50) 2), defScope (inClass (topOf prog 50) 2), []⟩
def g__law_agree : DG := ⟨(dAd none "_law_agree"), "_law_agree", "_law_agree", defArgs (topOf prog 65), defBody (topOf prog 65), defScope (topOf prog 65), []⟩
def g_Loop_first : DG := ⟨(pAd "Loop" "first"), "first", "Loop.first", defArgs (inClass (topOf prog 50) 4), defBody (inClass (topOf prog 50) 4), defScope (inClass (topOf prog 50) 4), []⟩
def g_events_in : DG := ⟨(dAd none "events_in"), "events_in", "events_in", defArgs (topOf prog 40), defBody (topOf prog 40), defScope (topOf prog 40), []⟩
def g_possible : DG := ⟨(dAd none "possible"), "possible", "possible", defArgs (topOf prog 41), defBody (topOf prog 41), defScope (topOf prog 41), []⟩
def g_Program_names : DG := ⟨(pAd "Program" "names"), "names", "Program.names", defArgs (inClass (topOf prog 31) 2), defBody (inClass (topOf prog 31) 2), defScope (inClass (topOf prog 31) 2), []⟩
def g_Loopzz_callzz : DG := ⟨(dAd (some "Loop") "__call__"), "__call__", "Loop.__call__", defArgs (inClass (topOf prog 50) 9), defBody (inClass (topOf prog 50) 9), defScope (inClass (topOf prog 50) 9), []⟩
def g_law : DG := ⟨(dAd none "law"), "law", "law", defArgs (topOf prog 66), defBody (topOf prog 66), defScope (topOf prog 66), []⟩
def dg : List DG := [g__law_begin, g__law_blend, g__law_take, g__law_pick, g__law_word, g__law_words, g__law_order, g__law_condition, g__law_row, g__law_plan, g_is_list, g_is_name, g_need_flags, g_is_pair, g_is_flag, g_is_condition, g_is_number, g_is_row, g_need_handler, g_sorted_condition, g_copied_row, g_copied_handler, g_Program_places, g_Programzz_initzz, g__law_made, g__law_places, g__law_any_state, g_need_program, g_is_place, g_need_pile, g_rises, g_is_state, g_need_state, g_is_true, g_rows_of, g_condition_at, g_ready_place, g_without, g_Loop_looked, g_with_flag, g_run, g_Loop_gone_on, g_Loopzz_initzz, g_Loopzz_lenzz, g_Loop_state, g_Loop_pile, g__law_agree, g_Loop_first, g_events_in, g_possible, g_Program_names, g_Loopzz_callzz, g_law]
def gnames : List Str := [Str.ofString "_law_begin", Str.ofString "_law_blend", Str.ofString "_law_take", Str.ofString "_law_pick", Str.ofString "_law_word", Str.ofString "_law_words", Str.ofString "_law_order", Str.ofString "_law_condition", Str.ofString "_law_row", Str.ofString "_law_plan", Str.ofString "is_list", Str.ofString "is_name", Str.ofString "need_flags", Str.ofString "is_pair", Str.ofString "is_flag", Str.ofString "is_condition", Str.ofString "is_number", Str.ofString "is_row", Str.ofString "need_handler", Str.ofString "sorted_condition", Str.ofString "copied_row", Str.ofString "copied_handler", Str.ofString "Program", Str.ofString "_law_made", Str.ofString "_law_places", Str.ofString "_law_any_state", Str.ofString "need_program", Str.ofString "is_place", Str.ofString "need_pile", Str.ofString "rises", Str.ofString "is_state", Str.ofString "need_state", Str.ofString "rows_of", Str.ofString "condition_at", Str.ofString "is_true", Str.ofString "ready_place", Str.ofString "without", Str.ofString "with_flag", Str.ofString "run", Str.ofString "Loop", Str.ofString "_law_agree", Str.ofString "events_in", Str.ofString "possible", Str.ofString "law"]
def fnames : List Str := [Str.ofString "abs", Str.ofString "int", Str.ofString "len", Str.ofString "min", Str.ofString "range", Str.ofString "list", Str.ofString "dict", Str.ofString "isinstance", Str.ofString "tuple", Str.ofString "enumerate", Str.ofString "str", Str.ofString "all", Str.ofString "sorted", Str.ofString "bool", Str.ofString "zip"]
def ex : List Ex := [gloB gnames, freeB fnames, fa (.int "MOST_FLAGS" 4), fa (.int "MOST_HANDLERS" 4), fa (.int "MOST_ROWS" 8), fa (.int "MOST_PLACES" 6), fa (.str "LETTERS" "abcdefghijklmnopqrstuvwxyz"), fa (.str "ENDS" "-"), fa (.str "OPENS" "+"), fa (.cls "Program"), ityB "Program", fa (.cls "Loop"), ityB "Loop", kitB' "Program" "Program" true, kitB' "Program" "Loop" false, kitB' "Loop" "Program" false, kitB' "Loop" "Loop" true, fa (.noat "Program" "own_flags"), fa (.noat "Program" "own_handlers"), fa (.noat "Loop" "own_program"), fa (.noat "Loop" "own_pile"), fa (.noat "Loop" "own_state"), fa (.noat "Loop" "own_lost"), fa (.noat "Loop" "own_past"), fa (.noat "Loop" "own_first"), fa (.meth "Program" "places"), fa (.mkr "Program"), fa (.meth "Loop" "looked"), fa (.meth "Loop" "gone_on"), fa (.mkr "Loop"), fa (.meth "Loop" "__len__"), propB "Loop" "state", propB "Loop" "pile", propB "Loop" "first", propB "Program" "names", callB "Loop"]
structure Wd (K : PySem.W.Frag) (mg : Str → Option Value) : Prop where
  says : SaysG ex dg K
  kin : ∃ h : Heap, K.In h ∧ h.Ns mainGlobals mg
section
variable {K : PySem.W.Frag} {mg : Str → Option Value} (W : Wd K mg)
include W
theorem Wd.glo0 : gloB gnames K = true := W.says.fact 0 (f := gloB gnames)
theorem Wd.glo__law_begin : mg "_law_begin" = some (.ref (ga K "_law_begin")) := let ⟨_, h, G⟩ := W.kin; gloB_ok h G (xs := gnames) W.glo0 0 (x := "_law_begin")
theorem Wd.glo__law_blend : mg "_law_blend" = some (.ref (ga K "_law_blend")) := let ⟨_, h, G⟩ := W.kin; gloB_ok h G (xs := gnames) W.glo0 1 (x := "_law_blend")
theorem Wd.glo__law_take : mg "_law_take" = some (.ref (ga K "_law_take")) := let ⟨_, h, G⟩ := W.kin; gloB_ok h G (xs := gnames) W.glo0 2 (x := "_law_take")
theorem Wd.glo__law_pick : mg "_law_pick" = some (.ref (ga K "_law_pick")) := let ⟨_, h, G⟩ := W.kin; gloB_ok h G (xs := gnames) W.glo0 3 (x := "_law_pick")
theorem Wd.glo__law_word : mg "_law_word" = some (.ref (ga K "_law_word")) := let ⟨_, h, G⟩ := W.kin; gloB_ok h G (xs := gnames) W.glo0 4 (x := "_law_word")
theorem Wd.glo__law_words : mg "_law_words" = some (.ref (ga K "_law_words")) := let ⟨_, h, G⟩ := W.kin; gloB_ok h G (xs := gnames) W.glo0 5 (x := "_law_words")
theorem Wd.glo__law_order : mg "_law_order" = some (.ref (ga K "_law_order")) := let ⟨_, h, G⟩ := W.kin; gloB_ok h G (xs := gnames) W.glo0 6 (x := "_law_order")
theorem Wd.glo__law_condition : mg "_law_condition" = some (.ref (ga K "_law_condition")) := let ⟨_, h, G⟩ := W.kin; gloB_ok h G (xs := gnames) W.glo0 7 (x := "_law_condition")
theorem Wd.glo__law_row : mg "_law_row" = some (.ref (ga K "_law_row")) := let ⟨_, h, G⟩ := W.kin; gloB_ok h G (xs := gnames) W.glo0 8 (x := "_law_row")
theorem Wd.glo__law_plan : mg "_law_plan" = some (.ref (ga K "_law_plan")) := let ⟨_, h, G⟩ := W.kin; gloB_ok h G (xs := gnames) W.glo0 9 (x := "_law_plan")
theorem Wd.glo_is_list : mg "is_list" = some (.ref (ga K "is_list")) := let ⟨_, h, G⟩ := W.kin; gloB_ok h G (xs := gnames) W.glo0 10 (x := "is_list")
theorem Wd.glo_is_name : mg "is_name" = some (.ref (ga K "is_name")) := let ⟨_, h, G⟩ := W.kin; gloB_ok h G (xs := gnames) W.glo0 11 (x := "is_name")
theorem Wd.glo_need_flags : mg "need_flags" = some (.ref (ga K "need_flags")) := let ⟨_, h, G⟩ := W.kin; gloB_ok h G (xs := gnames) W.glo0 12 (x := "need_flags")
theorem Wd.glo_is_pair : mg "is_pair" = some (.ref (ga K "is_pair")) := let ⟨_, h, G⟩ := W.kin; gloB_ok h G (xs := gnames) W.glo0 13 (x := "is_pair")
theorem Wd.glo_is_flag : mg "is_flag" = some (.ref (ga K "is_flag")) := let ⟨_, h, G⟩ := W.kin; gloB_ok h G (xs := gnames) W.glo0 14 (x := "is_flag")
theorem Wd.glo_is_condition : mg "is_condition" = some (.ref (ga K "is_condition")) := let ⟨_, h, G⟩ := W.kin; gloB_ok h G (xs := gnames) W.glo0 15 (x := "is_condition")
theorem Wd.glo_is_number : mg "is_number" = some (.ref (ga K "is_number")) := let ⟨_, h, G⟩ := W.kin; gloB_ok h G (xs := gnames) W.glo0 16 (x := "is_number")
theorem Wd.glo_is_row : mg "is_row" = some (.ref (ga K "is_row")) := let ⟨_, h, G⟩ := W.kin; gloB_ok h G (xs := gnames) W.glo0 17 (x := "is_row")
theorem Wd.glo_need_handler : mg "need_handler" = some (.ref (ga K "need_handler")) := let ⟨_, h, G⟩ := W.kin; gloB_ok h G (xs := gnames) W.glo0 18 (x := "need_handler")
theorem Wd.glo_sorted_condition : mg "sorted_condition" = some (.ref (ga K "sorted_condition")) := let ⟨_, h, G⟩ := W.kin; gloB_ok h G (xs := gnames) W.glo0 19 (x := "sorted_condition")
theorem Wd.glo_copied_row : mg "copied_row" = some (.ref (ga K "copied_row")) := let ⟨_, h, G⟩ := W.kin; gloB_ok h G (xs := gnames) W.glo0 20 (x := "copied_row")
theorem Wd.glo_copied_handler : mg "copied_handler" = some (.ref (ga K "copied_handler")) := let ⟨_, h, G⟩ := W.kin; gloB_ok h G (xs := gnames) W.glo0 21 (x := "copied_handler")
theorem Wd.glo_Program : mg "Program" = some (.ref (ga K "Program")) := let ⟨_, h, G⟩ := W.kin; gloB_ok h G (xs := gnames) W.glo0 22 (x := "Program")
theorem Wd.glo__law_made : mg "_law_made" = some (.ref (ga K "_law_made")) := let ⟨_, h, G⟩ := W.kin; gloB_ok h G (xs := gnames) W.glo0 23 (x := "_law_made")
theorem Wd.glo__law_places : mg "_law_places" = some (.ref (ga K "_law_places")) := let ⟨_, h, G⟩ := W.kin; gloB_ok h G (xs := gnames) W.glo0 24 (x := "_law_places")
theorem Wd.glo__law_any_state : mg "_law_any_state" = some (.ref (ga K "_law_any_state")) := let ⟨_, h, G⟩ := W.kin; gloB_ok h G (xs := gnames) W.glo0 25 (x := "_law_any_state")
theorem Wd.glo_need_program : mg "need_program" = some (.ref (ga K "need_program")) := let ⟨_, h, G⟩ := W.kin; gloB_ok h G (xs := gnames) W.glo0 26 (x := "need_program")
theorem Wd.glo_is_place : mg "is_place" = some (.ref (ga K "is_place")) := let ⟨_, h, G⟩ := W.kin; gloB_ok h G (xs := gnames) W.glo0 27 (x := "is_place")
theorem Wd.glo_need_pile : mg "need_pile" = some (.ref (ga K "need_pile")) := let ⟨_, h, G⟩ := W.kin; gloB_ok h G (xs := gnames) W.glo0 28 (x := "need_pile")
theorem Wd.glo_rises : mg "rises" = some (.ref (ga K "rises")) := let ⟨_, h, G⟩ := W.kin; gloB_ok h G (xs := gnames) W.glo0 29 (x := "rises")
theorem Wd.glo_is_state : mg "is_state" = some (.ref (ga K "is_state")) := let ⟨_, h, G⟩ := W.kin; gloB_ok h G (xs := gnames) W.glo0 30 (x := "is_state")
theorem Wd.glo_need_state : mg "need_state" = some (.ref (ga K "need_state")) := let ⟨_, h, G⟩ := W.kin; gloB_ok h G (xs := gnames) W.glo0 31 (x := "need_state")
theorem Wd.glo_rows_of : mg "rows_of" = some (.ref (ga K "rows_of")) := let ⟨_, h, G⟩ := W.kin; gloB_ok h G (xs := gnames) W.glo0 32 (x := "rows_of")
theorem Wd.glo_condition_at : mg "condition_at" = some (.ref (ga K "condition_at")) := let ⟨_, h, G⟩ := W.kin; gloB_ok h G (xs := gnames) W.glo0 33 (x := "condition_at")
theorem Wd.glo_is_true : mg "is_true" = some (.ref (ga K "is_true")) := let ⟨_, h, G⟩ := W.kin; gloB_ok h G (xs := gnames) W.glo0 34 (x := "is_true")
theorem Wd.glo_ready_place : mg "ready_place" = some (.ref (ga K "ready_place")) := let ⟨_, h, G⟩ := W.kin; gloB_ok h G (xs := gnames) W.glo0 35 (x := "ready_place")
theorem Wd.glo_without : mg "without" = some (.ref (ga K "without")) := let ⟨_, h, G⟩ := W.kin; gloB_ok h G (xs := gnames) W.glo0 36 (x := "without")
theorem Wd.glo_with_flag : mg "with_flag" = some (.ref (ga K "with_flag")) := let ⟨_, h, G⟩ := W.kin; gloB_ok h G (xs := gnames) W.glo0 37 (x := "with_flag")
theorem Wd.glo_run : mg "run" = some (.ref (ga K "run")) := let ⟨_, h, G⟩ := W.kin; gloB_ok h G (xs := gnames) W.glo0 38 (x := "run")
theorem Wd.glo_Loop : mg "Loop" = some (.ref (ga K "Loop")) := let ⟨_, h, G⟩ := W.kin; gloB_ok h G (xs := gnames) W.glo0 39 (x := "Loop")
theorem Wd.glo__law_agree : mg "_law_agree" = some (.ref (ga K "_law_agree")) := let ⟨_, h, G⟩ := W.kin; gloB_ok h G (xs := gnames) W.glo0 40 (x := "_law_agree")
theorem Wd.glo_events_in : mg "events_in" = some (.ref (ga K "events_in")) := let ⟨_, h, G⟩ := W.kin; gloB_ok h G (xs := gnames) W.glo0 41 (x := "events_in")
theorem Wd.glo_possible : mg "possible" = some (.ref (ga K "possible")) := let ⟨_, h, G⟩ := W.kin; gloB_ok h G (xs := gnames) W.glo0 42 (x := "possible")
theorem Wd.glo_law : mg "law" = some (.ref (ga K "law")) := let ⟨_, h, G⟩ := W.kin; gloB_ok h G (xs := gnames) W.glo0 43 (x := "law")
theorem Wd.free0 : freeB fnames K = true := W.says.fact 1 (f := freeB fnames)
theorem Wd.free_abs : mg "abs" = none := let ⟨_, h, G⟩ := W.kin; freeB_ok h G (xs := fnames) W.free0 0 (x := "abs")
theorem Wd.free_int : mg "int" = none := let ⟨_, h, G⟩ := W.kin; freeB_ok h G (xs := fnames) W.free0 1 (x := "int")
theorem Wd.free_len : mg "len" = none := let ⟨_, h, G⟩ := W.kin; freeB_ok h G (xs := fnames) W.free0 2 (x := "len")
theorem Wd.free_min : mg "min" = none := let ⟨_, h, G⟩ := W.kin; freeB_ok h G (xs := fnames) W.free0 3 (x := "min")
theorem Wd.free_range : mg "range" = none := let ⟨_, h, G⟩ := W.kin; freeB_ok h G (xs := fnames) W.free0 4 (x := "range")
theorem Wd.free_list : mg "list" = none := let ⟨_, h, G⟩ := W.kin; freeB_ok h G (xs := fnames) W.free0 5 (x := "list")
theorem Wd.free_dict : mg "dict" = none := let ⟨_, h, G⟩ := W.kin; freeB_ok h G (xs := fnames) W.free0 6 (x := "dict")
theorem Wd.free_isinstance : mg "isinstance" = none := let ⟨_, h, G⟩ := W.kin; freeB_ok h G (xs := fnames) W.free0 7 (x := "isinstance")
theorem Wd.free_tuple : mg "tuple" = none := let ⟨_, h, G⟩ := W.kin; freeB_ok h G (xs := fnames) W.free0 8 (x := "tuple")
theorem Wd.free_enumerate : mg "enumerate" = none := let ⟨_, h, G⟩ := W.kin; freeB_ok h G (xs := fnames) W.free0 9 (x := "enumerate")
theorem Wd.free_str : mg "str" = none := let ⟨_, h, G⟩ := W.kin; freeB_ok h G (xs := fnames) W.free0 10 (x := "str")
theorem Wd.free_all : mg "all" = none := let ⟨_, h, G⟩ := W.kin; freeB_ok h G (xs := fnames) W.free0 11 (x := "all")
theorem Wd.free_sorted : mg "sorted" = none := let ⟨_, h, G⟩ := W.kin; freeB_ok h G (xs := fnames) W.free0 12 (x := "sorted")
theorem Wd.free_bool : mg "bool" = none := let ⟨_, h, G⟩ := W.kin; freeB_ok h G (xs := fnames) W.free0 13 (x := "bool")
theorem Wd.free_zip : mg "zip" = none := let ⟨_, h, G⟩ := W.kin; freeB_ok h G (xs := fnames) W.free0 14 (x := "zip")
theorem Wd.int_MOST_FLAGS : ∃ t, mg "MOST_FLAGS" = some (.int 4 t) := let ⟨_, h, G⟩ := W.kin; int_ok h G (show (Fa.int "MOST_FLAGS" 4).ok K = true from W.says.fact 2 (f := fa (.int "MOST_FLAGS" 4)))
theorem Wd.int_MOST_HANDLERS : ∃ t, mg "MOST_HANDLERS" = some (.int 4 t) := let ⟨_, h, G⟩ := W.kin; int_ok h G (show (Fa.int "MOST_HANDLERS" 4).ok K = true from W.says.fact 3 (f := fa (.int "MOST_HANDLERS" 4)))
theorem Wd.int_MOST_ROWS : ∃ t, mg "MOST_ROWS" = some (.int 8 t) := let ⟨_, h, G⟩ := W.kin; int_ok h G (show (Fa.int "MOST_ROWS" 8).ok K = true from W.says.fact 4 (f := fa (.int "MOST_ROWS" 8)))
theorem Wd.int_MOST_PLACES : ∃ t, mg "MOST_PLACES" = some (.int 6 t) := let ⟨_, h, G⟩ := W.kin; int_ok h G (show (Fa.int "MOST_PLACES" 6).ok K = true from W.says.fact 5 (f := fa (.int "MOST_PLACES" 6)))
theorem Wd.str_LETTERS : ∃ t, mg "LETTERS" = some (.str "abcdefghijklmnopqrstuvwxyz" t) := let ⟨_, h, G⟩ := W.kin; str_ok h G (show (Fa.str "LETTERS" "abcdefghijklmnopqrstuvwxyz").ok K = true from W.says.fact 6 (f := fa (.str "LETTERS" "abcdefghijklmnopqrstuvwxyz")))
theorem Wd.str_ENDS : ∃ t, mg "ENDS" = some (.str "-" t) := let ⟨_, h, G⟩ := W.kin; str_ok h G (show (Fa.str "ENDS" "-").ok K = true from W.says.fact 7 (f := fa (.str "ENDS" "-")))
theorem Wd.str_OPENS : ∃ t, mg "OPENS" = some (.str "+" t) := let ⟨_, h, G⟩ := W.kin; str_ok h G (show (Fa.str "OPENS" "+").ok K = true from W.says.fact 8 (f := fa (.str "OPENS" "+")))
theorem Wd.cls_Program : Cls K (ga K "Program") := cls_ok (W.says.fact 9 (f := fa (.cls "Program")))
theorem Wd.ity_Program : ITy K "Program" := ityB_ok (W.says.fact 10 (f := ityB "Program"))
theorem Wd.cls_Loop : Cls K (ga K "Loop") := cls_ok (W.says.fact 11 (f := fa (.cls "Loop")))
theorem Wd.ity_Loop : ITy K "Loop" := ityB_ok (W.says.fact 12 (f := ityB "Loop"))
theorem Wd.kit_Program_Program : PySem.W.kitOne K (.ref (ga K "Program")) (.ref (ga K "Program")) = some true := kitB_ok (W.says.fact 13 (f := kitB' "Program" "Program" true))
theorem Wd.kit_Loop_Program : PySem.W.kitOne K (.ref (ga K "Loop")) (.ref (ga K "Program")) = some false := kitB_ok (W.says.fact 15 (f := kitB' "Loop" "Program" false))
theorem Wd.noat_Program_own_flags : NoAttr K (ga K "Program") "own_flags" := noat_ok (W.says.fact 17 (f := fa (.noat "Program" "own_flags")))
theorem Wd.noat_Program_own_handlers : NoAttr K (ga K "Program") "own_handlers" := noat_ok (W.says.fact 18 (f := fa (.noat "Program" "own_handlers")))
theorem Wd.noat_Loop_own_program : NoAttr K (ga K "Loop") "own_program" := noat_ok (W.says.fact 19 (f := fa (.noat "Loop" "own_program")))
theorem Wd.noat_Loop_own_pile : NoAttr K (ga K "Loop") "own_pile" := noat_ok (W.says.fact 20 (f := fa (.noat "Loop" "own_pile")))
theorem Wd.noat_Loop_own_state : NoAttr K (ga K "Loop") "own_state" := noat_ok (W.says.fact 21 (f := fa (.noat "Loop" "own_state")))
theorem Wd.noat_Loop_own_lost : NoAttr K (ga K "Loop") "own_lost" := noat_ok (W.says.fact 22 (f := fa (.noat "Loop" "own_lost")))
theorem Wd.noat_Loop_own_past : NoAttr K (ga K "Loop") "own_past" := noat_ok (W.says.fact 23 (f := fa (.noat "Loop" "own_past")))
theorem Wd.noat_Loop_own_first : NoAttr K (ga K "Loop") "own_first" := noat_ok (W.says.fact 24 (f := fa (.noat "Loop" "own_first")))
theorem Wd.meth_Program_places : Meth K (ga K "Program") "places" (ma K (ga K "Program") "places") := meth_ok (W.says.fact 25 (f := fa (.meth "Program" "places")))
theorem Wd.mk_Program : Mk K (ga K "Program") (ma K (ga K "Program") "__init__") := mkr_ok (W.says.fact 26 (f := fa (.mkr "Program")))
theorem Wd.meth_Loop_looked : Meth K (ga K "Loop") "looked" (ma K (ga K "Loop") "looked") := meth_ok (W.says.fact 27 (f := fa (.meth "Loop" "looked")))
theorem Wd.meth_Loop_gone_on : Meth K (ga K "Loop") "gone_on" (ma K (ga K "Loop") "gone_on") := meth_ok (W.says.fact 28 (f := fa (.meth "Loop" "gone_on")))
theorem Wd.mk_Loop : Mk K (ga K "Loop") (ma K (ga K "Loop") "__init__") := mkr_ok (W.says.fact 29 (f := fa (.mkr "Loop")))
theorem Wd.meth_Loop___len__ : Meth K (ga K "Loop") "__len__" (ma K (ga K "Loop") "__len__") := meth_ok (W.says.fact 30 (f := fa (.meth "Loop" "__len__")))
theorem Wd.len_Loop : PySem.W.findIn K (.ref (ga K "Loop")) "__len__" = some (some (.ref (ma K (ga K "Loop") "__len__"))) ∧ PySem.W.isFn K (.ref (ma K (ga K "Loop") "__len__")) = true := ⟨W.meth_Loop___len__.at_, W.meth_Loop___len__.fn⟩
theorem Wd.prop_Loop_state : PropOf K (ga K "Loop") "state" (ma K (ga K "Loop") "state") (pAd "Loop" "state" K) := propB_ok (W.says.fact 31 (f := propB "Loop" "state"))
theorem Wd.prop_Loop_pile : PropOf K (ga K "Loop") "pile" (ma K (ga K "Loop") "pile") (pAd "Loop" "pile" K) := propB_ok (W.says.fact 32 (f := propB "Loop" "pile"))
theorem Wd.prop_Loop_first : PropOf K (ga K "Loop") "first" (ma K (ga K "Loop") "first") (pAd "Loop" "first" K) := propB_ok (W.says.fact 33 (f := propB "Loop" "first"))
theorem Wd.prop_Program_names : PropOf K (ga K "Program") "names" (ma K (ga K "Program") "names") (pAd "Program" "names" K) := propB_ok (W.says.fact 34 (f := propB "Program" "names"))
theorem Wd.call_Loop : StX.CallO K (ga K "Loop") (ma K (ga K "Loop") "__call__") := callB_ok (W.says.fact 35 (f := callB "Loop"))
theorem Wd.fld_own_flags (c : Str) (h : tb_own_flags c = true) : Cls K (ga K c) ∧ NoAttr K (ga K c) "own_flags" := by
  unfold tb_own_flags at h
  simp only [Bool.or_eq_true, decide_eq_true_eq] at h
  subst h
  · exact ⟨W.cls_Program, W.noat_Program_own_flags⟩
theorem Wd.fld_own_handlers (c : Str) (h : tb_own_handlers c = true) : Cls K (ga K c) ∧ NoAttr K (ga K c) "own_handlers" := by
  unfold tb_own_handlers at h
  simp only [Bool.or_eq_true, decide_eq_true_eq] at h
  subst h
  · exact ⟨W.cls_Program, W.noat_Program_own_handlers⟩
theorem Wd.fld_own_program (c : Str) (h : tb_own_program c = true) : Cls K (ga K c) ∧ NoAttr K (ga K c) "own_program" := by
  unfold tb_own_program at h
  simp only [Bool.or_eq_true, decide_eq_true_eq] at h
  subst h
  · exact ⟨W.cls_Loop, W.noat_Loop_own_program⟩
theorem Wd.fld_own_pile (c : Str) (h : tb_own_pile c = true) : Cls K (ga K c) ∧ NoAttr K (ga K c) "own_pile" := by
  unfold tb_own_pile at h
  simp only [Bool.or_eq_true, decide_eq_true_eq] at h
  subst h
  · exact ⟨W.cls_Loop, W.noat_Loop_own_pile⟩
theorem Wd.fld_own_state (c : Str) (h : tb_own_state c = true) : Cls K (ga K c) ∧ NoAttr K (ga K c) "own_state" := by
  unfold tb_own_state at h
  simp only [Bool.or_eq_true, decide_eq_true_eq] at h
  subst h
  · exact ⟨W.cls_Loop, W.noat_Loop_own_state⟩
theorem Wd.fld_own_lost (c : Str) (h : tb_own_lost c = true) : Cls K (ga K c) ∧ NoAttr K (ga K c) "own_lost" := by
  unfold tb_own_lost at h
  simp only [Bool.or_eq_true, decide_eq_true_eq] at h
  subst h
  · exact ⟨W.cls_Loop, W.noat_Loop_own_lost⟩
theorem Wd.fld_own_past (c : Str) (h : tb_own_past c = true) : Cls K (ga K c) ∧ NoAttr K (ga K c) "own_past" := by
  unfold tb_own_past at h
  simp only [Bool.or_eq_true, decide_eq_true_eq] at h
  subst h
  · exact ⟨W.cls_Loop, W.noat_Loop_own_past⟩
theorem Wd.fld_own_first (c : Str) (h : tb_own_first c = true) : Cls K (ga K c) ∧ NoAttr K (ga K c) "own_first" := by
  unfold tb_own_first at h
  simp only [Bool.or_eq_true, decide_eq_true_eq] at h
  subst h
  · exact ⟨W.cls_Loop, W.noat_Loop_own_first⟩
theorem Wd.ity (c : Str) (h : tbI c = true) : ITy K c := by
  unfold tbI at h
  simp only [Bool.or_eq_true, decide_eq_true_eq] at h
  rcases h with rfl | rfl
  · exact W.ity_Program
  · exact W.ity_Loop
theorem Wd.isi_Program (c : Str) (h : tbI c = true) : ITy K c ∧ PySem.W.kitOne K (.ref (ga K c)) (.ref (ga K "Program")) = some (decide (c = "Program")) := by
  refine ⟨W.ity c h, ?_⟩
  unfold tbI at h
  simp only [Bool.or_eq_true, decide_eq_true_eq] at h
  rcases h with rfl | rfl
  · exact W.kit_Program_Program
  · exact W.kit_Loop_Program
theorem Wd.kp__law_begin : PySem.W.keepIn K (.ref ((dAd none "_law_begin") K)) = true := let ⟨_, F⟩ := W.says.def_ 0 (d := g__law_begin); F.kp
theorem Wd.kp__law_blend : PySem.W.keepIn K (.ref ((dAd none "_law_blend") K)) = true := let ⟨_, F⟩ := W.says.def_ 1 (d := g__law_blend); F.kp
theorem Wd.kp__law_take : PySem.W.keepIn K (.ref ((dAd none "_law_take") K)) = true := let ⟨_, F⟩ := W.says.def_ 2 (d := g__law_take); F.kp
theorem Wd.kp__law_pick : PySem.W.keepIn K (.ref ((dAd none "_law_pick") K)) = true := let ⟨_, F⟩ := W.says.def_ 3 (d := g__law_pick); F.kp
theorem Wd.kp__law_word : PySem.W.keepIn K (.ref ((dAd none "_law_word") K)) = true := let ⟨_, F⟩ := W.says.def_ 4 (d := g__law_word); F.kp
theorem Wd.kp__law_words : PySem.W.keepIn K (.ref ((dAd none "_law_words") K)) = true := let ⟨_, F⟩ := W.says.def_ 5 (d := g__law_words); F.kp
theorem Wd.kp__law_order : PySem.W.keepIn K (.ref ((dAd none "_law_order") K)) = true := let ⟨_, F⟩ := W.says.def_ 6 (d := g__law_order); F.kp
theorem Wd.kp__law_condition : PySem.W.keepIn K (.ref ((dAd none "_law_condition") K)) = true := let ⟨_, F⟩ := W.says.def_ 7 (d := g__law_condition); F.kp
theorem Wd.kp__law_row : PySem.W.keepIn K (.ref ((dAd none "_law_row") K)) = true := let ⟨_, F⟩ := W.says.def_ 8 (d := g__law_row); F.kp
theorem Wd.kp__law_plan : PySem.W.keepIn K (.ref ((dAd none "_law_plan") K)) = true := let ⟨_, F⟩ := W.says.def_ 9 (d := g__law_plan); F.kp
theorem Wd.kp_is_list : PySem.W.keepIn K (.ref ((dAd none "is_list") K)) = true := let ⟨_, F⟩ := W.says.def_ 10 (d := g_is_list); F.kp
theorem Wd.kp_is_name : PySem.W.keepIn K (.ref ((dAd none "is_name") K)) = true := let ⟨_, F⟩ := W.says.def_ 11 (d := g_is_name); F.kp
theorem Wd.kp_need_flags : PySem.W.keepIn K (.ref ((dAd none "need_flags") K)) = true := let ⟨_, F⟩ := W.says.def_ 12 (d := g_need_flags); F.kp
theorem Wd.kp_is_pair : PySem.W.keepIn K (.ref ((dAd none "is_pair") K)) = true := let ⟨_, F⟩ := W.says.def_ 13 (d := g_is_pair); F.kp
theorem Wd.kp_is_flag : PySem.W.keepIn K (.ref ((dAd none "is_flag") K)) = true := let ⟨_, F⟩ := W.says.def_ 14 (d := g_is_flag); F.kp
theorem Wd.kp_is_condition : PySem.W.keepIn K (.ref ((dAd none "is_condition") K)) = true := let ⟨_, F⟩ := W.says.def_ 15 (d := g_is_condition); F.kp
theorem Wd.kp_is_number : PySem.W.keepIn K (.ref ((dAd none "is_number") K)) = true := let ⟨_, F⟩ := W.says.def_ 16 (d := g_is_number); F.kp
theorem Wd.kp_is_row : PySem.W.keepIn K (.ref ((dAd none "is_row") K)) = true := let ⟨_, F⟩ := W.says.def_ 17 (d := g_is_row); F.kp
theorem Wd.kp_need_handler : PySem.W.keepIn K (.ref ((dAd none "need_handler") K)) = true := let ⟨_, F⟩ := W.says.def_ 18 (d := g_need_handler); F.kp
theorem Wd.kp_sorted_condition : PySem.W.keepIn K (.ref ((dAd none "sorted_condition") K)) = true := let ⟨_, F⟩ := W.says.def_ 19 (d := g_sorted_condition); F.kp
theorem Wd.kp_copied_row : PySem.W.keepIn K (.ref ((dAd none "copied_row") K)) = true := let ⟨_, F⟩ := W.says.def_ 20 (d := g_copied_row); F.kp
theorem Wd.kp_copied_handler : PySem.W.keepIn K (.ref ((dAd none "copied_handler") K)) = true := let ⟨_, F⟩ := W.says.def_ 21 (d := g_copied_handler); F.kp
theorem Wd.kp__law_made : PySem.W.keepIn K (.ref ((dAd none "_law_made") K)) = true := let ⟨_, F⟩ := W.says.def_ 24 (d := g__law_made); F.kp
theorem Wd.kp__law_places : PySem.W.keepIn K (.ref ((dAd none "_law_places") K)) = true := let ⟨_, F⟩ := W.says.def_ 25 (d := g__law_places); F.kp
theorem Wd.kp__law_any_state : PySem.W.keepIn K (.ref ((dAd none "_law_any_state") K)) = true := let ⟨_, F⟩ := W.says.def_ 26 (d := g__law_any_state); F.kp
theorem Wd.kp_need_program : PySem.W.keepIn K (.ref ((dAd none "need_program") K)) = true := let ⟨_, F⟩ := W.says.def_ 27 (d := g_need_program); F.kp
theorem Wd.kp_is_place : PySem.W.keepIn K (.ref ((dAd none "is_place") K)) = true := let ⟨_, F⟩ := W.says.def_ 28 (d := g_is_place); F.kp
theorem Wd.kp_need_pile : PySem.W.keepIn K (.ref ((dAd none "need_pile") K)) = true := let ⟨_, F⟩ := W.says.def_ 29 (d := g_need_pile); F.kp
theorem Wd.kp_rises : PySem.W.keepIn K (.ref ((dAd none "rises") K)) = true := let ⟨_, F⟩ := W.says.def_ 30 (d := g_rises); F.kp
theorem Wd.kp_is_state : PySem.W.keepIn K (.ref ((dAd none "is_state") K)) = true := let ⟨_, F⟩ := W.says.def_ 31 (d := g_is_state); F.kp
theorem Wd.kp_need_state : PySem.W.keepIn K (.ref ((dAd none "need_state") K)) = true := let ⟨_, F⟩ := W.says.def_ 32 (d := g_need_state); F.kp
theorem Wd.kp_is_true : PySem.W.keepIn K (.ref ((dAd none "is_true") K)) = true := let ⟨_, F⟩ := W.says.def_ 33 (d := g_is_true); F.kp
theorem Wd.kp_rows_of : PySem.W.keepIn K (.ref ((dAd none "rows_of") K)) = true := let ⟨_, F⟩ := W.says.def_ 34 (d := g_rows_of); F.kp
theorem Wd.kp_condition_at : PySem.W.keepIn K (.ref ((dAd none "condition_at") K)) = true := let ⟨_, F⟩ := W.says.def_ 35 (d := g_condition_at); F.kp
theorem Wd.kp_ready_place : PySem.W.keepIn K (.ref ((dAd none "ready_place") K)) = true := let ⟨_, F⟩ := W.says.def_ 36 (d := g_ready_place); F.kp
theorem Wd.kp_without : PySem.W.keepIn K (.ref ((dAd none "without") K)) = true := let ⟨_, F⟩ := W.says.def_ 37 (d := g_without); F.kp
theorem Wd.kp_with_flag : PySem.W.keepIn K (.ref ((dAd none "with_flag") K)) = true := let ⟨_, F⟩ := W.says.def_ 39 (d := g_with_flag); F.kp
theorem Wd.kp_run : PySem.W.keepIn K (.ref ((dAd none "run") K)) = true := let ⟨_, F⟩ := W.says.def_ 40 (d := g_run); F.kp
theorem Wd.kp__law_agree : PySem.W.keepIn K (.ref ((dAd none "_law_agree") K)) = true := let ⟨_, F⟩ := W.says.def_ 46 (d := g__law_agree); F.kp
theorem Wd.kp_events_in : PySem.W.keepIn K (.ref ((dAd none "events_in") K)) = true := let ⟨_, F⟩ := W.says.def_ 48 (d := g_events_in); F.kp
theorem Wd.kp_possible : PySem.W.keepIn K (.ref ((dAd none "possible") K)) = true := let ⟨_, F⟩ := W.says.def_ 49 (d := g_possible); F.kp
end
section
variable {P : Program} {w : World} {K : PySem.W.Frag} {mg : Str → Option Value} {base : Heap} (n : Nat) (W : Wd K mg)
theorem sc__law_begin : FnScope ["_law_script", "_law_great", "_law_cell"] ["_law_script"] (defScope (topOf prog 52)) := ⟨rfl, rfl, rfl, by decide +kernel, rfl, by decide +kernel, by decide +kernel⟩
theorem okF__law_begin (W : Wd K mg) {fd : FuncData} (F : FunG K g__law_begin fd) : FnOk P w K mg base (L2.CX P w) 1 ((dAd none "_law_begin") K) fd ["_law_script"] (spI K 1 (e__law_begin n)) := by
  refine fn_I (N := ["_law_script", "_law_great", "_law_cell"]) (m := m__law_begin n) (k := 0) F sc__law_begin fun cdv A outer s H E co => ?_
  exact (ss_cons (ss_setLc (i := 1) (t := (.one 2)) co.calm co.nd (by kernel_rfl) (by kernel_rfl) (by kernel_rfl) (si_of (gvl 0).pe) (blkOk_by (own := [("_law_cell", 2)]) (by kernel_rfl)) (by decide) (fun _ _ _ _ _ => gt1 (co.blk _ _ _ _ _).nd 2) (fun _ _ _ _ _ => sts_one (se_cmp (op_ii op_ge) (gB call_absI (W.free_abs) (by kernel_rfl) (sa_cons (gvl 2).pe sa_nil)).pe (se_bin op_powI se_int.pe se_int.pe).pe)) (fun _ _ _ _ _ => (se_bin op_subI (gB call_absI (W.free_abs) (by kernel_rfl) (sa_cons (gvl 2).pe sa_nil)).pe (se_bin op_powI se_int.pe se_int.pe).pe).pe))
    (ss_one (ss_ret (se_disp (sp_cons se_str.pe (gvl 1).pe (sp_cons se_str.pe (SN.pf (sn_comp (t := (.one 2)) co.calm co.nd (si_of (gvl 0).pe) (blkOk_by (own := [("_law_cell", 2)]) (by kernel_rfl)) (by decide) (fun _ _ _ _ _ => gt1 (co.blk _ _ _ _ _).nd 2) (fun _ _ _ _ _ => sts_nil) (fun _ _ _ _ _ => (se_bin op_modI (gTy call_intI (W.free_int) (by kernel_rfl) (sa_cons (gB call_absI (W.free_abs) (by kernel_rfl) (sa_cons (gvl 2).pe sa_nil)).pe sa_nil)).pe se_int.pe).pe))) (sp_cons se_str.pe se_int.pe (sp_cons se_str.pe se_int.pe sp_nil))))).pe)))
theorem ok__law_begin (W : Wd K mg) : ∃ fd, FnOk P w K mg base (L2.CX P w) 1 ((dAd none "_law_begin") K) fd ["_law_script"] (spI K 1 (e__law_begin n)) ∧ Binds K fd ["_law_script"] [] := by
  obtain ⟨fd, F⟩ := W.says.def_ 0 (d := g__law_begin)
  exact ⟨fd, okF__law_begin n W F, FunD.bindsN F fun _ _ _ _ _ _ us hl => match us, hl with | [_], _ => rfl⟩
theorem okI__law_begin (W : Wd K mg) : FnI P w K mg base 1 ((dAd none "_law_begin") K) 1 (e__law_begin n) := let ⟨_, F, B⟩ := ok__law_begin n W; FnI.of F B
theorem sc__law_blend : FnScope ["_law_draw", "_law_turn", "_law_found", "_law_prime", "_law_blend_here", "_law_cell"] ["_law_draw"] (defScope (topOf prog 53)) := ⟨rfl, rfl, rfl, by decide +kernel, rfl, by decide +kernel, by decide +kernel⟩
theorem okF__law_blend (W : Wd K mg) {fd : FuncData} (F : FunG K g__law_blend fd) : FnOk P w K mg base (L2.CX P w) 1 ((dAd none "_law_blend") K) fd ["_law_draw"] (spI K 1 (e__law_blend n)) := by
  refine fn_I (N := ["_law_draw", "_law_turn", "_law_found", "_law_prime", "_law_blend_here", "_law_cell"]) (m := m__law_blend n) (k := 0) F sc__law_blend fun cdv A outer s H E co => ?_
  exact (ss_cons (gpar2 (i := 1) (j := 2) co (by decide) (sa_cons (se_bin op_addI (se_ix co.u1 (gvl 0).pe se_str.pe).pe se_int.pe).pe (sa_cons se_int.pe sa_nil)))
    (ss_cons (ss_asg (gvl 1).pe (sg_sub co.u1 (gvl 0).pe se_str.pe) rfl (by kernel_rfl))
    (ss_cons (ss_for co.own co.calm (si_new (sn_lst (sa_cons se_int.pe (sa_cons se_int.pe (sa_cons se_int.pe (sa_cons se_int.pe sa_nil)))))) (ggl co 3)
    (ss_cons (gsl co 4 (se_bin op_modI (gTy call_intI (W.free_int) (by kernel_rfl) (sa_cons (se_bin op_addI (se_bin op_mulI (gvl 1).pe se_int.pe).pe (se_bin op_divI (gvl 3).pe se_int.pe).pe).pe sa_nil)).pe (gvl 3).pe).pe)
    (ss_cons (ss_for co.own co.calm (si_of (se_ix co.u1 (gvl 0).pe se_str.pe).pe) (ggl co 5)
    (ss_one (gsl co 4 (se_bin op_modI (gTy call_intI (W.free_int) (by kernel_rfl) (sa_cons (se_bin op_addI (se_bin op_addI (se_bin op_mulI (gvl 4).pe se_int.pe).pe (gvl 5).pe).pe (gvl 1).pe).pe sa_nil)).pe (gvl 3).pe).pe)))
    (ss_one (gsl co 2 (se_bin op_addI (se_bin op_mulI (gvl 2).pe se_int.pe).pe (se_bin op_modI (gTy call_intI (W.free_int) (by kernel_rfl) (sa_cons (se_bin op_powI (gvl 4).pe se_int.pe).pe sa_nil)).pe (gvl 3).pe).pe).pe)))))
    (ss_one (ss_ret (gvl 2).pe)))))
theorem ok__law_blend (W : Wd K mg) : ∃ fd, FnOk P w K mg base (L2.CX P w) 1 ((dAd none "_law_blend") K) fd ["_law_draw"] (spI K 1 (e__law_blend n)) ∧ Binds K fd ["_law_draw"] [] := by
  obtain ⟨fd, F⟩ := W.says.def_ 1 (d := g__law_blend)
  exact ⟨fd, okF__law_blend n W F, FunD.bindsN F fun _ _ _ _ _ _ us hl => match us, hl with | [_], _ => rfl⟩
theorem okI__law_blend (W : Wd K mg) : FnI P w K mg base 1 ((dAd none "_law_blend") K) 1 (e__law_blend n) := let ⟨_, F, B⟩ := ok__law_blend n W; FnI.of F B
theorem sc__law_take : FnScope ["_law_draw", "_law_size", "_law_found"] ["_law_draw", "_law_size"] (defScope (topOf prog 54)) := ⟨rfl, rfl, rfl, by decide +kernel, rfl, by decide +kernel, by decide +kernel⟩
theorem okF__law_take (W : Wd K mg) {fd : FuncData} (F : FunG K g__law_take fd) : FnOk P w K mg base (L2.CX P w) 2 ((dAd none "_law_take") K) fd ["_law_draw", "_law_size"] (spI K 2 (e__law_take n)) := by
  refine fn_I (N := ["_law_draw", "_law_size", "_law_found"]) (m := m__law_take n) (k := 1) F sc__law_take fun cdv A outer s H E co => ?_
  exact (ss_cons (ss_if (se_cmp (op_eqI co.u64) (se_ix co.u1 (gvl 0).pe se_str.pe).pe se_int.pe)
    (ss_one (ss_asg (gif (se_cmp (op_neI co.u64) (se_ix co.u1 (gvl 0).pe se_str.pe).pe (SN.pf (sn_lst sa_nil))) (se_mL PySem.F.slot_list_pop PySem.F.type_list_pop mt_popI (se_ix co.u1 (gvl 0).pe se_str.pe).pe (sa_cons se_int.pe sa_nil)).pe (gcall (okI__law_blend n W) co W.glo__law_blend (W.kp__law_blend) (sa_cons (gvl 0).pe sa_nil)).pe) (sg_sub co.u1 (gvl 0).pe se_str.pe) rfl (by kernel_rfl)))
    ss_nil)
    (ss_cons (gsl co 2 (se_bin op_modI (gTy call_intI (W.free_int) (by kernel_rfl) (sa_cons (se_ix co.u1 (gvl 0).pe se_str.pe).pe sa_nil)).pe (gvl 1).pe).pe)
    (ss_cons (ss_asg (se_bin op_divI (se_ix co.u1 (gvl 0).pe se_str.pe).pe (gvl 1).pe).pe (sg_sub co.u1 (gvl 0).pe se_str.pe) rfl (by kernel_rfl))
    (ss_one (ss_ret (gvl 2).pe)))))
theorem ok__law_take (W : Wd K mg) : ∃ fd, FnOk P w K mg base (L2.CX P w) 2 ((dAd none "_law_take") K) fd ["_law_draw", "_law_size"] (spI K 2 (e__law_take n)) ∧ Binds K fd ["_law_draw", "_law_size"] [] := by
  obtain ⟨fd, F⟩ := W.says.def_ 2 (d := g__law_take)
  exact ⟨fd, okF__law_take n W F, FunD.bindsN F fun _ _ _ _ _ _ us hl => match us, hl with | [_, _], _ => rfl⟩
theorem okI__law_take (W : Wd K mg) : FnI P w K mg base 2 ((dAd none "_law_take") K) 2 (e__law_take n) := let ⟨_, F, B⟩ := ok__law_take n W; FnI.of F B
theorem sc__law_pick : FnScope ["_law_draw", "_law_some"] ["_law_draw", "_law_some"] (defScope (topOf prog 55)) := ⟨rfl, rfl, rfl, by decide +kernel, rfl, by decide +kernel, by decide +kernel⟩
theorem okF__law_pick (W : Wd K mg) {fd : FuncData} (F : FunG K g__law_pick fd) : FnOk P w K mg base (L2.CX P w) 3 ((dAd none "_law_pick") K) fd ["_law_draw", "_law_some"] (spI K 2 (e__law_pick n)) := by
  refine fn_I (N := ["_law_draw", "_law_some"]) (m := m__law_pick n) (k := 2) F sc__law_pick fun cdv A outer s H E co => ?_
  exact (ss_one (ss_ret (se_ix co.u1 (gvl 1).pe (gcall (okI__law_take n W) co W.glo__law_take (W.kp__law_take) (sa_cons (gvl 0).pe (sa_cons (gB call_lenI (W.free_len) (by kernel_rfl) (sa_cons (gvl 1).pe sa_nil)).pe sa_nil))).pe).pe))
theorem ok__law_pick (W : Wd K mg) : ∃ fd, FnOk P w K mg base (L2.CX P w) 3 ((dAd none "_law_pick") K) fd ["_law_draw", "_law_some"] (spI K 2 (e__law_pick n)) ∧ Binds K fd ["_law_draw", "_law_some"] [] := by
  obtain ⟨fd, F⟩ := W.says.def_ 3 (d := g__law_pick)
  exact ⟨fd, okF__law_pick n W F, FunD.bindsN F fun _ _ _ _ _ _ us hl => match us, hl with | [_, _], _ => rfl⟩
theorem okI__law_pick (W : Wd K mg) : FnI P w K mg base 3 ((dAd none "_law_pick") K) 2 (e__law_pick n) := let ⟨_, F, B⟩ := ok__law_pick n W; FnI.of F B
theorem sc__law_word : FnScope ["_law_draw", "_law_some", "_law_letters", "_law_k"] ["_law_draw"] (defScope (topOf prog 57)) := ⟨rfl, rfl, rfl, by decide +kernel, rfl, by decide +kernel, by decide +kernel⟩
theorem okF__law_word (W : Wd K mg) {fd : FuncData} (F : FunG K g__law_word fd) : FnOk P w K mg base (L2.CX P w) 4 ((dAd none "_law_word") K) fd ["_law_draw"] (spI K 1 (e__law_word n)) := by
  refine fn_I (N := ["_law_draw", "_law_some", "_law_letters", "_law_k"]) (m := m__law_word n) (k := 3) F sc__law_word fun cdv A outer s H E co => ?_
  exact (ss_cons (gsl co 1 (SN.pf (sn_lst (sa_cons se_str.pe (sa_cons se_str.pe (sa_cons se_str.pe (sa_cons se_str.pe (sa_cons se_str.pe (sa_cons se_str.pe (sa_cons se_str.pe (sa_cons se_str.pe (sa_cons se_str.pe (sa_cons se_str.pe (sa_cons se_str.pe (sa_cons se_str.pe (sa_cons se_str.pe sa_nil))))))))))))))))
    (ss_cons (ss_if (se_cmp (op_eqI co.u64) (gcall (okI__law_take n W) co W.glo__law_take (W.kp__law_take) (sa_cons (gvc 0).pe (sa_cons se_int.pe sa_nil))).pe se_int.pe)
    (ss_one (ss_ret (gcall (okI__law_pick n W) co W.glo__law_pick (W.kp__law_pick) (sa_cons (gvc 0).pe (sa_cons (gvl 1).pe sa_nil))).pe))
    ss_nil)
    (ss_cons (gsc co 2 se_str.pe)
    (ss_one (ss_ret (se_join se_str.pe (SN.pf (sn_comp (t := (.one 3)) co.calm co.nd (grange1 (W.free_range) (sa_cons (se_bin op_addI se_int.pe (gcall (okI__law_take n W) co W.glo__law_take (W.kp__law_take) (sa_cons (gvc 0).pe (sa_cons (gcall (okI__law_pick n W) co W.glo__law_pick (W.kp__law_pick) (sa_cons (gvc 0).pe (sa_cons (SN.pf (sn_lst (sa_cons se_int.pe (sa_cons se_int.pe (sa_cons se_int.pe sa_nil))))) sa_nil))).pe sa_nil))).pe).pe sa_nil)) (blkOk_by (own := [("_law_k", 3)]) (by kernel_rfl)) (by decide) (fun _ _ _ _ _ => gt1 (co.blk _ _ _ _ _).nd 3) (fun _ _ _ _ _ => sts_nil) (fun _ _ _ _ _ => (gcall (okI__law_pick n W) (co.blk _ _ _ _ _) W.glo__law_pick (W.kp__law_pick) (sa_cons (gvc 0).pe (sa_cons (gvc 2).pe sa_nil))).pe)))).pe)))))
theorem ok__law_word (W : Wd K mg) : ∃ fd, FnOk P w K mg base (L2.CX P w) 4 ((dAd none "_law_word") K) fd ["_law_draw"] (spI K 1 (e__law_word n)) ∧ Binds K fd ["_law_draw"] [] := by
  obtain ⟨fd, F⟩ := W.says.def_ 4 (d := g__law_word)
  exact ⟨fd, okF__law_word n W F, FunD.bindsN F fun _ _ _ _ _ _ us hl => match us, hl with | [_], _ => rfl⟩
theorem okI__law_word (W : Wd K mg) : FnI P w K mg base 4 ((dAd none "_law_word") K) 1 (e__law_word n) := let ⟨_, F, B⟩ := ok__law_word n W; FnI.of F B
theorem sc__law_words : FnScope ["_law_draw", "_law_lots", "_law_found", "_law_k", "_law_told", "_law_near", "_law_letter", "_law_uno"] ["_law_draw", "_law_lots"] (defScope (topOf prog 58)) := ⟨rfl, rfl, rfl, by decide +kernel, rfl, by decide +kernel, by decide +kernel⟩
theorem okF__law_words (W : Wd K mg) {fd : FuncData} (F : FunG K g__law_words fd) : FnOk P w K mg base (L2.CX P w) 5 ((dAd none "_law_words") K) fd ["_law_draw", "_law_lots"] (spI K 2 (e__law_words n)) := by
  refine fn_I (N := ["_law_draw", "_law_lots", "_law_found", "_law_k", "_law_told", "_law_near", "_law_letter", "_law_uno"]) (m := m__law_words n) (k := 4) F sc__law_words fun cdv A outer s H E co => ?_
  exact (ss_cons (gsc co 2 (SN.pe (sn_lst sa_nil)))
    (ss_cons (ss_for co.own co.calm (grange1 (W.free_range) (sa_cons (gvl 1).pe sa_nil)) (ggl co 3)
    (ss_cons (gsc co 4 (gcall (okI__law_word n W) co W.glo__law_word (W.kp__law_word) (sa_cons (gvl 0).pe sa_nil)).pe)
    (ss_cons (gsl co 5 (se_bin op_addI (SN.pf (sn_lst (sa_cons (gvc 4).pe sa_nil))) (SN.pf (sn_comp (t := (.one 6)) co.calm co.nd (si_of se_str.pe) (blkOk_by (own := [("_law_letter", 6)]) (by kernel_rfl)) (by decide) (fun _ _ _ _ _ => gt1 (co.blk _ _ _ _ _).nd 6) (fun _ _ _ _ _ => sts_nil) (fun _ _ _ _ _ => (se_bin op_addI (se_sl (gvc 4).pe so_none (so_some se_int.pe)).pe (gvl 6).pe).pe)))).pe)
    (ss_one (ss_expr (se_mL PySem.F.slot_list_append PySem.F.type_list_append mt_appendI (gvc 2).pe (sa_cons (se_ix co.u1 (SN.pf (sn_comp (t := (.one 7)) co.calm co.nd (si_of (gvl 5).pe) (blkOk_by (own := [("_law_uno", 7)]) (by kernel_rfl)) (by decide) (fun _ _ _ _ _ => gt1 (co.blk _ _ _ _ _).nd 7) (fun _ _ _ _ _ => sts_one (se_cmp (op_notInI (co.blk _ _ _ _ _).u65) (gvl 7).pe (gvc 2).pe)) (fun _ _ _ _ _ => (gvl 7).pe))) se_int.pe).pe sa_nil)).pe)))))
    (ss_one (ss_ret (gvc 2).pe))))
theorem ok__law_words (W : Wd K mg) : ∃ fd, FnOk P w K mg base (L2.CX P w) 5 ((dAd none "_law_words") K) fd ["_law_draw", "_law_lots"] (spI K 2 (e__law_words n)) ∧ Binds K fd ["_law_draw", "_law_lots"] [] := by
  obtain ⟨fd, F⟩ := W.says.def_ 5 (d := g__law_words)
  exact ⟨fd, okF__law_words n W F, FunD.bindsN F fun _ _ _ _ _ _ us hl => match us, hl with | [_, _], _ => rfl⟩
theorem okI__law_words (W : Wd K mg) : FnI P w K mg base 5 ((dAd none "_law_words") K) 2 (e__law_words n) := let ⟨_, F, B⟩ := ok__law_words n W; FnI.of F B
theorem sc__law_order : FnScope ["_law_draw", "_law_some", "_law_left", "_law_found"] ["_law_draw", "_law_some"] (defScope (topOf prog 56)) := ⟨rfl, rfl, rfl, by decide +kernel, rfl, by decide +kernel, by decide +kernel⟩
theorem okF__law_order (W : Wd K mg) {fd : FuncData} (F : FunG K g__law_order fd) : FnOk P w K mg base (L2.CX P w) 3 ((dAd none "_law_order") K) fd ["_law_draw", "_law_some"] (spI K 2 (e__law_order n)) := by
  refine fn_I (N := ["_law_draw", "_law_some", "_law_left", "_law_found"]) (m := m__law_order n) (k := 2) F sc__law_order fun cdv A outer s H E co => ?_
  exact (ss_cons (gpar2 (i := 2) (j := 3) co (by decide) (sa_cons (SN.pe (gnT call_listI (W.free_list) (by kernel_rfl) (sl_of (gvl 1).pe))) (sa_cons (SN.pe (sn_lst sa_nil)) sa_nil)))
    (ss_cons (ss_while co.own (se_cmp (op_neI co.u64) (gvl 2).pe (SN.pf (sn_lst sa_nil)))
    (ss_one (ss_expr (se_mL PySem.F.slot_list_append PySem.F.type_list_append mt_appendI (gvl 3).pe (sa_cons (se_mL PySem.F.slot_list_pop PySem.F.type_list_pop mt_popI (gvl 2).pe (sa_cons (gcall (okI__law_take n W) co W.glo__law_take (W.kp__law_take) (sa_cons (gvl 0).pe (sa_cons (gB call_lenI (W.free_len) (by kernel_rfl) (sa_cons (gvl 2).pe sa_nil)).pe sa_nil))).pe sa_nil)).pe sa_nil)).pe)))
    (ss_one (ss_ret (pe_frz (gvl 3).pe)))))
theorem ok__law_order (W : Wd K mg) : ∃ fd, FnOk P w K mg base (L2.CX P w) 3 ((dAd none "_law_order") K) fd ["_law_draw", "_law_some"] (spI K 2 (e__law_order n)) ∧ Binds K fd ["_law_draw", "_law_some"] [] := by
  obtain ⟨fd, F⟩ := W.says.def_ 6 (d := g__law_order)
  exact ⟨fd, okF__law_order n W F, FunD.bindsN F fun _ _ _ _ _ _ us hl => match us, hl with | [_, _], _ => rfl⟩
theorem okI__law_order (W : Wd K mg) : FnI P w K mg base 3 ((dAd none "_law_order") K) 2 (e__law_order n) := let ⟨_, F, B⟩ := ok__law_order n W; FnI.of F B
theorem sc__law_condition : FnScope ["_law_draw", "_law_signs", "_law_some", "_law_flag"] ["_law_draw", "_law_signs"] (defScope (topOf prog 59)) := ⟨rfl, rfl, rfl, by decide +kernel, rfl, by decide +kernel, by decide +kernel⟩
theorem okF__law_condition (W : Wd K mg) {fd : FuncData} (F : FunG K g__law_condition fd) : FnOk P w K mg base (L2.CX P w) 4 ((dAd none "_law_condition") K) fd ["_law_draw", "_law_signs"] (spI K 2 (e__law_condition n)) := by
  refine fn_I (N := ["_law_draw", "_law_signs", "_law_some", "_law_flag"]) (m := m__law_condition n) (k := 3) F sc__law_condition fun cdv A outer s H E co => ?_
  exact (ss_cons (gsl co 2 (se_sl (gcall (okI__law_order n W) co W.glo__law_order (W.kp__law_order) (sa_cons (gvc 0).pe (sa_cons (gvl 1).pe sa_nil))).pe so_none (so_some (gcall (okI__law_pick n W) co W.glo__law_pick (W.kp__law_pick) (sa_cons (gvc 0).pe (sa_cons (SN.pf (sn_lst (sa_cons se_int.pe (sa_cons se_int.pe (sa_cons se_int.pe (sa_cons se_int.pe (sa_cons se_int.pe (sa_cons se_int.pe (sa_cons se_int.pe (sa_cons se_int.pe (sa_cons se_int.pe (sa_cons se_int.pe sa_nil)))))))))))) sa_nil))).pe)).pe)
    (ss_one (ss_ret (gdictPF co (W.free_dict) (sn_comp (t := (.one 3)) co.calm co.nd (si_of (gvl 2).pe) (blkOk_by (own := [("_law_flag", 3)]) (by kernel_rfl)) (by decide) (fun _ _ _ _ _ => gt1 (co.blk _ _ _ _ _).nd 3) (fun _ _ _ _ _ => sts_nil) (fun _ _ _ _ _ => (se_tup (sa_cons (gvl 3).pe (sa_cons (se_cmp (op_ii op_gt) (gcall (okI__law_take n W) (co.blk _ _ _ _ _) W.glo__law_take (W.kp__law_take) (sa_cons (gvc 0).pe (sa_cons se_int.pe sa_nil))).pe se_int.pe).pe sa_nil))).pe))).pe)))
theorem ok__law_condition (W : Wd K mg) : ∃ fd, FnOk P w K mg base (L2.CX P w) 4 ((dAd none "_law_condition") K) fd ["_law_draw", "_law_signs"] (spI K 2 (e__law_condition n)) ∧ Binds K fd ["_law_draw", "_law_signs"] [] := by
  obtain ⟨fd, F⟩ := W.says.def_ 7 (d := g__law_condition)
  exact ⟨fd, okF__law_condition n W F, FunD.bindsN F fun _ _ _ _ _ _ us hl => match us, hl with | [_, _], _ => rfl⟩
theorem okI__law_condition (W : Wd K mg) : FnI P w K mg base 4 ((dAd none "_law_condition") K) 2 (e__law_condition n) := let ⟨_, F, B⟩ := ok__law_condition n W; FnI.of F B
theorem sc__law_row : FnScope ["_law_draw", "_law_plan_here", "_law_left", "_law_signs", "_law_way", "_law_sort"] ["_law_draw", "_law_plan_here", "_law_left"] (defScope (topOf prog 60)) := ⟨rfl, rfl, rfl, by decide +kernel, rfl, by decide +kernel, by decide +kernel⟩
theorem okF__law_row (W : Wd K mg) {fd : FuncData} (F : FunG K g__law_row fd) : FnOk P w K mg base (L2.CX P w) 5 ((dAd none "_law_row") K) fd ["_law_draw", "_law_plan_here", "_law_left"] (spI K 3 (e__law_row n)) := by
  refine fn_I (N := ["_law_draw", "_law_plan_here", "_law_left", "_law_signs", "_law_way", "_law_sort"]) (m := m__law_row n) (k := 4) F sc__law_row fun cdv A outer s H E co => ?_
  exact (ss_cons (gpar2 (i := 3) (j := 4) co (by decide) (sa_cons (se_ix co.u1 (gvl 1).pe se_str.pe).pe (sa_cons (gcall (okI__law_take n W) co W.glo__law_take (W.kp__law_take) (sa_cons (gvl 0).pe (sa_cons se_int.pe sa_nil))).pe sa_nil)))
    (ss_cons (ss_if (sw_and (se_cmp (op_ltI co.u64) (gvl 4).pe se_int.pe) (sw_and1 (se_cmp (op_neI co.u64) (gvl 3).pe (SN.pf (sn_lst sa_nil))))).se
    (ss_one (ss_ret (se_tup (sa_cons se_str.pe (sa_cons (gcall (okI__law_pick n W) co W.glo__law_pick (W.kp__law_pick) (sa_cons (gvl 0).pe (sa_cons (gvl 3).pe sa_nil))).pe (sa_cons (se_cmp (op_eqI co.u64) (gcall (okI__law_take n W) co W.glo__law_take (W.kp__law_take) (sa_cons (gvl 0).pe (sa_cons se_int.pe sa_nil))).pe se_int.pe).pe sa_nil)))).pe))
    ss_nil)
    (ss_cons (ss_if (sw_and (se_cmp (op_eqI co.u64) (gvl 4).pe se_int.pe) (sw_and1 (se_cmp (op_ii op_gt) (gvl 2).pe se_int.pe))).se
    (ss_one (ss_ret (se_tup (sa_cons se_str.pe (sa_cons (gcall (okI__law_condition n W) co W.glo__law_condition (W.kp__law_condition) (sa_cons (gvl 0).pe (sa_cons (gvl 3).pe sa_nil))).pe (sa_cons (se_bin op_addI se_int.pe (gcall (okI__law_take n W) co W.glo__law_take (W.kp__law_take) (sa_cons (gvl 0).pe (sa_cons (gvl 2).pe sa_nil))).pe).pe sa_nil)))).pe))
    ss_nil)
    (ss_cons (ss_if (sw_and (se_cmp (op_ii op_gt) (gvl 4).pe se_int.pe) (sw_and1 (se_cmp (op_ii op_gt) (se_ix co.u1 (gvl 1).pe se_str.pe).pe se_int.pe))).se
    (ss_cons (ss_asg (se_bin op_subI (se_ix co.u1 (gvl 1).pe se_str.pe).pe se_int.pe).pe (sg_sub co.u1 (gvl 1).pe se_str.pe) rfl (by kernel_rfl))
    (ss_cons (gsl co 5 (gcall (okI__law_pick n W) co W.glo__law_pick (W.kp__law_pick) (sa_cons (gvl 0).pe (sa_cons (SN.pf (sn_lst (sa_cons se_str.pe (sa_cons se_str.pe (sa_cons se_str.pe sa_nil))))) sa_nil))).pe)
    (ss_one (ss_ret (se_tup (sa_cons (gvl 5).pe (sa_cons (gcall (okI__law_condition n W) co W.glo__law_condition (W.kp__law_condition) (sa_cons (gvl 0).pe (sa_cons (gvl 3).pe sa_nil))).pe sa_nil))).pe))))
    ss_nil)
    (ss_one (ss_ret (se_tup (sa_cons se_str.pe (sa_cons (gcall (okI__law_pick n W) co W.glo__law_pick (W.kp__law_pick) (sa_cons (gvl 0).pe (sa_cons (se_ix co.u1 (gvl 1).pe se_str.pe).pe sa_nil))).pe sa_nil))).pe))))))
theorem ok__law_row (W : Wd K mg) : ∃ fd, FnOk P w K mg base (L2.CX P w) 5 ((dAd none "_law_row") K) fd ["_law_draw", "_law_plan_here", "_law_left"] (spI K 3 (e__law_row n)) ∧ Binds K fd ["_law_draw", "_law_plan_here", "_law_left"] [] := by
  obtain ⟨fd, F⟩ := W.says.def_ 8 (d := g__law_row)
  exact ⟨fd, okF__law_row n W F, FunD.bindsN F fun _ _ _ _ _ _ us hl => match us, hl with | [_, _, _], _ => rfl⟩
theorem okI__law_row (W : Wd K mg) : FnI P w K mg base 5 ((dAd none "_law_row") K) 3 (e__law_row n) := let ⟨_, F, B⟩ := ok__law_row n W; FnI.of F B
theorem sc__law_plan : FnScope ["_law_draw", "_law_most_flags", "_law_most_handlers", "_law_most_rows", "_law_room", "_law_labels", "_law_plan_here", "_law_told", "_law_label", "_law_guard", "_law_lots", "_law_spot"] ["_law_draw", "_law_most_flags", "_law_most_handlers", "_law_most_rows", "_law_room"] (defScope (topOf prog 61)) := ⟨rfl, rfl, rfl, by decide +kernel, rfl, by decide +kernel, by decide +kernel⟩
theorem okF__law_plan (W : Wd K mg) {fd : FuncData} (F : FunG K g__law_plan fd) : FnOk P w K mg base (L2.CX P w) 6 ((dAd none "_law_plan") K) fd ["_law_draw", "_law_most_flags", "_law_most_handlers", "_law_most_rows", "_law_room"] (spI K 5 (e__law_plan n)) := by
  refine fn_I (N := ["_law_draw", "_law_most_flags", "_law_most_handlers", "_law_most_rows", "_law_room", "_law_labels", "_law_plan_here", "_law_told", "_law_label", "_law_guard", "_law_lots", "_law_spot"]) (m := m__law_plan n) (k := 5) F sc__law_plan fun cdv A outer s H E co => ?_
  exact (ss_cons (gsl co 5 (gcall (okI__law_words n W) co W.glo__law_words (W.kp__law_words) (sa_cons (gvc 0).pe (sa_cons (se_bin op_addI (gvl 1).pe (gvl 2).pe).pe sa_nil))).pe)
    (ss_cons (gsc co 6 (se_disp (sp_cons se_str.pe (se_sl (gvl 5).pe so_none (so_some (gcall (okI__law_take n W) co W.glo__law_take (W.kp__law_take) (sa_cons (gvc 0).pe (sa_cons (se_bin op_addI (gvl 1).pe se_int.pe).pe sa_nil))).pe)).pe (sp_cons se_str.pe se_d0.pe (sp_cons se_str.pe (SN.pf (sn_lst (sa_cons se_str.pe (sa_cons se_str.pe (sa_cons se_str.pe sa_nil))))) sp_nil)))).pe)
    (ss_cons (ss_asg (gvl 4).pe (sg_sub co.u1 (gvc 6).pe se_str.pe) rfl (by kernel_rfl))
    (ss_cons (ss_if (sw_and (se_cmp (op_neI co.u64) (se_ix co.u1 (gvc 6).pe se_str.pe).pe (SN.pf (sn_lst sa_nil))) (sw_and1 (se_cmp (op_eqI co.u64) (gcall (okI__law_take n W) co W.glo__law_take (W.kp__law_take) (sa_cons (gvc 0).pe (sa_cons se_int.pe sa_nil))).pe se_int.pe))).se
    (ss_one (ss_asg (se_ix co.u1 (gvl 5).pe se_int.pe).pe (sg_sub co.u1 (gvl 5).pe (gvl 1).pe) rfl (by kernel_rfl)))
    ss_nil)
    (ss_cons (gsl co 7 (se_ix co.u1 (gvc 6).pe se_str.pe).pe)
    (ss_cons (ss_for co.own co.calm (si_of (se_sl (gvl 5).pe (so_some (gvl 1).pe) (so_some (se_bin op_addI (se_bin op_addI (gvl 1).pe se_int.pe).pe (gcall (okI__law_take n W) co W.glo__law_take (W.kp__law_take) (sa_cons (gvc 0).pe (sa_cons (gvl 2).pe sa_nil))).pe).pe)).pe) (ggl co 8)
    (ss_cons (gsl co 9 (gif (se_cmp (op_eqI co.u64) (gcall (okI__law_take n W) co W.glo__law_take (W.kp__law_take) (sa_cons (gvc 0).pe (sa_cons se_int.pe sa_nil))).pe se_int.pe) (gcall (okI__law_condition n W) co W.glo__law_condition (W.kp__law_condition) (sa_cons (gvc 0).pe (sa_cons (se_ix co.u1 (gvc 6).pe se_str.pe).pe sa_nil))).pe se_d0F.pe))
    (ss_cons (gsc co 10 (se_bin op_addI se_int.pe (gcall (okI__law_take n W) co W.glo__law_take (W.kp__law_take) (sa_cons (gvc 0).pe (sa_cons (gvl 3).pe sa_nil))).pe).pe)
    (ss_one (ss_asg (se_tup (sa_cons (gvl 9).pe (sa_cons (SN.pf (sn_comp (t := (.one 11)) co.calm co.nd (grange1 (W.free_range) (sa_cons (gvc 10).pe sa_nil)) (blkOk_by (own := [("_law_spot", 11)]) (by kernel_rfl)) (by decide) (fun _ _ _ _ _ => gt1 (co.blk _ _ _ _ _).nd 11) (fun _ _ _ _ _ => sts_nil) (fun _ _ _ _ _ => (gcall (okI__law_row n W) (co.blk _ _ _ _ _) W.glo__law_row (W.kp__law_row) (sa_cons (gvc 0).pe (sa_cons (gvc 6).pe (sa_cons (se_bin op_subI (se_bin op_subI (gvc 10).pe (gvl 11).pe).pe se_int.pe).pe sa_nil)))).pe))) sa_nil))).pe (sg_sub co.u1 (gvl 7).pe (gvl 8).pe) rfl (by kernel_rfl))))))
    (ss_one (ss_ret (pe_frz (gvc 6).pe)))))))))
theorem ok__law_plan (W : Wd K mg) : ∃ fd, FnOk P w K mg base (L2.CX P w) 6 ((dAd none "_law_plan") K) fd ["_law_draw", "_law_most_flags", "_law_most_handlers", "_law_most_rows", "_law_room"] (spI K 5 (e__law_plan n)) ∧ Binds K fd ["_law_draw", "_law_most_flags", "_law_most_handlers", "_law_most_rows", "_law_room"] [] := by
  obtain ⟨fd, F⟩ := W.says.def_ 9 (d := g__law_plan)
  exact ⟨fd, okF__law_plan n W F, FunD.bindsN F fun _ _ _ _ _ _ us hl => match us, hl with | [_, _, _, _, _], _ => rfl⟩
theorem okI__law_plan (W : Wd K mg) : FnI P w K mg base 6 ((dAd none "_law_plan") K) 5 (e__law_plan n) := let ⟨_, F, B⟩ := ok__law_plan n W; FnI.of F B
theorem sc_is_list : FnScope ["thing"] ["thing"] (defScope (topOf prog 24)) := ⟨rfl, rfl, rfl, by decide +kernel, rfl, by decide +kernel, by decide +kernel⟩
theorem okF_is_list (W : Wd K mg) {fd : FuncData} (F : FunG K g_is_list fd) : FnOk P w K mg base (L2.CX P w) 1 ((dAd none "is_list") K) fd ["thing"] (spI K 1 (e_is_list n)) := by
  refine fn_I (N := ["thing"]) (m := m_is_list n) (k := 0) F sc_is_list fun cdv A outer s H E co => ?_
  exact (ss_one (ss_ret (gisi2 .lst .tup W.ity (W.free_isinstance) (W.free_list) (W.free_tuple) (gvl 0).pe).pe))
theorem ok_is_list (W : Wd K mg) : ∃ fd, FnOk P w K mg base (L2.CX P w) 1 ((dAd none "is_list") K) fd ["thing"] (spI K 1 (e_is_list n)) ∧ Binds K fd ["thing"] [] := by
  obtain ⟨fd, F⟩ := W.says.def_ 10 (d := g_is_list)
  exact ⟨fd, okF_is_list n W F, FunD.bindsN F fun _ _ _ _ _ _ us hl => match us, hl with | [_], _ => rfl⟩
theorem okI_is_list (W : Wd K mg) : FnI P w K mg base 1 ((dAd none "is_list") K) 1 (e_is_list n) := let ⟨_, F, B⟩ := ok_is_list n W; FnI.of F B
theorem sc_is_name : FnScope ["thing", "sign"] ["thing"] (defScope (topOf prog 19)) := ⟨rfl, rfl, rfl, by decide +kernel, rfl, by decide +kernel, by decide +kernel⟩
theorem okF_is_name (W : Wd K mg) {fd : FuncData} (F : FunG K g_is_name fd) : FnOk P w K mg base (L2.CX P w) 1 ((dAd none "is_name") K) fd ["thing"] (spI K 1 (e_is_name n)) := by
  refine fn_I (N := ["thing", "sign"]) (m := m_is_name n) (k := 0) F sc_is_name fun cdv A outer s H E co => ?_
  exact (ss_one (ss_ret (sw_and (gisi .str W.ity (W.free_isinstance) (W.free_str) (gvl 0).pe) (sw_and (se_chain (op_ii op_le) (op_ii op_le) se_int.pe (gB call_lenI (W.free_len) (by kernel_rfl) (sa_cons (gvl 0).pe sa_nil)).pe se_int.pe) (sw_and1 (gBN (call_allI co.calm) (W.free_all) (by kernel_rfl) (sn_comp (t := (.one 1)) co.calm co.nd (si_of (gvl 0).pe) (blkOk_by (own := [("sign", 1)]) (by kernel_rfl)) (by decide) (fun _ _ _ _ _ => gt1 (co.blk _ _ _ _ _).nd 1) (fun _ _ _ _ _ => sts_nil) (fun _ _ _ _ _ => (se_cmp (op_inI (co.blk _ _ _ _ _).u65) (gvl 1).pe (gstr W.str_LETTERS).pe).pe)))))).se.pe))
theorem ok_is_name (W : Wd K mg) : ∃ fd, FnOk P w K mg base (L2.CX P w) 1 ((dAd none "is_name") K) fd ["thing"] (spI K 1 (e_is_name n)) ∧ Binds K fd ["thing"] [] := by
  obtain ⟨fd, F⟩ := W.says.def_ 11 (d := g_is_name)
  exact ⟨fd, okF_is_name n W F, FunD.bindsN F fun _ _ _ _ _ _ us hl => match us, hl with | [_], _ => rfl⟩
theorem okI_is_name (W : Wd K mg) : FnI P w K mg base 1 ((dAd none "is_name") K) 1 (e_is_name n) := let ⟨_, F, B⟩ := ok_is_name n W; FnI.of F B
theorem sc_need_flags : FnScope ["given", "at", "flag"] ["given"] (defScope (topOf prog 26)) := ⟨rfl, rfl, rfl, by decide +kernel, rfl, by decide +kernel, by decide +kernel⟩
theorem okF_need_flags (W : Wd K mg) {fd : FuncData} (F : FunG K g_need_flags fd) : FnOk P w K mg base (L2.CX P w) 2 ((dAd none "need_flags") K) fd ["given"] (spI K 1 (e_need_flags n)) := by
  refine fn_I (N := ["given", "at", "flag"]) (m := m_need_flags n) (k := 1) F sc_need_flags fun cdv A outer s H E co => ?_
  exact (ss_cons (ss_if (sw_or (se_not (gcall (okI_is_list n W) co W.glo_is_list (W.kp_is_list) (sa_cons (gvl 0).pe sa_nil))) (sw_or1 (se_cmp (op_ii op_gt) (gB call_lenI (W.free_len) (by kernel_rfl) (sa_cons (gvl 0).pe sa_nil)).pe (gint W.int_MOST_FLAGS).pe))).se
    (ss_one ss_no)
    ss_nil)
    (ss_one (ss_for co.own co.calm (genum (W.free_enumerate) (sa_cons (gvl 0).pe sa_nil)) (sg_tup co.calm (sgs_cons (ggl co 1) (sgs_cons (ggl co 2) sgs_nil)))
    (ss_one (ss_if (sw_or (se_not (gcall (okI_is_name n W) co W.glo_is_name (W.kp_is_name) (sa_cons (gvl 2).pe sa_nil))) (sw_or1 (se_cmp (op_inI co.u65) (gvl 2).pe (se_sl (gvl 0).pe so_none (so_some (gvl 1).pe)).pe))).se
    (ss_one ss_no)
    ss_nil)))))
theorem ok_need_flags (W : Wd K mg) : ∃ fd, FnOk P w K mg base (L2.CX P w) 2 ((dAd none "need_flags") K) fd ["given"] (spI K 1 (e_need_flags n)) ∧ Binds K fd ["given"] [] := by
  obtain ⟨fd, F⟩ := W.says.def_ 12 (d := g_need_flags)
  exact ⟨fd, okF_need_flags n W F, FunD.bindsN F fun _ _ _ _ _ _ us hl => match us, hl with | [_], _ => rfl⟩
theorem okI_need_flags (W : Wd K mg) : FnI P w K mg base 2 ((dAd none "need_flags") K) 1 (e_need_flags n) := let ⟨_, F, B⟩ := ok_need_flags n W; FnI.of F B
theorem sc_is_pair : FnScope ["thing"] ["thing"] (defScope (topOf prog 25)) := ⟨rfl, rfl, rfl, by decide +kernel, rfl, by decide +kernel, by decide +kernel⟩
theorem okF_is_pair (W : Wd K mg) {fd : FuncData} (F : FunG K g_is_pair fd) : FnOk P w K mg base (L2.CX P w) 1 ((dAd none "is_pair") K) fd ["thing"] (spI K 1 (e_is_pair n)) := by
  refine fn_I (N := ["thing"]) (m := m_is_pair n) (k := 0) F sc_is_pair fun cdv A outer s H E co => ?_
  exact (ss_one (ss_ret (sw_and (gisi .tup W.ity (W.free_isinstance) (W.free_tuple) (gvl 0).pe) (sw_and1 (se_cmp (op_eqI co.u64) (gB call_lenI (W.free_len) (by kernel_rfl) (sa_cons (gvl 0).pe sa_nil)).pe se_int.pe))).se.pe))
theorem ok_is_pair (W : Wd K mg) : ∃ fd, FnOk P w K mg base (L2.CX P w) 1 ((dAd none "is_pair") K) fd ["thing"] (spI K 1 (e_is_pair n)) ∧ Binds K fd ["thing"] [] := by
  obtain ⟨fd, F⟩ := W.says.def_ 13 (d := g_is_pair)
  exact ⟨fd, okF_is_pair n W F, FunD.bindsN F fun _ _ _ _ _ _ us hl => match us, hl with | [_], _ => rfl⟩
theorem okI_is_pair (W : Wd K mg) : FnI P w K mg base 1 ((dAd none "is_pair") K) 1 (e_is_pair n) := let ⟨_, F, B⟩ := ok_is_pair n W; FnI.of F B
theorem sc_is_flag : FnScope ["flags", "thing"] ["flags", "thing"] (defScope (topOf prog 21)) := ⟨rfl, rfl, rfl, by decide +kernel, rfl, by decide +kernel, by decide +kernel⟩
theorem okF_is_flag (W : Wd K mg) {fd : FuncData} (F : FunG K g_is_flag fd) : FnOk P w K mg base (L2.CX P w) 1 ((dAd none "is_flag") K) fd ["flags", "thing"] (spI K 2 (e_is_flag n)) := by
  refine fn_I (N := ["flags", "thing"]) (m := m_is_flag n) (k := 0) F sc_is_flag fun cdv A outer s H E co => ?_
  exact (ss_one (ss_ret (sw_and (gisi .str W.ity (W.free_isinstance) (W.free_str) (gvl 1).pe) (sw_and1 (se_cmp (op_inI co.u65) (gvl 1).pe (gvl 0).pe))).se.pe))
theorem ok_is_flag (W : Wd K mg) : ∃ fd, FnOk P w K mg base (L2.CX P w) 1 ((dAd none "is_flag") K) fd ["flags", "thing"] (spI K 2 (e_is_flag n)) ∧ Binds K fd ["flags", "thing"] [] := by
  obtain ⟨fd, F⟩ := W.says.def_ 14 (d := g_is_flag)
  exact ⟨fd, okF_is_flag n W F, FunD.bindsN F fun _ _ _ _ _ _ us hl => match us, hl with | [_, _], _ => rfl⟩
theorem okI_is_flag (W : Wd K mg) : FnI P w K mg base 1 ((dAd none "is_flag") K) 2 (e_is_flag n) := let ⟨_, F, B⟩ := ok_is_flag n W; FnI.of F B
theorem sc_is_condition : FnScope ["flags", "thing", "one"] ["flags", "thing"] (defScope (topOf prog 22)) := ⟨rfl, rfl, rfl, by decide +kernel, rfl, by decide +kernel, by decide +kernel⟩
theorem okF_is_condition (W : Wd K mg) {fd : FuncData} (F : FunG K g_is_condition fd) : FnOk P w K mg base (L2.CX P w) 2 ((dAd none "is_condition") K) fd ["flags", "thing"] (spI K 2 (e_is_condition n)) := by
  refine fn_I (N := ["flags", "thing", "one"]) (m := m_is_condition n) (k := 1) F sc_is_condition fun cdv A outer s H E co => ?_
  exact (ss_one (ss_ret (sw_and (gisi .dct W.ity (W.free_isinstance) (W.free_dict) (gvc 1).pe) (sw_and1 (gBN (call_allI co.calm) (W.free_all) (by kernel_rfl) (sn_compD (t := (.one 2)) co.calm co.nd (fun _ => si_keys (gvc 1).pe) (sf_keys (gvc 1).pe) (blkOk_by (own := [("one", 2)]) (by kernel_rfl)) (by decide) (fun _ _ _ _ _ => gt1 (co.blk _ _ _ _ _).nd 2) (fun _ _ _ _ _ => sts_nil) (fun _ _ _ _ _ => (sw_and (gcall (okI_is_flag n W) (co.blk _ _ _ _ _) W.glo_is_flag (W.kp_is_flag) (sa_cons (gvc 0).pe (sa_cons (gvl 2).pe sa_nil))) (sw_and1 (gisi .bool W.ity (W.free_isinstance) (W.free_bool) (se_ix (co.blk _ _ _ _ _).u1 (gvc 1).pe (gvl 2).pe).pe))).se.pe))))).se.pe))
theorem ok_is_condition (W : Wd K mg) : ∃ fd, FnOk P w K mg base (L2.CX P w) 2 ((dAd none "is_condition") K) fd ["flags", "thing"] (spI K 2 (e_is_condition n)) ∧ Binds K fd ["flags", "thing"] [] := by
  obtain ⟨fd, F⟩ := W.says.def_ 15 (d := g_is_condition)
  exact ⟨fd, okF_is_condition n W F, FunD.bindsN F fun _ _ _ _ _ _ us hl => match us, hl with | [_, _], _ => rfl⟩
theorem okI_is_condition (W : Wd K mg) : FnI P w K mg base 2 ((dAd none "is_condition") K) 2 (e_is_condition n) := let ⟨_, F, B⟩ := ok_is_condition n W; FnI.of F B
theorem sc_is_number : FnScope ["thing"] ["thing"] (defScope (topOf prog 20)) := ⟨rfl, rfl, rfl, by decide +kernel, rfl, by decide +kernel, by decide +kernel⟩
theorem okF_is_number (W : Wd K mg) {fd : FuncData} (F : FunG K g_is_number fd) : FnOk P w K mg base (L2.CX P w) 1 ((dAd none "is_number") K) fd ["thing"] (spI K 1 (e_is_number n)) := by
  refine fn_I (N := ["thing"]) (m := m_is_number n) (k := 0) F sc_is_number fun cdv A outer s H E co => ?_
  exact (ss_one (ss_ret (sw_and (gisi .int W.ity (W.free_isinstance) (W.free_int) (gvl 0).pe) (sw_and1 (se_not (gisi .bool W.ity (W.free_isinstance) (W.free_bool) (gvl 0).pe)))).se.pe))
theorem ok_is_number (W : Wd K mg) : ∃ fd, FnOk P w K mg base (L2.CX P w) 1 ((dAd none "is_number") K) fd ["thing"] (spI K 1 (e_is_number n)) ∧ Binds K fd ["thing"] [] := by
  obtain ⟨fd, F⟩ := W.says.def_ 16 (d := g_is_number)
  exact ⟨fd, okF_is_number n W F, FunD.bindsN F fun _ _ _ _ _ _ us hl => match us, hl with | [_], _ => rfl⟩
theorem okI_is_number (W : Wd K mg) : FnI P w K mg base 1 ((dAd none "is_number") K) 1 (e_is_number n) := let ⟨_, F, B⟩ := ok_is_number n W; FnI.of F B
theorem sc_is_row : FnScope ["flags", "thing", "behind", "word", "size"] ["flags", "thing", "behind"] (defScope (topOf prog 23)) := ⟨rfl, rfl, rfl, by decide +kernel, rfl, by decide +kernel, by decide +kernel⟩
theorem okF_is_row (W : Wd K mg) {fd : FuncData} (F : FunG K g_is_row fd) : FnOk P w K mg base (L2.CX P w) 3 ((dAd none "is_row") K) fd ["flags", "thing", "behind"] (spI K 3 (e_is_row n)) := by
  refine fn_I (N := ["flags", "thing", "behind", "word", "size"]) (m := m_is_row n) (k := 2) F sc_is_row fun cdv A outer s H E co => ?_
  exact (ss_cons (ss_if (sw_or (se_not (gisi .tup W.ity (W.free_isinstance) (W.free_tuple) (gvl 1).pe)) (sw_or (se_cmp (op_ltI co.u64) (gB call_lenI (W.free_len) (by kernel_rfl) (sa_cons (gvl 1).pe sa_nil)).pe se_int.pe) (sw_or1 (se_not (gisi .str W.ity (W.free_isinstance) (W.free_str) (se_ix co.u1 (gvl 1).pe se_int.pe).pe))))).se
    (ss_one (ss_ret se_bl.pe))
    ss_nil)
    (ss_cons (gpar2 (i := 3) (j := 4) co (by decide) (sa_cons (se_ix co.u1 (gvl 1).pe se_int.pe).pe (sa_cons (gB call_lenI (W.free_len) (by kernel_rfl) (sa_cons (gvl 1).pe sa_nil)).pe sa_nil)))
    (ss_cons (ss_if (se_cmp (op_eqI co.u64) (gvl 3).pe se_str.pe)
    (ss_one (ss_ret (sw_and (se_cmp (op_eqI co.u64) (gvl 4).pe se_int.pe) (sw_and (gcall (okI_is_flag n W) co W.glo_is_flag (W.kp_is_flag) (sa_cons (gvl 0).pe (sa_cons (se_ix co.u1 (gvl 1).pe se_int.pe).pe sa_nil))) (sw_and1 (gisi .bool W.ity (W.free_isinstance) (W.free_bool) (se_ix co.u1 (gvl 1).pe se_int.pe).pe)))).se.pe))
    ss_nil)
    (ss_cons (ss_if (se_cmp (op_eqI co.u64) (gvl 3).pe se_str.pe)
    (ss_one (ss_ret (sw_and (se_cmp (op_eqI co.u64) (gvl 4).pe se_int.pe) (sw_and1 (gcall (okI_is_name n W) co W.glo_is_name (W.kp_is_name) (sa_cons (se_ix co.u1 (gvl 1).pe se_int.pe).pe sa_nil)))).se.pe))
    ss_nil)
    (ss_cons (ss_if (se_cmp (op_eqI co.u64) (gvl 3).pe se_str.pe)
    (ss_one (ss_ret (sw_and (se_cmp (op_eqI co.u64) (gvl 4).pe se_int.pe) (sw_and (gcall (okI_is_condition n W) co W.glo_is_condition (W.kp_is_condition) (sa_cons (gvl 0).pe (sa_cons (se_ix co.u1 (gvl 1).pe se_int.pe).pe sa_nil))) (sw_and (gcall (okI_is_number n W) co W.glo_is_number (W.kp_is_number) (sa_cons (se_ix co.u1 (gvl 1).pe se_int.pe).pe sa_nil)) (sw_and1 (se_chain (op_ii op_le) (op_ii op_le) se_int.pe (se_ix co.u1 (gvl 1).pe se_int.pe).pe (gvl 2).pe))))).se.pe))
    ss_nil)
    (ss_one (ss_ret (sw_and (se_cmp (op_inI co.u65) (gvl 3).pe (se_tup (sa_cons se_str.pe (sa_cons se_str.pe sa_nil))).pe) (sw_and (se_cmp (op_eqI co.u64) (gvl 4).pe se_int.pe) (sw_and1 (gcall (okI_is_condition n W) co W.glo_is_condition (W.kp_is_condition) (sa_cons (gvl 0).pe (sa_cons (se_ix co.u1 (gvl 1).pe se_int.pe).pe sa_nil)))))).se.pe)))))))
theorem ok_is_row (W : Wd K mg) : ∃ fd, FnOk P w K mg base (L2.CX P w) 3 ((dAd none "is_row") K) fd ["flags", "thing", "behind"] (spI K 3 (e_is_row n)) ∧ Binds K fd ["flags", "thing", "behind"] [] := by
  obtain ⟨fd, F⟩ := W.says.def_ 17 (d := g_is_row)
  exact ⟨fd, okF_is_row n W F, FunD.bindsN F fun _ _ _ _ _ _ us hl => match us, hl with | [_, _, _], _ => rfl⟩
theorem okI_is_row (W : Wd K mg) : FnI P w K mg base 3 ((dAd none "is_row") K) 3 (e_is_row n) := let ⟨_, F, B⟩ := ok_is_row n W; FnI.of F B
theorem sc_need_handler : FnScope ["flags", "name", "thing", "at", "row"] ["flags", "name", "thing"] (defScope (topOf prog 27)) := ⟨rfl, rfl, rfl, by decide +kernel, rfl, by decide +kernel, by decide +kernel⟩
theorem okF_need_handler (W : Wd K mg) {fd : FuncData} (F : FunG K g_need_handler fd) : FnOk P w K mg base (L2.CX P w) 4 ((dAd none "need_handler") K) fd ["flags", "name", "thing"] (spI K 3 (e_need_handler n)) := by
  refine fn_I (N := ["flags", "name", "thing", "at", "row"]) (m := m_need_handler n) (k := 3) F sc_need_handler fun cdv A outer s H E co => ?_
  exact (ss_cons (ss_if (sw_or (se_not (gcall (okI_is_name n W) co W.glo_is_name (W.kp_is_name) (sa_cons (gvl 1).pe sa_nil))) (sw_or (se_not (gcall (okI_is_pair n W) co W.glo_is_pair (W.kp_is_pair) (sa_cons (gvl 2).pe sa_nil))) (sw_or1 (se_not (gcall (okI_is_condition n W) co W.glo_is_condition (W.kp_is_condition) (sa_cons (gvl 0).pe (sa_cons (se_ix co.u1 (gvl 2).pe se_int.pe).pe sa_nil))))))).se
    (ss_one ss_no)
    ss_nil)
    (ss_cons (ss_if (sw_or (se_not (gcall (okI_is_list n W) co W.glo_is_list (W.kp_is_list) (sa_cons (se_ix co.u1 (gvl 2).pe se_int.pe).pe sa_nil))) (sw_or1 (se_not (se_chain (op_ii op_le) (op_ii op_le) se_int.pe (gB call_lenI (W.free_len) (by kernel_rfl) (sa_cons (se_ix co.u1 (gvl 2).pe se_int.pe).pe sa_nil)).pe (gint W.int_MOST_ROWS).pe)))).se
    (ss_one ss_no)
    ss_nil)
    (ss_one (ss_for co.own co.calm (genum (W.free_enumerate) (sa_cons (se_ix co.u1 (gvl 2).pe se_int.pe).pe sa_nil)) (sg_tup co.calm (sgs_cons (ggl co 3) (sgs_cons (ggl co 4) sgs_nil)))
    (ss_one (ss_if (se_not (gcall (okI_is_row n W) co W.glo_is_row (W.kp_is_row) (sa_cons (gvl 0).pe (sa_cons (gvl 4).pe (sa_cons (se_bin op_subI (se_bin op_subI (gB call_lenI (W.free_len) (by kernel_rfl) (sa_cons (se_ix co.u1 (gvl 2).pe se_int.pe).pe sa_nil)).pe (gvl 3).pe).pe se_int.pe).pe sa_nil)))))
    (ss_one ss_no)
    ss_nil))))))
theorem ok_need_handler (W : Wd K mg) : ∃ fd, FnOk P w K mg base (L2.CX P w) 4 ((dAd none "need_handler") K) fd ["flags", "name", "thing"] (spI K 3 (e_need_handler n)) ∧ Binds K fd ["flags", "name", "thing"] [] := by
  obtain ⟨fd, F⟩ := W.says.def_ 18 (d := g_need_handler)
  exact ⟨fd, okF_need_handler n W F, FunD.bindsN F fun _ _ _ _ _ _ us hl => match us, hl with | [_, _, _], _ => rfl⟩
theorem okI_need_handler (W : Wd K mg) : FnI P w K mg base 4 ((dAd none "need_handler") K) 3 (e_need_handler n) := let ⟨_, F, B⟩ := ok_need_handler n W; FnI.of F B
theorem sc_sorted_condition : FnScope ["condition", "flag"] ["condition"] (defScope (topOf prog 28)) := ⟨rfl, rfl, rfl, by decide +kernel, rfl, by decide +kernel, by decide +kernel⟩
theorem okF_sorted_condition (W : Wd K mg) {fd : FuncData} (F : FunG K g_sorted_condition fd) : FnOk P w K mg base (L2.CX P w) 1 ((dAd none "sorted_condition") K) fd ["condition"] (spI K 1 (e_sorted_condition n)) := by
  refine fn_I (N := ["condition", "flag"]) (m := m_sorted_condition n) (k := 0) F sc_sorted_condition fun cdv A outer s H E co => ?_
  exact (ss_one (ss_ret (se_dcompF (t := (.one 1)) co.calm co.nd (si_new (gsortD co (W.free_sorted) (gvc 0).pe)) (blkOk_by (own := [("flag", 1)]) (by kernel_rfl)) (by decide) (fun _ _ _ _ _ => gt1 (co.blk _ _ _ _ _).nd 1) (fun _ _ _ _ _ => sts_nil) (fun _ _ _ _ _ => (gvl 1).pe) (fun _ _ _ _ _ => (se_ix (co.blk _ _ _ _ _).u1 (gvc 0).pe (gvl 1).pe).pe))))
theorem ok_sorted_condition (W : Wd K mg) : ∃ fd, FnOk P w K mg base (L2.CX P w) 1 ((dAd none "sorted_condition") K) fd ["condition"] (spI K 1 (e_sorted_condition n)) ∧ Binds K fd ["condition"] [] := by
  obtain ⟨fd, F⟩ := W.says.def_ 19 (d := g_sorted_condition)
  exact ⟨fd, okF_sorted_condition n W F, FunD.bindsN F fun _ _ _ _ _ _ us hl => match us, hl with | [_], _ => rfl⟩
theorem okI_sorted_condition (W : Wd K mg) : FnI P w K mg base 1 ((dAd none "sorted_condition") K) 1 (e_sorted_condition n) := let ⟨_, F, B⟩ := ok_sorted_condition n W; FnI.of F B
theorem sc_copied_row : FnScope ["row"] ["row"] (defScope (topOf prog 29)) := ⟨rfl, rfl, rfl, by decide +kernel, rfl, by decide +kernel, by decide +kernel⟩
theorem okF_copied_row (W : Wd K mg) {fd : FuncData} (F : FunG K g_copied_row fd) : FnOk P w K mg base (L2.CX P w) 2 ((dAd none "copied_row") K) fd ["row"] (spI K 1 (e_copied_row n)) := by
  refine fn_I (N := ["row"]) (m := m_copied_row n) (k := 1) F sc_copied_row fun cdv A outer s H E co => ?_
  exact (ss_cons (ss_if (se_cmp (op_inI co.u65) (se_ix co.u1 (gvl 0).pe se_int.pe).pe (se_tup (sa_cons se_str.pe (sa_cons se_str.pe sa_nil))).pe)
    (ss_one (ss_ret (gvl 0).pe))
    ss_nil)
    (ss_one (ss_ret (se_tup (sa_cons (se_ix co.u1 (gvl 0).pe se_int.pe).pe (sa_cons (gcall (okI_sorted_condition n W) co W.glo_sorted_condition (W.kp_sorted_condition) (sa_cons (se_ix co.u1 (gvl 0).pe se_int.pe).pe sa_nil)).pe (sa_star (sl_of (se_sl (gvl 0).pe (so_some se_int.pe) so_none).pe) sa_nil)))).pe)))
theorem ok_copied_row (W : Wd K mg) : ∃ fd, FnOk P w K mg base (L2.CX P w) 2 ((dAd none "copied_row") K) fd ["row"] (spI K 1 (e_copied_row n)) ∧ Binds K fd ["row"] [] := by
  obtain ⟨fd, F⟩ := W.says.def_ 20 (d := g_copied_row)
  exact ⟨fd, okF_copied_row n W F, FunD.bindsN F fun _ _ _ _ _ _ us hl => match us, hl with | [_], _ => rfl⟩
theorem okI_copied_row (W : Wd K mg) : FnI P w K mg base 2 ((dAd none "copied_row") K) 1 (e_copied_row n) := let ⟨_, F, B⟩ := ok_copied_row n W; FnI.of F B
theorem sc_copied_handler : FnScope ["handler", "row"] ["handler"] (defScope (topOf prog 30)) := ⟨rfl, rfl, rfl, by decide +kernel, rfl, by decide +kernel, by decide +kernel⟩
theorem okF_copied_handler (W : Wd K mg) {fd : FuncData} (F : FunG K g_copied_handler fd) : FnOk P w K mg base (L2.CX P w) 3 ((dAd none "copied_handler") K) fd ["handler"] (spI K 1 (e_copied_handler n)) := by
  refine fn_I (N := ["handler", "row"]) (m := m_copied_handler n) (k := 2) F sc_copied_handler fun cdv A outer s H E co => ?_
  exact (ss_one (ss_ret (se_tup (sa_cons (gcall (okI_sorted_condition n W) co W.glo_sorted_condition (W.kp_sorted_condition) (sa_cons (se_ix co.u1 (gvl 0).pe se_int.pe).pe sa_nil)).pe (sa_cons (gTL call_tupleI (W.free_tuple) (by kernel_rfl) (SN.sl (sn_comp (t := (.one 1)) co.calm co.nd (si_of (se_ix co.u1 (gvl 0).pe se_int.pe).pe) (blkOk_by (own := [("row", 1)]) (by kernel_rfl)) (by decide) (fun _ _ _ _ _ => gt1 (co.blk _ _ _ _ _).nd 1) (fun _ _ _ _ _ => sts_nil) (fun _ _ _ _ _ => (gcall (okI_copied_row n W) (co.blk _ _ _ _ _) W.glo_copied_row (W.kp_copied_row) (sa_cons (gvl 1).pe sa_nil)).pe)))).pe sa_nil))).pe))
theorem ok_copied_handler (W : Wd K mg) : ∃ fd, FnOk P w K mg base (L2.CX P w) 3 ((dAd none "copied_handler") K) fd ["handler"] (spI K 1 (e_copied_handler n)) ∧ Binds K fd ["handler"] [] := by
  obtain ⟨fd, F⟩ := W.says.def_ 21 (d := g_copied_handler)
  exact ⟨fd, okF_copied_handler n W F, FunD.bindsN F fun _ _ _ _ _ _ us hl => match us, hl with | [_], _ => rfl⟩
theorem okI_copied_handler (W : Wd K mg) : FnI P w K mg base 3 ((dAd none "copied_handler") K) 1 (e_copied_handler n) := let ⟨_, F, B⟩ := ok_copied_handler n W; FnI.of F B
theorem sc_Program_places : FnScope ["self", "word", "found", "name", "at", "row"] ["self", "word"] (defScope (inClass (topOf prog 31) 7)) := ⟨rfl, rfl, rfl, by decide +kernel, rfl, by decide +kernel, by decide +kernel⟩
theorem okF_Program_places (W : Wd K mg) {fd : FuncData} (F : FunG K g_Program_places fd) : FnOk P w K mg base (L2.CX P w) 1 ((dAd (some "Program") "places") K) fd ["self", "word"] (spI K 2 (e_Program_places n)) := by
  refine fn_I (N := ["self", "word", "found", "name", "at", "row"]) (m := m_Program_places n) (k := 0) F sc_Program_places fun cdv A outer s H E co => ?_
  exact (ss_cons (gsl co 2 (SN.pe (sn_lst sa_nil)))
    (ss_cons (ss_forD co.own co.calm (fun _ => si_keys (se_fld W.fld_own_handlers (gvl 0).pe).pe) (sf_keys (se_fld W.fld_own_handlers (gvl 0).pe).pe) (ggc co 3)
    (ss_one (ss_expr (se_mL PySem.F.slot_list_extend PySem.F.type_list_extend mt_extendI (gvl 2).pe (sa_cons (SN.pf (sn_comp (t := (.many [4, 5])) co.calm co.nd (genum (W.free_enumerate) (sa_cons (se_ix co.u1 (se_ix co.u1 (se_fld W.fld_own_handlers (gvl 0).pe).pe (gvc 3).pe).pe se_int.pe).pe sa_nil)) (blkOk_by (own := [("at", 4), ("row", 5)]) (by kernel_rfl)) (by decide) (fun _ _ _ _ _ => gt2 (co.blk _ _ _ _ _).nd (co.blk _ _ _ _ _).calm 4 5) (fun _ _ _ _ _ => sts_one (se_cmp (op_eqI (co.blk _ _ _ _ _).u64) (se_ix (co.blk _ _ _ _ _).u1 (gvl 5).pe se_int.pe).pe (gvc 1).pe)) (fun _ _ _ _ _ => (se_tup (sa_cons (gvc 3).pe (sa_cons (gvl 4).pe sa_nil))).pe))) sa_nil)).pe)))
    (ss_one (ss_ret (gTL call_tupleI (W.free_tuple) (by kernel_rfl) (sl_of (gvl 2).pe)).pe))))
theorem ok_Program_places (W : Wd K mg) : ∃ fd, FnOk P w K mg base (L2.CX P w) 1 ((dAd (some "Program") "places") K) fd ["self", "word"] (spI K 2 (e_Program_places n)) ∧ Binds K fd ["self", "word"] [] := by
  obtain ⟨fd, F⟩ := W.says.def_ 22 (d := g_Program_places)
  exact ⟨fd, okF_Program_places n W F, FunD.bindsN F fun _ _ _ _ _ _ us hl => match us, hl with | [_, _], _ => rfl⟩
theorem okI_Program_places (W : Wd K mg) : FnI P w K mg base 1 ((dAd (some "Program") "places") K) 2 (e_Program_places n) := let ⟨_, F, B⟩ := ok_Program_places n W; FnI.of F B
theorem sc_Programzz_initzz : FnScope ["self", "flags", "handlers", "strange", "name"] ["self", "flags", "handlers"] (defScope (inClass (topOf prog 31) 0)) := ⟨rfl, rfl, rfl, by decide +kernel, rfl, by decide +kernel, by decide +kernel⟩
theorem okF_Programzz_initzz (W : Wd K mg) {fd : FuncData} (F : FunG K g_Programzz_initzz fd) : FnOk P w K mg base (L2.CX P w) 5 ((dAd (some "Program") "__init__") K) fd ["self", "flags", "handlers"] (spI K 3 (e_Programzz_initzz n)) := by
  refine fn_I (N := ["self", "flags", "handlers", "strange", "name"]) (m := m_Programzz_initzz n) (k := 4) F sc_Programzz_initzz fun cdv A outer s H E co => ?_
  exact (ss_cons (ss_expr (gcall (okI_need_flags n W) co W.glo_need_flags (W.kp_need_flags) (sa_cons (gvl 1).pe sa_nil)).pe)
    (ss_cons (ss_if (sw_or (se_not (gisi .dct W.ity (W.free_isinstance) (W.free_dict) (gvc 2).pe)) (sw_or1 (se_not (se_chain (op_ii op_le) (op_ii op_le) se_int.pe (gB call_lenI (W.free_len) (by kernel_rfl) (sa_cons (gvc 2).pe sa_nil)).pe (gint W.int_MOST_HANDLERS).pe)))).se
    (ss_one ss_no)
    ss_nil)
    (ss_cons (ss_setLcD (i := 3) (t := (.one 4)) co.calm co.nd (by kernel_rfl) (by kernel_rfl) (by kernel_rfl) (fun _ => si_keys (gvc 2).pe) (sf_keys (gvc 2).pe) (blkOk_by (own := [("name", 4)]) (by kernel_rfl)) (by decide) (fun _ _ _ _ _ => gt1 (co.blk _ _ _ _ _).nd 4) (fun _ _ _ _ _ => sts_one (se_not (gisi .str W.ity (W.free_isinstance) (W.free_str) (gvl 4).pe))) (fun _ _ _ _ _ => (gvl 4).pe))
    (ss_cons (ss_for co.own co.calm (si_of (se_bin op_addI (gvl 3).pe (SN.pf (gsorted co (W.free_sorted) (SN.sls (sn_compD (t := (.one 4)) co.calm co.nd (fun _ => si_keys (gvc 2).pe) (sf_keys (gvc 2).pe) (blkOk_by (own := [("name", 4)]) (by kernel_rfl)) (by decide) (fun _ _ _ _ _ => gt1 (co.blk _ _ _ _ _).nd 4) (fun _ _ _ _ _ => sts_one (gisi .str W.ity (W.free_isinstance) (W.free_str) (gvl 4).pe)) (fun _ _ _ _ _ => (gvl 4).pe)))))).pe) (ggl co 4)
    (ss_one (ss_expr (gcall (okI_need_handler n W) co W.glo_need_handler (W.kp_need_handler) (sa_cons (gvl 1).pe (sa_cons (gvl 4).pe (sa_cons (se_ix co.u1 (gvc 2).pe (gvl 4).pe).pe sa_nil)))).pe)))
    (ss_cons (ss_fld W.fld_own_flags (gvl 0).pe (gTL call_tupleI (W.free_tuple) (by kernel_rfl) (SN.sl (gsorted co (W.free_sorted) (sls_of (gvl 1).pe)))).pe)
    (ss_cons (ss_fld W.fld_own_handlers (gvl 0).pe (se_dcompF (t := (.one 4)) co.calm co.nd (si_new (gsortD co (W.free_sorted) (gvc 2).pe)) (blkOk_by (own := [("name", 4)]) (by kernel_rfl)) (by decide) (fun _ _ _ _ _ => gt1 (co.blk _ _ _ _ _).nd 4) (fun _ _ _ _ _ => sts_nil) (fun _ _ _ _ _ => (gvl 4).pe) (fun _ _ _ _ _ => (gcall (okI_copied_handler n W) (co.blk _ _ _ _ _) W.glo_copied_handler (W.kp_copied_handler) (sa_cons (se_ix (co.blk _ _ _ _ _).u1 (gvc 2).pe (gvl 4).pe).pe sa_nil)).pe)))
    (ss_one (ss_if (se_cmp (op_ii op_gt) (se_bin op_addI (gB call_lenI (W.free_len) (by kernel_rfl) (sa_cons (se_meth (okI_Program_places n W) co (by decide) W.cls_Program W.meth_Program_places (gvl 0).pe (sa_cons se_str.pe sa_nil)).pe sa_nil)).pe (gB call_lenI (W.free_len) (by kernel_rfl) (sa_cons (se_meth (okI_Program_places n W) co (by decide) W.cls_Program W.meth_Program_places (gvl 0).pe (sa_cons se_str.pe sa_nil)).pe sa_nil)).pe).pe (gint W.int_MOST_PLACES).pe)
    (ss_one ss_no)
    ss_nil))))))))
theorem ok_Programzz_initzz (W : Wd K mg) : ∃ fd, FnOk P w K mg base (L2.CX P w) 5 ((dAd (some "Program") "__init__") K) fd ["self", "flags", "handlers"] (spI K 3 (e_Programzz_initzz n)) ∧ Binds K fd ["self", "flags", "handlers"] [] := by
  obtain ⟨fd, F⟩ := W.says.def_ 23 (d := g_Programzz_initzz)
  exact ⟨fd, okF_Programzz_initzz n W F, FunD.bindsN F fun _ _ _ _ _ _ us hl => match us, hl with | [_, _, _], _ => rfl⟩
theorem okI_Programzz_initzz (W : Wd K mg) : FnI P w K mg base 5 ((dAd (some "Program") "__init__") K) 3 (e_Programzz_initzz n) := let ⟨_, F, B⟩ := ok_Programzz_initzz n W; FnI.of F B
theorem sc__law_made : FnScope ["_law_plan_here"] ["_law_plan_here"] (defScope (topOf prog 62)) := ⟨rfl, rfl, rfl, by decide +kernel, rfl, by decide +kernel, by decide +kernel⟩
theorem okF__law_made (W : Wd K mg) {fd : FuncData} (F : FunG K g__law_made fd) : FnOk P w K mg base (L2.CX P w) 7 ((dAd none "_law_made") K) fd ["_law_plan_here"] (spI K 1 (e__law_made n)) := by
  refine fn_I (N := ["_law_plan_here"]) (m := m__law_made n) (k := 6) F sc__law_made fun cdv A outer s H E co => ?_
  exact (ss_one (ss_ret (gmake (okI_Programzz_initzz n W) co W.mk_Program W.glo_Program (sa_cons (se_ix co.u1 (gvl 0).pe se_str.pe).pe (sa_cons (se_ix co.u1 (gvl 0).pe se_str.pe).pe sa_nil))).pe))
theorem ok__law_made (W : Wd K mg) : ∃ fd, FnOk P w K mg base (L2.CX P w) 7 ((dAd none "_law_made") K) fd ["_law_plan_here"] (spI K 1 (e__law_made n)) ∧ Binds K fd ["_law_plan_here"] [] := by
  obtain ⟨fd, F⟩ := W.says.def_ 24 (d := g__law_made)
  exact ⟨fd, okF__law_made n W F, FunD.bindsN F fun _ _ _ _ _ _ us hl => match us, hl with | [_], _ => rfl⟩
theorem okI__law_made (W : Wd K mg) : FnI P w K mg base 7 ((dAd none "_law_made") K) 1 (e__law_made n) := let ⟨_, F, B⟩ := ok__law_made n W; FnI.of F B
theorem sc__law_places : FnScope ["_law_plan_here", "_law_sort", "_law_found", "_law_label", "_law_told", "_law_spot"] ["_law_plan_here", "_law_sort"] (defScope (topOf prog 63)) := ⟨rfl, rfl, rfl, by decide +kernel, rfl, by decide +kernel, by decide +kernel⟩
theorem okF__law_places (W : Wd K mg) {fd : FuncData} (F : FunG K g__law_places fd) : FnOk P w K mg base (L2.CX P w) 1 ((dAd none "_law_places") K) fd ["_law_plan_here", "_law_sort"] (spI K 2 (e__law_places n)) := by
  refine fn_I (N := ["_law_plan_here", "_law_sort", "_law_found", "_law_label", "_law_told", "_law_spot"]) (m := m__law_places n) (k := 0) F sc__law_places fun cdv A outer s H E co => ?_
  exact (ss_cons (gsl co 2 (SN.pf (sn_lst sa_nil)))
    (ss_cons (ss_for co.own co.calm (si_new (gsortD co (W.free_sorted) (se_ix co.u1 (gvl 0).pe se_str.pe).pe)) (ggc co 3)
    (ss_cons (gsc co 4 (se_ix co.u1 (se_ix co.u1 (se_ix co.u1 (gvl 0).pe se_str.pe).pe (gvc 3).pe).pe se_int.pe).pe)
    (ss_one (gsl co 2 (se_bin op_addI (gvl 2).pe (SN.pf (sn_comp (t := (.one 5)) co.calm co.nd (grange1 (W.free_range) (sa_cons (gB call_lenI (W.free_len) (by kernel_rfl) (sa_cons (gvc 4).pe sa_nil)).pe sa_nil)) (blkOk_by (own := [("_law_spot", 5)]) (by kernel_rfl)) (by decide) (fun _ _ _ _ _ => gt1 (co.blk _ _ _ _ _).nd 5) (fun _ _ _ _ _ => sts_one (se_cmp (op_eqI (co.blk _ _ _ _ _).u64) (se_ix (co.blk _ _ _ _ _).u1 (se_ix (co.blk _ _ _ _ _).u1 (gvc 4).pe (gvl 5).pe).pe se_int.pe).pe (gvc 1).pe)) (fun _ _ _ _ _ => (se_tup (sa_cons (gvc 3).pe (sa_cons (gvl 5).pe sa_nil))).pe)))).pe))))
    (ss_one (ss_ret (gvl 2).pe))))
theorem ok__law_places (W : Wd K mg) : ∃ fd, FnOk P w K mg base (L2.CX P w) 1 ((dAd none "_law_places") K) fd ["_law_plan_here", "_law_sort"] (spI K 2 (e__law_places n)) ∧ Binds K fd ["_law_plan_here", "_law_sort"] [] := by
  obtain ⟨fd, F⟩ := W.says.def_ 25 (d := g__law_places)
  exact ⟨fd, okF__law_places n W F, FunD.bindsN F fun _ _ _ _ _ _ us hl => match us, hl with | [_, _], _ => rfl⟩
theorem okI__law_places (W : Wd K mg) : FnI P w K mg base 1 ((dAd none "_law_places") K) 2 (e__law_places n) := let ⟨_, F, B⟩ := ok__law_places n W; FnI.of F B
theorem sc__law_any_state : FnScope ["_law_draw", "_law_plan_here", "_law_on", "_law_flag", "_law_spot"] ["_law_draw", "_law_plan_here"] (defScope (topOf prog 64)) := ⟨rfl, rfl, rfl, by decide +kernel, rfl, by decide +kernel, by decide +kernel⟩
theorem okF__law_any_state (W : Wd K mg) {fd : FuncData} (F : FunG K g__law_any_state fd) : FnOk P w K mg base (L2.CX P w) 3 ((dAd none "_law_any_state") K) fd ["_law_draw", "_law_plan_here"] (spI K 2 (e__law_any_state n)) := by
  refine fn_I (N := ["_law_draw", "_law_plan_here", "_law_on", "_law_flag", "_law_spot"]) (m := m__law_any_state n) (k := 2) F sc__law_any_state fun cdv A outer s H E co => ?_
  exact (ss_cons (gsl co 2 (SN.pf (gsorted co (W.free_sorted) (SN.sls (sn_comp (t := (.one 3)) co.calm co.nd (si_of (se_ix co.u1 (gvl 1).pe se_str.pe).pe) (blkOk_by (own := [("_law_flag", 3)]) (by kernel_rfl)) (by decide) (fun _ _ _ _ _ => gt1 (co.blk _ _ _ _ _).nd 3) (fun _ _ _ _ _ => sts_one (se_cmp (op_eqI (co.blk _ _ _ _ _).u64) (gcall (okI__law_take n W) (co.blk _ _ _ _ _) W.glo__law_take (W.kp__law_take) (sa_cons (gvc 0).pe (sa_cons se_int.pe sa_nil))).pe se_int.pe)) (fun _ _ _ _ _ => (gvl 3).pe))))))
    (ss_one (ss_ret (se_tup (sa_cons (gTL call_tupleI (W.free_tuple) (by kernel_rfl) (sl_of (gvl 2).pe)).pe (sa_cons (gTL call_tupleI (W.free_tuple) (by kernel_rfl) (SN.sl (sn_comp (t := (.one 4)) co.calm co.nd (si_of (gcall (okI__law_places n W) co W.glo__law_places (W.kp__law_places) (sa_cons (gvl 1).pe (sa_cons se_str.pe sa_nil))).pe) (blkOk_by (own := [("_law_spot", 4)]) (by kernel_rfl)) (by decide) (fun _ _ _ _ _ => gt1 (co.blk _ _ _ _ _).nd 4) (fun _ _ _ _ _ => sts_one (se_cmp (op_eqI (co.blk _ _ _ _ _).u64) (gcall (okI__law_take n W) (co.blk _ _ _ _ _) W.glo__law_take (W.kp__law_take) (sa_cons (gvc 0).pe (sa_cons se_int.pe sa_nil))).pe se_int.pe)) (fun _ _ _ _ _ => (gvl 4).pe)))).pe sa_nil))).pe)))
theorem ok__law_any_state (W : Wd K mg) : ∃ fd, FnOk P w K mg base (L2.CX P w) 3 ((dAd none "_law_any_state") K) fd ["_law_draw", "_law_plan_here"] (spI K 2 (e__law_any_state n)) ∧ Binds K fd ["_law_draw", "_law_plan_here"] [] := by
  obtain ⟨fd, F⟩ := W.says.def_ 26 (d := g__law_any_state)
  exact ⟨fd, okF__law_any_state n W F, FunD.bindsN F fun _ _ _ _ _ _ us hl => match us, hl with | [_, _], _ => rfl⟩
theorem okI__law_any_state (W : Wd K mg) : FnI P w K mg base 3 ((dAd none "_law_any_state") K) 2 (e__law_any_state n) := let ⟨_, F, B⟩ := ok__law_any_state n W; FnI.of F B
theorem sc_need_program : FnScope ["thing"] ["thing"] (defScope (topOf prog 32)) := ⟨rfl, rfl, rfl, by decide +kernel, rfl, by decide +kernel, by decide +kernel⟩
theorem okF_need_program (W : Wd K mg) {fd : FuncData} (F : FunG K g_need_program fd) : FnOk P w K mg base (L2.CX P w) 1 ((dAd none "need_program") K) fd ["thing"] (spI K 1 (e_need_program n)) := by
  refine fn_I (N := ["thing"]) (m := m_need_program n) (k := 0) F sc_need_program fun cdv A outer s H E co => ?_
  exact (ss_one (ss_if (se_not (gisiO W.ity_Program W.isi_Program (W.free_isinstance) W.glo_Program (gvl 0).pe))
    (ss_one ss_no)
    ss_nil))
theorem ok_need_program (W : Wd K mg) : ∃ fd, FnOk P w K mg base (L2.CX P w) 1 ((dAd none "need_program") K) fd ["thing"] (spI K 1 (e_need_program n)) ∧ Binds K fd ["thing"] [] := by
  obtain ⟨fd, F⟩ := W.says.def_ 27 (d := g_need_program)
  exact ⟨fd, okF_need_program n W F, FunD.bindsN F fun _ _ _ _ _ _ us hl => match us, hl with | [_], _ => rfl⟩
theorem okI_need_program (W : Wd K mg) : FnI P w K mg base 1 ((dAd none "need_program") K) 1 (e_need_program n) := let ⟨_, F, B⟩ := ok_need_program n W; FnI.of F B
theorem sc_is_place : FnScope ["program", "thing", "word"] ["program", "thing", "word"] (defScope (topOf prog 35)) := ⟨rfl, rfl, rfl, by decide +kernel, rfl, by decide +kernel, by decide +kernel⟩
theorem okF_is_place (W : Wd K mg) {fd : FuncData} (F : FunG K g_is_place fd) : FnOk P w K mg base (L2.CX P w) 2 ((dAd none "is_place") K) fd ["program", "thing", "word"] (spI K 3 (e_is_place n)) := by
  refine fn_I (N := ["program", "thing", "word"]) (m := m_is_place n) (k := 1) F sc_is_place fun cdv A outer s H E co => ?_
  exact (ss_cons (ss_if (sw_or (se_not (gcall (okI_is_pair n W) co W.glo_is_pair (W.kp_is_pair) (sa_cons (gvl 1).pe sa_nil))) (sw_or (se_not (gisi .str W.ity (W.free_isinstance) (W.free_str) (se_ix co.u1 (gvl 1).pe se_int.pe).pe)) (sw_or1 (se_not (gcall (okI_is_number n W) co W.glo_is_number (W.kp_is_number) (sa_cons (se_ix co.u1 (gvl 1).pe se_int.pe).pe sa_nil)))))).se
    (ss_one (ss_ret se_bl.pe))
    ss_nil)
    (ss_one (ss_ret (se_cmp (op_inI co.u65) (gvl 1).pe (se_meth (okI_Program_places n W) co (by decide) W.cls_Program W.meth_Program_places (gvl 0).pe (sa_cons (gvl 2).pe sa_nil)).pe).pe)))
theorem ok_is_place (W : Wd K mg) : ∃ fd, FnOk P w K mg base (L2.CX P w) 2 ((dAd none "is_place") K) fd ["program", "thing", "word"] (spI K 3 (e_is_place n)) ∧ Binds K fd ["program", "thing", "word"] [] := by
  obtain ⟨fd, F⟩ := W.says.def_ 28 (d := g_is_place)
  exact ⟨fd, okF_is_place n W F, FunD.bindsN F fun _ _ _ _ _ _ us hl => match us, hl with | [_, _, _], _ => rfl⟩
theorem okI_is_place (W : Wd K mg) : FnI P w K mg base 2 ((dAd none "is_place") K) 3 (e_is_place n) := let ⟨_, F, B⟩ := ok_is_place n W; FnI.of F B
theorem sc_need_pile : FnScope ["program", "pile", "at", "place"] ["program", "pile"] (defScope (topOf prog 49)) := ⟨rfl, rfl, rfl, by decide +kernel, rfl, by decide +kernel, by decide +kernel⟩
theorem okF_need_pile (W : Wd K mg) {fd : FuncData} (F : FunG K g_need_pile fd) : FnOk P w K mg base (L2.CX P w) 3 ((dAd none "need_pile") K) fd ["program", "pile"] (spI K 2 (e_need_pile n)) := by
  refine fn_I (N := ["program", "pile", "at", "place"]) (m := m_need_pile n) (k := 2) F sc_need_pile fun cdv A outer s H E co => ?_
  exact (ss_cons (ss_if (se_not (gcall (okI_is_list n W) co W.glo_is_list (W.kp_is_list) (sa_cons (gvl 1).pe sa_nil)))
    (ss_one ss_no)
    ss_nil)
    (ss_one (ss_for co.own co.calm (genum (W.free_enumerate) (sa_cons (gvl 1).pe sa_nil)) (sg_tup co.calm (sgs_cons (ggl co 2) (sgs_cons (ggl co 3) sgs_nil)))
    (ss_one (ss_if (se_not (gcall (okI_is_place n W) co W.glo_is_place (W.kp_is_place) (sa_cons (gvl 0).pe (sa_cons (gvl 3).pe (sa_cons se_str.pe sa_nil)))))
    (ss_one ss_no)
    ss_nil)))))
theorem ok_need_pile (W : Wd K mg) : ∃ fd, FnOk P w K mg base (L2.CX P w) 3 ((dAd none "need_pile") K) fd ["program", "pile"] (spI K 2 (e_need_pile n)) ∧ Binds K fd ["program", "pile"] [] := by
  obtain ⟨fd, F⟩ := W.says.def_ 29 (d := g_need_pile)
  exact ⟨fd, okF_need_pile n W F, FunD.bindsN F fun _ _ _ _ _ _ us hl => match us, hl with | [_, _], _ => rfl⟩
theorem okI_need_pile (W : Wd K mg) : FnI P w K mg base 3 ((dAd none "need_pile") K) 2 (e_need_pile n) := let ⟨_, F, B⟩ := ok_need_pile n W; FnI.of F B
theorem sc_rises : FnScope ["things", "one", "other"] ["things"] (defScope (topOf prog 36)) := ⟨rfl, rfl, rfl, by decide +kernel, rfl, by decide +kernel, by decide +kernel⟩
theorem okF_rises (W : Wd K mg) {fd : FuncData} (F : FunG K g_rises fd) : FnOk P w K mg base (L2.CX P w) 1 ((dAd none "rises") K) fd ["things"] (spI K 1 (e_rises n)) := by
  refine fn_I (N := ["things", "one", "other"]) (m := m_rises n) (k := 0) F sc_rises fun cdv A outer s H E co => ?_
  exact (ss_one (ss_ret (gBN (call_allI co.calm) (W.free_all) (by kernel_rfl) (sn_comp (t := (.many [1, 2])) co.calm co.nd (gzip (W.free_zip) (sa_cons (gvl 0).pe (sa_cons (se_sl (gvl 0).pe (so_some se_int.pe) so_none).pe sa_nil))) (blkOk_by (own := [("one", 1), ("other", 2)]) (by kernel_rfl)) (by decide) (fun _ _ _ _ _ => gt2 (co.blk _ _ _ _ _).nd (co.blk _ _ _ _ _).calm 1 2) (fun _ _ _ _ _ => sts_nil) (fun _ _ _ _ _ => (se_cmp (op_ltI (co.blk _ _ _ _ _).u64) (gvl 1).pe (gvl 2).pe).pe))).pe))
theorem ok_rises (W : Wd K mg) : ∃ fd, FnOk P w K mg base (L2.CX P w) 1 ((dAd none "rises") K) fd ["things"] (spI K 1 (e_rises n)) ∧ Binds K fd ["things"] [] := by
  obtain ⟨fd, F⟩ := W.says.def_ 30 (d := g_rises)
  exact ⟨fd, okF_rises n W F, FunD.bindsN F fun _ _ _ _ _ _ us hl => match us, hl with | [_], _ => rfl⟩
theorem okI_rises (W : Wd K mg) : FnI P w K mg base 1 ((dAd none "rises") K) 1 (e_rises n) := let ⟨_, F, B⟩ := ok_rises n W; FnI.of F B
theorem sc_is_state : FnScope ["program", "thing", "flag", "place"] ["program", "thing"] (defScope (topOf prog 37)) := ⟨rfl, rfl, rfl, by decide +kernel, rfl, by decide +kernel, by decide +kernel⟩
theorem okF_is_state (W : Wd K mg) {fd : FuncData} (F : FunG K g_is_state fd) : FnOk P w K mg base (L2.CX P w) 3 ((dAd none "is_state") K) fd ["program", "thing"] (spI K 2 (e_is_state n)) := by
  refine fn_I (N := ["program", "thing", "flag", "place"]) (m := m_is_state n) (k := 2) F sc_is_state fun cdv A outer s H E co => ?_
  exact (ss_cons (ss_expr (gcall (okI_need_program n W) co W.glo_need_program (W.kp_need_program) (sa_cons (gvc 0).pe sa_nil)).pe)
    (ss_cons (ss_if (sw_or (se_not (gcall (okI_is_pair n W) co W.glo_is_pair (W.kp_is_pair) (sa_cons (gvl 1).pe sa_nil))) (sw_or (se_not (gisi .tup W.ity (W.free_isinstance) (W.free_tuple) (se_ix co.u1 (gvl 1).pe se_int.pe).pe)) (sw_or1 (se_not (gisi .tup W.ity (W.free_isinstance) (W.free_tuple) (se_ix co.u1 (gvl 1).pe se_int.pe).pe))))).se
    (ss_one (ss_ret se_bl.pe))
    ss_nil)
    (ss_cons (ss_if (se_not (gBN (call_allI co.calm) (W.free_all) (by kernel_rfl) (sn_comp (t := (.one 2)) co.calm co.nd (si_of (se_ix co.u1 (gvl 1).pe se_int.pe).pe) (blkOk_by (own := [("flag", 2)]) (by kernel_rfl)) (by decide) (fun _ _ _ _ _ => gt1 (co.blk _ _ _ _ _).nd 2) (fun _ _ _ _ _ => sts_nil) (fun _ _ _ _ _ => (gcall (okI_is_flag n W) (co.blk _ _ _ _ _) W.glo_is_flag (W.kp_is_flag) (sa_cons (se_fld W.fld_own_flags (gvc 0).pe).pe (sa_cons (gvl 2).pe sa_nil))).pe))))
    (ss_one (ss_ret se_bl.pe))
    ss_nil)
    (ss_cons (ss_if (se_not (gBN (call_allI co.calm) (W.free_all) (by kernel_rfl) (sn_comp (t := (.one 3)) co.calm co.nd (si_of (se_ix co.u1 (gvl 1).pe se_int.pe).pe) (blkOk_by (own := [("place", 3)]) (by kernel_rfl)) (by decide) (fun _ _ _ _ _ => gt1 (co.blk _ _ _ _ _).nd 3) (fun _ _ _ _ _ => sts_nil) (fun _ _ _ _ _ => (gcall (okI_is_place n W) (co.blk _ _ _ _ _) W.glo_is_place (W.kp_is_place) (sa_cons (gvc 0).pe (sa_cons (gvl 3).pe (sa_cons se_str.pe sa_nil)))).pe))))
    (ss_one (ss_ret se_bl.pe))
    ss_nil)
    (ss_one (ss_ret (sw_and (gcall (okI_rises n W) co W.glo_rises (W.kp_rises) (sa_cons (se_ix co.u1 (gvl 1).pe se_int.pe).pe sa_nil)) (sw_and1 (gcall (okI_rises n W) co W.glo_rises (W.kp_rises) (sa_cons (se_ix co.u1 (gvl 1).pe se_int.pe).pe sa_nil)))).se.pe))))))
theorem ok_is_state (W : Wd K mg) : ∃ fd, FnOk P w K mg base (L2.CX P w) 3 ((dAd none "is_state") K) fd ["program", "thing"] (spI K 2 (e_is_state n)) ∧ Binds K fd ["program", "thing"] [] := by
  obtain ⟨fd, F⟩ := W.says.def_ 31 (d := g_is_state)
  exact ⟨fd, okF_is_state n W F, FunD.bindsN F fun _ _ _ _ _ _ us hl => match us, hl with | [_, _], _ => rfl⟩
theorem okI_is_state (W : Wd K mg) : FnI P w K mg base 3 ((dAd none "is_state") K) 2 (e_is_state n) := let ⟨_, F, B⟩ := ok_is_state n W; FnI.of F B
theorem sc_need_state : FnScope ["program", "state"] ["program", "state"] (defScope (topOf prog 38)) := ⟨rfl, rfl, rfl, by decide +kernel, rfl, by decide +kernel, by decide +kernel⟩
theorem okF_need_state (W : Wd K mg) {fd : FuncData} (F : FunG K g_need_state fd) : FnOk P w K mg base (L2.CX P w) 4 ((dAd none "need_state") K) fd ["program", "state"] (spI K 2 (e_need_state n)) := by
  refine fn_I (N := ["program", "state"]) (m := m_need_state n) (k := 3) F sc_need_state fun cdv A outer s H E co => ?_
  exact (ss_one (ss_if (se_not (gcall (okI_is_state n W) co W.glo_is_state (W.kp_is_state) (sa_cons (gvl 0).pe (sa_cons (gvl 1).pe sa_nil))))
    (ss_one ss_no)
    ss_nil))
theorem ok_need_state (W : Wd K mg) : ∃ fd, FnOk P w K mg base (L2.CX P w) 4 ((dAd none "need_state") K) fd ["program", "state"] (spI K 2 (e_need_state n)) ∧ Binds K fd ["program", "state"] [] := by
  obtain ⟨fd, F⟩ := W.says.def_ 32 (d := g_need_state)
  exact ⟨fd, okF_need_state n W F, FunD.bindsN F fun _ _ _ _ _ _ us hl => match us, hl with | [_, _], _ => rfl⟩
theorem okI_need_state (W : Wd K mg) : FnI P w K mg base 4 ((dAd none "need_state") K) 2 (e_need_state n) := let ⟨_, F, B⟩ := ok_need_state n W; FnI.of F B
theorem sc_is_true : FnScope ["condition", "state", "flag"] ["condition", "state"] (defScope (topOf prog 39)) := ⟨rfl, rfl, rfl, by decide +kernel, rfl, by decide +kernel, by decide +kernel⟩
theorem okF_is_true (W : Wd K mg) {fd : FuncData} (F : FunG K g_is_true fd) : FnOk P w K mg base (L2.CX P w) 1 ((dAd none "is_true") K) fd ["condition", "state"] (spI K 2 (e_is_true n)) := by
  refine fn_I (N := ["condition", "state", "flag"]) (m := m_is_true n) (k := 0) F sc_is_true fun cdv A outer s H E co => ?_
  exact (ss_one (ss_ret (gBN (call_allI co.calm) (W.free_all) (by kernel_rfl) (sn_compD (t := (.one 2)) co.calm co.nd (fun _ => si_keys (gvc 0).pe) (sf_keys (gvc 0).pe) (blkOk_by (own := [("flag", 2)]) (by kernel_rfl)) (by decide) (fun _ _ _ _ _ => gt1 (co.blk _ _ _ _ _).nd 2) (fun _ _ _ _ _ => sts_nil) (fun _ _ _ _ _ => (se_cmp (op_eqI (co.blk _ _ _ _ _).u64) (se_cmp (op_inI (co.blk _ _ _ _ _).u65) (gvl 2).pe (se_ix (co.blk _ _ _ _ _).u1 (gvc 1).pe se_int.pe).pe).pe (se_ix (co.blk _ _ _ _ _).u1 (gvc 0).pe (gvl 2).pe).pe).pe))).pe))
theorem ok_is_true (W : Wd K mg) : ∃ fd, FnOk P w K mg base (L2.CX P w) 1 ((dAd none "is_true") K) fd ["condition", "state"] (spI K 2 (e_is_true n)) ∧ Binds K fd ["condition", "state"] [] := by
  obtain ⟨fd, F⟩ := W.says.def_ 33 (d := g_is_true)
  exact ⟨fd, okF_is_true n W F, FunD.bindsN F fun _ _ _ _ _ _ us hl => match us, hl with | [_, _], _ => rfl⟩
theorem okI_is_true (W : Wd K mg) : FnI P w K mg base 1 ((dAd none "is_true") K) 2 (e_is_true n) := let ⟨_, F, B⟩ := ok_is_true n W; FnI.of F B
theorem sc_rows_of : FnScope ["program", "name"] ["program", "name"] (defScope (topOf prog 33)) := ⟨rfl, rfl, rfl, by decide +kernel, rfl, by decide +kernel, by decide +kernel⟩
theorem okF_rows_of (W : Wd K mg) {fd : FuncData} (F : FunG K g_rows_of fd) : FnOk P w K mg base (L2.CX P w) 1 ((dAd none "rows_of") K) fd ["program", "name"] (spI K 2 (e_rows_of n)) := by
  refine fn_I (N := ["program", "name"]) (m := m_rows_of n) (k := 0) F sc_rows_of fun cdv A outer s H E co => ?_
  exact (ss_one (ss_ret (se_ix co.u1 (se_ix co.u1 (se_fld W.fld_own_handlers (gvl 0).pe).pe (gvl 1).pe).pe se_int.pe).pe))
theorem ok_rows_of (W : Wd K mg) : ∃ fd, FnOk P w K mg base (L2.CX P w) 1 ((dAd none "rows_of") K) fd ["program", "name"] (spI K 2 (e_rows_of n)) ∧ Binds K fd ["program", "name"] [] := by
  obtain ⟨fd, F⟩ := W.says.def_ 34 (d := g_rows_of)
  exact ⟨fd, okF_rows_of n W F, FunD.bindsN F fun _ _ _ _ _ _ us hl => match us, hl with | [_, _], _ => rfl⟩
theorem okI_rows_of (W : Wd K mg) : FnI P w K mg base 1 ((dAd none "rows_of") K) 2 (e_rows_of n) := let ⟨_, F, B⟩ := ok_rows_of n W; FnI.of F B
theorem sc_condition_at : FnScope ["program", "place"] ["program", "place"] (defScope (topOf prog 34)) := ⟨rfl, rfl, rfl, by decide +kernel, rfl, by decide +kernel, by decide +kernel⟩
theorem okF_condition_at (W : Wd K mg) {fd : FuncData} (F : FunG K g_condition_at fd) : FnOk P w K mg base (L2.CX P w) 2 ((dAd none "condition_at") K) fd ["program", "place"] (spI K 2 (e_condition_at n)) := by
  refine fn_I (N := ["program", "place"]) (m := m_condition_at n) (k := 1) F sc_condition_at fun cdv A outer s H E co => ?_
  exact (ss_one (ss_ret (se_ix co.u1 (se_ix co.u1 (gcall (okI_rows_of n W) co W.glo_rows_of (W.kp_rows_of) (sa_cons (gvl 0).pe (sa_cons (se_ix co.u1 (gvl 1).pe se_int.pe).pe sa_nil))).pe (se_ix co.u1 (gvl 1).pe se_int.pe).pe).pe se_int.pe).pe))
theorem ok_condition_at (W : Wd K mg) : ∃ fd, FnOk P w K mg base (L2.CX P w) 2 ((dAd none "condition_at") K) fd ["program", "place"] (spI K 2 (e_condition_at n)) ∧ Binds K fd ["program", "place"] [] := by
  obtain ⟨fd, F⟩ := W.says.def_ 35 (d := g_condition_at)
  exact ⟨fd, okF_condition_at n W F, FunD.bindsN F fun _ _ _ _ _ _ us hl => match us, hl with | [_, _], _ => rfl⟩
theorem okI_condition_at (W : Wd K mg) : FnI P w K mg base 2 ((dAd none "condition_at") K) 2 (e_condition_at n) := let ⟨_, F, B⟩ := ok_condition_at n W; FnI.of F B
theorem sc_ready_place : FnScope ["program", "state", "place"] ["program", "state"] (defScope (topOf prog 48)) := ⟨rfl, rfl, rfl, by decide +kernel, rfl, by decide +kernel, by decide +kernel⟩
theorem okF_ready_place (W : Wd K mg) {fd : FuncData} (F : FunG K g_ready_place fd) : FnOk P w K mg base (L2.CX P w) 3 ((dAd none "ready_place") K) fd ["program", "state"] (spI K 2 (e_ready_place n)) := by
  refine fn_I (N := ["program", "state", "place"]) (m := m_ready_place n) (k := 2) F sc_ready_place fun cdv A outer s H E co => ?_
  exact (ss_cons (ss_for co.own co.calm (si_of (se_ix co.u1 (gvl 1).pe se_int.pe).pe) (ggl co 2)
    (ss_one (ss_if (gcall (okI_is_true n W) co W.glo_is_true (W.kp_is_true) (sa_cons (gcall (okI_condition_at n W) co W.glo_condition_at (W.kp_condition_at) (sa_cons (gvl 0).pe (sa_cons (gvl 2).pe sa_nil))).pe (sa_cons (gvl 1).pe sa_nil)))
    (ss_one (ss_ret (gvl 2).pe))
    ss_nil)))
    (ss_one (ss_ret se_non.pe)))
theorem ok_ready_place (W : Wd K mg) : ∃ fd, FnOk P w K mg base (L2.CX P w) 3 ((dAd none "ready_place") K) fd ["program", "state"] (spI K 2 (e_ready_place n)) ∧ Binds K fd ["program", "state"] [] := by
  obtain ⟨fd, F⟩ := W.says.def_ 36 (d := g_ready_place)
  exact ⟨fd, okF_ready_place n W F, FunD.bindsN F fun _ _ _ _ _ _ us hl => match us, hl with | [_, _], _ => rfl⟩
theorem okI_ready_place (W : Wd K mg) : FnI P w K mg base 3 ((dAd none "ready_place") K) 2 (e_ready_place n) := let ⟨_, F, B⟩ := ok_ready_place n W; FnI.of F B
theorem sc_without : FnScope ["state", "place", "one"] ["state", "place"] (defScope (topOf prog 46)) := ⟨rfl, rfl, rfl, by decide +kernel, rfl, by decide +kernel, by decide +kernel⟩
theorem okF_without (W : Wd K mg) {fd : FuncData} (F : FunG K g_without fd) : FnOk P w K mg base (L2.CX P w) 1 ((dAd none "without") K) fd ["state", "place"] (spI K 2 (e_without n)) := by
  refine fn_I (N := ["state", "place", "one"]) (m := m_without n) (k := 0) F sc_without fun cdv A outer s H E co => ?_
  exact (ss_one (ss_ret (se_tup (sa_cons (se_ix co.u1 (gvl 0).pe se_int.pe).pe (sa_cons (gTL call_tupleI (W.free_tuple) (by kernel_rfl) (SN.sl (sn_comp (t := (.one 2)) co.calm co.nd (si_of (se_ix co.u1 (gvl 0).pe se_int.pe).pe) (blkOk_by (own := [("one", 2)]) (by kernel_rfl)) (by decide) (fun _ _ _ _ _ => gt1 (co.blk _ _ _ _ _).nd 2) (fun _ _ _ _ _ => sts_one (se_cmp (op_neI (co.blk _ _ _ _ _).u64) (gvl 2).pe (gvc 1).pe)) (fun _ _ _ _ _ => (gvl 2).pe)))).pe sa_nil))).pe))
theorem ok_without (W : Wd K mg) : ∃ fd, FnOk P w K mg base (L2.CX P w) 1 ((dAd none "without") K) fd ["state", "place"] (spI K 2 (e_without n)) ∧ Binds K fd ["state", "place"] [] := by
  obtain ⟨fd, F⟩ := W.says.def_ 37 (d := g_without)
  exact ⟨fd, okF_without n W F, FunD.bindsN F fun _ _ _ _ _ _ us hl => match us, hl with | [_, _], _ => rfl⟩
theorem okI_without (W : Wd K mg) : FnI P w K mg base 1 ((dAd none "without") K) 2 (e_without n) := let ⟨_, F, B⟩ := ok_without n W; FnI.of F B
theorem sc_Loop_looked : FnScope ["self", "place"] ["self"] (defScope (inClass (topOf prog 50) 7)) := ⟨rfl, rfl, rfl, by decide +kernel, rfl, by decide +kernel, by decide +kernel⟩
theorem okF_Loop_looked (W : Wd K mg) {fd : FuncData} (F : FunG K g_Loop_looked fd) : FnOk P w K mg base (L2.CX P w) 4 ((dAd (some "Loop") "looked") K) fd ["self"] (spI K 1 (e_Loop_looked n)) := by
  refine fn_I (N := ["self", "place"]) (m := m_Loop_looked n) (k := 3) F sc_Loop_looked fun cdv A outer s H E co => ?_
  exact (ss_cons (gsl co 1 (gcall (okI_ready_place n W) co W.glo_ready_place (W.kp_ready_place) (sa_cons (se_fld W.fld_own_program (gvl 0).pe).pe (sa_cons (se_fld W.fld_own_state (gvl 0).pe).pe sa_nil))).pe)
    (ss_cons (ss_if (se_cmp op_isNotI (gvl 1).pe se_non.pe)
    (ss_cons (ss_fld W.fld_own_state (gvl 0).pe (gcall (okI_without n W) co W.glo_without (W.kp_without) (sa_cons (se_fld W.fld_own_state (gvl 0).pe).pe (sa_cons (gvl 1).pe sa_nil))).pe)
    (ss_one (ss_ret (se_tup (sa_cons (gvl 1).pe (sa_cons (SN.pf (sn_lst sa_nil)) sa_nil))).pe)))
    ss_nil)
    (ss_cons (ss_if (sw_or (se_cmp (op_eqI co.u64) (gB call_lenI (W.free_len) (by kernel_rfl) (sa_cons (se_fld W.fld_own_pile (gvl 0).pe).pe sa_nil)).pe se_int.pe) (sw_or1 (se_not (gcall (okI_is_true n W) co W.glo_is_true (W.kp_is_true) (sa_cons (gcall (okI_condition_at n W) co W.glo_condition_at (W.kp_condition_at) (sa_cons (se_fld W.fld_own_program (gvl 0).pe).pe (sa_cons (se_ix co.u1 (se_fld W.fld_own_pile (gvl 0).pe).pe (se_neg se_int.pe).pe).pe sa_nil))).pe (sa_cons (se_fld W.fld_own_state (gvl 0).pe).pe sa_nil)))))).se
    (ss_one (ss_ret (se_tup (sa_cons se_non.pe (sa_cons (SN.pf (sn_lst sa_nil)) sa_nil))).pe))
    ss_nil)
    (ss_cons (gsl co 1 (se_ix co.u1 (se_fld W.fld_own_pile (gvl 0).pe).pe (se_neg se_int.pe).pe).pe)
    (ss_cons (ss_fld W.fld_own_pile (gvl 0).pe (se_sl (se_fld W.fld_own_pile (gvl 0).pe).pe so_none (so_some (se_neg se_int.pe).pe)).pe)
    (ss_one (ss_ret (se_tup (sa_cons (gvl 1).pe (sa_cons (SN.pf (sn_lst (sa_cons (gstr W.str_ENDS).pe sa_nil))) sa_nil))).pe)))))))
theorem ok_Loop_looked (W : Wd K mg) : ∃ fd, FnOk P w K mg base (L2.CX P w) 4 ((dAd (some "Loop") "looked") K) fd ["self"] (spI K 1 (e_Loop_looked n)) ∧ Binds K fd ["self"] [] := by
  obtain ⟨fd, F⟩ := W.says.def_ 38 (d := g_Loop_looked)
  exact ⟨fd, okF_Loop_looked n W F, FunD.bindsN F fun _ _ _ _ _ _ us hl => match us, hl with | [_], _ => rfl⟩
theorem okI_Loop_looked (W : Wd K mg) : FnI P w K mg base 4 ((dAd (some "Loop") "looked") K) 1 (e_Loop_looked n) := let ⟨_, F, B⟩ := ok_Loop_looked n W; FnI.of F B
theorem sc_with_flag : FnScope ["state", "flag", "value", "others", "one"] ["state", "flag", "value"] (defScope (topOf prog 45)) := ⟨rfl, rfl, rfl, by decide +kernel, rfl, by decide +kernel, by decide +kernel⟩
theorem okF_with_flag (W : Wd K mg) {fd : FuncData} (F : FunG K g_with_flag fd) : FnOk P w K mg base (L2.CX P w) 1 ((dAd none "with_flag") K) fd ["state", "flag", "value"] (spI K 3 (e_with_flag n)) := by
  refine fn_I (N := ["state", "flag", "value", "others", "one"]) (m := m_with_flag n) (k := 0) F sc_with_flag fun cdv A outer s H E co => ?_
  exact (ss_cons (ss_setLcF (i := 3) (t := (.one 4)) co.calm co.nd (by kernel_rfl) (by kernel_rfl) (by kernel_rfl) (si_of (se_ix co.u1 (gvl 0).pe se_int.pe).pe) (blkOk_by (own := [("one", 4)]) (by kernel_rfl)) (by decide) (fun _ _ _ _ _ => gt1 (co.blk _ _ _ _ _).nd 4) (fun _ _ _ _ _ => sts_one (se_cmp (op_neI (co.blk _ _ _ _ _).u64) (gvl 4).pe (gvc 1).pe)) (fun _ _ _ _ _ => (gvl 4).pe))
    (ss_one (ss_ret (se_tup (sa_cons (gTL call_tupleI (W.free_tuple) (by kernel_rfl) (SN.sl (gsorted co (W.free_sorted) (sls_of (gif (gvl 2) (se_bin op_addI (gvl 3).pe (SN.pf (sn_lst (sa_cons (gvc 1).pe sa_nil)))).pe (gvl 3).pe))))).pe (sa_cons (se_ix co.u1 (gvl 0).pe se_int.pe).pe sa_nil))).pe)))
theorem ok_with_flag (W : Wd K mg) : ∃ fd, FnOk P w K mg base (L2.CX P w) 1 ((dAd none "with_flag") K) fd ["state", "flag", "value"] (spI K 3 (e_with_flag n)) ∧ Binds K fd ["state", "flag", "value"] [] := by
  obtain ⟨fd, F⟩ := W.says.def_ 39 (d := g_with_flag)
  exact ⟨fd, okF_with_flag n W F, FunD.bindsN F fun _ _ _ _ _ _ us hl => match us, hl with | [_, _, _], _ => rfl⟩
theorem okI_with_flag (W : Wd K mg) : FnI P w K mg base 1 ((dAd none "with_flag") K) 3 (e_with_flag n) := let ⟨_, F, B⟩ := ok_with_flag n W; FnI.of F B
theorem sc_run : FnScope ["program", "name", "at", "state", "rows", "words", "row", "place"] ["program", "name", "at", "state"] (defScope (topOf prog 47)) := ⟨rfl, rfl, rfl, by decide +kernel, rfl, by decide +kernel, by decide +kernel⟩
theorem okF_run (W : Wd K mg) {fd : FuncData} (F : FunG K g_run fd) : FnOk P w K mg base (L2.CX P w) 2 ((dAd none "run") K) fd ["program", "name", "at", "state"] (spI K 4 (e_run n)) := by
  refine fn_I (N := ["program", "name", "at", "state", "rows", "words", "row", "place"]) (m := m_run n) (k := 1) F sc_run fun cdv A outer s H E co => ?_
  exact (ss_cons (gpar2 (i := 4) (j := 5) co (by decide) (sa_cons (gcall (okI_rows_of n W) co W.glo_rows_of (W.kp_rows_of) (sa_cons (gvl 0).pe (sa_cons (gvl 1).pe sa_nil))).pe (sa_cons (SN.pe (sn_lst sa_nil)) sa_nil)))
    (ss_cons (ss_while co.own (se_cmp (op_ltI co.u64) (gvl 2).pe (gB call_lenI (W.free_len) (by kernel_rfl) (sa_cons (gvl 4).pe sa_nil)).pe)
    (ss_cons (gpar2 (i := 6) (j := 7) co (by decide) (sa_cons (se_ix co.u1 (gvl 4).pe (gvl 2).pe).pe (sa_cons (se_tup (sa_cons (gvl 1).pe (sa_cons (gvl 2).pe sa_nil))).pe sa_nil)))
    (ss_cons (gaug co 2 se_int.pe)
    (ss_one (ss_if (se_cmp (op_eqI co.u64) (se_ix co.u1 (gvl 6).pe se_int.pe).pe se_str.pe)
    (ss_one (gsl co 3 (gcall (okI_with_flag n W) co W.glo_with_flag (W.kp_with_flag) (sa_cons (gvl 3).pe (sa_cons (se_ix co.u1 (gvl 6).pe se_int.pe).pe (sa_cons (se_ix co.u1 (gvl 6).pe se_int.pe).pe sa_nil)))).pe))
    (ss_one (ss_if (se_cmp (op_eqI co.u64) (se_ix co.u1 (gvl 6).pe se_int.pe).pe se_str.pe)
    (ss_one (ss_expr (se_mL PySem.F.slot_list_append PySem.F.type_list_append mt_appendI (gvl 5).pe (sa_cons (se_ix co.u1 (gvl 6).pe se_int.pe).pe sa_nil)).pe))
    (ss_one (ss_if (se_cmp (op_eqI co.u64) (se_ix co.u1 (gvl 6).pe se_int.pe).pe se_str.pe)
    (ss_one (gaug co 2 (gif (gcall (okI_is_true n W) co W.glo_is_true (W.kp_is_true) (sa_cons (se_ix co.u1 (gvl 6).pe se_int.pe).pe (sa_cons (gvl 3).pe sa_nil))) (se_ix co.u1 (gvl 6).pe se_int.pe).pe se_int.pe)))
    (ss_one (ss_if (se_not (gcall (okI_is_true n W) co W.glo_is_true (W.kp_is_true) (sa_cons (se_ix co.u1 (gvl 6).pe se_int.pe).pe (sa_cons (gvl 3).pe sa_nil))))
    (ss_cons (ss_if (se_cmp (op_eqI co.u64) (se_ix co.u1 (gvl 6).pe se_int.pe).pe se_str.pe)
    (ss_one (ss_ret (se_tup (sa_cons (gvl 3).pe (sa_cons (pe_frz (gvl 5).pe) (sa_cons (gvl 7).pe (sa_cons se_non.pe sa_nil))))).pe))
    ss_nil)
    (ss_cons (ss_if (se_cmp (op_inI co.u65) (gvl 7).pe (se_ix co.u1 (gvl 3).pe se_int.pe).pe)
    (ss_one (ss_ret (se_tup (sa_cons (gvl 3).pe (sa_cons (pe_frz (gvl 5).pe) (sa_cons se_non.pe (sa_cons (gvl 7).pe sa_nil))))).pe))
    ss_nil)
    (ss_one (ss_ret (se_tup (sa_cons (se_tup (sa_cons (se_ix co.u1 (gvl 3).pe se_int.pe).pe (sa_cons (gTL call_tupleI (W.free_tuple) (by kernel_rfl) (SN.sl (gsorted co (W.free_sorted) (SN.sls (sn_lst (sa_star (sl_of (se_ix co.u1 (gvl 3).pe se_int.pe).pe) (sa_cons (gvl 7).pe sa_nil))))))).pe sa_nil))).pe (sa_cons (pe_frz (gvl 5).pe) (sa_cons se_non.pe (sa_cons se_non.pe sa_nil))))).pe))))
    ss_nil)))))))))))
    (ss_one (ss_ret (se_tup (sa_cons (gvl 3).pe (sa_cons (pe_frz (gvl 5).pe) (sa_cons se_non.pe (sa_cons se_non.pe sa_nil))))).pe))))
theorem ok_run (W : Wd K mg) : ∃ fd, FnOk P w K mg base (L2.CX P w) 2 ((dAd none "run") K) fd ["program", "name", "at", "state"] (spI K 4 (e_run n)) ∧ Binds K fd ["program", "name", "at", "state"] [] := by
  obtain ⟨fd, F⟩ := W.says.def_ 40 (d := g_run)
  exact ⟨fd, okF_run n W F, FunD.bindsN F fun _ _ _ _ _ _ us hl => match us, hl with | [_, _, _, _], _ => rfl⟩
theorem okI_run (W : Wd K mg) : FnI P w K mg base 2 ((dAd none "run") K) 4 (e_run n) := let ⟨_, F, B⟩ := ok_run n W; FnI.of F B
theorem sc_Loop_gone_on : FnScope ["self", "event", "spot", "marks", "place", "state", "words", "opened", "gone", "more"] ["self", "event"] (defScope (inClass (topOf prog 50) 8)) := ⟨rfl, rfl, rfl, by decide +kernel, rfl, by decide +kernel, by decide +kernel⟩
theorem okF_Loop_gone_on (W : Wd K mg) {fd : FuncData} (F : FunG K g_Loop_gone_on fd) : FnOk P w K mg base (L2.CX P w) 5 ((dAd (some "Loop") "gone_on") K) fd ["self", "event"] (spI K 2 (e_Loop_gone_on n)) := by
  refine fn_I (N := ["self", "event", "spot", "marks", "place", "state", "words", "opened", "gone", "more"]) (m := m_Loop_gone_on n) (k := 4) F sc_Loop_gone_on fun cdv A outer s H E co => ?_
  exact (ss_cons (ss_asg (gif (se_cmp op_isNotI (gvl 1).pe se_non.pe) (se_tup (sa_cons se_non.pe (sa_cons (SN.pf (sn_lst sa_nil)) sa_nil))).pe (se_meth0 (okI_Loop_looked n W) co (by decide) W.cls_Loop W.meth_Loop_looked (gvl 0).pe).pe) (sg_tup co.calm (sgs_cons (ggl co 2) (sgs_cons (ggl co 3) sgs_nil))) rfl (by kernel_rfl))
    (ss_cons (gsl co 4 (gif (se_cmp op_isNotI (gvl 1).pe se_non.pe) (se_tup (sa_cons (gvl 1).pe (sa_cons (se_neg se_int.pe).pe sa_nil))).pe (gvl 2).pe))
    (ss_cons (ss_while co.own (se_cmp op_isNotI (gvl 4).pe se_non.pe)
    (ss_cons (ss_asg (gcall (okI_run n W) co W.glo_run (W.kp_run) (sa_cons (se_fld W.fld_own_program (gvl 0).pe).pe (sa_cons (se_ix co.u1 (gvl 4).pe se_int.pe).pe (sa_cons (se_bin op_addI (se_ix co.u1 (gvl 4).pe se_int.pe).pe se_int.pe).pe (sa_cons (se_fld W.fld_own_state (gvl 0).pe).pe sa_nil))))).pe (sg_tup co.calm (sgs_cons (ggl co 5) (sgs_cons (ggl co 6) (sgs_cons (ggl co 7) (sgs_cons (ggl co 8) sgs_nil))))) rfl (by kernel_rfl))
    (ss_cons (ss_fld W.fld_own_state (gvl 0).pe (gvl 5).pe)
    (ss_cons (gsl co 3 (SN.pe (sn_lst (sa_star (sl_of (gvl 3).pe) (sa_star (sl_of (gvl 6).pe) sa_nil)))))
    (ss_cons (ss_if (se_cmp op_isNotI (gvl 8).pe se_non.pe)
    (ss_one (ss_fld W.fld_own_lost (gvl 0).pe (se_tup (sa_star (sl_of (se_fld W.fld_own_lost (gvl 0).pe).pe) (sa_cons (gvl 8).pe sa_nil))).pe))
    ss_nil)
    (ss_cons (ss_if (se_cmp op_isNotI (gvl 7).pe se_non.pe)
    (ss_cons (ss_fld W.fld_own_pile (gvl 0).pe (se_tup (sa_star (sl_of (se_fld W.fld_own_pile (gvl 0).pe).pe) (sa_cons (gvl 7).pe sa_nil))).pe)
    (ss_one (ss_expr (se_mL PySem.F.slot_list_append PySem.F.type_list_append mt_appendI (gvl 3).pe (sa_cons (gstr W.str_OPENS).pe sa_nil)).pe)))
    ss_nil)
    (ss_cons (ss_asg (se_meth0 (okI_Loop_looked n W) co (by decide) W.cls_Loop W.meth_Loop_looked (gvl 0).pe).pe (sg_tup co.calm (sgs_cons (ggl co 4) (sgs_cons (ggl co 9) sgs_nil))) rfl (by kernel_rfl))
    (ss_one (gsl co 3 (SN.pe (sn_lst (sa_star (sl_of (gvl 3).pe) (sa_star (sl_of (gvl 9).pe) sa_nil)))))))))))))
    (ss_one (ss_ret (gTL call_tupleI (W.free_tuple) (by kernel_rfl) (sl_of (gvl 3).pe)).pe)))))
theorem ok_Loop_gone_on (W : Wd K mg) : ∃ fd, FnOk P w K mg base (L2.CX P w) 5 ((dAd (some "Loop") "gone_on") K) fd ["self", "event"] (spI K 2 (e_Loop_gone_on n)) ∧ Binds K fd ["self", "event"] [] := by
  obtain ⟨fd, F⟩ := W.says.def_ 41 (d := g_Loop_gone_on)
  exact ⟨fd, okF_Loop_gone_on n W F, FunD.bindsN F fun _ _ _ _ _ _ us hl => match us, hl with | [_, _], _ => rfl⟩
theorem okI_Loop_gone_on (W : Wd K mg) : FnI P w K mg base 5 ((dAd (some "Loop") "gone_on") K) 2 (e_Loop_gone_on n) := let ⟨_, F, B⟩ := ok_Loop_gone_on n W; FnI.of F B
theorem sc_Loopzz_initzz : FnScope ["self", "program", "pile", "state"] ["self", "program", "pile", "state"] (defScope (inClass (topOf prog 50) 0)) := ⟨rfl, rfl, rfl, by decide +kernel, rfl, by decide +kernel, by decide +kernel⟩
theorem okF_Loopzz_initzz (W : Wd K mg) {fd : FuncData} (F : FunG K g_Loopzz_initzz fd) : FnOk P w K mg base (L2.CX P w) 6 ((dAd (some "Loop") "__init__") K) fd ["self", "program", "pile", "state"] (spI K 4 (e_Loopzz_initzz n)) := by
  refine fn_I (N := ["self", "program", "pile", "state"]) (m := m_Loopzz_initzz n) (k := 5) F sc_Loopzz_initzz fun cdv A outer s H E co => ?_
  exact (ss_cons (ss_expr (gcall (okI_need_program n W) co W.glo_need_program (W.kp_need_program) (sa_cons (gvl 1).pe sa_nil)).pe)
    (ss_cons (ss_expr (gcall (okI_need_pile n W) co W.glo_need_pile (W.kp_need_pile) (sa_cons (gvl 1).pe (sa_cons (gvl 2).pe sa_nil))).pe)
    (ss_cons (ss_expr (gcall (okI_need_state n W) co W.glo_need_state (W.kp_need_state) (sa_cons (gvl 1).pe (sa_cons (gvl 3).pe sa_nil))).pe)
    (ss_cons (ss_fld W.fld_own_program (gvl 0).pe (gvl 1).pe)
    (ss_cons (ss_fld W.fld_own_pile (gvl 0).pe (gTL call_tupleI (W.free_tuple) (by kernel_rfl) (sl_of (gvl 2).pe)).pe)
    (ss_cons (ss_fld W.fld_own_state (gvl 0).pe (gvl 3).pe)
    (ss_cons (ss_fld W.fld_own_lost (gvl 0).pe (se_tup sa_nil).pe)
    (ss_cons (ss_fld W.fld_own_past (gvl 0).pe (SN.pe (sn_lst sa_nil)))
    (ss_one (ss_fld W.fld_own_first (gvl 0).pe (se_meth (okI_Loop_gone_on n W) co (by decide) W.cls_Loop W.meth_Loop_gone_on (gvl 0).pe (sa_cons se_non.pe sa_nil)).pe))))))))))
theorem ok_Loopzz_initzz (W : Wd K mg) : ∃ fd, FnOk P w K mg base (L2.CX P w) 6 ((dAd (some "Loop") "__init__") K) fd ["self", "program", "pile", "state"] (spI K 4 (e_Loopzz_initzz n)) ∧ Binds K fd ["self", "program", "pile", "state"] [] := by
  obtain ⟨fd, F⟩ := W.says.def_ 42 (d := g_Loopzz_initzz)
  exact ⟨fd, okF_Loopzz_initzz n W F, (by obtain ⟨ds, hv, hb⟩ := FunD.binds1 (ps := ["self", "program", "pile", "state"]) F 4 2 (by intro z; cases z) rfl (fun T kV doc pm an cdv ct us its hl hi => match us, hl, its, hi with | [_, _, _, _], _, [_, _], _ => ⟨_, rfl, rfl⟩); cases hv; exact hb)⟩
theorem okI_Loopzz_initzz (W : Wd K mg) : FnI P w K mg base 6 ((dAd (some "Loop") "__init__") K) 4 (e_Loopzz_initzz n) := let ⟨_, F, B⟩ := ok_Loopzz_initzz n W; FnI.of F B
theorem sc_Loopzz_lenzz : FnScope ["self"] ["self"] (defScope (inClass (topOf prog 50) 6)) := ⟨rfl, rfl, rfl, by decide +kernel, rfl, by decide +kernel, by decide +kernel⟩
theorem okF_Loopzz_lenzz (W : Wd K mg) {fd : FuncData} (F : FunG K g_Loopzz_lenzz fd) : FnOk P w K mg base (L2.CX P w) 1 ((dAd (some "Loop") "__len__") K) fd ["self"] (spI K 1 (e_Loopzz_lenzz n)) := by
  refine fn_I (N := ["self"]) (m := m_Loopzz_lenzz n) (k := 0) F sc_Loopzz_lenzz fun cdv A outer s H E co => ?_
  exact (ss_one (ss_ret (gB call_lenI (W.free_len) (by kernel_rfl) (sa_cons (se_fld W.fld_own_pile (gvl 0).pe).pe sa_nil)).pe))
theorem ok_Loopzz_lenzz (W : Wd K mg) : ∃ fd, FnOk P w K mg base (L2.CX P w) 1 ((dAd (some "Loop") "__len__") K) fd ["self"] (spI K 1 (e_Loopzz_lenzz n)) ∧ Binds K fd ["self"] [] := by
  obtain ⟨fd, F⟩ := W.says.def_ 43 (d := g_Loopzz_lenzz)
  exact ⟨fd, okF_Loopzz_lenzz n W F, FunD.bindsN F fun _ _ _ _ _ _ us hl => match us, hl with | [_], _ => rfl⟩
theorem okI_Loopzz_lenzz (W : Wd K mg) : FnI P w K mg base 1 ((dAd (some "Loop") "__len__") K) 1 (e_Loopzz_lenzz n) := let ⟨_, F, B⟩ := ok_Loopzz_lenzz n W; FnI.of F B
theorem sc_Loop_state : FnScope ["self"] ["self"] (defScope (inClass (topOf prog 50) 3)) := ⟨rfl, rfl, rfl, by decide +kernel, rfl, by decide +kernel, by decide +kernel⟩
theorem okF_Loop_state (W : Wd K mg) {fd : FuncData} (F : FunG K g_Loop_state fd) : FnOk P w K mg base (L2.CX P w) 1 ((pAd "Loop" "state") K) fd ["self"] (spI K 1 (e_Loop_state n)) := by
  refine fn_I (N := ["self"]) (m := m_Loop_state n) (k := 0) F sc_Loop_state fun cdv A outer s H E co => ?_
  exact (ss_one (ss_ret (se_fld W.fld_own_state (gvl 0).pe).pe))
theorem ok_Loop_state (W : Wd K mg) : ∃ fd, FnOk P w K mg base (L2.CX P w) 1 ((pAd "Loop" "state") K) fd ["self"] (spI K 1 (e_Loop_state n)) ∧ Binds K fd ["self"] [] := by
  obtain ⟨fd, F⟩ := W.says.def_ 44 (d := g_Loop_state)
  exact ⟨fd, okF_Loop_state n W F, FunD.bindsN F fun _ _ _ _ _ _ us hl => match us, hl with | [_], _ => rfl⟩
theorem sc_Loop_pile : FnScope ["self"] ["self"] (defScope (inClass (topOf prog 50) 2)) := ⟨rfl, rfl, rfl, by decide +kernel, rfl, by decide +kernel, by decide +kernel⟩
theorem okF_Loop_pile (W : Wd K mg) {fd : FuncData} (F : FunG K g_Loop_pile fd) : FnOk P w K mg base (L2.CX P w) 1 ((pAd "Loop" "pile") K) fd ["self"] (spI K 1 (e_Loop_pile n)) := by
  refine fn_I (N := ["self"]) (m := m_Loop_pile n) (k := 0) F sc_Loop_pile fun cdv A outer s H E co => ?_
  exact (ss_one (ss_ret (se_fld W.fld_own_pile (gvl 0).pe).pe))
theorem ok_Loop_pile (W : Wd K mg) : ∃ fd, FnOk P w K mg base (L2.CX P w) 1 ((pAd "Loop" "pile") K) fd ["self"] (spI K 1 (e_Loop_pile n)) ∧ Binds K fd ["self"] [] := by
  obtain ⟨fd, F⟩ := W.says.def_ 45 (d := g_Loop_pile)
  exact ⟨fd, okF_Loop_pile n W F, FunD.bindsN F fun _ _ _ _ _ _ us hl => match us, hl with | [_], _ => rfl⟩
theorem sc__law_agree : FnScope ["_law_small", "_law_great", "_law_beneath", "_law_marks", "_law_others"] ["_law_small", "_law_great", "_law_beneath", "_law_marks", "_law_others"] (defScope (topOf prog 65)) := ⟨rfl, rfl, rfl, by decide +kernel, rfl, by decide +kernel, by decide +kernel⟩
theorem okF__law_agree (W : Wd K mg) {fd : FuncData} (F : FunG K g__law_agree fd) : FnOk P w K mg base (L2.CX P w) 3 ((dAd none "_law_agree") K) fd ["_law_small", "_law_great", "_law_beneath", "_law_marks", "_law_others"] (spI K 5 (e__law_agree n)) := by
  refine fn_I (N := ["_law_small", "_law_great", "_law_beneath", "_law_marks", "_law_others"]) (m := m__law_agree n) (k := 2) F sc__law_agree fun cdv A outer s H E co => ?_
  exact (ss_cons (ss_if (se_cmp (op_eqI co.u64) (gB (call_lenO (okI_Loopzz_lenzz n W) co (by decide) W.len_Loop.1 W.len_Loop.2) (W.free_len) (by kernel_rfl) (sa_cons (gvl 0).pe sa_nil)).pe se_int.pe)
    (ss_one (ss_ret (se_cmp (op_eqI co.u64) (se_sl (gvl 4).pe so_none (so_some (gB call_lenI (W.free_len) (by kernel_rfl) (sa_cons (gvl 3).pe sa_nil)).pe)).pe (gvl 3).pe).pe))
    ss_nil)
    (ss_one (ss_ret (sw_and (se_cmp (op_eqI co.u64) (gvl 3).pe (gvl 4).pe) (sw_and (se_cmp (op_eqI co.u64) (gprop (ok_Loop_state n W) co W.cls_Loop W.prop_Loop_state (gvl 1).pe).pe (gprop (ok_Loop_state n W) co W.cls_Loop W.prop_Loop_state (gvl 0).pe).pe) (sw_and1 (se_cmp (op_eqI co.u64) (gprop (ok_Loop_pile n W) co W.cls_Loop W.prop_Loop_pile (gvl 1).pe).pe (se_bin op_addI (gvl 2).pe (gprop (ok_Loop_pile n W) co W.cls_Loop W.prop_Loop_pile (gvl 0).pe).pe).pe)))).se.pe)))
theorem ok__law_agree (W : Wd K mg) : ∃ fd, FnOk P w K mg base (L2.CX P w) 3 ((dAd none "_law_agree") K) fd ["_law_small", "_law_great", "_law_beneath", "_law_marks", "_law_others"] (spI K 5 (e__law_agree n)) ∧ Binds K fd ["_law_small", "_law_great", "_law_beneath", "_law_marks", "_law_others"] [] := by
  obtain ⟨fd, F⟩ := W.says.def_ 46 (d := g__law_agree)
  exact ⟨fd, okF__law_agree n W F, FunD.bindsN F fun _ _ _ _ _ _ us hl => match us, hl with | [_, _, _, _, _], _ => rfl⟩
theorem okI__law_agree (W : Wd K mg) : FnI P w K mg base 3 ((dAd none "_law_agree") K) 5 (e__law_agree n) := let ⟨_, F, B⟩ := ok__law_agree n W; FnI.of F B
theorem sc_Loop_first : FnScope ["self"] ["self"] (defScope (inClass (topOf prog 50) 4)) := ⟨rfl, rfl, rfl, by decide +kernel, rfl, by decide +kernel, by decide +kernel⟩
theorem okF_Loop_first (W : Wd K mg) {fd : FuncData} (F : FunG K g_Loop_first fd) : FnOk P w K mg base (L2.CX P w) 1 ((pAd "Loop" "first") K) fd ["self"] (spI K 1 (e_Loop_first n)) := by
  refine fn_I (N := ["self"]) (m := m_Loop_first n) (k := 0) F sc_Loop_first fun cdv A outer s H E co => ?_
  exact (ss_one (ss_ret (se_fld W.fld_own_first (gvl 0).pe).pe))
theorem ok_Loop_first (W : Wd K mg) : ∃ fd, FnOk P w K mg base (L2.CX P w) 1 ((pAd "Loop" "first") K) fd ["self"] (spI K 1 (e_Loop_first n)) ∧ Binds K fd ["self"] [] := by
  obtain ⟨fd, F⟩ := W.says.def_ 47 (d := g_Loop_first)
  exact ⟨fd, okF_Loop_first n W F, FunD.bindsN F fun _ _ _ _ _ _ us hl => match us, hl with | [_], _ => rfl⟩
theorem sc_events_in : FnScope ["program", "state", "name", "handler"] ["program", "state"] (defScope (topOf prog 40)) := ⟨rfl, rfl, rfl, by decide +kernel, rfl, by decide +kernel, by decide +kernel⟩
theorem okF_events_in (W : Wd K mg) {fd : FuncData} (F : FunG K g_events_in fd) : FnOk P w K mg base (L2.CX P w) 2 ((dAd none "events_in") K) fd ["program", "state"] (spI K 2 (e_events_in n)) := by
  refine fn_I (N := ["program", "state", "name", "handler"]) (m := m_events_in n) (k := 1) F sc_events_in fun cdv A outer s H E co => ?_
  exact (ss_one (ss_ret (SN.pf (sn_compD (t := (.many [2, 3])) co.calm co.nd (fun _ => si_items (se_fld W.fld_own_handlers (gvl 0).pe).pe) (sf_items (se_fld W.fld_own_handlers (gvl 0).pe).pe) (blkOk_by (own := [("name", 2), ("handler", 3)]) (by kernel_rfl)) (by decide) (fun _ _ _ _ _ => gt2 (co.blk _ _ _ _ _).nd (co.blk _ _ _ _ _).calm 2 3) (fun _ _ _ _ _ => sts_one (gcall (okI_is_true n W) (co.blk _ _ _ _ _) W.glo_is_true (W.kp_is_true) (sa_cons (se_ix (co.blk _ _ _ _ _).u1 (gvl 3).pe se_int.pe).pe (sa_cons (gvc 1).pe sa_nil)))) (fun _ _ _ _ _ => (gvl 2).pe)))))
theorem ok_events_in (W : Wd K mg) : ∃ fd, FnOk P w K mg base (L2.CX P w) 2 ((dAd none "events_in") K) fd ["program", "state"] (spI K 2 (e_events_in n)) ∧ Binds K fd ["program", "state"] [] := by
  obtain ⟨fd, F⟩ := W.says.def_ 48 (d := g_events_in)
  exact ⟨fd, okF_events_in n W F, FunD.bindsN F fun _ _ _ _ _ _ us hl => match us, hl with | [_, _], _ => rfl⟩
theorem okI_events_in (W : Wd K mg) : FnI P w K mg base 2 ((dAd none "events_in") K) 2 (e_events_in n) := let ⟨_, F, B⟩ := ok_events_in n W; FnI.of F B
theorem sc_possible : FnScope ["program", "state"] ["program", "state"] (defScope (topOf prog 41)) := ⟨rfl, rfl, rfl, by decide +kernel, rfl, by decide +kernel, by decide +kernel⟩
theorem okF_possible (W : Wd K mg) {fd : FuncData} (F : FunG K g_possible fd) : FnOk P w K mg base (L2.CX P w) 5 ((dAd none "possible") K) fd ["program", "state"] (spI K 2 (e_possible n)) := by
  refine fn_I (N := ["program", "state"]) (m := m_possible n) (k := 4) F sc_possible fun cdv A outer s H E co => ?_
  exact (ss_cons (ss_expr (gcall (okI_need_state n W) co W.glo_need_state (W.kp_need_state) (sa_cons (gvl 0).pe (sa_cons (gvl 1).pe sa_nil))).pe)
    (ss_one (ss_ret (gTL call_tupleI (W.free_tuple) (by kernel_rfl) (sl_of (gcall (okI_events_in n W) co W.glo_events_in (W.kp_events_in) (sa_cons (gvl 0).pe (sa_cons (gvl 1).pe sa_nil))).pe)).pe)))
theorem ok_possible (W : Wd K mg) : ∃ fd, FnOk P w K mg base (L2.CX P w) 5 ((dAd none "possible") K) fd ["program", "state"] (spI K 2 (e_possible n)) ∧ Binds K fd ["program", "state"] [] := by
  obtain ⟨fd, F⟩ := W.says.def_ 49 (d := g_possible)
  exact ⟨fd, okF_possible n W F, FunD.bindsN F fun _ _ _ _ _ _ us hl => match us, hl with | [_, _], _ => rfl⟩
theorem okI_possible (W : Wd K mg) : FnI P w K mg base 5 ((dAd none "possible") K) 2 (e_possible n) := let ⟨_, F, B⟩ := ok_possible n W; FnI.of F B
theorem sc_Program_names : FnScope ["self"] ["self"] (defScope (inClass (topOf prog 31) 2)) := ⟨rfl, rfl, rfl, by decide +kernel, rfl, by decide +kernel, by decide +kernel⟩
theorem okF_Program_names (W : Wd K mg) {fd : FuncData} (F : FunG K g_Program_names fd) : FnOk P w K mg base (L2.CX P w) 1 ((pAd "Program" "names") K) fd ["self"] (spI K 1 (e_Program_names n)) := by
  refine fn_I (N := ["self"]) (m := m_Program_names n) (k := 0) F sc_Program_names fun cdv A outer s H E co => ?_
  exact (ss_one (ss_ret (gTy (call_tupDI co.calm) (W.free_tuple) (by kernel_rfl) (sa_cons (se_fld W.fld_own_handlers (gvl 0).pe).pe sa_nil)).pe))
theorem ok_Program_names (W : Wd K mg) : ∃ fd, FnOk P w K mg base (L2.CX P w) 1 ((pAd "Program" "names") K) fd ["self"] (spI K 1 (e_Program_names n)) ∧ Binds K fd ["self"] [] := by
  obtain ⟨fd, F⟩ := W.says.def_ 50 (d := g_Program_names)
  exact ⟨fd, okF_Program_names n W F, FunD.bindsN F fun _ _ _ _ _ _ us hl => match us, hl with | [_], _ => rfl⟩
theorem sc_Loopzz_callzz : FnScope ["self", "event"] ["self", "event"] (defScope (inClass (topOf prog 50) 9)) := ⟨rfl, rfl, rfl, by decide +kernel, rfl, by decide +kernel, by decide +kernel⟩
theorem okF_Loopzz_callzz (W : Wd K mg) {fd : FuncData} (F : FunG K g_Loopzz_callzz fd) : FnOk P w K mg base (L2.CX P w) 6 ((dAd (some "Loop") "__call__") K) fd ["self", "event"] (spI K 2 (e_Loopzz_callzz n)) := by
  refine fn_I (N := ["self", "event"]) (m := m_Loopzz_callzz n) (k := 5) F sc_Loopzz_callzz fun cdv A outer s H E co => ?_
  exact (ss_cons (ss_if (sw_or (se_not (gisi .str W.ity (W.free_isinstance) (W.free_str) (gvl 1).pe)) (sw_or1 (se_cmp (op_notInI co.u65) (gvl 1).pe (gprop (ok_Program_names n W) co W.cls_Program W.prop_Program_names (se_fld W.fld_own_program (gvl 0).pe).pe).pe))).se
    (ss_one ss_no)
    ss_nil)
    (ss_cons (ss_if (se_cmp (op_notInI co.u65) (gvl 1).pe (gcall (okI_events_in n W) co W.glo_events_in (W.kp_events_in) (sa_cons (se_fld W.fld_own_program (gvl 0).pe).pe (sa_cons (se_fld W.fld_own_state (gvl 0).pe).pe sa_nil))).pe)
    (ss_one ss_no)
    ss_nil)
    (ss_cons (ss_expr (se_mL PySem.F.slot_list_append PySem.F.type_list_append mt_appendI (se_fld W.fld_own_past (gvl 0).pe).pe (sa_cons (se_tup (sa_cons (gvl 1).pe (sa_cons (se_fld W.fld_own_pile (gvl 0).pe).pe (sa_cons (se_fld W.fld_own_state (gvl 0).pe).pe (sa_cons (se_fld W.fld_own_lost (gvl 0).pe).pe sa_nil))))).pe sa_nil)).pe)
    (ss_one (ss_ret (se_meth (okI_Loop_gone_on n W) co (by decide) W.cls_Loop W.meth_Loop_gone_on (gvl 0).pe (sa_cons (gvl 1).pe sa_nil)).pe)))))
theorem ok_Loopzz_callzz (W : Wd K mg) : ∃ fd, FnOk P w K mg base (L2.CX P w) 6 ((dAd (some "Loop") "__call__") K) fd ["self", "event"] (spI K 2 (e_Loopzz_callzz n)) ∧ Binds K fd ["self", "event"] [] := by
  obtain ⟨fd, F⟩ := W.says.def_ 51 (d := g_Loopzz_callzz)
  exact ⟨fd, okF_Loopzz_callzz n W F, FunD.bindsN F fun _ _ _ _ _ _ us hl => match us, hl with | [_, _], _ => rfl⟩
theorem okI_Loopzz_callzz (W : Wd K mg) : FnI P w K mg base 6 ((dAd (some "Loop") "__call__") K) 2 (e_Loopzz_callzz n) := let ⟨_, F, B⟩ := ok_Loopzz_callzz n W; FnI.of F B
theorem sc_law : FnScope ["_law_script", "_law_draw", "_law_turn", "_law_plan_here", "_law_made_here", "_law_waits", "_law_upper", "_law_here", "_law_high", "_law_beneath", "_law_small", "_law_great", "_law_lap", "_law_some", "_law_deed", "_law_k"] ["_law_script"] (defScope (topOf prog 66)) := ⟨rfl, rfl, rfl, by decide +kernel, rfl, by decide +kernel, by decide +kernel⟩
theorem okF_law (W : Wd K mg) {fd : FuncData} (F : FunG K g_law fd) : FnOk P w K mg base (L2.CX P w) 8 ((dAd none "law") K) fd ["_law_script"] (spI K 1 (e_law n)) := by
  refine fn_I (N := ["_law_script", "_law_draw", "_law_turn", "_law_plan_here", "_law_made_here", "_law_waits", "_law_upper", "_law_here", "_law_high", "_law_beneath", "_law_small", "_law_great", "_law_lap", "_law_some", "_law_deed", "_law_k"]) (m := m_law n) (k := 7) F sc_law fun cdv A outer s H E co => ?_
  exact (ss_cons (gsc co 1 (gcall (okI__law_begin n W) co W.glo__law_begin (W.kp__law_begin) (sa_cons (gvl 0).pe sa_nil)).pe)
    (ss_cons (ss_for co.own co.calm (grange1 (W.free_range) (sa_cons (se_bin op_addI se_int.pe (gB (call_minI co.calm) (W.free_min) (by kernel_rfl) (sa_cons (gB call_lenI (W.free_len) (by kernel_rfl) (sa_cons (gvl 0).pe sa_nil)).pe (sa_cons se_int.pe sa_nil))).pe).pe sa_nil)) (ggl co 2)
    (ss_cons (gsl co 3 (gcall (okI__law_plan n W) co W.glo__law_plan (W.kp__law_plan) (sa_cons (gvc 1).pe (sa_cons se_int.pe (sa_cons se_int.pe (sa_cons se_int.pe (sa_cons se_int.pe sa_nil)))))).pe)
    (ss_cons (ss_asg (se_tup (sa_cons (gcall (okI__law_made n W) co W.glo__law_made (W.kp__law_made) (sa_cons (gvl 3).pe sa_nil)).pe (sa_cons (gcall (okI__law_places n W) co W.glo__law_places (W.kp__law_places) (sa_cons (gvl 3).pe (sa_cons se_str.pe sa_nil))).pe sa_nil))).pe (sg_tup co.calm (sgs_cons (ggl co 4) (sgs_cons (ggc co 5) sgs_nil))) rfl (by kernel_rfl))
    (ss_cons (ss_if (se_cmp (op_eqI co.u64) (gvc 5).pe (SN.pf (sn_lst sa_nil)))
    (ss_one ss_cnt)
    ss_nil)
    (ss_cons (ss_setLcF (i := 6) (t := (.one 15)) co.calm co.nd (by kernel_rfl) (by kernel_rfl) (by kernel_rfl) (grange1 (W.free_range) (sa_cons (se_bin op_addI se_int.pe (gcall (okI__law_take n W) co W.glo__law_take (W.kp__law_take) (sa_cons (gvc 1).pe (sa_cons se_int.pe sa_nil))).pe).pe sa_nil)) (blkOk_by (own := [("_law_k", 15)]) (by kernel_rfl)) (by decide) (fun _ _ _ _ _ => gt1 (co.blk _ _ _ _ _).nd 15) (fun _ _ _ _ _ => sts_nil) (fun _ _ _ _ _ => (gcall (okI__law_pick n W) (co.blk _ _ _ _ _) W.glo__law_pick (W.kp__law_pick) (sa_cons (gvc 1).pe (sa_cons (gvc 5).pe sa_nil))).pe))
    (ss_cons (gpar2 (i := 7) (j := 8) co (by decide) (sa_cons (gcall (okI__law_any_state n W) co W.glo__law_any_state (W.kp__law_any_state) (sa_cons (gvc 1).pe (sa_cons (gvl 3).pe sa_nil))).pe (sa_cons (se_bin op_addI se_int.pe (gcall (okI__law_take n W) co W.glo__law_take (W.kp__law_take) (sa_cons (gvc 1).pe (sa_cons se_int.pe sa_nil))).pe).pe sa_nil)))
    (ss_cons (gsl co 9 (gTL call_tupleI (W.free_tuple) (by kernel_rfl) (SN.sl (sn_comp (t := (.one 15)) co.calm co.nd (grange1 (W.free_range) (sa_cons (gvl 8).pe sa_nil)) (blkOk_by (own := [("_law_k", 15)]) (by kernel_rfl)) (by decide) (fun _ _ _ _ _ => gt1 (co.blk _ _ _ _ _).nd 15) (fun _ _ _ _ _ => sts_nil) (fun _ _ _ _ _ => (gcall (okI__law_pick n W) (co.blk _ _ _ _ _) W.glo__law_pick (W.kp__law_pick) (sa_cons (gvc 1).pe (sa_cons (gvc 5).pe sa_nil))).pe)))).pe)
    (ss_cons (gpar2 (i := 10) (j := 11) co (by decide) (sa_cons (gmake (okI_Loopzz_initzz n W) co W.mk_Loop W.glo_Loop (sa_cons (gvl 4).pe (sa_cons (gvl 6).pe (sa_cons (gvl 7).pe sa_nil)))).pe (sa_cons (gmake (okI_Loopzz_initzz n W) co W.mk_Loop W.glo_Loop (sa_cons (gvl 4).pe (sa_cons (se_bin op_addI (SN.pf (gnT call_listI (W.free_list) (by kernel_rfl) (sl_of (gvl 9).pe))) (gvl 6).pe).pe (sa_cons (gvl 7).pe sa_nil)))).pe sa_nil)))
    (ss_cons (ss_if (se_not (gcall (okI__law_agree n W) co W.glo__law_agree (W.kp__law_agree) (sa_cons (gvl 10).pe (sa_cons (gvl 11).pe (sa_cons (gvl 9).pe (sa_cons (gprop (ok_Loop_first n W) co W.cls_Loop W.prop_Loop_first (gvl 10).pe).pe (sa_cons (gprop (ok_Loop_first n W) co W.cls_Loop W.prop_Loop_first (gvl 11).pe).pe sa_nil)))))))
    (ss_one (ss_ret se_bl.pe))
    ss_nil)
    (ss_one (ss_for co.own co.calm (grange1 (W.free_range) (sa_cons (gcall (okI__law_take n W) co W.glo__law_take (W.kp__law_take) (sa_cons (gvc 1).pe (sa_cons se_int.pe sa_nil))).pe sa_nil)) (ggl co 12)
    (ss_cons (gsl co 13 (gcall (okI_possible n W) co W.glo_possible (W.kp_possible) (sa_cons (gvl 4).pe (sa_cons (gprop (ok_Loop_state n W) co W.cls_Loop W.prop_Loop_state (gvl 10).pe).pe sa_nil))).pe)
    (ss_cons (ss_if (sw_or (se_cmp (op_eqI co.u64) (gB call_lenI (W.free_len) (by kernel_rfl) (sa_cons (gvl 13).pe sa_nil)).pe se_int.pe) (sw_or1 (se_cmp (op_eqI co.u64) (gB (call_lenO (okI_Loopzz_lenzz n W) co (by decide) W.len_Loop.1 W.len_Loop.2) (W.free_len) (by kernel_rfl) (sa_cons (gvl 10).pe sa_nil)).pe se_int.pe))).se
    (ss_one ss_brk)
    ss_nil)
    (ss_cons (gsl co 14 (gcall (okI__law_pick n W) co W.glo__law_pick (W.kp__law_pick) (sa_cons (gvc 1).pe (sa_cons (gvl 13).pe sa_nil))).pe)
    (ss_one (ss_if (se_not (gcall (okI__law_agree n W) co W.glo__law_agree (W.kp__law_agree) (sa_cons (gvl 10).pe (sa_cons (gvl 11).pe (sa_cons (gvl 9).pe (sa_cons (se_callO (okI_Loopzz_callzz n W) co (by decide) W.call_Loop (gvl 10).pe (sa_cons (gvl 14).pe sa_nil)).pe (sa_cons (se_callO (okI_Loopzz_callzz n W) co (by decide) W.call_Loop (gvl 11).pe (sa_cons (gvl 14).pe sa_nil)).pe sa_nil)))))))
    (ss_one (ss_ret se_bl.pe))
    ss_nil))))))))))))))))
    (ss_one (ss_ret se_bl.pe))))
end
end Gn
set_option Elab.async false
set_option linter.all false
set_option maxRecDepth 100000
set_option maxHeartbeats 0
namespace Gn
open PySem L2 He VI
section
open PySem.W HandSHeadRun
/-- what the top's run shows of itself, and what the hook sees of it -/
def RunA (r : OpenRow) (q : Program) (M : Nat) (loose : List PySem.Str) (w : World) : Prop :=
  ∀ os : OsState, Option.map (fun s => (looksF r.prog (boot_heap w.params) s.abs, seenQ q loose (importedModules r.prog.main.body) (fun s => xlAt q [] s && recOk r.toRowW.records s) s.abs)) (endF (stepQ (denQ tabQ) r.prog w) M r.prog w os) = some (true, openGood q loose)
def RunB (r : OpenRow) (H : Hook) (o : SharedT → H.α) (M : Nat) (w : World) : Prop :=
  ∀ os : OsState, Option.map o (endF (stepQ (denQ tabQ) r.prog w) M r.prog w os) = some (H.val w)
theorem run_both {r : OpenRow} {q : Program} {H : Hook} {o : SharedT → H.α} {M : Nat} {loose : List PySem.Str} {w : World} (a : RunA r q M loose w) (b : RunB r H o M w) : RunEq r q H o M loose w := by
  intro os
  have a1 := a os
  have b1 := b os
  generalize endF (stepQ (denQ tabQ) r.prog w) M r.prog w os = x at a1 b1 ⊢
  cases x with
  | none => cases a1
  | some v =>
    have a2 := Option.some.inj a1
    have b2 := Option.some.inj b1
    obtain ⟨a3, a4⟩ := Prod.mk.inj a2
    show some (_, _, _) = _
    rw [a3, a4, b2]
end
def lawAt : Nat := 66
abbrev Rw : PySem.W.OpenRow := PySem.W.OpenLaw.row PySem.Challenge.rw_innerloops_k18_whole_the_top_alone_matte
abbrev hk : PySem.W.Hook := hookG 5 ex dg
def ob (s : PySem.W.SharedT) : AlG := obsH 5 ex dg (HandSHeadRun.getT s)
theorem ob_eq (s : PySem.W.SharedT) : ob s = hk.obs s.abs := obsH_eq (HandSHeadRun.getT_eq s)
theorem runA (w : World) : RunA Rw (PySem.W.view Rw.prog [lawAt]) 6000 (namesS prog) w := fun os => by kernel_rfl
theorem runB (w : World) : RunB Rw hk ob 6000 w := fun os => by kernel_rfl
theorem run (w : World) : HandSHeadRun.RunEq Rw (PySem.W.view Rw.prog [lawAt]) hk ob 6000 (namesS prog) w := run_both (runA w) (runB w)
theorem law_fn {P : Program} {w : World} {K : PySem.W.Frag} {h : Heap} {mg : Str → Option Value} {f : Addr} (X : K.In h) (G : h.Ns mainGlobals mg) (hf : mg "law" = some (.ref f)) (c : SaysG ex dg K) :
    ∃ fd : FuncData, (∀ (s : Shared) (v : Value), BindsTo s fd ⟨[v], []⟩ [("_law_script", v)]) ∧ ∀ base : Heap, FnOk P w K mg base (L2.CX P w) 8 f fd ["_law_script"] (fun vs H Q E => ∃ n, spI K 1 (e_law n) vs H Q E) := by
  have W : Wd K mg := ⟨c, h, X, G⟩
  obtain ⟨fd, F⟩ := c.def_ 52 (d := g_law)
  have e := hf.symm.trans W.glo_law
  cases e
  have b := FunD.bindsA (ps := ["_law_script"]) F fun _ _ _ _ _ _ us hl => match us, hl with | [_], _ => rfl
  exact ⟨fd, fun s v => b s [v] rfl, fun base => FnOk.any fun n => okF_law n W F⟩
end Gn
open PySem PySem.W PySem.Calls PyProof.Rows in
theorem Gn.holds_of (hl : ∀ ns : List Int, ns.length ≤ 63 → ∃ n S', Gn.e_law n [.sc (ns.map VI.U.int)] VI.S0 = .ok (.bl true) S') : PySem.Challenge.rw_innerloops_k18_whole_the_top_alone_matte.Holds := by
  w_on; o_law
  refine HandSHeadRun.head_any (r := OpenLaw.row PySem.Challenge.rw_innerloops_k18_whole_the_top_alone_matte) (q := view (OpenLaw.row PySem.Challenge.rw_innerloops_k18_whole_the_top_alone_matte).prog [Gn.lawAt]) (H := Gn.hk) (ob := Gn.ob) (M := 6000) (loose := VI.namesS Gn.prog) (d := HandSHeadRun.topDef (OpenLaw.row PySem.Challenge.rw_innerloops_k18_whole_the_top_alone_matte).prog Gn.lawAt) (kwd := []) Gn.ob_eq
    (by kernel_rfl) (fun s => by kernel_rfl) Gn.run (by kernel_rfl) (by kernel_rfl) (by kernel_rfl) (by rfl) (by first | assumption | decide +kernel) (by decide +kernel) ⟨rfl, rfl, rfl, rfl, rfl, by decide +kernel⟩ ?hw ?hc
  case hw => w_witness2
  case hc =>
    refine L2.walk_ofE (l := PySem.Challenge.rw_innerloops_k18_whole_the_top_alone_matte) (n := 63) (k := 8) (x := "_law_script") (CX := fun o H s E e s' => ∃ w, L2.CX PySem.Challenge.rw_innerloops_k18_whole_the_top_alone_matte.prog w o H s E e s') rfl (by decide) (by kernel_rfl) ⟨rfl, by decide, by decide⟩ ?F (fun _ _ _ _ z => z.elim fun _ z => VI.CX.never z)
    intro w mg fa h Y G hmg0
    obtain ⟨K, KX, c⟩ := Y
    have hmg : mg ("law" : PySem.Str) = some (.ref fa) := by
      have e : (HandSHeadRun.topDef (OpenLaw.row PySem.Challenge.rw_innerloops_k18_whole_the_top_alone_matte).prog Gn.lawAt).name = ("law" : PySem.Str) := by kernel_rfl
      rw [← e]
      exact hmg0
    obtain ⟨fd, hb, hF⟩ := Gn.law_fn (P := (PySem.Challenge.rw_innerloops_k18_whole_the_top_alone_matte).prog) (w := w) KX G hmg c
    exact ⟨K, fd, _, KX, hb, fun H a ns hn hO hS => VI.start_ok hO hS (hl ns hn), fun base _ _ => ⟨(hF base).len, fun A outer s H args us vs Q E hr he hbd hv hs => codeAny_mono ((hF base).run A outer s H args us vs Q E hr he hbd hv hs) fun r s' z => by
      cases r with
      | error e => exact ⟨w, z⟩
      | ok f => cases f <;> exact z⟩⟩
set_option Elab.async false
set_option linter.all false
set_option maxRecDepth 100000
set_option maxHeartbeats 1000000
namespace VI
open PySem
def Ok {α : Type} (r : R α) (Q : α → Sto → Prop) : Prop := match r with
  | .ok a S => Q a S
  | _ => False
@[simp] theorem Ok.ok {α : Type} {a : α} {S : Sto} {Q : α → Sto → Prop} : Ok (.ok a S) Q = Q a S := rfl
@[simp] theorem Ok.no {α : Type} {Q : α → Sto → Prop} : Ok (.no : R α) Q = False := rfl
@[simp] theorem Ok.bind_eq {α β : Type} {r : R α} {f : α → Sto → R β} {Q : β → Sto → Prop} : Ok (r.bind f) Q = Ok r fun a S => Ok (f a S) Q := by cases r <;> rfl
theorem Ok.imp {α : Type} {r : R α} {P Q : α → Sto → Prop} (h : Ok r P) (k : ∀ a S, P a S → Q a S) : Ok r Q := by
  cases r with
  | ok a S => exact k a S h
  | exc => exact h
  | no => exact h
theorem Ok.get {α : Type} {r : R α} {Q : α → Sto → Prop} (h : Ok r Q) : ∃ a S, r = .ok a S ∧ Q a S := by
  cases r with
  | ok a S => exact ⟨a, S, rfl, h⟩
  | exc => exact h.elim
  | no => exact h.elim
def onB {α : Type} (u : U) (f : Bool → R α) : R α := match u with
  | .bl k => f k
  | _ => .no
@[simp] theorem onB_bl {α : Type} {k : Bool} {f : Bool → R α} : onB (.bl k) f = f k := rfl
def onF (f : Fl) (S : Sto) (g : Env → R Fl) : R Fl := match f with
  | .nx e => g e
  | f => .ok f S
@[simp] theorem onF_nx {e : Env} {S : Sto} {g : Env → R Fl} : onF (.nx e) S g = g e := rfl
@[simp] theorem onF_rt {u : U} {S : Sto} {g : Env → R Fl} : onF (.rt u) S g = .ok (.rt u) S := rfl
@[simp] theorem onF_bk {e : Env} {S : Sto} {g : Env → R Fl} : onF (.bk e) S g = .ok (.bk e) S := rfl
@[simp] theorem onF_ct {e : Env} {S : Sto} {g : Env → R Fl} : onF (.ct e) S g = .ok (.ct e) S := rfl
def onO {α β : Type} (o : Option α) (f : α → R β) : R β := match o with
  | some a => f a
  | none => .no
@[simp] theorem onO_some {α β : Type} {a : α} {f : α → R β} : onO (some a) f = f a := rfl
@[simp] theorem onO_none {α β : Type} {f : α → R β} : onO none f = .no := rfl
def gd {α : Type} (p : Prop) [Decidable p] (r : R α) : R α := if p then r else .no
theorem gd_pos {α : Type} {p : Prop} [Decidable p] {r : R α} (h : p) : gd p r = r := if_pos h
@[simp] theorem gd_true {α : Type} {r : R α} : gd True r = r := rfl
@[simp] theorem Ok.gd {α : Type} {p : Prop} [Decidable p] {r : R α} {Q : α → Sto → Prop} : Ok (gd p r) Q = (p ∧ Ok r Q) := by
  unfold VI.gd
  split
  · rename_i h; simp [h]
  · rename_i h; simp [h]
section
variable {env : Env} {S : Sto} {a b c m mo : ME} {ms : MA} {u w : U} {us ws : List U}
@[simp] theorem q_var {i : Nat} : xVar i env S = onO (env[i]?.join) (fun u => .ok u S) := by
  unfold xVar
  cases env[i]? with
  | none => rfl
  | some o => cases o <;> rfl
@[simp] theorem q_c : xC u env S = .ok u S := rfl
@[simp] theorem q_2 {g : U → U → Sto → R U} : x2 g a b env S = (a env S).bind fun u S1 => (b env S1).bind fun w S2 => g u w S2 := rfl
@[simp] theorem q_1 {g : U → Sto → R U} : x1 g a env S = (a env S).bind fun u S1 => g u S1 := rfl
@[simp] theorem q_anil : aNil env S = .ok [] S := rfl
@[simp] theorem q_acons : aCons a ms env S = (a env S).bind fun u S1 => (ms env S1).bind fun us S2 => .ok (u :: us) S2 := rfl
@[simp] theorem q_astar {ma : MA} : aStar ma ms env S = (ma env S).bind fun us S1 => (ms env S1).bind fun ws S2 => .ok (us ++ ws) S2 := rfl
@[simp] theorem q_lim : lim ms env S = (ms env S).bind fun us S1 => gd (us.length ≤ sizeLine) (.ok us S1) := rfl
@[simp] theorem q_tup : xTup ms env S = (ms env S).bind fun us S1 => gd (us.length ≤ sizeLine) (.ok (.tup us) S1) := rfl
@[simp] theorem q_new : xNew ms env S = (ms env S).bind fun us S1 => .ok (.ref S1.objs.length) (S1.push (.lst us)) := rfl
@[simp] theorem q_newF : xNewF ms env S = (ms env S).bind fun us S1 => .ok (.fl us) S1 := rfl
@[simp] theorem q_B {g : List U → Sto → R U} : xB g ms env S = (ms env S).bind fun us S1 => g us S1 := rfl
@[simp] theorem q_nB {g : List U → Sto → R (List U)} : nB g ms env S = (ms env S).bind fun us S1 => g us S1 := rfl
@[simp] theorem q_call {np : Nat} {ev : List U → Sto → R U} : xCall np ev ms env S = (ms env S).bind fun us S1 => gd (us.length = np) (ev us S1) := rfl
@[simp] theorem q_bOf : bOf m env S = (m env S).bind fun u S1 => onB u fun k => .ok k S1 := rfl
@[simp] theorem q_if : xIf c a b env S = (c env S).bind fun u S1 => onB u fun k => if k = true then a env S1 else b env S1 := by
  unfold xIf onB
  congr 1
  funext u S1
  cases u with
  | bl k => cases k <;> rfl
  | _ => rfl
@[simp] theorem q_and : xAnd a b env S = (a env S).bind fun u S1 => onB u fun k => if k = true then b env S1 else .ok (.bl false) S1 := by
  unfold xAnd onB
  congr 1
  funext u S1
  cases u with
  | bl k => cases k <;> rfl
  | _ => rfl
@[simp] theorem q_or : xOr a b env S = (a env S).bind fun u S1 => onB u fun k => if k = true then .ok (.bl true) S1 else b env S1 := by
  unfold xOr onB
  congr 1
  funext u S1
  cases u with
  | bl k => cases k <;> rfl
  | _ => rfl
@[simp] theorem q_not : xNot a env S = (a env S).bind fun u S1 => onB u fun k => .ok (.bl (!k)) S1 := by
  unfold xNot onB
  congr 1
@[simp] theorem q_chain {g g' : U → U → Sto → R U} : xChain g g' a b c env S = (a env S).bind fun u S1 => (b env S1).bind fun w S2 => (g u w S2).bind fun k S3 => onB k fun t => if t = true then (c env S3).bind fun z S4 => g' w z S4 else .ok (.bl false) S3 := by
  unfold xChain onB
  congr 1; funext u S1; congr 1; funext w S2; congr 1; funext k S3
  cases k with
  | bl t => cases t <;> rfl
  | _ => rfl
@[simp] theorem q_lOf : lOf m env S = (m env S).bind fun u S1 => onO (seqU u S1) fun us => .ok us S1 := by
  unfold lOf onO
  congr 1; funext u S1
  cases seqU u S1 <;> rfl
@[simp] theorem q_lstOf : lstOf m env S = (m env S).bind fun u S1 => onO (plU u S1) fun us => .ok us S1 := by
  unfold lstOf onO
  congr 1; funext u S1
  cases plU u S1 <;> rfl
@[simp] theorem q_d0 : xD0 env S = .ok (.ref S.objs.length) (S.push (.dct [])) := rfl
@[simp] theorem q_d0F : xD0F env S = .ok (.fd []) S := rfl
@[simp] theorem q_sl {lo hi : MO} : xSl m lo hi env S = (m env S).bind fun u S1 => (lo env S1).bind fun l S2 => (hi env S2).bind fun h S3 => slU u l h S3 := rfl
@[simp] theorem q_onone : oNone env S = .ok none S := rfl
def onI {α : Type} (u : U) (f : Int → R α) : R α := match u with
  | .int i => f i
  | _ => .no
@[simp] theorem onI_int {α : Type} {i : Int} {f : Int → R α} : onI (.int i) f = f i := rfl
@[simp] theorem q_osome : oSome m env S = (m env S).bind fun u S1 => onI u fun i => .ok (some i) S1 := rfl
@[simp] theorem q_fld {tb : Str → Bool} {f : Str} : xFld tb f m env S = (m env S).bind fun u S1 => fldAt tb f u S1 := rfl
@[simp] theorem q_fldAt {tb : Str → Bool} {f : Str} {n : Nat} : fldAt tb f (.ref n) S = onO (S.ins n) fun p => gd (tb p.1 = true) (onO (p.2.lookup f) fun w => .ok w S) := by
  unfold fldAt onO gd
  dsimp only
  cases S.ins n with
  | none => rfl
  | some p =>
    obtain ⟨c, fs⟩ := p
    dsimp only
    by_cases h : tb c = true
    · rw [if_pos h, if_pos h]
      cases fs.lookup f <;> rfl
    · rw [if_neg h, if_neg h]
@[simp] theorem q_prop {cn : Str} {ev : List U → Sto → R U} : xProp cn ev mo env S = (mo env S).bind fun u S1 => gd (isC cn u S1 = true) (R.nox (ev [u] S1)) := rfl
@[simp] theorem nox_ok {α : Type} {x : α} : (R.ok x S).nox = .ok x S := rfl
@[simp] theorem Ok.nox {α : Type} {r : R α} {Q : α → Sto → Prop} : Ok r.nox Q = Ok r Q := by cases r <;> rfl
@[simp] theorem q_meth {cn mn : Str} {np : Nat} {ev : List U → Sto → R U} : xMeth cn mn np ev mo ms env S = (mo env S).bind fun u S1 => gd (isI cn mn u S1 = true) ((ms env S1).bind fun us S2 => gd (us.length + 1 = np) (ev (u :: us) S2)) := rfl
@[simp] theorem q_callO {cn : Str} {np : Nat} {ev : List U → Sto → R U} : xCallO cn np ev mo ms env S = (mo env S).bind fun u S1 => gd (isC cn u S1 = true) ((ms env S1).bind fun us S2 => gd (isC cn u S2 = true ∧ us.length + 1 = np) (ev (u :: us) S2)) := rfl
def onN {α : Type} (u : U) (r : R α) : R α := match u with
  | .non => r
  | _ => .no
@[simp] theorem onN_non {α : Type} {r : R α} : onN .non r = r := rfl
@[simp] theorem q_make {cn : Str} {np : Nat} {ev : List U → Sto → R U} : xMake cn np ev ms env S = (ms env S).bind fun us S1 => gd (us.length + 1 = np) ((ev (.ref S1.objs.length :: us) (S1.push (.ins cn []))).bind fun v S2 => onN v (.ok (.ref S1.objs.length) S2)) := by
  unfold xMake gd onN
  rfl
@[simp] theorem q_nil : sNil env S = .ok (.nx env) S := rfl
@[simp] theorem q_brk : sBrk env S = .ok (.bk env) S := rfl
@[simp] theorem q_cnt : sCnt env S = .ok (.ct env) S := rfl
@[simp] theorem q_sno : sNo env S = .no := rfl
@[simp] theorem q_seq {x y : MS} : sSeq x y env S = (x env S).bind fun f S1 => onF f S1 fun e => y e S1 := by
  unfold sSeq onF
  rfl
@[simp] theorem q_ret : sRet m env S = (m env S).bind fun u S1 => .ok (.rt u) S1 := rfl
@[simp] theorem q_expr : sExpr m env S = (m env S).bind fun _ S1 => .ok (.nx env) S1 := rfl
@[simp] theorem q_sif {x y : MS} : sIf c x y env S = (c env S).bind fun u S1 => onB u fun k => if k = true then x env S1 else y env S1 := by
  unfold sIf onB
  congr 1
  funext u S1
  cases u with
  | bl k => cases k <;> rfl
  | _ => rfl
@[simp] theorem q_asg {g : MG} : sAsg m g env S = (m env S).bind fun u S1 => (g u env S1).bind fun e S2 => .ok (.nx e) S2 := rfl
@[simp] theorem q_gN {i : Nat} : gN i u env S = .ok (env.set i (some u)) S := rfl
@[simp] theorem q_gsub : gSubI mo m w env S = (mo env S).bind fun u S1 => (m env S1).bind fun i S2 => (stU u i w S2).bind fun _ S3 => .ok env S3 := rfl
@[simp] theorem q_par {is : List Nat} : sPar is ms env S = (ms env S).bind fun us S1 => gd (us.length = is.length) (.ok (.nx ((is.zip us).foldl (fun e p => e.set p.1 (some p.2)) env)) S1) := rfl
@[simp] theorem q_gT {gs : List MG} : gT gs (.tup us) env S = gd (us.length = gs.length) (gAll gs us env S) := rfl
@[simp] theorem q_gAll0 : gAll [] [] env S = .ok env S := rfl
@[simp] theorem q_gAll {g : MG} {gs : List MG} : gAll (g :: gs) (u :: us) env S = (g u env S).bind fun e S1 => gAll gs us e S1 := rfl
@[simp] theorem q_aug {i : Nat} : sAug i m env S = onO (env[i]?.join) fun u => (m env S).bind fun w S1 => (opAug u w S1).bind fun z S2 => .ok (.nx (env.set i (some z))) S2 := by
  unfold sAug
  cases env[i]? with
  | none => rfl
  | some o => cases o <;> rfl
@[simp] theorem q_augI {i j : Int} : opAug (.int i) (.int j) S = .ok (.int (i + j)) S := rfl
def onR {α : Type} (u : U) (f : Nat → R α) : R α := match u with
  | .ref n => f n
  | _ => .no
@[simp] theorem onR_ref {α : Type} {n : Nat} {f : Nat → R α} : onR (.ref n) f = f n := rfl
@[simp] theorem q_fldS {tb : Str → Bool} {f : Str} : sFldS tb f a b env S = (b env S).bind fun v S1 => (a env S1).bind fun u S2 => onR u fun k => onO (S2.ins k) fun p => gd (tb p.1 = true ∧ p.2.length < 1000) (.ok (.nx env) (S2.put k (.ins p.1 (putU f v p.2)))) := by
  unfold sFldS onR onO gd
  congr 1; funext v S1; congr 1; funext u S2
  cases u with
  | ref k =>
    dsimp only
    cases S2.ins k with
    | none => rfl
    | some p => rfl
  | _ => rfl
@[simp] theorem q_for {n : Nat} {mi : MI} {g : MG} {x : MS} : sFor n mi g x env S = (mi env S).bind fun nx S1 => fLoop nx g x n 0 env S1 := rfl
@[simp] theorem q_while {n : Nat} {x : MS} : sWhile n c x env S = wLoop c x n env S := rfl
@[simp] theorem q_comp {n : Nat} {own : List Nat} {mi : MI} {tg : Tg} {t : Env → Sto → R Bool} : nComp n own mi tg t m env S = (mi env S).bind fun nx S1 => cLoop nx tg t m n 0 (wipeU env own) S1 [] := rfl
@[simp] theorem q_iof : iOf m env S = (m env S).bind fun u S1 => nxOf u S1 := rfl
@[simp] theorem q_inew : iNew ms env S = (ms env S).bind fun us S1 => .ok (nxL us) S1 := rfl
@[simp] theorem nxOf_tup : nxOf (.tup us) S = .ok (nxL us) S := rfl
@[simp] theorem nxOf_fl : nxOf (.fl us) S = .ok (nxL us) S := rfl
@[simp] theorem nxOf_sc : nxOf (.sc us) S = .ok (nxL us) S := rfl
@[simp] theorem nxOf_str {x : Str} : nxOf (.str x) S = .ok (nxL (signsU x)) S := rfl
@[simp] theorem nxOf_ref {n : Nat} : nxOf (.ref n) S = onO (S.lst n) fun _ => .ok (nxLive n) S := by
  unfold nxOf onO
  dsimp only
  cases S.lst n <;> rfl
/-- the items of a range -/
def rng (us : List U) (S : Sto) : R Nx := match us with
  | [.int j] => if j.natAbs < 2 ^ 62 then .ok (nxL (rangeU 0 j.toNat)) S else .no
  | _ => .no
theorem rng_ok {j : Int} (h0 : 0 ≤ j) (h1 : j ≤ 1000000) : rng [.int j] S = .ok (nxL (rangeU 0 j.toNat)) S := by
  unfold rng
  dsimp only
  rw [if_pos (by omega)]
theorem rng_nat {j : Nat} (h1 : j ≤ 1000000) : rng [.int (j : Nat)] S = .ok (nxL (rangeU 0 j)) S := by
  rw [rng_ok (by omega) (by omega)]
  rfl
@[simp] theorem q_range1 : iRange1 ms env S = (ms env S).bind fun us S1 => rng us S1 := rfl
@[simp] theorem wipeU_nil : wipeU env [] = env := rfl
@[simp] theorem wipeU_cons {v : Nat} {vs : List Nat} : wipeU env (v :: vs) = (wipeU env vs).set v none := rfl
@[simp] theorem q_yes : tYesU env S = .ok true S := rfl
/-- the value of a body -/
def endF (f : Fl) (S : Sto) : R U := match f with
  | .rt u => .ok u S
  | .nx _ => .ok .non S
  | _ => .no
@[simp] theorem endF_rt : endF (.rt u) S = .ok u S := rfl
@[simp] theorem endF_nx {e : Env} : endF (.nx e) S = .ok .non S := rfl
@[simp] theorem q_fnG {nl : Nat} {x : MS} : fnG nl x us S = gcR S ((x (env0 nl us) S).bind fun f S1 => endF f S1) := rfl
@[simp] theorem cut_self : S.cut S.objs.length = S := by
  unfold Sto.cut
  rw [List.take_length]
@[simp] theorem gc_no : gcR S .no = .no := rfl
@[simp] theorem gc_self : gcR S (.ok u S) = .ok u S := by
  unfold gcR
  dsimp only
  split
  · rw [cut_self]
  · rfl
@[simp] theorem q_env0 {nl : Nat} : env0 nl us = us.map some ++ List.replicate (nl - us.length) none := rfl
/-- a walk over a dict that is frozen -/
theorem q_compD {n : Nat} {own : List Nat} {view : List (Str × U) → List U} {tg : Tg} {t : Env → Sto → R Bool} {kvs : List (Str × U)} (h : mo env S = .ok (.fd kvs) S) : nCompD n own mo view tg t m env S = cLoop (nxL (view kvs)) tg t m n 0 (wipeU env own) S [] := by
  unfold nCompD isFd
  rw [h, if_pos rfl]
  unfold iF
  rw [q_comp, h]
  rfl
theorem q_forD {n : Nat} {view : List (Str × U) → List U} {g : MG} {x : MS} {kvs : List (Str × U)} (h : mo env S = .ok (.fd kvs) S) : sForD n mo view g x env S = fLoop (nxL (view kvs)) g x n 0 env S := by
  unfold sForD isFd
  rw [h, if_pos rfl]
  unfold iF
  rw [q_for, h]
  rfl
@[simp] theorem q_addI {i j : Int} : opAdd (.int i) (.int j) S = .ok (.int (i + j)) S := rfl
@[simp] theorem q_addS {x y : Str} : opAdd (.str x) (.str y) S = gd (x.length + y.length ≤ sizeLine) (.ok (.str (x ++ y)) S) := rfl
@[simp] theorem q_addT : opAdd (.tup us) (.tup ws) S = gd (us.length + ws.length ≤ sizeLine) (.ok (.tup (us ++ ws)) S) := rfl
@[simp] theorem q_addL : opAdd (.fl us) (.fl ws) S = gd (us.length + ws.length ≤ sizeLine) (.ok (.fl (us ++ ws)) S) := rfl
@[simp] theorem q_addLR {n : Nat} : opAdd (.fl us) (.ref n) S = onO (S.lst n) fun ws => gd (us.length + ws.length ≤ sizeLine) (.ok (.fl (us ++ ws)) S) := by
  show (match some us, S.lst n with | some a, some b => _ | _, _ => _) = _
  cases S.lst n <;> rfl
@[simp] theorem q_addRL {n : Nat} : opAdd (.ref n) (.fl ws) S = onO (S.lst n) fun us => gd (us.length + ws.length ≤ sizeLine) (.ok (.fl (us ++ ws)) S) := by
  show (match S.lst n, some ws with | some a, some b => _ | _, _ => _) = _
  cases S.lst n <;> rfl
@[simp] theorem q_subI {i j : Int} : opSub (.int i) (.int j) S = .ok (.int (i - j)) S := rfl
@[simp] theorem q_mulI {i j : Int} : opMul (.int i) (.int j) S = gd (j.natAbs < 2 ^ 64) (.ok (.int (i * j)) S) := rfl
@[simp] theorem q_divI {i j : Int} : opDiv (.int i) (.int j) S = gd (0 < j ∧ j.natAbs < 1073741824) (.ok (.int (i.fdiv j)) S) := rfl
@[simp] theorem q_modI {i j : Int} : opMod (.int i) (.int j) S = gd (0 < j) (.ok (.int (i.fmod j)) S) := rfl
@[simp] theorem q_powI {i j : Int} : opPow (.int i) (.int j) S = gd (0 ≤ j ∧ j ≤ 1000000 ∧ i.natAbs < 2 ^ 64) (.ok (.int (i ^ j.toNat)) S) := rfl
@[simp] theorem q_neg {i : Int} : opNeg (.int i) S = .ok (.int (-i)) S := rfl
@[simp] theorem q_opI {f : Int → Int → Bool} {i j : Int} : opI f (.int i) (.int j) S = .ok (.bl (f i j)) S := rfl
@[simp] theorem q_ltI {i j : Int} : opLt (.int i) (.int j) S = .ok (.bl (decide (i < j))) S := rfl
@[simp] theorem q_ltS {x y : Str} : opLt (.str x) (.str y) S = .ok (.bl (decide (x.cps.toList < y.cps.toList))) S := rfl
@[simp] theorem q_intI {i : Int} : bInt [.int i] S = .ok (.int i) S := rfl
@[simp] theorem q_absI {i : Int} : bAbs [.int i] S = .ok (.int (if i < 0 then -i else i)) S := rfl
theorem eqv_int {i j : Int} : PyData.eqv (.int i) (.int j) = decide (i = j) := by
  rw [Bool.eq_iff_iff]
  simp [PyData.eqv]
@[simp] theorem q_eqI {i j : Int} : opEq (.int i) (.int j) S = .ok (.bl (decide (i = j))) S := by
  unfold opEq eqU
  simp [rdU, eqv_int]
@[simp] theorem q_neI {i j : Int} : opNe (.int i) (.int j) S = .ok (.bl (!decide (i = j))) S := by
  unfold opNe eqU
  simp [rdU, eqv_int]
@[simp] theorem q_eqS {x y : Str} : opEq (.str x) (.str y) S = .ok (.bl (decide (x = y))) S := rfl
@[simp] theorem q_neS {x y : Str} : opNe (.str x) (.str y) S = .ok (.bl (!decide (x = y))) S := rfl
@[simp] theorem q_is : opIs u .non S = .ok (.bl (isNon u)) S := rfl
@[simp] theorem q_isn : opIsNot u .non S = .ok (.bl (!isNon u)) S := rfl
@[simp] theorem isNon_non : isNon .non = true := rfl
@[simp] theorem isNon_tup : isNon (.tup us) = false := rfl
@[simp] theorem isNon_str {x : Str} : isNon (.str x) = false := rfl
@[simp] theorem isNon_ref {n : Nat} : isNon (.ref n) = false := rfl
@[simp] theorem seq_tup : seqU (.tup us) S = some us := rfl
@[simp] theorem seq_fl : seqU (.fl us) S = some us := rfl
@[simp] theorem seq_sc : seqU (.sc us) S = some us := rfl
@[simp] theorem seq_ref {n : Nat} : seqU (.ref n) S = S.lst n := rfl
@[simp] theorem seq_fd {kvs : List (Str × U)} : seqU (.fd kvs) S = none := rfl
@[simp] theorem pl_fl : plU (.fl us) S = some us := rfl
@[simp] theorem pl_ref {n : Nat} : plU (.ref n) S = S.lst n := rfl
@[simp] theorem dct_fd {kvs : List (Str × U)} : dctU (.fd kvs) S = some kvs := rfl
@[simp] theorem dct_ref {n : Nat} : dctU (.ref n) S = S.dct n := rfl
@[simp] theorem q_ixT {i : Int} : opIx (.tup us) (.int i) S = onO (L2.atI us i) fun v => .ok v S := by
  unfold opIx onO
  dsimp only
  cases L2.atI us i <;> rfl
@[simp] theorem q_ixF {i : Int} : opIx (.fl us) (.int i) S = onO (L2.atI us i) fun v => .ok v S := by
  unfold opIx onO plU
  dsimp only
  cases L2.atI us i <;> rfl
@[simp] theorem q_ixR {i : Int} {n : Nat} : opIx (.ref n) (.int i) S = onO (S.lst n) fun us => onO (L2.atI us i) fun v => .ok v S := by
  unfold opIx onO plU
  dsimp only
  cases S.lst n with
  | none => rfl
  | some us => dsimp only; cases L2.atI us i <;> rfl
@[simp] theorem q_ixD {k : Str} {kvs : List (Str × U)} : opIx (.fd kvs) (.str k) S = onO (keyAt kvs k) fun v => .ok v S := by
  unfold opIx onO dctU
  dsimp only
  cases keyAt kvs k <;> rfl
@[simp] theorem q_ixDR {k : Str} {n : Nat} : opIx (.ref n) (.str k) S = onO (S.dct n) fun kvs => onO (keyAt kvs k) fun v => .ok v S := by
  unfold opIx onO dctU
  dsimp only
  cases S.dct n with
  | none => rfl
  | some kvs => dsimp only; cases keyAt kvs k <;> rfl
@[simp] theorem q_st {k : Str} {n : Nat} : stU (.ref n) (.str k) u S = onO (S.dct n) fun kvs => gd (kvs.length < sizeLine ∧ n ∉ S.lk) (.ok () (S.put n (.dct (putKU k u kvs)))) := by
  unfold stU onO gd
  dsimp only
  cases S.dct n <;> rfl
@[simp] theorem q_lenS {x : Str} : bLen [.str x] S = gd (x.length ≤ sizeLine) (.ok (.int x.length) S) := rfl
@[simp] theorem q_lenT : bLen [.tup us] S = .ok (.int us.length) S := rfl
@[simp] theorem q_lenF : bLen [.fl us] S = .ok (.int us.length) S := rfl
@[simp] theorem q_lenC : bLen [.sc us] S = .ok (.int us.length) S := rfl
@[simp] theorem q_lenD {kvs : List (Str × U)} : bLen [.fd kvs] S = .ok (.int kvs.length) S := rfl
theorem q_lenR {n : Nat} (h : S.lst n = some us) : bLen [.ref n] S = .ok (.int us.length) S := by
  unfold bLen seqU
  simp [h]
theorem q_lenRD {n : Nat} {kvs : List (Str × U)} (h : S.dct n = some kvs) : bLen [.ref n] S = .ok (.int kvs.length) S := by
  have h0 : S.lst n = none := by
    unfold Sto.lst
    unfold Sto.dct at h
    split at h
    · rename_i e; rw [e]
    · cases h
  unfold bLen seqU dctU
  simp [h, h0]
@[simp] theorem q_tuple : bTuple us S = .ok (.tup us) S := rfl
@[simp] theorem q_nlist : nList us S = .ok us S := rfl
@[simp] theorem q_slT {l h : Option Int} : slU (.tup us) l h S = .ok (.tup (cutL us l h)) S := rfl
@[simp] theorem q_slF {l h : Option Int} : slU (.fl us) l h S = .ok (.fl (cutL us l h)) S := rfl
@[simp] theorem q_slR {l h : Option Int} {n : Nat} : slU (.ref n) l h S = onO (S.lst n) fun us => .ok (.fl (cutL us l h)) S := by
  unfold slU onO plU
  dsimp only
  cases S.lst n <;> rfl
@[simp] theorem q_slS {x : Str} {l h : Option Int} : slU (.str x) l h S = gd (x.length ≤ sizeLine) (.ok (.str (L2.cutS x l h)) S) := rfl
@[simp] theorem blsOf_map {α : Type} {xs : List α} {g : α → Bool} : blsOf (xs.map fun x => U.bl (g x)) = some (xs.map g) := by
  induction xs with
  | nil => rfl
  | cons x xs ih =>
    rw [List.map_cons]
    unfold blsOf
    rw [ih]
    rfl
@[simp] theorem q_all {α : Type} {xs : List α} {g : α → Bool} : bAll (xs.map fun x => U.bl (g x)) S = .ok (.bl (xs.all g)) S := by
  unfold bAll
  rw [blsOf_map]
  simp [Function.comp_def]
@[simp] theorem bAll_nil : bAll [] S = .ok (.bl true) S := rfl
@[simp] theorem keyAt_nil {k : Str} : keyAt [] k = none := rfl
@[simp] theorem keyAt_cons {k x : Str} {v : U} {r : List (Str × U)} : keyAt ((x, v) :: r) k = if x = k then some v else keyAt r k := by
  unfold keyAt
  rw [List.find?_cons]
  by_cases h : x = k <;> simp [h]
@[simp] theorem lookup_cons' {f g : Str} {v : U} {r : List (Str × U)} : List.lookup f ((g, v) :: r) = if f = g then some v else List.lookup f r := by
  rw [List.lookup_cons]
  by_cases h : f = g
  · rw [if_pos h, beq_iff_eq.mpr h]
  · rw [if_neg h, beq_eq_false_iff_ne.mpr h]
@[simp] theorem putU_nil {f : Str} {v : U} : putU f v [] = [(f, v)] := rfl
@[simp] theorem putU_cons {f g : Str} {v x : U} {r : List (Str × U)} : putU f v ((g, x) :: r) = if g = f then (g, v) :: r else (g, x) :: putU f v r := rfl
@[simp] theorem x_Mapp {n : Nat} : mAppend (.ref n) [u] S = onO (S.lst n) fun us => gd (us.length < sizeLine) (.ok .non (S.put n (.lst (us ++ [u])))) := by
  unfold mAppend onO gd
  dsimp only
  cases S.lst n <;> rfl
@[simp] theorem q_M {k : Kd → Bool} {g : U → List U → Sto → R U} : xM k g m ms env S = (m env S).bind fun u S1 => onO (kdU u S1) fun d => gd (k d = true) ((ms env S1).bind fun us S2 => g u us S2) := by
  unfold xM onO gd
  congr 1; funext u S1
  cases kdU u S1 <;> rfl
theorem map_toNat_inj : ∀ {a b : List Char}, a.map Char.toNat = b.map Char.toNat → a = b
  | [], [], _ => rfl
  | [], _ :: _, h => by simp at h
  | _ :: _, [], h => by simp at h
  | x :: a, y :: b, h => by
    rw [List.map_cons, List.map_cons, List.cons.injEq] at h
    rw [Char.toNat_inj.mp h.1, map_toNat_inj h.2]
@[simp] theorem ofString_inj {a b : String} : (Str.ofString a = Str.ofString b) = (a = b) := by
  apply propext
  constructor
  · intro h
    rw [Str.ofString_eq_toList, Str.ofString_eq_toList] at h
    have h1 : (a.toList.map Char.toNat).toArray = (b.toList.map Char.toNat).toArray := congrArg Str.cps h
    have h2 : a.toList.map Char.toNat = b.toList.map Char.toNat := congrArg Array.toList h1
    exact String.toList_inj.mp (map_toNat_inj h2)
  · intro h; rw [h]
end
theorem cloL_iff {k : Nat} : ∀ {us : List U}, CloL k us ↔ ∀ u ∈ us, Clo k u
  | [] => ⟨fun _ _ h => by simp at h, fun _ => .nil⟩
  | u :: us => ⟨fun h => by
      cases h with
      | cons a b =>
        intro w hw
        rcases List.mem_cons.mp hw with rfl | hw
        · exact a
        · exact cloL_iff.mp b w hw, fun h => .cons (h u (by simp)) (cloL_iff.mpr fun w hw => h w (by simp [hw]))⟩
theorem cloF_iff {k : Nat} : ∀ {us : List (Str × U)}, CloF k us ↔ ∀ p ∈ us, Clo k p.2
  | [] => ⟨fun _ _ h => by simp at h, fun _ => .nil⟩
  | (x, u) :: us => ⟨fun h => by
      cases h with
      | cons a b =>
        intro w hw
        rcases List.mem_cons.mp hw with rfl | hw
        · exact a
        · exact cloF_iff.mp b w hw, fun h => .cons (h (x, u) (by simp)) (cloF_iff.mpr fun w hw => h w (by simp [hw]))⟩
section
variable {k n : Nat} {us : List U} {kvs : List (Str × U)}
@[simp] theorem clo_non : Clo k .non := .non
@[simp] theorem clo_bl {b : Bool} : Clo k (.bl b) := .bl b
@[simp] theorem clo_int {i : Int} : Clo k (.int i) := .int i
@[simp] theorem clo_str {x : Str} : Clo k (.str x) := .str x
@[simp] theorem clo_tup : Clo k (.tup us) ↔ ∀ u ∈ us, Clo k u := ⟨fun h => by cases h with | tup h => exact cloL_iff.mp h, fun h => .tup (cloL_iff.mpr h)⟩
@[simp] theorem clo_fl : Clo k (.fl us) ↔ ∀ u ∈ us, Clo k u := ⟨fun h => by cases h with | fl h => exact cloL_iff.mp h, fun h => .fl (cloL_iff.mpr h)⟩
@[simp] theorem clo_fd : Clo k (.fd kvs) ↔ ∀ p ∈ kvs, Clo k p.2 := ⟨fun h => by cases h with | fd h => exact cloF_iff.mp h, fun h => .fd (cloF_iff.mpr h)⟩
@[simp] theorem clo_ref : Clo k (.ref n) ↔ n < k := ⟨fun h => by cases h with | ref h => exact h, .ref⟩
theorem cloO_ins {c : Str} : CloO k (.ins c kvs) ↔ ∀ p ∈ kvs, Clo k p.2 := ⟨fun h => by cases h with | ins h => exact cloF_iff.mp h, fun h => .ins (cloF_iff.mpr h)⟩
theorem cloO_lst : CloO k (.lst us) ↔ ∀ p ∈ us, Clo k p := ⟨fun h => by cases h with | lst h => exact cloL_iff.mp h, fun h => .lst (cloL_iff.mpr h)⟩
theorem cloO_dct : CloO k (.dct kvs) ↔ ∀ p ∈ kvs, Clo k p.2 := ⟨fun h => by cases h with | dct h => exact cloF_iff.mp h, fun h => .dct (cloF_iff.mpr h)⟩
end
mutual
theorem Clo.mono {k k' : Nat} (h : k ≤ k') : ∀ {u : U}, Clo k u → Clo k' u
  | _, .non => .non
  | _, .bl b => .bl b
  | _, .int i => .int i
  | _, .str x => .str x
  | _, .tup c => .tup (CloL.mono h c)
  | _, .sc c => .sc (CloL.mono h c)
  | _, .fl c => .fl (CloL.mono h c)
  | _, .fd c => .fd (CloF.mono h c)
  | _, .ref c => .ref (Nat.lt_of_lt_of_le c h)
theorem CloL.mono {k k' : Nat} (h : k ≤ k') : ∀ {us : List U}, CloL k us → CloL k' us
  | _, .nil => .nil
  | _, .cons a b => .cons (Clo.mono h a) (CloL.mono h b)
theorem CloF.mono {k k' : Nat} (h : k ≤ k') : ∀ {us : List (Str × U)}, CloF k us → CloF k' us
  | _, .nil => .nil
  | _, .cons a b => .cons (Clo.mono h a) (CloF.mono h b)
end
structure Ext (S S1 : Sto) : Prop where
  pre : S.objs <+: S1.objs
  lk : S1.lk = S.lk
section
variable {S S1 S2 : Sto} {n m : Nat} {o x : O}
theorem Ext.refl : Ext S S := ⟨List.prefix_refl _, rfl⟩
theorem Ext.trans (a : Ext S S1) (b : Ext S1 S2) : Ext S S2 := ⟨a.pre.trans b.pre, b.lk.trans a.lk⟩
theorem Ext.push : Ext S (S.push o) := ⟨List.prefix_append _ _, rfl⟩
theorem Ext.put (a : Ext S S1) (h : S.objs.length ≤ n) : Ext S (S1.put n o) := by
  refine ⟨?_, a.lk⟩
  obtain ⟨t, e⟩ := a.pre
  refine ⟨t.set (n - S.objs.length) o, ?_⟩
  show _ = S1.objs.set n o
  rw [← e, List.set_append_right _ _ h]
theorem Ext.len (a : Ext S S1) : S.objs.length ≤ S1.objs.length := a.pre.length_le
theorem Ext.get (a : Ext S S1) (h : S.objs[n]? = some x) : S1.objs[n]? = some x := by
  obtain ⟨t, e⟩ := a.pre
  rw [← e, List.getElem?_append_left (List.getElem?_eq_some_iff.mp h).1]
  exact h
theorem Ext.cut (a : Ext S S1) : S1.cut S.objs.length = S := by
  obtain ⟨t, e⟩ := a.pre
  unfold Sto.cut
  rw [← e, List.take_left, a.lk]
theorem Ext.kept (a : Ext S S1) : Kept S S1 := fun i o hi e => by
  obtain ⟨t, e1⟩ := a.pre
  rw [← e1, List.getElem?_append_left hi] at e
  exact .inl e
/-- what is left of a call that only laid things -/
theorem gc_ext {u : U} (a : Ext S S1) (h : Clo S.objs.length u) : gcR S (.ok u S1) = .ok u S := by
  unfold gcR
  dsimp only
  rw [if_pos ⟨h, a.kept⟩, a.cut]
/-- .. and changed one thing -/
theorem gc_put {u : U} (a : Ext (S.put n o) S1) (h : Clo S.objs.length u) (ho : CloO S.objs.length o) : gcR S (.ok u S1) = .ok u (S.put n o) := by
  have hl : (S.put n o).objs.length = S.objs.length := List.length_set
  unfold gcR
  dsimp only
  have kp : Kept S S1 := fun i p hi e => by
    obtain ⟨t, e1⟩ := a.pre
    rw [← e1, List.getElem?_append_left (by rw [hl]; exact hi)] at e
    have e2 : (S.objs.set n o)[i]? = some p := e
    by_cases hn : n = i
    · subst hn
      rw [List.getElem?_set_self hi] at e2
      cases e2
      exact .inr ho
    · rw [List.getElem?_set_ne hn] at e2
      exact .inl e2
  rw [if_pos ⟨h, kp⟩, ← hl, a.cut]
end
@[simp] theorem sz0 : (0 ≤ sizeLine) = True := by simp
@[simp] theorem sz1 : (1 ≤ sizeLine) = True := eq_true (by decide)
@[simp] theorem sz2 : (2 ≤ sizeLine) = True := eq_true (by decide)
@[simp] theorem sz3 : (3 ≤ sizeLine) = True := eq_true (by decide)
@[simp] theorem sz4 : (4 ≤ sizeLine) = True := eq_true (by decide)
@[simp] theorem sz5 : (5 ≤ sizeLine) = True := eq_true (by decide)
@[simp] theorem sz6 : (6 ≤ sizeLine) = True := eq_true (by decide)
section
variable {env : Env} {S : Sto} {tg : Tg} {t : Env → Sto → R Bool} {e : ME} {α : Type}
theorem comp_acc (enc : α → U) (p : α → Bool) (f : α → U) (xs : List α) (h : ∀ x ∈ xs, ∃ env', tg.set (enc x) env = some env' ∧ t env' S = .ok (p x) S ∧ (p x = true → e env' S = .ok (f x) S)) :
    ∀ (k i : Nat) (acc : List U), xs.length < i + k → i ≤ xs.length → acc.length + (xs.length - i) ≤ sizeLine → cLoop (nxL (xs.map enc)) tg t e k i env S acc = .ok (acc ++ ((xs.drop i).filter p).map f) S
  | 0, i, acc, h1, h2, _ => absurd h1 (by omega)
  | k + 1, i, acc, h1, h2, h3 => by
    have nxe : nxL (xs.map enc) i S = some (xs[i]?.map enc) := by unfold nxL; rw [List.getElem?_map]
    unfold cLoop
    rw [nxe]
    cases hi : xs[i]? with
    | none =>
      have : xs.length ≤ i := List.getElem?_eq_none_iff.mp hi
      rw [List.drop_eq_nil_of_le this]
      simp
    | some x =>
      have hl : i < xs.length := (List.getElem?_eq_some_iff.mp hi).1
      have hx : xs[i] = x := (List.getElem?_eq_some_iff.mp hi).2
      obtain ⟨env', e1, e2, e3⟩ := h x (List.mem_of_getElem? hi)
      have ed : xs.drop i = x :: xs.drop (i + 1) := by rw [List.drop_eq_getElem_cons hl, hx]
      simp only [Option.map_some]
      rw [e1]
      simp only [e2, nox_ok, R.bind_ok]
      cases hp : p x with
      | true =>
        rw [if_pos rfl, e3 hp]
        simp only [nox_ok, R.bind_ok]
        rw [if_pos (by omega), comp_acc enc p f xs h k (i + 1) (acc ++ [f x]) (by omega) (by omega) (by simp; omega), ed]
        simp [hp]
      | false =>
        rw [if_neg Bool.false_ne_true, comp_acc enc p f xs h k (i + 1) acc (by omega) (by omega) (by omega), ed]
        simp [hp]
theorem comp_eq (enc : α → U) (p : α → Bool) (f : α → U) (xs : List α) {n : Nat} (hn : xs.length < n) (hz : xs.length ≤ sizeLine) (h : ∀ x ∈ xs, ∃ env', tg.set (enc x) env = some env' ∧ t env' S = .ok (p x) S ∧ (p x = true → e env' S = .ok (f x) S)) :
    cLoop (nxL (xs.map enc)) tg t e n 0 env S [] = .ok ((xs.filter p).map f) S := by
  rw [comp_acc enc p f xs h n 0 [] (by omega) (Nat.zero_le _) (by simpa using hz)]
  simp
theorem comp_map (enc : α → U) (f : α → U) (xs : List α) {n : Nat} (hn : xs.length < n) (hz : xs.length ≤ sizeLine) (h : ∀ x ∈ xs, ∃ env', tg.set (enc x) env = some env' ∧ t env' S = .ok true S ∧ e env' S = .ok (f x) S) :
    cLoop (nxL (xs.map enc)) tg t e n 0 env S [] = .ok (xs.map f) S := by
  rw [comp_eq enc (fun _ => true) f xs hn hz fun x hx => let ⟨e1, a, b, c⟩ := h x hx; ⟨e1, a, b, fun _ => c⟩]
  rw [List.filter_eq_self.mpr fun _ _ => rfl]
end
end VI
set_option Elab.async false
set_option linter.all false
set_option maxRecDepth 100000
set_option maxHeartbeats 1000000
namespace VI
open PySem
@[simp] theorem isi_str {tb : Str → Bool} {bs : List Ty} {x : Str} {S : Sto} : isiB tb bs (.str x) S = .ok (.bl (bs.any fun b => isB .str b)) S := rfl
@[simp] theorem isi_int {tb : Str → Bool} {bs : List Ty} {x : Int} {S : Sto} : isiB tb bs (.int x) S = .ok (.bl (bs.any fun b => isB .int b)) S := rfl
@[simp] theorem isi_bl {tb : Str → Bool} {bs : List Ty} {x : Bool} {S : Sto} : isiB tb bs (.bl x) S = .ok (.bl (bs.any fun b => isB .bool b)) S := rfl
@[simp] theorem isi_tup {tb : Str → Bool} {bs : List Ty} {x : List U} {S : Sto} : isiB tb bs (.tup x) S = .ok (.bl (bs.any fun b => isB .tup b)) S := rfl
@[simp] theorem isi_fl {tb : Str → Bool} {bs : List Ty} {x : List U} {S : Sto} : isiB tb bs (.fl x) S = .ok (.bl (bs.any fun b => isB .lst b)) S := rfl
@[simp] theorem isi_fd {tb : Str → Bool} {bs : List Ty} {x : List (Str × U)} {S : Sto} : isiB tb bs (.fd x) S = .ok (.bl (bs.any fun b => isB .dct b)) S := rfl
@[simp] theorem isi_non {tb : Str → Bool} {bs : List Ty} {S : Sto} : isiB tb bs .non S = .ok (.bl (bs.any fun b => isB .non b)) S := rfl
theorem isi_dct {tb : Str → Bool} {bs : List Ty} {n : Nat} {kvs : List (Str × U)} {S : Sto} (h : S.dct n = some kvs) : isiB tb bs (.ref n) S = .ok (.bl (bs.any fun b => isB .dct b)) S := by
  unfold isiB tyU
  dsimp only
  rw [Sto.dct_eq h]
@[simp] theorem isB_self {a : Ty} : isB a a = true := by cases a <;> rfl
theorem strsOf_map : ∀ ys : List Str, strsOf (ys.map U.str) = some ys
  | [] => rfl
  | y :: ys => by
    rw [List.map_cons]
    unfold strsOf
    rw [strsOf_map ys]
    rfl
theorem str_len {x : Str} : x.length = x.cps.toList.length := by simp [Str.length]
/-- one sign in a text -/
theorem in_sign {c : Nat} {y : Str} {S : Sto} : opIn (.str ⟨#[c]⟩) (.str y) S = .ok (.bl (decide (c ∈ y.cps.toList))) S := rfl
theorem in_strs {x : Str} {ys : List Str} {S : Sto} {u : U} (h : seqU u S = some (ys.map U.str)) : opIn (.str x) u S = .ok (.bl (decide (x ∈ ys))) S := by
  unfold opIn inU
  cases u with
  | str z => simp [seqU] at h
  | _ => simp [h, strsOf_map]
@[simp] theorem in_tupS {x : Str} {ys : List Str} {S : Sto} : opIn (.str x) (.tup (ys.map U.str)) S = .ok (.bl (decide (x ∈ ys))) S := in_strs rfl
@[simp] theorem in_flS {x : Str} {ys : List Str} {S : Sto} : opIn (.str x) (.fl (ys.map U.str)) S = .ok (.bl (decide (x ∈ ys))) S := in_strs rfl
@[simp] theorem in_tup2 {x a b : Str} {S : Sto} : opIn (.str x) (.tup [.str a, .str b]) S = .ok (.bl (decide (x = a) || decide (x = b))) S := by
  have h := in_tupS (x := x) (ys := [a, b]) (S := S)
  rw [List.map_cons, List.map_cons, List.map_nil] at h
  rw [h]
  simp
@[simp] theorem in_fdS {x : Str} {kvs : List (Str × U)} {S : Sto} : opIn (.str x) (.fd kvs) S = .ok (.bl (keyAt kvs x).isSome) S := rfl
end VI
namespace VI
open PySem
section
variable {S : Sto}
@[simp] theorem q_eqB {a b : Bool} : opEq (.bl a) (.bl b) S = .ok (.bl (a == b)) S := by
  unfold opEq eqU
  cases a <;> cases b <;> simp [rdU, PyData.eqv] <;> rfl
theorem keyAt_map {α : Type} {k : α → Str} {v : α → U} : ∀ {xs : List α} {x : α}, (xs.map k).Nodup → x ∈ xs → keyAt (xs.map fun p => (k p, v p)) (k x) = some (v x)
  | [], x, _, h => by simp at h
  | y :: ys, x, nd, h => by
    rw [List.map_cons, List.nodup_cons] at nd
    rw [List.map_cons, keyAt_cons]
    rcases List.mem_cons.mp h with rfl | h
    · rw [if_pos rfl]
    · rw [if_neg fun z => nd.1 (by rw [z]; exact List.mem_map.mpr ⟨x, h, rfl⟩)]
      exact keyAt_map nd.2 h
@[simp] theorem keysU_map {α : Type} {k : α → Str} {v : α → U} {xs : List α} : keysU (xs.map fun p => (k p, v p)) = xs.map fun p => U.str (k p) := by
  unfold keysU
  rw [List.map_map]
  rfl
@[simp] theorem itemsU_map {α : Type} {k : α → Str} {v : α → U} {xs : List α} : itemsU (xs.map fun p => (k p, v p)) = xs.map fun p => U.tup [U.str (k p), v p] := by
  unfold itemsU
  rw [List.map_map]
  rfl
@[simp] theorem tg_one {i : Nat} {u : U} {env : Env} : (Tg.one i).set u env = some (env.set i (some u)) := rfl
@[simp] theorem tg_many {is : List Nat} {us : List U} {env : Env} : (Tg.many is).set (.tup us) env = if us.length = is.length then some (setAll is us env) else none := rfl
@[simp] theorem setAll_nil {us : List U} {env : Env} : setAll [] us env = env := by cases us <;> rfl
@[simp] theorem setAll_cons {i : Nat} {is : List Nat} {u : U} {us : List U} {env : Env} : setAll (i :: is) (u :: us) env = setAll is us (env.set i (some u)) := rfl
end
section
variable {S : Sto} {g : MG} {b : MS} {α : Type}
theorem for_acc (enc : α → U) (xs : List α) (I : Nat → Env → Prop) (step : ∀ (i : Nat) (x : α) (env : Env), xs[i]? = some x → I i env → ∃ env1, g (enc x) env S = .ok env1 S ∧ ∃ env2, b env1 S = .ok (.nx env2) S ∧ I (i + 1) env2) :
    ∀ (k i : Nat) (env : Env), xs.length < i + k → i ≤ xs.length → I i env → ∃ env', fLoop (nxL (xs.map enc)) g b k i env S = .ok (.nx env') S ∧ I xs.length env'
  | 0, i, env, h1, h2, _ => absurd h1 (by omega)
  | k + 1, i, env, h1, h2, hI => by
    have nxe : nxL (xs.map enc) i S = some (xs[i]?.map enc) := by unfold nxL; rw [List.getElem?_map]
    unfold fLoop
    rw [nxe]
    cases hi : xs[i]? with
    | none =>
      have : i = xs.length := by have := List.getElem?_eq_none_iff.mp hi; omega
      subst this
      exact ⟨env, rfl, hI⟩
    | some x =>
      have hl : i < xs.length := (List.getElem?_eq_some_iff.mp hi).1
      obtain ⟨env1, e1, env2, e2, hI2⟩ := step i x env hi hI
      obtain ⟨env', e3, hI3⟩ := for_acc enc xs I step k (i + 1) env2 (by omega) (by omega) hI2
      refine ⟨env', ?_, hI3⟩
      simp only [Option.map_some, e1, e2, R.bind_ok]
      exact e3
/-- a loop that changes nothing but names -/
theorem for_eq (enc : α → U) (xs : List α) (I : Nat → Env → Prop) {n : Nat} {env : Env} (hn : xs.length < n) (h0 : I 0 env) (step : ∀ (i : Nat) (x : α) (env : Env), xs[i]? = some x → I i env → ∃ env1, g (enc x) env S = .ok env1 S ∧ ∃ env2, b env1 S = .ok (.nx env2) S ∧ I (i + 1) env2) :
    ∃ env', fLoop (nxL (xs.map enc)) g b n 0 env S = .ok (.nx env') S ∧ I xs.length env' := for_acc enc xs I step n 0 env (by omega) (Nat.zero_le _) h0
theorem nxE_map (enc : α → U) (xs : List α) : nxE (xs.map enc) = nxL (xs.zipIdx.map fun p => U.tup [.int (p.2 : Nat), enc p.1]) := by
  funext i S
  unfold nxE nxL
  rw [List.getElem?_map, List.getElem?_map, List.getElem?_zipIdx]
  cases xs[i]? <;> simp
@[simp] theorem q_enumT {ms : MA} {env : Env} : iEnum ms env S = (ms env S).bind fun us S1 => match us with
  | [.tup us] => .ok (nxE us) S1
  | [.fl us] => .ok (nxE us) S1
  | [.ref n] => (match S1.lst n with
    | some _ => .ok (nxELive n) S1
    | none => .no)
  | _ => .no := rfl
end
end VI
namespace Gn
open PySem VI
abbrev AZ : Str := Str.ofString "abcdefghijklmnopqrstuvwxyz"
/-- a name -/
def nameB (x : Str) : Bool := decide (1 ≤ x.length) && decide (x.length ≤ 8) && x.cps.toList.all fun c => decide (c ∈ AZ.cps.toList)
theorem szL {k : Nat} (h : k ≤ 1000) : k ≤ sizeLine := Nat.le_trans h (by decide)
theorem e_is_name_str {n : Nat} {x : Str} {S : Sto} (hn : 100 ≤ n) (hx : x.length ≤ sizeLine) : e_is_name n [.str x] S = .ok (.bl (nameB x)) S := by
  unfold e_is_name m_is_name
  simp [hx, gd_pos]
  by_cases h1 : 1 ≤ x.length
  · have h1' : (1 : Int) ≤ x.length := by omega
    by_cases h2 : x.length ≤ 8
    · have h2' : (x.length : Int) ≤ 8 := by omega
      have hc : cLoop (nxL (signsU x)) (.one 1) tYesU (x2 opIn (xVar 1) (xC (.str AZ))) n 0 [some (.str x), none] S [] = .ok (x.cps.toList.map fun c => .bl (decide (c ∈ AZ.cps.toList))) S :=
        comp_map (fun c => .str ⟨#[c]⟩) _ x.cps.toList (by rw [← str_len]; omega) (by rw [← str_len]; exact hx) fun c _ => ⟨_, rfl, rfl, in_sign⟩
      rw [if_pos h1']
      simp only [h2', R.bind_ok, onB_bl, decide_true, if_true, hc, q_all, endF_rt, gc_self]
      unfold nameB
      simp only [h1, h2, decide_true, Bool.true_and]
    · have h2' : ¬ (x.length : Int) ≤ 8 := by omega
      simp [h1', h2', nameB, h2]
  · have h1' : ¬ (1 : Int) ≤ x.length := by omega
    simp [h1', nameB, h1]
abbrev Cond := List (Str × Bool)
inductive Row where
  | set (f : Str) (v : Bool) | say (w : Str) | skip (c : Cond) (m : Nat) | wait (c : Cond) | later (c : Cond)
structure Hd where
  guard : Cond
  rows : List Row
structure Prog where
  flags : List Str
  hs : List (Str × Hd)
abbrev Place := Str × Nat
structure Stt where
  on : List Str
  kept : List Place
def encC (c : Cond) : U := .fd (c.map fun p => (p.1, .bl p.2))
def Row.word : Row → Str
  | .set _ _ => "set" | .say _ => "say" | .skip _ _ => "skip" | .wait _ => "wait" | .later _ => "later"
def encRow : Row → U
  | .set f v => .tup [.str "set", .str f, .bl v]
  | .say w => .tup [.str "say", .str w]
  | .skip c m => .tup [.str "skip", encC c, .int m]
  | .wait c => .tup [.str "wait", encC c]
  | .later c => .tup [.str "later", encC c]
def encH (h : Hd) : U := .tup [encC h.guard, .tup (h.rows.map encRow)]
def encHL (h : Hd) : U := .tup [encC h.guard, .fl (h.rows.map encRow)]
def encHs (hs : List (Str × Hd)) : U := .fd (hs.map fun p => (p.1, encH p.2))
def encP (p : Place) : U := .tup [.str p.1, .int (p.2 : Nat)]
def encSt (s : Stt) : U := .tup [.tup (s.on.map U.str), .tup (s.kept.map encP)]
structure GoodC (fl : List Str) (c : Cond) : Prop where
  nd : (c.map (·.1)).Nodup
  mem : ∀ p ∈ c, p.1 ∈ fl
  few : c.length ≤ 4
def GoodR (fl : List Str) (behind : Nat) : Row → Prop
  | .set f _ => f ∈ fl
  | .say w => nameB w = true
  | .skip c m => GoodC fl c ∧ 1 ≤ m ∧ m ≤ behind
  | .wait c => GoodC fl c
  | .later c => GoodC fl c
structure GoodH (fl : List Str) (h : Hd) : Prop where
  guard : GoodC fl h.guard
  some : 1 ≤ h.rows.length
  few : h.rows.length ≤ 8
  row : ∀ (i : Nat) (r : Row), h.rows[i]? = Option.some r → GoodR fl (h.rows.length - i - 1) r
/-- what a list of flags looks like: a list or a tuple of names -/
def isFls (u : U) (fl : List Str) : Prop := u = .fl (fl.map U.str) ∨ u = .tup (fl.map U.str)
section
variable {n : Nat} {S : Sto} {fl : List Str} {uf : U} {c : Cond}
theorem e_is_flag_str (hf : isFls uf fl) {x : Str} : e_is_flag n [uf, .str x] S = .ok (.bl (decide (x ∈ fl))) S := by
  unfold e_is_flag m_is_flag
  rcases hf with rfl | rfl <;> simp
theorem e_is_condition_ok (hn : 100 ≤ n) (hf : isFls uf fl) (h : GoodC fl c) : e_is_condition n [uf, encC c] S = .ok (.bl true) S := by
  unfold e_is_condition m_is_condition encC
  simp
  rw [q_compD (kvs := c.map fun p => (p.1, .bl p.2)) (by simp)]
  rw [keysU_map, comp_map (fun p => U.str p.1) (fun _ => .bl true) c (by have := h.few; omega) (szL (by have := h.few; omega))]
  · simp
  · intro p hp
    refine ⟨_, rfl, rfl, ?_⟩
    simp [e_is_flag_str hf, h.mem p hp]
    rw [keyAt_map (k := fun p => p.1) (v := fun p => U.bl p.2) h.nd hp]
    simp
theorem e_is_true_ok (hn : 100 ≤ n) (h1 : (c.map (·.1)).Nodup) (h2 : c.length ≤ 4) {s : Stt} : e_is_true n [encC c, encSt s] S = .ok (.bl (c.all fun p => decide (p.1 ∈ s.on) == p.2)) S := by
  unfold e_is_true m_is_true encC encSt
  simp
  rw [q_compD (kvs := c.map fun p => (p.1, .bl p.2)) (by simp)]
  rw [keysU_map, comp_map (fun p => U.str p.1) (fun p => .bl (decide (p.1 ∈ s.on) == p.2)) c (by omega) (szL (by omega))]
  · simp
  · intro p hp
    refine ⟨_, rfl, rfl, ?_⟩
    simp [L2.atI, L2.ixN]
    rw [keyAt_map (k := fun p => p.1) (v := fun p => U.bl p.2) h1 hp]
    simp
end
end Gn
set_option Elab.async false
set_option linter.all false
set_option maxRecDepth 100000
set_option maxHeartbeats 1000000
namespace Gn
open PySem VI
section
variable {n : Nat} {S : Sto} {fl : List Str} {uf : U} {c : Cond}
theorem name_len {x : Str} (h : nameB x = true) : 1 ≤ x.length ∧ x.length ≤ 8 := by
  unfold nameB at h
  simp only [Bool.and_eq_true, decide_eq_true_eq] at h
  exact h.1
theorem name_sz {x : Str} (h : nameB x = true) : x.length ≤ sizeLine := szL (by have := (name_len h).2; omega)
theorem e_is_list_fl {us : List U} : e_is_list n [.fl us] S = .ok (.bl true) S := by
  unfold e_is_list m_is_list
  simp
theorem e_is_list_tup {us : List U} : e_is_list n [.tup us] S = .ok (.bl true) S := by
  unfold e_is_list m_is_list
  simp
theorem e_is_pair_tup {a b : U} : e_is_pair n [.tup [a, b]] S = .ok (.bl true) S := by
  unfold e_is_pair m_is_pair
  simp
theorem e_is_number_int {i : Int} : e_is_number n [.int i] S = .ok (.bl true) S := by
  unfold e_is_number m_is_number
  simp
  rfl
theorem take_nodup {fl : List Str} {i : Nat} {x : Str} (nd : fl.Nodup) (h : fl[i]? = some x) : x ∉ fl.take i := by
  intro hm
  obtain ⟨j, hj, e⟩ := List.mem_iff_getElem.mp hm
  rw [List.length_take] at hj
  rw [List.getElem_take] at e
  have hi := List.getElem?_eq_some_iff.mp h
  obtain ⟨hi, e2⟩ := hi
  have := (List.getElem_inj (h₀ := by omega) (h₁ := hi) nd).mp (e.trans e2.symm)
  omega
theorem cut_take {α : Type} {xs : List α} {i : Nat} (h : i ≤ xs.length) : cutL xs none (some (i : Int)) = xs.take i := by
  unfold cutL HT.sIx
  simp
  have : ¬ ((i : Int) < 0) := by omega
  simp [this]
theorem atN {α : Type} {xs : List α} {k : Nat} : L2.atI xs ((k : Nat) : Int) = xs[k]? := by
  unfold L2.atI L2.ixN
  rw [if_pos (by omega)]
  by_cases h : k < xs.length
  · rw [if_pos (by omega)]
    simp
  · rw [if_neg (by omega), List.getElem?_eq_none (by omega)]
    rfl
@[simp] theorem at0 {α : Type} {x : α} {xs : List α} : L2.atI (x :: xs) 0 = some x := atN (k := 0)
@[simp] theorem at1 {α : Type} {x y : α} {xs : List α} : L2.atI (x :: y :: xs) 1 = some y := atN (k := 1)
@[simp] theorem at2 {α : Type} {x y z : α} {xs : List α} : L2.atI (x :: y :: z :: xs) 2 = some z := atN (k := 2)
theorem atLast {α : Type} {xs : List α} {x : α} : L2.atI (xs ++ [x]) (-1) = some x := by
  unfold L2.atI L2.ixN
  rw [if_neg (by omega), if_pos (by simp; omega)]
  have e : (-1 + ((xs ++ [x]).length : Int)).toNat = xs.length := by simp; omega
  simp only [Option.bind_some, e]
  simp
noncomputable def bodyNF (n : Nat) : MS := sIf (xOr (xNot (xCall 1 (e_is_name n) (aCons (xVar 2) aNil))) (x2 opIn (xVar 2) (xSl (xVar 0) oNone (oSome (xVar 1))))) sNo sNil
theorem e_need_flags_ok (hn : 100 ≤ n) (hf : isFls uf fl) (nd : fl.Nodup) (few : fl.length ≤ 4) (nm : ∀ x ∈ fl, nameB x = true) : e_need_flags n [uf] S = .ok .non S := by
  have step : ∀ (i : Nat) (p : Str × Nat) (env : VI.Env), fl.zipIdx[i]? = some p → (∃ a b, env = [some uf, a, b]) → ∃ env1, gT [gN 1, gN 2] (U.tup [.int (p.2 : Nat), .str p.1]) env S = .ok env1 S ∧ ∃ env2, bodyNF n env1 S = .ok (.nx env2) S ∧ ∃ a b, env2 = [some uf, a, b] := by
    rintro i ⟨x, j⟩ env hi ⟨a, b, rfl⟩
    rw [List.getElem?_zipIdx] at hi
    cases hx : fl[i]? with
    | none => rw [hx] at hi; cases hi
    | some y =>
      rw [hx] at hi
      simp at hi
      obtain ⟨rfl, rfl⟩ := hi
      have hm := List.mem_of_getElem? hx
      have hi := (List.getElem?_eq_some_iff.mp hx).1
      refine ⟨[some uf, some (.int (i : Nat)), some (.str y)], by simp, [some uf, some (.int (i : Nat)), some (.str y)], ?_, _, _, rfl⟩
      unfold bodyNF
      simp [e_is_name_str hn (name_sz (nm y hm)), nm y hm]
      rcases hf with rfl | rfl
      · simp
        rw [cut_take (by simp; omega), ← List.map_take, in_flS]
        simp [take_nodup nd hx]
      · simp
        rw [cut_take (by simp; omega), ← List.map_take, in_tupS]
        simp [take_nodup nd hx]
  obtain ⟨env', e, _⟩ := for_eq (fun p : Str × Nat => U.tup [.int (p.2 : Nat), .str p.1]) fl.zipIdx (fun _ env => ∃ a b, env = [some uf, a, b]) (n := n) (env := [some uf, none, none]) (S := S) (by rw [List.length_zipIdx]; omega) ⟨_, _, rfl⟩ step
  rw [← nxE_map] at e
  have few' : ¬ ((4 : Int) < fl.length) := by omega
  unfold e_need_flags m_need_flags
  unfold bodyNF at e
  rcases hf with rfl | rfl
  · simp [e_is_list_fl, few', e]
  · simp [e_is_list_tup, few', e]
theorem e_is_row_ok (hn : 100 ≤ n) (hf : isFls uf fl) (nm : ∀ x ∈ fl, nameB x = true) {r : Row} {k : Nat} (h : GoodR fl k r) : e_is_row n [uf, encRow r, .int (k : Nat)] S = .ok (.bl true) S := by
  unfold e_is_row m_is_row
  cases r with
  | set f v => 
    have h : f ∈ fl := h
    simp [encRow, e_is_flag_str hf, h]
  | say w =>
    have h : nameB w = true := h
    simp [encRow, e_is_name_str hn (name_sz h), h]
  | skip c m =>
    obtain ⟨h1, h2, h3⟩ := h
    have h2' : (1 : Int) ≤ m := by omega
    have h3' : (m : Int) ≤ k := by omega
    simp [encRow, e_is_condition_ok hn hf h1, e_is_number_int, h2', h3']
  | wait c =>
    have h : GoodC fl c := h
    simp [encRow, e_is_condition_ok hn hf h]
  | later c =>
    have h : GoodC fl c := h
    simp [encRow, e_is_condition_ok hn hf h]
noncomputable def bodyNH (n : Nat) : MS := (sIf (xNot (xCall 3 (e_is_row n) (aCons (xVar 0) (aCons (xVar 4) (aCons (x2 opSub (x2 opSub (xB bLen (aCons (x2 opIx (xVar 2) (xC (.int 1))) aNil)) (xVar 3)) (xC (.int 1))) aNil)))))
  sNo
  sNil)
theorem e_need_handler_ok (hn : 100 ≤ n) (hf : isFls uf fl) (nm : ∀ x ∈ fl, nameB x = true) {x : Str} {h : Hd} (hx : nameB x = true) (hh : GoodH fl h) : e_need_handler n [uf, .str x, encHL h] S = .ok .non S := by
  have step : ∀ (i : Nat) (p : Row × Nat) (env : VI.Env), h.rows.zipIdx[i]? = some p → (∃ a b, env = [some uf, some (.str x), some (encHL h), a, b]) → ∃ env1, gT [gN 3, gN 4] (U.tup [.int (p.2 : Nat), encRow p.1]) env S = .ok env1 S ∧ ∃ env2, bodyNH n env1 S = .ok (.nx env2) S ∧ ∃ a b, env2 = [some uf, some (.str x), some (encHL h), a, b] := by
    rintro i ⟨r, j⟩ env hi ⟨a, b, rfl⟩
    rw [List.getElem?_zipIdx] at hi
    cases hr : h.rows[i]? with
    | none => rw [hr] at hi; cases hi
    | some y =>
      rw [hr] at hi
      simp at hi
      obtain ⟨rfl, rfl⟩ := hi
      have hi := (List.getElem?_eq_some_iff.mp hr).1
      refine ⟨[some uf, some (.str x), some (encHL h), some (.int (i : Nat)), some (encRow y)], by simp, [some uf, some (.str x), some (encHL h), some (.int (i : Nat)), some (encRow y)], ?_, _, _, rfl⟩
      unfold bodyNH
      have ek : ((h.rows.length : Int) - (i : Int) - 1) = ((h.rows.length - i - 1 : Nat) : Int) := by omega
      simp [encHL, ek, e_is_row_ok hn hf nm (hh.row i y hr)]
  obtain ⟨env', e, _⟩ := for_eq (fun p : Row × Nat => U.tup [.int (p.2 : Nat), encRow p.1]) h.rows.zipIdx (fun _ env => ∃ a b, env = [some uf, some (.str x), some (encHL h), a, b]) (n := n) (env := [some uf, some (.str x), some (encHL h), none, none]) (S := S) (by rw [List.length_zipIdx]; have := hh.few; omega) ⟨_, _, rfl⟩ step
  rw [← nxE_map] at e
  have h1 : (1 : Int) ≤ h.rows.length := by have := hh.some; omega
  have h2 : (h.rows.length : Int) ≤ 8 := by have := hh.few; omega
  unfold e_need_handler m_need_handler
  unfold bodyNH at e
  unfold encHL at e ⊢
  simp [e_is_name_str hn (name_sz hx), hx, e_is_pair_tup, e_is_condition_ok hn hf hh.guard, e_is_list_fl, h1, h2, e]
end
end Gn
set_option Elab.async false
set_option linter.all false
set_option maxRecDepth 100000
set_option maxHeartbeats 1000000
namespace VI
open PySem
section
variable {env : VI.Env} {S : Sto} {QA : List U → Sto → Prop} {QS : Fl → Sto → Prop} {g : MG} {b : MS} {c : ME} {nx : Nx} {us : List U}
/-- what a turn of a loop leaves -/
def turn (QS : Fl → Sto → Prop) (I : VI.Env → Sto → Prop) (f : Fl) (S : Sto) : Prop := match f with
  | .nx e => I e S
  | .ct e => I e S
  | .bk e => QS (.nx e) S
  | .rt u => QS (.rt u) S
@[simp] theorem turn_nx {I : VI.Env → Sto → Prop} {e : VI.Env} : turn QS I (.nx e) S = I e S := rfl
@[simp] theorem turn_ct {I : VI.Env → Sto → Prop} {e : VI.Env} : turn QS I (.ct e) S = I e S := rfl
@[simp] theorem turn_bk {I : VI.Env → Sto → Prop} {e : VI.Env} : turn QS I (.bk e) S = QS (.nx e) S := rfl
@[simp] theorem turn_rt {I : VI.Env → Sto → Prop} {u : U} : turn QS I (.rt u) S = QS (.rt u) S := rfl
theorem for_from (I : Nat → VI.Env → Sto → Prop) (hnx : ∀ i env S, I i env S → nx i S = some us[i]?)
    (step : ∀ i u env S, us[i]? = some u → I i env S → Ok (g u env S) fun e S1 => Ok (b e S1) (turn QS (I (i + 1)))) (hend : ∀ env S, I us.length env S → QS (.nx env) S) :
    ∀ (k i : Nat) (env : VI.Env) (S : Sto), us.length < i + k → i ≤ us.length → I i env S → Ok (fLoop nx g b k i env S) QS
  | 0, i, env, S, h, h2, _ => absurd h (by omega)
  | k + 1, i, env, S, h, h2, hI => by
    unfold fLoop
    rw [hnx i env S hI]
    cases e : us[i]? with
    | none =>
      have : i = us.length := by have := List.getElem?_eq_none_iff.mp e; omega
      subst this
      exact hend env S hI
    | some u =>
      show Ok ((g u env S).bind _) QS
      rw [Ok.bind_eq]
      refine (step i u env S e hI).imp fun e1 S1 h1 => ?_
      rw [Ok.bind_eq]
      refine h1.imp fun f S2 hf => ?_
      have hl : i < us.length := (List.getElem?_eq_some_iff.mp e).1
      cases f with
      | nx e2 => exact for_from I hnx step hend k (i + 1) e2 S2 (by omega) (by omega) hf
      | ct e2 => exact for_from I hnx step hend k (i + 1) e2 S2 (by omega) (by omega) hf
      | bk e2 => exact hf
      | rt u2 => exact hf
theorem for_ok (us : List U) (I : Nat → VI.Env → Sto → Prop) {n : Nat} (hn : us.length < n) (h0 : I 0 env S) (hnx : ∀ i env S, I i env S → nx i S = some us[i]?)
    (step : ∀ i u env S, us[i]? = some u → I i env S → Ok (g u env S) fun e S1 => Ok (b e S1) (turn QS (I (i + 1)))) (hend : ∀ env S, I us.length env S → QS (.nx env) S) : Ok (fLoop nx g b n 0 env S) QS :=
  for_from I hnx step hend n 0 env S (by omega) (Nat.zero_le _) h0
theorem comp_from {tg : Tg} {t : VI.Env → Sto → R Bool} {e : ME} (I : Nat → Sto → List U → Prop) (hnx : ∀ i S acc, I i S acc → nx i S = some us[i]?)
    (step : ∀ i u S acc, us[i]? = some u → I i S acc → ∃ env', tg.set u env = some env' ∧ Ok (t env' S) fun k S1 => if k = true then Ok (e env' S1) fun v S2 => acc.length < sizeLine ∧ I (i + 1) S2 (acc ++ [v]) else I (i + 1) S1 acc)
    (hend : ∀ S acc, I us.length S acc → QA acc S) : ∀ (k i : Nat) (S : Sto) (acc : List U), us.length < i + k → i ≤ us.length → I i S acc → Ok (cLoop nx tg t e k i env S acc) QA
  | 0, i, S, acc, h, h2, _ => absurd h (by omega)
  | k + 1, i, S, acc, h, h2, hI => by
    unfold cLoop
    rw [hnx i S acc hI]
    cases q : us[i]? with
    | none =>
      have : i = us.length := by have := List.getElem?_eq_none_iff.mp q; omega
      subst this
      exact hend S acc hI
    | some u =>
      obtain ⟨env', et, h1⟩ := step i u S acc q hI
      have hl : i < us.length := (List.getElem?_eq_some_iff.mp q).1
      show Ok (match tg.set u env with | none => _ | some env' => _) QA
      rw [et]
      show Ok ((t env' S).nox.bind _) QA
      rw [Ok.bind_eq, Ok.nox]
      refine h1.imp fun kk S1 hk => ?_
      cases kk with
      | true =>
        rw [if_pos rfl] at hk ⊢
        rw [Ok.bind_eq, Ok.nox]
        refine hk.imp fun v S2 hv => ?_
        rw [if_pos hv.1]
        exact comp_from I hnx step hend k (i + 1) S2 (acc ++ [v]) (by omega) (by omega) hv.2
      | false =>
        rw [if_neg Bool.false_ne_true] at hk ⊢
        exact comp_from I hnx step hend k (i + 1) S1 acc (by omega) (by omega) hk
theorem comp_ok (us : List U) {tg : Tg} {t : VI.Env → Sto → R Bool} {e : ME} (I : Nat → Sto → List U → Prop) {n : Nat} (hn : us.length < n) (h0 : I 0 S []) (hnx : ∀ i S acc, I i S acc → nx i S = some us[i]?)
    (step : ∀ i u S acc, us[i]? = some u → I i S acc → ∃ env', tg.set u env = some env' ∧ Ok (t env' S) fun k S1 => if k = true then Ok (e env' S1) fun v S2 => acc.length < sizeLine ∧ I (i + 1) S2 (acc ++ [v]) else I (i + 1) S1 acc)
    (hend : ∀ S acc, I us.length S acc → QA acc S) : Ok (cLoop nx tg t e n 0 env S []) QA := comp_from I hnx step hend n 0 S [] (by omega) (Nat.zero_le _) h0
theorem while_ok (I : VI.Env → Sto → Prop) (μ : VI.Env → Sto → Nat) (step : ∀ env S, I env S → Ok (c env S) fun u S1 => ∃ k, u = .bl k ∧ if k = true then Ok (b env S1) (turn QS fun e S2 => I e S2 ∧ μ e S2 < μ env S) else QS (.nx env) S1) :
    ∀ (n : Nat) (env : VI.Env) (S : Sto), I env S → μ env S < n → Ok (wLoop c b n env S) QS
  | 0, env, S, _, h => absurd h (by omega)
  | n + 1, env, S, hI, h => by
    unfold wLoop
    rw [Ok.bind_eq]
    refine (step env S hI).imp fun u S1 hu => ?_
    obtain ⟨k, rfl, hk⟩ := hu
    cases k with
    | true =>
      rw [if_pos rfl] at hk
      show Ok ((b env S1).bind _) QS
      rw [Ok.bind_eq]
      refine hk.imp fun f S2 hf => ?_
      cases f with
      | nx e2 => exact while_ok I μ step n e2 S2 hf.1 (by have := hf.2; omega)
      | ct e2 => exact while_ok I μ step n e2 S2 hf.1 (by have := hf.2; omega)
      | bk e2 => exact hf
      | rt u2 => exact hf
    | false =>
      rw [if_neg Bool.false_ne_true] at hk
      exact hk
/-- an equation out of Ok -/
theorem Ok.eq {α : Type} {r : R α} {a : α} {S' : Sto} (h : Ok r fun x T => x = a ∧ T = S') : r = .ok a S' := by
  obtain ⟨x, T, e, rfl, rfl⟩ := h.get
  exact e
@[simp] theorem q_dcompF {n : Nat} {own : List Nat} {mi : MI} {tg : Tg} {t : VI.Env → Sto → R Bool} {k v : ME} : xDcompF n own mi tg t k v env S = (mi env S).bind fun nx S1 => (dLoop nx tg t k v n 0 (wipeU env own) S1 []).bind fun kvs S2 => .ok (.fd kvs) S2 := rfl
@[simp] theorem q_sortD {m : ME} : nSortD m env S = (m env S).bind fun u S1 => onO (dctU u S1) fun kvs => gd (kvs.length < 64) (.ok ((sortS (kvs.map (·.1))).map U.str) S1) := by
  unfold nSortD onO gd
  congr 1; funext u S1
  cases dctU u S1 <;> rfl
theorem putKU_new {k : Str} {v : U} {kvs : List (Str × U)} (h : ∀ p ∈ kvs, p.1 ≠ k) : putKU k v kvs = kvs ++ [(k, v)] := by
  unfold putKU
  rw [if_neg]
  rw [List.any_eq_true]
  rintro ⟨p, hp, e⟩
  exact h p hp (of_decide_eq_true e)
theorem dcomp_acc {α : Type} {tg : Tg} {t : VI.Env → Sto → R Bool} {kx vx : ME} (enc : α → U) (key : α → Str) (val : α → U) (xs : List α) (nd : (xs.map key).Nodup) (h : ∀ x ∈ xs, ∃ env', tg.set (enc x) env = some env' ∧ t env' S = .ok true S ∧ kx env' S = .ok (.str (key x)) S ∧ vx env' S = .ok (val x) S) :
    ∀ (k i : Nat), xs.length < i + k → i ≤ xs.length → xs.length ≤ sizeLine → dLoop (nxL (xs.map enc)) tg t kx vx k i env S ((xs.take i).map fun x => (key x, val x)) = .ok (xs.map fun x => (key x, val x)) S
  | 0, i, h1, h2, _ => absurd h1 (by omega)
  | k + 1, i, h1, h2, h3 => by
    have nxe : nxL (xs.map enc) i S = some (xs[i]?.map enc) := by unfold nxL; rw [List.getElem?_map]
    unfold dLoop
    rw [nxe]
    cases hi : xs[i]? with
    | none =>
      have : xs.length ≤ i := List.getElem?_eq_none_iff.mp hi
      rw [List.take_of_length_le this]
      rfl
    | some x =>
      have hl : i < xs.length := (List.getElem?_eq_some_iff.mp hi).1
      have hx : xs[i] = x := (List.getElem?_eq_some_iff.mp hi).2
      obtain ⟨env', e1, e2, e3, e4⟩ := h x (List.mem_of_getElem? hi)
      simp only [Option.map_some]
      rw [e1]
      simp only [e2, nox_ok, R.bind_ok, if_true, e3, e4]
      rw [if_pos (by rw [List.length_map, List.length_take]; omega), putKU_new, ← dcomp_acc enc key val xs nd h k (i + 1) (by omega) (by omega) h3]
      · congr 1
        rw [List.take_succ, hi]
        simp
      · intro p hp
        obtain ⟨y, hy, rfl⟩ := List.mem_map.mp hp
        intro z
        obtain ⟨j, hj, ej⟩ := List.mem_iff_getElem.mp hy
        rw [List.length_take] at hj
        rw [List.getElem_take] at ej
        have hj' : j < xs.length := by omega
        have : (xs.map key)[j]'(by simp; omega) = (xs.map key)[i]'(by simp; omega) := by
          rw [List.getElem_map, List.getElem_map, ej, hx]
          exact z
        have := (List.getElem_inj (h₀ := by simp; omega) (h₁ := by simp; omega) nd).mp this
        omega
theorem dcomp_eq {α : Type} {tg : Tg} {t : VI.Env → Sto → R Bool} {kx vx : ME} (enc : α → U) (key : α → Str) (val : α → U) (xs : List α) {n : Nat} (nd : (xs.map key).Nodup) (hn : xs.length < n) (hz : xs.length ≤ sizeLine) (h : ∀ x ∈ xs, ∃ env', tg.set (enc x) env = some env' ∧ t env' S = .ok true S ∧ kx env' S = .ok (.str (key x)) S ∧ vx env' S = .ok (val x) S) :
    dLoop (nxL (xs.map enc)) tg t kx vx n 0 env S [] = .ok (xs.map fun x => (key x, val x)) S := dcomp_acc enc key val xs nd h n 0 (by omega) (Nat.zero_le _) hz
end
theorem sortS_perm (ks : List Str) : (sortS ks).Perm ks := List.mergeSort_perm ks leS
theorem sortS_mem {ks : List Str} {x : Str} : x ∈ sortS ks ↔ x ∈ ks := (sortS_perm ks).mem_iff
theorem sortS_len {ks : List Str} : (sortS ks).length = ks.length := (sortS_perm ks).length_eq
theorem sortS_nd {ks : List Str} (h : ks.Nodup) : (sortS ks).Nodup := (sortS_perm ks).nodup_iff.mpr h
theorem sortS_sorted (ks : List Str) : (sortS ks).Pairwise fun a b => leS a b = true := List.pairwise_mergeSort leS_trans leS_total ks
end VI
namespace Gn
open PySem VI
def valC (c : Cond) (k : Str) : Bool := ((c.find? fun p => decide (p.1 = k)).map (·.2)).getD false
def sortC (c : Cond) : Cond := (sortS (c.map (·.1))).map fun k => (k, valC c k)
def sortR : Row → Row
  | .set f v => .set f v
  | .say w => .say w
  | .skip c m => .skip (sortC c) m
  | .wait c => .wait (sortC c)
  | .later c => .later (sortC c)
def sortH (h : Hd) : Hd := ⟨sortC h.guard, h.rows.map sortR⟩
section
variable {n : Nat} {S : Sto} {fl : List Str} {uf : U} {c : Cond}
theorem valC_mem {p : Str × Bool} (nd : (c.map (·.1)).Nodup) (h : p ∈ c) : valC c p.1 = p.2 := by
  induction c with
  | nil => simp at h
  | cons q c ih =>
    unfold valC
    rw [List.find?_cons]
    rw [List.map_cons, List.nodup_cons] at nd
    rcases List.mem_cons.mp h with rfl | h
    · simp
    · have : q.1 ≠ p.1 := fun z => nd.1 (by rw [z]; exact List.mem_map.mpr ⟨p, h, rfl⟩)
      simp only [this, decide_false]
      exact ih nd.2 h
theorem sortC_keys : (sortC c).map (·.1) = sortS (c.map (·.1)) := by
  unfold sortC
  rw [List.map_map]
  exact List.map_id' _
theorem sortC_len : (sortC c).length = c.length := by unfold sortC; rw [List.length_map, sortS_len, List.length_map]
theorem sortC_mem {p : Str × Bool} (nd : (c.map (·.1)).Nodup) : p ∈ sortC c ↔ p ∈ c := by
  unfold sortC
  rw [List.mem_map]
  constructor
  · rintro ⟨k, hk, rfl⟩
    rw [sortS_mem, List.mem_map] at hk
    obtain ⟨q, hq, rfl⟩ := hk
    rw [valC_mem nd hq]
    exact hq
  · intro h
    exact ⟨p.1, by rw [sortS_mem]; exact List.mem_map.mpr ⟨p, h, rfl⟩, by rw [valC_mem nd h]⟩
theorem sortC_good (h : GoodC fl c) : GoodC fl (sortC c) := ⟨by rw [sortC_keys]; exact sortS_nd h.nd, fun p hp => h.mem p ((sortC_mem h.nd).mp hp), by rw [sortC_len]; exact h.few⟩
theorem e_sorted_condition_ok (hn : 100 ≤ n) (h1 : (c.map (·.1)).Nodup) (h2 : c.length ≤ 4) : e_sorted_condition n [encC c] S = .ok (encC (sortC c)) S := by
  unfold e_sorted_condition m_sorted_condition encC
  have hk : (c.map fun p => (p.1, U.bl p.2)).map (·.1) = c.map (·.1) := by rw [List.map_map]; rfl
  have h64 : c.length < 64 := by omega
  simp [h64]
  rw [show (List.map ((fun x => x.fst) ∘ fun p : Str × Bool => (p.fst, U.bl p.snd)) c) = c.map (·.1) from rfl]
  rw [dcomp_eq U.str (fun k => k) (fun k => .bl (valC c k)) (sortS (c.map (·.1))) (by rw [List.map_id']; exact sortS_nd h1) (by rw [sortS_len, List.length_map]; omega) (by rw [sortS_len, List.length_map]; exact szL (by omega))]
  · simp [sortC]
  · intro k hk
    rw [sortS_mem, List.mem_map] at hk
    obtain ⟨p, hp, rfl⟩ := hk
    refine ⟨_, rfl, rfl, by simp, ?_⟩
    simp
    rw [keyAt_map (k := fun p => p.1) (v := fun p => U.bl p.2) h1 hp, valC_mem h1 hp]
    simp
theorem e_copied_row_ok (hn : 100 ≤ n) {r : Row} {k : Nat} (h : GoodR fl k r) : e_copied_row n [encRow r] S = .ok (encRow (sortR r)) S := by
  unfold e_copied_row m_copied_row
  cases r with
  | set f v => simp [encRow, sortR]
  | say w => simp [encRow, sortR]
  | skip c m =>
    obtain ⟨h1, h2, h3⟩ := h
    simp [encRow, sortR, e_sorted_condition_ok hn h1.nd h1.few, cutL, HT.sIx]
  | wait c =>
    have h : GoodC fl c := h
    simp [encRow, sortR, e_sorted_condition_ok hn h.nd h.few, cutL, HT.sIx]
  | later c =>
    have h : GoodC fl c := h
    simp [encRow, sortR, e_sorted_condition_ok hn h.nd h.few, cutL, HT.sIx]
theorem row_good {h : Hd} (hh : GoodH fl h) {r : Row} (hr : r ∈ h.rows) : ∃ k, GoodR fl k r := by
  obtain ⟨i, hi, e⟩ := List.mem_iff_getElem.mp hr
  exact ⟨_, hh.row i r (by rw [List.getElem?_eq_getElem hi, e])⟩
theorem e_copied_handler_ok (hn : 100 ≤ n) {h : Hd} (hh : GoodH fl h) : e_copied_handler n [encHL h] S = .ok (encH (sortH h)) S := by
  unfold e_copied_handler m_copied_handler encHL
  simp [e_sorted_condition_ok hn hh.guard.nd hh.guard.few]
  rw [comp_map encRow (fun r => encRow (sortR r)) h.rows (by have := hh.few; omega) (szL (by have := hh.few; omega))]
  · simp [encH, sortH]
  · intro r hr
    obtain ⟨k, hk⟩ := row_good hh hr
    refine ⟨_, rfl, rfl, ?_⟩
    simp [e_copied_row_ok hn hk]
end
end Gn
set_option Elab.async false
set_option linter.all false
set_option maxRecDepth 100000
set_option maxHeartbeats 1000000
namespace VI
open PySem
section
variable {S S' : Sto} {n m : Nat} {o : O}
theorem lst_get {xs : List U} : S.lst n = some xs ↔ S.objs[n]? = some (.lst xs) := by
  unfold Sto.lst; split <;> simp_all
theorem dct_get {xs : List (Str × U)} : S.dct n = some xs ↔ S.objs[n]? = some (.dct xs) := by
  unfold Sto.dct; split <;> simp_all
theorem ins_get {c : Str} {xs : List (Str × U)} : S.ins n = some (c, xs) ↔ S.objs[n]? = some (.ins c xs) := by
  unfold Sto.ins; split <;> simp_all
theorem lt_of_get {x : O} (h : S.objs[n]? = some x) : n < S.objs.length := (List.getElem?_eq_some_iff.mp h).1
theorem Ext.lst (a : Ext S S') {xs : List U} (h : S.lst n = some xs) : S'.lst n = some xs := lst_get.mpr (a.get (lst_get.mp h))
theorem Ext.dct (a : Ext S S') {xs : List (Str × U)} (h : S.dct n = some xs) : S'.dct n = some xs := dct_get.mpr (a.get (dct_get.mp h))
theorem Ext.ins (a : Ext S S') {c : Str} {xs : List (Str × U)} (h : S.ins n = some (c, xs)) : S'.ins n = some (c, xs) := ins_get.mpr (a.get (ins_get.mp h))
theorem get_new : (S.push o).objs[S.objs.length]? = some o := by
  show (S.objs ++ [o])[_]? = _
  rw [List.getElem?_append_right (Nat.le_refl _), Nat.sub_self]
  rfl
theorem get_put (h : n < S.objs.length) : (S.put n o).objs[n]? = some o := List.getElem?_set_self h
theorem get_put_ne (h : n ≠ m) : (S.put n o).objs[m]? = S.objs[m]? := List.getElem?_set_ne h
@[simp] theorem lst_new {xs : List U} : (S.push (.lst xs)).lst S.objs.length = some xs := lst_get.mpr get_new
@[simp] theorem dct_new {xs : List (Str × U)} : (S.push (.dct xs)).dct S.objs.length = some xs := dct_get.mpr get_new
@[simp] theorem ins_new {c : Str} {xs : List (Str × U)} : (S.push (.ins c xs)).ins S.objs.length = some (c, xs) := ins_get.mpr get_new
@[simp] theorem lk_push : (S.push o).lk = S.lk := rfl
@[simp] theorem lk_put : (S.put n o).lk = S.lk := rfl
@[simp] theorem len_push : (S.push o).objs.length = S.objs.length + 1 := by show (S.objs ++ [o]).length = _; simp
@[simp] theorem len_put : (S.put n o).objs.length = S.objs.length := List.length_set
theorem lst_put {xs : List U} (h : n < S.objs.length) : (S.put n (.lst xs)).lst n = some xs := lst_get.mpr (get_put h)
theorem dct_put {xs : List (Str × U)} (h : n < S.objs.length) : (S.put n (.dct xs)).dct n = some xs := dct_get.mpr (get_put h)
theorem ins_put {c : Str} {xs : List (Str × U)} (h : n < S.objs.length) : (S.put n (.ins c xs)).ins n = some (c, xs) := ins_get.mpr (get_put h)
theorem lst_put_ne (h : n ≠ m) : (S.put n o).lst m = S.lst m := by unfold Sto.lst; rw [get_put_ne h]
theorem dct_put_ne (h : n ≠ m) : (S.put n o).dct m = S.dct m := by unfold Sto.dct; rw [get_put_ne h]
theorem ins_put_ne (h : n ≠ m) : (S.put n o).ins m = S.ins m := by unfold Sto.ins; rw [get_put_ne h]
theorem put_put {o' : O} : (S.put n o).put n o' = S.put n o' := by
  show (⟨(S.objs.set n o).set n o', S.lk⟩ : Sto) = ⟨S.objs.set n o', S.lk⟩
  rw [List.set_set]
theorem put_push {o' : O} : (S.push o).put S.objs.length o' = S.push o' := by
  show (⟨(S.objs ++ [o]).set S.objs.length o', S.lk⟩ : Sto) = ⟨S.objs ++ [o'], S.lk⟩
  rw [List.set_append_right _ _ (Nat.le_refl _), Nat.sub_self]
  rfl
theorem kd_lst {us : List U} (h : S.lst n = some us) : kdU (.ref n) S = some .lst := by unfold kdU; simp [lst_get.mp h]
@[simp] theorem kd_fl {us : List U} : kdU (.fl us) S = some .lst := rfl
@[simp] theorem isLst_lst : isLst .lst = true := rfl
@[simp] theorem q_ext {u : U} : mExtend (.ref n) [u] S = onO (S.lst n) fun xs => onO (plU u S) fun zs => gd (xs.length + zs.length ≤ sizeLine) (.ok .non (S.put n (.lst (xs ++ zs)))) := by
  unfold mExtend onO gd
  dsimp only
  cases S.lst n with
  | none => rfl
  | some xs => cases plU u S <;> rfl
theorem isI_of {c mn : Str} {fs : List (Str × U)} (h : S.ins n = some (c, fs)) (hl : fs.lookup mn = none) : isI c mn (.ref n) S = true := by
  unfold isI
  simp [h, hl]
theorem isC_of {c : Str} {fs : List (Str × U)} (h : S.ins n = some (c, fs)) : isC c (.ref n) S = true := by
  unfold isC
  simp [h]
theorem Ok.gc {r : R U} {Q : U → Sto → Prop} (h : Ok r fun u S1 => Ok (gcR S (.ok u S1)) Q) : Ok (gcR S r) Q := by
  cases r with
  | ok u S1 => exact h
  | exc => exact h.elim
  | no => exact h.elim
end
end VI
namespace Gn
open PySem VI
/-- the places of one handler, of a program -/
def plc (w : Str) (p : Str × Hd) : List Place := (p.2.rows.zipIdx.filter fun q => decide (q.1.word = w)).map fun q => (p.1, q.2)
def placesOf (hs : List (Str × Hd)) (w : Str) : List Place := hs.flatMap (plc w)
def progF (P : Prog) : List (Str × U) := [("own_flags", .tup (P.flags.map U.str)), ("own_handlers", encHs P.hs)]
def PAt (S : Sto) (q : Nat) (P : Prog) : Prop := S.ins q = some (("Program" : Str), progF P)
theorem PAt.ext {S S' : Sto} {q : Nat} {P : Prog} (h : PAt S q P) (a : Ext S S') : PAt S' q P := a.ins h
structure FewHs (hs : List (Str × Hd)) : Prop where
  nd : (hs.map (·.1)).Nodup
  few : hs.length ≤ 4
  rows : ∀ p ∈ hs, p.2.rows.length ≤ 8
@[simp] theorem encP_clo {k : Nat} {p : Place} : Clo k (encP p) := by simp [encP]
theorem word_eq (r : Row) : ∃ us, encRow r = .tup (.str r.word :: us) := by cases r <;> exact ⟨_, rfl⟩
section
variable {n : Nat} {S : Sto} {fl : List Str} {uf : U} {c : Cond} {q : Nat} {P : Prog}
theorem plc_len {w : Str} {p : Str × Hd} (h : p.2.rows.length ≤ 8) : (plc w p).length ≤ 8 := by
  unfold plc
  rw [List.length_map]
  exact Nat.le_trans (List.length_filter_le _ _) (by rw [List.length_zipIdx]; exact h)
theorem flat_len {w : Str} : ∀ {hs : List (Str × Hd)}, (∀ p ∈ hs, p.2.rows.length ≤ 8) → (hs.flatMap (plc w)).length ≤ 8 * hs.length
  | [], _ => by simp
  | p :: hs, h => by
    rw [List.flatMap_cons, List.length_append, List.length_cons]
    have h1 := plc_len (w := w) (h p (by simp))
    have h2 := flat_len (w := w) (hs := hs) fun p hp => h p (by simp [hp])
    omega
theorem comp_plc (hn : 100 ≤ n) {w : Str} {p : Str × Hd} (hr : p.2.rows.length ≤ 8) {a b : U} :
    cLoop (nxE (p.2.rows.map encRow)) (.many [4, 5]) (bOf (x2 opEq (x2 opIx (xVar 5) (xC (.int 0))) (xVar 1))) (xTup (aCons (xVar 3) (aCons (xVar 4) aNil))) n 0 [some a, some (.str w), some b, some (.str p.1), none, none] S [] = .ok ((plc w p).map encP) S := by
  rw [nxE_map, comp_eq (fun q : Row × Nat => U.tup [.int (q.2 : Nat), encRow q.1]) (fun q => decide (q.1.word = w)) (fun q => encP (p.1, q.2)) p.2.rows.zipIdx (by rw [List.length_zipIdx]; omega) (by rw [List.length_zipIdx]; exact szL (by omega))]
  · unfold plc
    rw [List.map_map]
    rfl
  · intro q hq
    refine ⟨_, rfl, ?_, fun _ => ?_⟩
    · obtain ⟨us, e⟩ := word_eq q.1
      simp [e]
    · simp [encP]
theorem e_places_ok (hn : 100 ≤ n) (hP : PAt S q P) (hh : FewHs P.hs) {w : Str} : e_Program_places n [.ref q, .str w] S = .ok (.tup ((placesOf P.hs w).map encP)) S := by
  apply Ok.eq
  unfold e_Program_places m_Program_places
  rw [q_fnG]
  apply Ok.gc
  have hP' : S.ins q = some (("Program" : Str), progF P) := hP
  have e1 : ∀ {S' : Sto} {e : VI.Env}, Ext S S' → e[0]? = some (some (.ref q)) → xFld tb_own_handlers "own_handlers" (xVar 0) e S' = .ok (.fd (P.hs.map fun p => (p.1, encH p.2))) S' := by
    intro S' e hx he
    have h2 : S'.ins q = some (("Program" : Str), progF P) := hx.ins hP
    simp [h2, he, progF, tb_own_handlers, encHs]
  simp
  rw [q_forD (kvs := P.hs.map fun p => (p.1, encH p.2)) (e1 Ext.push rfl), keysU_map]
  refine for_ok (P.hs.map fun p => U.str p.1) (fun i env S1 => Ext S S1 ∧ S1.lst S.objs.length = some (((P.hs.take i).flatMap (plc w)).map encP) ∧ ∃ a b c, env = [some (.ref q), some (.str w), some (.ref S.objs.length), a, b, c]) (by rw [List.length_map]; have := hh.few; omega) ⟨Ext.push, by simp, none, none, none, rfl⟩ (fun _ _ _ _ => rfl) ?_ ?_
  · rintro i u env S1 hu ⟨hx, hl, a, b, c, rfl⟩
    rw [List.getElem?_map] at hu
    cases hi : P.hs[i]? with
    | none => rw [hi] at hu; cases hu
    | some p =>
      rw [hi] at hu
      cases hu
      have hm := List.mem_of_getElem? hi
      have h2 : S1.ins q = some (("Program" : Str), progF P) := hx.ins hP
      have hlt := lt_of_get (lst_get.mp hl)
      have ek : keyAt (P.hs.map fun p => (p.1, encH p.2)) p.1 = some (encH p.2) := keyAt_map (k := fun p => p.1) (v := fun p => encH p.2) hh.nd hm
      simp [kd_lst hl, h2, progF, tb_own_handlers, encHs, ek]
      simp [encH, comp_plc hn (hh.rows p hm), hl]
      refine ⟨?_, hx.put (Nat.le_refl _), ?_⟩
      · have h3 := flat_len (w := w) (hs := P.hs.take i) fun p hp => hh.rows p (List.mem_of_mem_take hp)
        have h4 := plc_len (w := w) (hh.rows p hm)
        rw [List.length_flatMap, List.map_take] at h3
        have h5 : (P.hs.take i).length ≤ 4 := by rw [List.length_take]; have := hh.few; omega
        refine szL ?_
        omega
      · rw [lst_put hlt, List.take_succ, hi]
        simp
  · rintro env S1 ⟨hx, hl, a, b, c, rfl⟩
    rw [List.length_map, List.take_length] at hl
    simp [hl]
    rw [gc_ext hx]
    · simp [placesOf]
    · simp
      rintro u x k y h _ _ rfl
      simp
end
end Gn
set_option Elab.async false
set_option linter.all false
set_option maxRecDepth 100000
set_option maxHeartbeats 1000000
namespace VI
open PySem
/-- plain things that stand as data -/
class Dat (α : Type) where
  enc : α → U
  dat : α → PyData
  dep : Nat
  ok : α → Prop
  rd : ∀ (a : α) (k : Nat) (S : Sto), ok a → dep ≤ k → rdU k S (enc a) = some (dat a)
  eqv : ∀ a b : α, PyData.eqv (dat a) (dat b) = true ↔ a = b
open Dat
instance : Dat Str where
  enc := .str
  dat := .str
  dep := 0
  ok x := PyData.strOk x = true
  rd a k S h _ := by cases k <;> (unfold rdU; rw [if_pos h])
  eqv a b := by simp [PyData.eqv]
instance : Dat Nat where
  enc n := .int (n : Nat)
  dat n := .int (n : Nat)
  dep := 0
  ok _ := True
  rd a k S _ _ := by cases k <;> rfl
  eqv a b := by simp [PyData.eqv]; omega
instance : Dat Bool where
  enc := .bl
  dat := .bool
  dep := 0
  ok _ := True
  rd a k S _ _ := by cases k <;> rfl
  eqv a b := by cases a <;> cases b <;> simp [PyData.eqv]
theorem rd_list {α : Type} [Dat α] {k : Nat} {S : Sto} : ∀ {xs : List α}, (∀ x ∈ xs, ok x) → dep α ≤ k → allSome ((xs.map enc).map (rdU k S)) = some (xs.map dat)
  | [], _, _ => rfl
  | x :: xs, h, hk => by
    rw [List.map_cons, List.map_cons, rd x k S (h x (by simp)) hk]
    show (allSome _).map _ = _
    rw [rd_list (fun y hy => h y (by simp [hy])) hk]
    rfl
theorem eqv_all {α : Type} [Dat α] : ∀ {xs ys : List α}, PyData.eqvAll (xs.map dat) (ys.map dat) = true ↔ xs = ys
  | [], [] => by simp [PyData.eqvAll]
  | [], _ :: _ => by simp [PyData.eqvAll]
  | _ :: _, [] => by simp [PyData.eqvAll]
  | x :: xs, y :: ys => by
    rw [List.map_cons, List.map_cons]
    unfold PyData.eqvAll
    rw [Bool.and_eq_true, eqv, eqv_all, List.cons.injEq]
instance {α : Type} [Dat α] : Dat (List α) where
  enc xs := .tup (xs.map enc)
  dat xs := .tuple (xs.map dat)
  dep := dep α + 1
  ok xs := ∀ x ∈ xs, ok x
  rd xs k S h hk := by
    cases k with
    | zero => omega
    | succ k =>
      show (allSome _).map _ = _
      rw [rd_list h (by omega)]
      rfl
  eqv a b := by
    unfold PyData.eqv
    exact eqv_all
instance {α β : Type} [Dat α] [Dat β] : Dat (α × β) where
  enc p := .tup [enc p.1, enc p.2]
  dat p := .tuple [dat p.1, dat p.2]
  dep := dep α + dep β + 1
  ok p := ok p.1 ∧ ok p.2
  rd p k S h hk := by
    cases k with
    | zero => omega
    | succ k =>
      show (allSome _).map _ = _
      rw [List.map_cons, List.map_cons, rd p.1 k S h.1 (by omega), rd p.2 k S h.2 (by omega)]
      rfl
  eqv a b := by
    unfold PyData.eqv PyData.eqvAll PyData.eqvAll PyData.eqvAll
    simp only [Bool.and_eq_true, eqv, and_true]
    constructor
    · rintro ⟨h1, h2⟩; exact Prod.ext h1 h2
    · rintro rfl; exact ⟨rfl, rfl⟩
section
variable {α : Type} [Dat α] {S : Sto}
theorem dat_eqv {a b : α} [DecidableEq α] : PyData.eqv (dat a) (dat b) = decide (a = b) := by
  rw [Bool.eq_iff_iff, eqv, decide_eq_true_eq]
theorem eqU_dat [DecidableEq α] {a b : α} (ha : ok a) (hb : ok b) (hd : dep α ≤ 60) : eqU (enc a) (enc b) S = some (decide (a = b)) := by
  have e1 := rd a 60 S ha hd
  have e2 := rd b 60 S hb hd
  unfold eqU
  split
  · rename_i x y h1 h2
    rw [h1] at e1
    rw [h2] at e2
    unfold rdU at e1 e2
    split at e1
    · split at e2
      · have e3 := dat_eqv (a := a) (b := b)
        rw [← Option.some.inj e1, ← Option.some.inj e2] at e3
        rw [← e3]
        simp [PyData.eqv]
        rw [Bool.eq_iff_iff]
        simp
      · cases e2
    · cases e1
  · rw [e1, e2]
    simp only [dat_eqv]
theorem opEq_dat [DecidableEq α] {a b : α} (ha : ok a) (hb : ok b) (hd : dep α ≤ 60) : opEq (enc a) (enc b) S = .ok (.bl (decide (a = b))) S := by
  unfold opEq
  rw [eqU_dat ha hb hd]
theorem opNe_dat [DecidableEq α] {a b : α} (ha : ok a) (hb : ok b) (hd : dep α ≤ 60) : opNe (enc a) (enc b) S = .ok (.bl (!decide (a = b))) S := by
  unfold opNe
  rw [eqU_dat ha hb hd]
theorem any_dat [DecidableEq α] {a : α} : ∀ {xs : List α}, ((xs.map dat).any fun z => PyData.eqv z (dat a)) = decide (a ∈ xs)
  | [] => rfl
  | x :: xs => by
    rw [List.map_cons, List.any_cons, dat_eqv, any_dat]
    by_cases h : x = a
    · subst h; simp
    · have h' : ¬ a = x := fun z => h z.symm
      simp [h, h']
/-- a tuple in a tuple or a list -/
theorem in_dat [DecidableEq α] {a : α} {xs : List α} {w : U} (hs : seqU w S = some (xs.map enc)) (ht : ∃ us, enc a = U.tup us) (ha : ok a) (hx : ∀ x ∈ xs, ok x) (hd : dep α ≤ 60) {b : Bool} (hb : b = true ↔ a ∈ xs) : opIn (enc a) w S = .ok (.bl b) S := by
  have eb : b = decide (a ∈ xs) := by rw [Bool.eq_iff_iff, hb, decide_eq_true_eq]
  subst eb
  obtain ⟨us, e⟩ := ht
  have e1 := rd a 60 S ha hd
  have e2 := rd_list (S := S) hx hd
  rw [e] at e1 ⊢
  unfold opIn inU
  simp only [hs, e1, e2, any_dat]
/-- sorted by an order that the data have -/
theorem sorted_dat {xs : List α} (le : α → α → Bool) (hx : ∀ x ∈ xs, ok x) (hd : dep α ≤ 60) (hl : xs.length ≤ sizeLine) (hle : ∀ a b : α, le a b = !PySem.W.dataLt (dat b) (dat a)) (hal : ∀ a b : α, PySem.W.alike (dat a) (dat b) = true) (hk : (∀ a : α, tupB (dat a) = true) ∨ ∀ a : α, otherB (dat a) = true) :
    nSorted (xs.map enc) S = .ok ((xs.mergeSort le).map enc) S := by
  unfold nSorted
  rw [rd_list hx hd]
  have hc : (alikeB (xs.map dat) && ((xs.map dat).all tupB || (xs.map dat).all otherB)) = true := by
    rw [Bool.and_eq_true, Bool.or_eq_true]
    refine ⟨?_, ?_⟩
    · unfold alikeB
      simp only [List.all_map, List.all_eq_true, Function.comp_apply]
      exact fun a _ b _ => hal a b
    · simp only [List.all_map, List.all_eq_true, Function.comp_apply]
      exact hk.imp (fun h a _ => h a) fun h a _ => h a
  dsimp only
  rw [if_pos ⟨hc, by rw [List.length_map]; exact hl⟩]
  have hz : (xs.map enc).zip (xs.map dat) = xs.map fun x => (enc x, dat x) := by
    rw [List.zip_map']
  rw [hz]
  unfold sortD
  rw [← List.map_mergeSort (r := le) (f := fun x => (enc x, dat x)) (s := PySem.W.dataLe false fun p : U × PyData => p.2), List.map_map]
  · rfl
  · intro a _ b _
    rw [hle]
    rfl
end
theorem sorted_strs {ks : List Str} {S : Sto} (hx : ∀ x ∈ ks, PyData.strOk x = true) (hl : ks.length ≤ sizeLine) : nSorted (ks.map U.str) S = .ok ((sortS ks).map U.str) S := by
  refine sorted_dat (α := Str) leS hx (by show 0 ≤ 60; omega) hl ?_ ?_ (.inr fun a => rfl)
  · intro a b
    show leS a b = !PySem.W.dataLt (.str b) (.str a)
    rw [PySem.W.dataLt_str, Bool.eq_iff_iff, leS_iff]
    simp
  · intro a b
    show PySem.W.alike (.str a) (.str b) = true
    simp [PySem.W.alike]
/-- names first, then indexes -/
def leP (a b : Str × Nat) : Bool := !(decide (b.1.cps.toList < a.1.cps.toList) || (decide (a.1 = b.1) && decide (b.2 < a.2)))
theorem lt_irr (a : List Nat) : ¬ a < a := List.lt_irrefl a
theorem sorted_places {ks : List (Str × Nat)} {S : Sto} (hx : ∀ x ∈ ks, PyData.strOk x.1 = true) (hl : ks.length ≤ sizeLine) : nSorted (ks.map fun p => U.tup [.str p.1, .int (p.2 : Nat)]) S = .ok ((ks.mergeSort leP).map fun p => U.tup [.str p.1, .int (p.2 : Nat)]) S := by
  refine sorted_dat (α := Str × Nat) leP (fun x h => ⟨hx x h, trivial⟩) (by show 1 ≤ 60; omega) hl ?_ ?_ (.inl fun a => rfl)
  · intro a b
    show leP a b = !PySem.W.dataLt (.tuple [.str b.1, .int (b.2 : Nat)]) (.tuple [.str a.1, .int (a.2 : Nat)])
    rw [PySem.W.dataLt_pair (by simp [PySem.W.alike]) (by simp [PySem.W.alike]), PySem.W.dataLt_str, PySem.W.dataLt_int]
    unfold leP
    congr 1
    have e1 : PyData.eqv (.str b.1) (.str a.1) = decide (b.1 = a.1) := dat_eqv (α := Str)
    have e2 : PyData.eqv (.int (b.2 : Nat)) (.int (a.2 : Nat)) = decide (b.2 = a.2) := dat_eqv (α := Nat)
    rw [e1, e2]
    by_cases h : b.1 = a.1
    · have l0 : decide (a.1.cps.toList < a.1.cps.toList) = false := decide_eq_false (lt_irr _)
      rw [h, l0]
      simp only [decide_true, Bool.false_or, Bool.true_and, if_true]
      by_cases h2 : b.2 = a.2
      · simp [h2]
      · simp [h2]
    · have h' : ¬ a.1 = b.1 := fun z => h z.symm
      simp [h, h']
  · intro a b
    show PySem.W.alike (.tuple [.str a.1, .int (a.2 : Nat)]) (.tuple [.str b.1, .int (b.2 : Nat)]) = true
    simp [PySem.W.alike, PySem.W.alikeAll]
end VI
set_option Elab.async false
set_option linter.all false
set_option maxRecDepth 100000
set_option maxHeartbeats 1000000
namespace VI
open PySem
theorem q_compDR {n h : Nat} {own : List Nat} {mo m : ME} {env : VI.Env} {S : Sto} {view : List (Str × U) → List U} {tg : Tg} {t : VI.Env → Sto → R Bool} {kvs : List (Str × U)} {us : List U} (hm : ∀ S', mo env S' = .ok (.ref h) S') (hd : S.dct h = some kvs) (hl : h ∉ S.lk)
    (hc : cLoop (nxL (view kvs)) tg t m n 0 (wipeU env own) ⟨S.objs, h :: S.lk⟩ [] = .ok us ⟨S.objs, h :: S.lk⟩) : nCompD n own mo view tg t m env S = .ok us S := by
  unfold nCompD isFd
  rw [hm, if_neg Bool.false_ne_true]
  unfold locked lockAt
  simp only [hm, hd, if_neg hl]
  have hd' : (⟨S.objs, h :: S.lk⟩ : Sto).dct h = some kvs := hd
  unfold iD dOf
  rw [q_comp]
  simp only [hm, R.bind_ok, if_true, hd', hc]
  rfl
end VI
namespace Gn
open PySem VI
theorem AZ_small : (AZ.cps.toList.all fun c => decide (c < 0x110000)) = true := by decide +kernel
theorem name_ok {x : Str} (h : nameB x = true) : PyData.strOk x = true := by
  unfold nameB at h
  simp only [Bool.and_eq_true, List.all_eq_true, decide_eq_true_eq] at h
  unfold PyData.strOk
  rw [Array.all_eq_true']
  intro c hc
  have := List.all_eq_true.mp AZ_small c (h.2 c (by simpa using hc))
  exact this
/-- a plan that makes a program -/
structure GoodP (fl : List Str) (hs : List (Str × Hd)) : Prop where
  fnd : fl.Nodup
  ffew : fl.length ≤ 4
  fname : ∀ x ∈ fl, nameB x = true
  hnd : (hs.map (·.1)).Nodup
  hsome : 1 ≤ hs.length
  hfew : hs.length ≤ 4
  hname : ∀ p ∈ hs, nameB p.1 = true
  hgood : ∀ p ∈ hs, GoodH fl p.2
  few : (placesOf hs "wait").length + (placesOf hs "later").length ≤ 6
def hdOf (hs : List (Str × Hd)) (k : Str) : Hd := ((hs.find? fun p => decide (p.1 = k)).map (·.2)).getD ⟨[], []⟩
def sortHs (hs : List (Str × Hd)) : List (Str × Hd) := (sortS (hs.map (·.1))).map fun k => (k, sortH (hdOf hs k))
/-- the program of a plan -/
def mkP (fl : List Str) (hs : List (Str × Hd)) : Prog := ⟨sortS fl, sortHs hs⟩
theorem hdOf_mem {hs : List (Str × Hd)} {p : Str × Hd} (nd : (hs.map (·.1)).Nodup) (h : p ∈ hs) : hdOf hs p.1 = p.2 := by
  induction hs with
  | nil => simp at h
  | cons q c ih =>
    unfold hdOf
    rw [List.find?_cons]
    rw [List.map_cons, List.nodup_cons] at nd
    rcases List.mem_cons.mp h with rfl | h
    · simp
    · have : q.1 ≠ p.1 := fun z => nd.1 (by rw [z]; exact List.mem_map.mpr ⟨p, h, rfl⟩)
      simp only [this, decide_false]
      exact ih nd.2 h
theorem sortHs_names {hs : List (Str × Hd)} : (sortHs hs).map (·.1) = sortS (hs.map (·.1)) := by
  unfold sortHs
  rw [List.map_map]
  exact List.map_id' _
theorem sortHs_len {hs : List (Str × Hd)} : (sortHs hs).length = hs.length := by unfold sortHs; rw [List.length_map, sortS_len, List.length_map]
theorem mem_sortHs {hs : List (Str × Hd)} {q : Str × Hd} (nd : (hs.map (·.1)).Nodup) : q ∈ sortHs hs ↔ ∃ p ∈ hs, q = (p.1, sortH p.2) := by
  unfold sortHs
  rw [List.mem_map]
  constructor
  · rintro ⟨k, hk, rfl⟩
    rw [sortS_mem, List.mem_map] at hk
    obtain ⟨p, hp, rfl⟩ := hk
    exact ⟨p, hp, by rw [hdOf_mem nd hp]⟩
  · rintro ⟨p, hp, rfl⟩
    exact ⟨p.1, by rw [sortS_mem]; exact List.mem_map.mpr ⟨p, hp, rfl⟩, by rw [hdOf_mem nd hp]⟩
theorem sortR_word {r : Row} : (sortR r).word = r.word := by cases r <;> rfl
theorem plc_sort {w : Str} {p : Str × Hd} : plc w (p.1, sortH p.2) = plc w p := by
  unfold plc sortH
  show ((p.2.rows.map sortR).zipIdx.filter _).map _ = _
  rw [List.zipIdx_map, List.filter_map, List.map_map]
  have e : ((fun q : Row × Nat => decide (q.1.word = w)) ∘ Prod.map sortR id) = fun q => decide (q.1.word = w) := by
    funext q
    show decide ((sortR q.1).word = w) = _
    rw [sortR_word]
  rw [e]
  rfl
theorem perm_hs {hs : List (Str × Hd)} (nd : (hs.map (·.1)).Nodup) : (sortHs hs).Perm (hs.map fun p => (p.1, sortH p.2)) := by
  unfold sortHs
  refine ((sortS_perm (hs.map (·.1))).map fun k => (k, sortH (hdOf hs k))).trans ?_
  rw [List.map_map]
  refine List.Perm.of_eq (List.map_congr_left fun p hp => ?_)
  show (p.1, sortH (hdOf hs p.1)) = _
  rw [hdOf_mem nd hp]
theorem places_len {hs : List (Str × Hd)} {w : Str} (nd : (hs.map (·.1)).Nodup) : (placesOf (sortHs hs) w).length = (placesOf hs w).length := by
  unfold placesOf
  have h := ((perm_hs nd).flatMap_right (plc w)).length_eq
  rw [h, List.flatMap_map]
  congr 2
  funext p
  exact plc_sort
@[simp] theorem encC_clo {k : Nat} {c : Cond} : Clo k (encC c) := by
  unfold encC
  rw [clo_fd]
  intro p hp
  obtain ⟨q, _, rfl⟩ := List.mem_map.mp hp
  simp
@[simp] theorem encRow_clo {k : Nat} {r : Row} : Clo k (encRow r) := by cases r <;> simp [encRow]
@[simp] theorem encH_clo {k : Nat} {h : Hd} : Clo k (encH h) := by
  simp [encH]
@[simp] theorem encHL_clo {k : Nat} {h : Hd} : Clo k (encHL h) := by
  simp [encHL]
@[simp] theorem encHs_clo {k : Nat} {hs : List (Str × Hd)} : Clo k (encHs hs) := by
  unfold encHs
  rw [clo_fd]
  intro p hp
  obtain ⟨q, _, rfl⟩ := List.mem_map.mp hp
  simp
@[simp] theorem strs_clo {k : Nat} {xs : List Str} : Clo k (.tup (xs.map U.str)) := by
  rw [clo_tup]
  intro p hp
  obtain ⟨q, _, rfl⟩ := List.mem_map.mp hp
  simp
@[simp] theorem encSt_clo {k : Nat} {s : Stt} : Clo k (encSt s) := by
  unfold encSt
  rw [clo_tup]
  intro p hp
  simp at hp
  rcases hp with rfl | rfl
  · simp
  · rw [clo_tup]
    intro p hp
    obtain ⟨q, _, rfl⟩ := List.mem_map.mp hp
    simp
theorem progF_clo {k : Nat} {P : Prog} : CloO k (.ins "Program" (progF P)) := by
  rw [cloO_ins]
  intro p hp
  unfold progF at hp
  rcases List.mem_cons.mp hp with rfl | hp
  · exact strs_clo
  · rw [List.mem_singleton.mp hp]
    exact encHs_clo
section
variable {n : Nat} {S : Sto} {fl : List Str} {hs : List (Str × Hd)} {a h : Nat}
theorem init_ok (hn : 100 ≤ n) (G : GoodP fl hs) (ha : S.ins a = some (("Program" : Str), [])) (hd : S.dct h = some (hs.map fun p => (p.1, encHL p.2))) (hl : h ∉ S.lk) :
    e_Programzz_initzz n [.ref a, .fl (fl.map U.str), .ref h] S = .ok .non (S.put a (.ins "Program" (progF (mkP fl hs)))) := by
  have hlt := lt_of_get (ins_get.mp ha)
  have hf : isFls (.fl (fl.map U.str)) fl := .inl rfl
  have h1 : (1 : Int) ≤ hs.length := by have := G.hsome; omega
  have h4 : (hs.length : Int) ≤ 4 := by have := G.hfew; omega
  have hs4 := G.hfew
  have hah : a ≠ h := fun z => by
    subst z
    have := dct_get.mp hd
    rw [ins_get.mp ha] at this
    cases this
  have hnm : ∀ x ∈ hs.map (·.1), nameB x = true := fun x hx => by
    obtain ⟨p, hp, rfl⟩ := List.mem_map.mp hx
    exact G.hname p hp
  -- no strange names
  have e3 : ∀ x3 x4 : Option U, nCompD n [4] (xVar 2) keysU (.one 4) (bOf (xNot (x1 (isiB tbI [.str]) (xVar 4)))) (xVar 4) [some (.ref a), some (.fl (fl.map U.str)), some (.ref h), x3, x4] S = .ok [] S := fun x3 x4 => by
    refine q_compDR (fun S' => by simp) hd hl ?_
    rw [keysU_map, comp_eq (fun p : Str × Hd => U.str p.1) (fun _ => false) (fun p => U.str p.1) hs (by omega) (szL (by omega))]
    · simp
    · intro p hp
      refine ⟨_, rfl, ?_, fun z => by cases z⟩
      simp
  obtain ⟨ks, hks⟩ : ∃ ks, ks = hs.map (·.1) := ⟨_, rfl⟩
  have e4 : ∀ x3 x4 : Option U, nCompD n [4] (xVar 2) keysU (.one 4) (bOf (x1 (isiB tbI [.str]) (xVar 4))) (xVar 4) [some (.ref a), some (.fl (fl.map U.str)), some (.ref h), x3, x4] S = .ok (ks.map U.str) S := fun x3 x4 => by
    refine q_compDR (fun S' => by simp) hd hl ?_
    rw [keysU_map, comp_eq (fun p : Str × Hd => U.str p.1) (fun _ => true) (fun p => U.str p.1) hs (by omega) (szL (by omega))]
    · rw [List.filter_eq_self.mpr (fun _ _ => rfl), hks, List.map_map]
      rfl
    · intro p hp
      refine ⟨_, rfl, ?_, fun z => ?_⟩
      · simp
      · simp
  have e5 : nSorted (ks.map U.str) S = .ok ((sortS ks).map U.str) S := sorted_strs (fun x hx => name_ok (hnm x (by rw [← hks]; exact hx))) (by rw [hks, List.length_map]; exact szL (by omega))
  have e6 : nSorted (fl.map U.str) S = .ok ((sortS fl).map U.str) S := sorted_strs (fun x hx => name_ok (G.fname x hx)) (szL (by have := G.ffew; omega))
  -- each handler is good
  have step : ∀ (i : Nat) (k : Str) (env : VI.Env), (sortS ks)[i]? = some k → (∃ x4, env = [some (.ref a), some (.fl (fl.map U.str)), some (.ref h), some (.fl []), x4]) → ∃ env1, gN 4 (U.str k) env S = .ok env1 S ∧ ∃ env2, sExpr (xCall 3 (e_need_handler n) (aCons (xVar 1) (aCons (xVar 4) (aCons (x2 opIx (xVar 2) (xVar 4)) aNil)))) env1 S = .ok (.nx env2) S ∧ ∃ x4, env2 = [some (.ref a), some (.fl (fl.map U.str)), some (.ref h), some (.fl []), x4] := by
    rintro i k env hi ⟨x4, rfl⟩
    have hk := sortS_mem.mp (List.mem_of_getElem? hi)
    rw [hks] at hk
    obtain ⟨p, hp, rfl⟩ := List.mem_map.mp hk
    have ek : keyAt (hs.map fun p => (p.1, encHL p.2)) p.1 = some (encHL p.2) := keyAt_map (k := fun p => p.1) (v := fun p => encHL p.2) G.hnd hp
    refine ⟨_, rfl, [some (.ref a), some (.fl (fl.map U.str)), some (.ref h), some (.fl []), some (.str p.1)], ?_, _, rfl⟩
    simp [hd, ek, e_need_handler_ok hn hf G.fname (G.hname p hp) (G.hgood p hp)]
  obtain ⟨env', e7, x4, rfl⟩ := for_eq U.str (sortS ks) (fun _ env => ∃ x4, env = [some (.ref a), some (.fl (fl.map U.str)), some (.ref h), some (.fl []), x4]) (n := n) (env := [some (.ref a), some (.fl (fl.map U.str)), some (.ref h), some (.fl []), none]) (S := S) (by rw [sortS_len, hks, List.length_map]; omega) ⟨_, rfl⟩ step
  -- the copies
  have e8 : ∀ S' : Sto, S'.dct h = some (hs.map fun p => (p.1, encHL p.2)) → dLoop (nxL ((sortS ks).map U.str)) (.one 4) tYesU (xVar 4) (xCall 1 (e_copied_handler n) (aCons (x2 opIx (xVar 2) (xVar 4)) aNil)) n 0 [some (.ref a), some (.fl (fl.map U.str)), some (.ref h), some (.fl []), none] S' [] = .ok ((sortHs hs).map fun p => (p.1, encH p.2)) S' := by
    intro S' hd'
    rw [dcomp_eq U.str (fun k => k) (fun k => encH (sortH (hdOf hs k))) (sortS ks) (by rw [List.map_id']; rw [hks]; exact sortS_nd G.hnd) (by rw [sortS_len, hks, List.length_map]; omega) (by rw [sortS_len, hks, List.length_map]; exact szL (by omega))]
    · unfold sortHs
      rw [List.map_map, hks]
      rfl
    · intro k hk
      have hk := sortS_mem.mp hk
      rw [hks] at hk
      obtain ⟨p, hp, rfl⟩ := List.mem_map.mp hk
      have ek : keyAt (hs.map fun p => (p.1, encHL p.2)) p.1 = some (encHL p.2) := keyAt_map (k := fun p => p.1) (v := fun p => encHL p.2) G.hnd hp
      refine ⟨_, rfl, rfl, by simp, ?_⟩
      simp [hd', ek, e_copied_handler_ok hn (G.hgood p hp), hdOf_mem G.hnd hp]
  have FH : FewHs (mkP fl hs).hs := ⟨by show ((sortHs hs).map (·.1)).Nodup; rw [sortHs_names]; exact sortS_nd G.hnd, by show (sortHs hs).length ≤ 4; rw [sortHs_len]; exact hs4, fun p hp => by
    obtain ⟨p', hp', rfl⟩ := (mem_sortHs G.hnd).mp hp
    show (sortH p'.2).rows.length ≤ 8
    unfold sortH
    rw [List.length_map]
    exact (G.hgood p' hp').few⟩
  have hF : PAt (S.put a (.ins "Program" (progF (mkP fl hs)))) a (mkP fl hs) := ins_put hlt
  have p1 := places_len (w := "wait") G.hnd
  have p2 := places_len (w := "later") G.hnd
  have p6 : ¬ ((6 : Int) < ((placesOf (mkP fl hs).hs "wait").length : Int) + ((placesOf (mkP fl hs).hs "later").length : Int)) := by
    have := G.few
    unfold mkP
    rw [p1, p2]
    omega
  have e9 : ∀ (S' : Sto) (x3 x4 : Option U), S'.dct h = some (hs.map fun p => (p.1, encHL p.2)) → nSortD (xVar 2) [some (.ref a), some (.fl (fl.map U.str)), some (.ref h), x3, x4] S' = .ok ((sortS ks).map U.str) S' := fun S' x3 x4 hd' => by
    have h64 : hs.length < 64 := by omega
    simp [hd', h64]
    rw [hks]
    rfl
  have hz : (sortS ks).length ≤ sizeLine := by rw [sortS_len, hks, List.length_map]; exact szL (by omega)
  have hd1 : ∀ o, (S.put a o).dct h = some (hs.map fun p => (p.1, encHL p.2)) := fun o => by rw [dct_put_ne hah]; exact hd
  unfold e_Programzz_initzz m_Programzz_initzz
  simp [-q_sortD, e_need_flags_ok hn hf G.fnd G.ffew G.fname, isi_dct hd, q_lenRD hd, h1, h4, e3, e4, e5, e6, e7, ha, tb_own_flags, tb_own_handlers, ins_put hlt, e9, hd1, e8, hz, put_put]
  rw [show (O.ins "Program" [(("own_flags" : Str), U.tup ((sortS fl).map U.str)), ("own_handlers", U.fd ((sortHs hs).map fun p => (p.1, encH p.2)))]) = O.ins "Program" (progF (mkP fl hs)) from rfl]
  have hI : isI "Program" "places" (.ref a) (S.put a (.ins "Program" (progF (mkP fl hs)))) = true := isI_of hF (by simp [progF])
  simp [hI, e_places_ok hn hF FH, p6]
  refine gc_put Ext.refl (by simp) (progF_clo)
end
end Gn
set_option Elab.async false
set_option linter.all false
set_option maxRecDepth 100000
set_option maxHeartbeats 1000000
namespace VI
open PySem
theorem nxZ_map {α : Type} (enc : α → U) (xs ys : List α) : nxZ (xs.map enc) (ys.map enc) = nxL ((xs.zip ys).map fun p => U.tup [enc p.1, enc p.2]) := by
  funext i S
  unfold nxZ nxL
  rw [List.getElem?_map, List.getElem?_map, List.getElem?_map]
  unfold List.zip
  rw [List.getElem?_zipWith]
  cases xs[i]? <;> cases ys[i]? <;> rfl
@[simp] theorem q_zip {ms : MA} {env : VI.Env} {S : Sto} : iZip ms env S = (ms env S).bind fun us S1 => match us with
  | [.tup us, .tup ws] => .ok (nxZ us ws) S1
  | [.fl us, .fl ws] => .ok (nxZ us ws) S1
  | _ => .no := rfl
theorem cut_tail {α : Type} {xs : List α} : cutL xs (some 1) none = xs.tail := by
  unfold cutL HT.sIx
  cases xs with
  | nil => rfl
  | cons x xs => simp
def ltP (a b : Str × Nat) : Bool := decide (a.1.cps.toList < b.1.cps.toList) || (decide (a.1 = b.1) && decide (a.2 < b.2))
theorem leP_eq {a b : Str × Nat} : leP a b = !ltP b a := by
  unfold leP ltP
  congr 2
  by_cases h : a.1 = b.1
  · simp [h]
  · have h' : ¬ b.1 = a.1 := fun z => h z.symm
    simp [h, h']
theorem dataLt_P {a b : Str × Nat} : PySem.W.dataLt (.tuple [.str a.1, .int (a.2 : Nat)]) (.tuple [.str b.1, .int (b.2 : Nat)]) = ltP a b := by
  rw [PySem.W.dataLt_pair (by simp [PySem.W.alike]) (by simp [PySem.W.alike]), PySem.W.dataLt_str, PySem.W.dataLt_int]
  unfold ltP
  have e1 : PyData.eqv (.str a.1) (.str b.1) = decide (a.1 = b.1) := dat_eqv (α := Str)
  have e2 : PyData.eqv (.int (a.2 : Nat)) (.int (b.2 : Nat)) = decide (a.2 = b.2) := dat_eqv (α := Nat)
  rw [e1, e2]
  by_cases h : a.1 = b.1
  · have l0 : decide (b.1.cps.toList < b.1.cps.toList) = false := decide_eq_false (lt_irr _)
    rw [h, l0]
    simp only [decide_true, Bool.false_or, Bool.true_and, if_true]
    by_cases h2 : a.2 = b.2
    · simp [h2]
    · simp [h2]
  · simp [h]
theorem lt_places {a b : Str × Nat} {S : Sto} (ha : PyData.strOk a.1 = true) (hb : PyData.strOk b.1 = true) : opLt (.tup [.str a.1, .int (a.2 : Nat)]) (.tup [.str b.1, .int (b.2 : Nat)]) S = .ok (.bl (ltP a b)) S := by
  have e1 : rdU 60 S (.tup [.str a.1, .int (a.2 : Nat)]) = some (.tuple [.str a.1, .int (a.2 : Nat)]) := Dat.rd (α := Str × Nat) a 60 S ⟨ha, trivial⟩ (by show 1 ≤ 60; omega)
  have e2 : rdU 60 S (.tup [.str b.1, .int (b.2 : Nat)]) = some (.tuple [.str b.1, .int (b.2 : Nat)]) := Dat.rd (α := Str × Nat) b 60 S ⟨hb, trivial⟩ (by show 1 ≤ 60; omega)
  unfold opLt ltU
  simp only [e1, e2]
  rw [if_pos ⟨by simp [PySem.W.alike, PySem.W.alikeAll], rfl⟩, dataLt_P]
end VI
namespace Gn
open PySem VI
/-- a program that was made -/
structure PG (P : Prog) : Prop where
  good : GoodP P.flags P.hs
  fsort : P.flags.Pairwise fun a b => leS a b = true
  hsort : (P.hs.map (·.1)).Pairwise fun a b => leS a b = true
theorem PG.few {P : Prog} (h : PG P) : FewHs P.hs := ⟨h.good.hnd, h.good.hfew, fun p hp => (h.good.hgood p hp).few⟩
theorem sortR_good {fl : List Str} {k : Nat} {r : Row} (h : GoodR fl k r) : GoodR fl k (sortR r) := by
  cases r with
  | set f v => exact h
  | say w => exact h
  | skip c m => exact ⟨sortC_good h.1, h.2⟩
  | wait c => exact sortC_good h
  | later c => exact sortC_good h
theorem GoodC.mono {fl fl' : List Str} {c : Cond} (h : GoodC fl c) (hs : ∀ x ∈ fl, x ∈ fl') : GoodC fl' c := ⟨h.nd, fun p hp => hs _ (h.mem p hp), h.few⟩
theorem GoodR.mono {fl fl' : List Str} {k : Nat} {r : Row} (h : GoodR fl k r) (hs : ∀ x ∈ fl, x ∈ fl') : GoodR fl' k r := by
  cases r with
  | set f v => exact hs _ h
  | say w => exact h
  | skip c m => exact ⟨h.1.mono hs, h.2⟩
  | wait c => exact GoodC.mono h hs
  | later c => exact GoodC.mono h hs
theorem sortH_good {fl fl' : List Str} {h : Hd} (g : GoodH fl h) (hs : ∀ x ∈ fl, x ∈ fl') : GoodH fl' (sortH h) := by
  refine ⟨(sortC_good g.guard).mono hs, ?_, ?_, fun i r hr => ?_⟩
  · show 1 ≤ (h.rows.map sortR).length
    rw [List.length_map]; exact g.some
  · show (h.rows.map sortR).length ≤ 8
    rw [List.length_map]; exact g.few
  · have hr' : (h.rows.map sortR)[i]? = some r := hr
    rw [List.getElem?_map] at hr'
    cases e : h.rows[i]? with
    | none => rw [e] at hr'; cases hr'
    | some r0 =>
      rw [e] at hr'
      cases hr'
      show GoodR fl' ((h.rows.map sortR).length - i - 1) (sortR r0)
      rw [List.length_map]
      exact (sortR_good (g.row i r0 e)).mono hs
theorem mkP_good {fl : List Str} {hs : List (Str × Hd)} (G : GoodP fl hs) : PG (mkP fl hs) := by
  refine ⟨⟨sortS_nd G.fnd, ?_, fun x hx => G.fname x (sortS_mem.mp hx), ?_, ?_, ?_, fun p hp => ?_, fun p hp => ?_, ?_⟩, sortS_sorted _, ?_⟩
  · show (sortS fl).length ≤ 4
    rw [sortS_len]; exact G.ffew
  · show ((sortHs hs).map (·.1)).Nodup
    rw [sortHs_names]; exact sortS_nd G.hnd
  · show 1 ≤ (sortHs hs).length
    rw [sortHs_len]; exact G.hsome
  · show (sortHs hs).length ≤ 4
    rw [sortHs_len]; exact G.hfew
  · obtain ⟨p', hp', rfl⟩ := (mem_sortHs G.hnd).mp hp
    exact G.hname p' hp'
  · obtain ⟨p', hp', rfl⟩ := (mem_sortHs G.hnd).mp hp
    exact sortH_good (G.hgood p' hp') fun x hx => sortS_mem.mpr hx
  · show (placesOf (sortHs hs) _).length + (placesOf (sortHs hs) _).length ≤ 6
    rw [places_len G.hnd, places_len G.hnd]
    exact G.few
  · show ((sortHs hs).map (·.1)).Pairwise _
    rw [sortHs_names]
    exact sortS_sorted _
theorem mem_placesOf {hs : List (Str × Hd)} {w : Str} {p : Place} : p ∈ placesOf hs w ↔ ∃ h r, (p.1, h) ∈ hs ∧ h.rows[p.2]? = some r ∧ r.word = w := by
  unfold placesOf plc
  rw [List.mem_flatMap]
  constructor
  · rintro ⟨⟨x, h⟩, hx, hp⟩
    obtain ⟨⟨r, i⟩, hq, rfl⟩ := List.mem_map.mp hp
    obtain ⟨h1, h2⟩ := List.mem_filter.mp hq
    have := List.mem_zipIdx_iff_getElem?.mp h1
    exact ⟨h, r, hx, by simpa using this, by simpa using h2⟩
  · rintro ⟨h, r, hx, hr, hw⟩
    refine ⟨(p.1, h), hx, List.mem_map.mpr ⟨(r, p.2), List.mem_filter.mpr ⟨List.mem_zipIdx_iff_getElem?.mpr (by simpa using hr), by simpa using hw⟩, rfl⟩⟩
/-- the program's names can be read -/
theorem place_ok {P : Prog} (G : PG P) {w : Str} {p : Place} (h : p ∈ placesOf P.hs w) : PyData.strOk p.1 = true := by
  obtain ⟨hd, r, hm, _⟩ := mem_placesOf.mp h
  exact name_ok (G.good.hname _ hm)
section
variable {n : Nat} {S : Sto} {q : Nat} {P : Prog}
theorem e_made_ok (hn : 100 ≤ n) {fl : List Str} {hs : List (Str × Hd)} {p h : Nat} {rest : List (Str × U)} (G : GoodP fl hs) (hp : S.dct p = some ((("flags" : Str), U.fl (fl.map U.str)) :: (("handlers" : Str), U.ref h) :: rest)) (hd : S.dct h = some (hs.map fun p => (p.1, encHL p.2))) (hl : h ∉ S.lk) :
    e__law_made n [.ref p] S = .ok (.ref S.objs.length) (S.push (.ins "Program" (progF (mkP fl hs)))) := by
  unfold e__law_made m__law_made
  have e := init_ok (S := S.push (.ins "Program" [])) (a := S.objs.length) hn G (by simp) (Ext.push.dct hd) (by simpa using hl)
  rw [put_push] at e
  simp [hp, e]
  unfold gcR
  dsimp only
  rw [if_neg]
  rintro ⟨h1, _⟩
  simp at h1
theorem e_need_program_ok (hP : PAt S q P) : e_need_program n [.ref q] S = .ok .non S := by
  have hP' : S.ins q = some (("Program" : Str), progF P) := hP
  have e : isiO tbI "Program" (.ref q) S = .ok (.bl true) S := by
    unfold isiO tyU insU
    dsimp only
    rw [ins_get.mp hP']
    simp [hP', tbI]
  unfold e_need_program m_need_program
  simp [e]
theorem e_is_place_ok (hn : 100 ≤ n) (hP : PAt S q P) (G : PG P) {w : Str} {p : Place} (hk : PyData.strOk p.1 = true) : e_is_place n [.ref q, encP p, .str w] S = .ok (.bl (decide (p ∈ placesOf P.hs w))) S := by
  have hP' : S.ins q = some (("Program" : Str), progF P) := hP
  have hI : isI "Program" "places" (.ref q) S = true := isI_of hP' (by simp [progF])
  have ein : opIn (.tup [.str p.1, .int (p.2 : Nat)]) (.tup ((placesOf P.hs w).map encP)) S = .ok (.bl (decide (p ∈ placesOf P.hs w))) S :=
    in_dat (α := Str × Nat) (a := p) (xs := placesOf P.hs w) rfl ⟨_, rfl⟩ ⟨hk, trivial⟩ (fun x hx => ⟨place_ok G hx, trivial⟩) (by show 1 ≤ 60; omega) (by simp)
  unfold e_is_place m_is_place encP
  simp [e_is_pair_tup, e_is_number_int, hI, e_places_ok hn hP G.few, ein]
/-- a pile: a list or a tuple of places -/
def isPls (u : U) (ps : List Place) : Prop := u = .fl (ps.map encP) ∨ u = .tup (ps.map encP)
noncomputable def bodyNP (n : Nat) : MS := (sIf (xNot (xCall 3 (e_is_place n) (aCons (xVar 0) (aCons (xVar 3) (aCons (xC (.str "wait")) aNil))))) sNo sNil)
theorem e_need_pile_ok (hn : 100 ≤ n) (hP : PAt S q P) (G : PG P) {u : U} {ps : List Place} (hu : isPls u ps) (hp : ∀ p ∈ ps, p ∈ placesOf P.hs "wait") (hl : ps.length < n) : e_need_pile n [.ref q, u] S = .ok .non S := by
  have step : ∀ (i : Nat) (p : Place × Nat) (env : VI.Env), ps.zipIdx[i]? = some p → (∃ a b, env = [some (.ref q), some u, a, b]) → ∃ env1, gT [gN 2, gN 3] (U.tup [.int (p.2 : Nat), encP p.1]) env S = .ok env1 S ∧ ∃ env2, bodyNP n env1 S = .ok (.nx env2) S ∧ ∃ a b, env2 = [some (.ref q), some u, a, b] := by
    rintro i ⟨p, j⟩ env hi ⟨a, b, rfl⟩
    have hm : p ∈ ps := by
      have := List.mem_of_getElem? hi
      have := List.mem_zipIdx_iff_getElem?.mp this
      exact List.mem_of_getElem? this
    refine ⟨[some (.ref q), some u, some (.int (j : Nat)), some (encP p)], by simp, [some (.ref q), some u, some (.int (j : Nat)), some (encP p)], ?_, _, _, rfl⟩
    unfold bodyNP
    simp [e_is_place_ok hn hP G (place_ok G (hp p hm)), hp p hm]
  obtain ⟨env', e, _⟩ := for_eq (fun p : Place × Nat => U.tup [.int (p.2 : Nat), encP p.1]) ps.zipIdx (fun _ env => ∃ a b, env = [some (.ref q), some u, a, b]) (n := n) (env := [some (.ref q), some u, none, none]) (S := S) (by rw [List.length_zipIdx]; exact hl) ⟨_, _, rfl⟩ step
  rw [← nxE_map] at e
  unfold e_need_pile m_need_pile
  unfold bodyNP at e
  rcases hu with rfl | rfl
  · simp [e_is_list_fl, e]
  · simp [e_is_list_tup, e]
structure StG (P : Prog) (s : Stt) : Prop where
  on : ∀ x ∈ s.on, x ∈ P.flags
  onS : s.on.Pairwise fun a b => a.cps.toList < b.cps.toList
  kept : ∀ p ∈ s.kept, p ∈ placesOf P.hs "later"
  keptS : s.kept.Pairwise fun a b => ltP a b = true
theorem zip_tail {α : Type} {R : α → α → Prop} : ∀ {xs : List α}, xs.Pairwise R → ∀ p ∈ xs.zip xs.tail, R p.1 p.2
  | [], _, p, h => by simp at h
  | [x], _, p, h => by simp at h
  | x :: y :: xs, h, p, hp => by
    rw [List.tail_cons, List.zip_cons_cons] at hp
    obtain ⟨h1, h2⟩ := List.pairwise_cons.mp h
    rcases List.mem_cons.mp hp with rfl | hp
    · exact h1 y (by simp)
    · exact zip_tail (xs := y :: xs) h2 p hp
theorem e_rises_ok {α : Type} (enc : α → U) {xs : List α} (hn : xs.length < n) (hz : xs.length ≤ sizeLine) (h : ∀ p ∈ xs.zip xs.tail, opLt (enc p.1) (enc p.2) S = .ok (.bl true) S) : e_rises n [.tup (xs.map enc)] S = .ok (.bl true) S := by
  unfold e_rises m_rises
  simp [cut_tail]
  rw [← List.map_tail, nxZ_map, comp_map (fun p : α × α => U.tup [enc p.1, enc p.2]) (fun _ => .bl true) (xs.zip xs.tail)]
  · simp
  · rw [List.length_zip]; omega
  · rw [List.length_zip]; omega
  · intro p hp
    refine ⟨_, rfl, rfl, ?_⟩
    simp [h p hp]
theorem StG.onNd {s : Stt} (h : StG P s) : s.on.Nodup := h.onS.imp fun hab z => by rw [z] at hab; exact lt_irr _ hab
theorem ltP_irr {a : Place} : ltP a a = false := by
  unfold ltP
  simp
theorem StG.keptNd {s : Stt} (h : StG P s) : s.kept.Nodup := h.keptS.imp fun hab z => by rw [z, ltP_irr] at hab; cases hab
theorem sub_len {α : Type} [DecidableEq α] : ∀ {l m : List α}, l.Nodup → (∀ x ∈ l, x ∈ m) → l.length ≤ m.length
  | [], m, _, _ => by simp
  | x :: xs, m, hn, hs => by
    obtain ⟨h1, h2⟩ := List.nodup_cons.mp hn
    have hx : x ∈ m := hs x (by simp)
    have := sub_len (l := xs) (m := m.erase x) h2 fun y hy => by
      have ne : y ≠ x := fun z => h1 (by rw [← z]; exact hy)
      exact (List.mem_erase_of_ne ne).mpr (hs y (by simp [hy]))
    rw [List.length_erase_of_mem hx] at this
    have : 0 < m.length := List.length_pos_of_mem hx
    simp
    omega
theorem StG.onLen {s : Stt} (G : PG P) (h : StG P s) : s.on.length ≤ 4 := Nat.le_trans (sub_len h.onNd h.on) G.good.ffew
theorem StG.keptLen {s : Stt} (G : PG P) (h : StG P s) : s.kept.length ≤ 6 := Nat.le_trans (sub_len h.keptNd h.kept) (by have := G.good.few; omega)
theorem e_is_state_ok (hn : 100 ≤ n) (hP : PAt S q P) (G : PG P) {s : Stt} (hs : StG P s) : e_is_state n [.ref q, encSt s] S = .ok (.bl true) S := by
  have hP' : S.ins q = some (("Program" : Str), progF P) := hP
  have l4 := hs.onLen G
  have l6 := hs.keptLen G
  have hf : isFls (.tup (P.flags.map U.str)) P.flags := .inr rfl
  have e1 : ∀ x2 x3 : Option U, cLoop (nxL (s.on.map U.str)) (.one 2) tYesU (xCall 2 (e_is_flag n) (aCons (xFld tb_own_flags "own_flags" (xVar 0)) (aCons (xVar 2) aNil))) n 0 [some (.ref q), some (encSt s), x2, x3] S [] = .ok (s.on.map fun _ => .bl true) S := fun x2 x3 => by
    rw [comp_map U.str (fun _ => .bl true) s.on (by omega) (szL (by omega))]
    intro x hx
    refine ⟨_, rfl, rfl, ?_⟩
    simp [hP', tb_own_flags, progF, e_is_flag_str hf, hs.on x hx]
  have e2 : ∀ x2 x3 : Option U, cLoop (nxL (s.kept.map encP)) (.one 3) tYesU (xCall 3 (e_is_place n) (aCons (xVar 0) (aCons (xVar 3) (aCons (xC (.str "later")) aNil)))) n 0 [some (.ref q), some (encSt s), x2, x3] S [] = .ok (s.kept.map fun _ => .bl true) S := fun x2 x3 => by
    rw [comp_map encP (fun _ => .bl true) s.kept (by omega) (szL (by omega))]
    intro p hp
    refine ⟨_, rfl, rfl, ?_⟩
    simp [e_is_place_ok hn hP G (place_ok G (hs.kept p hp)), hs.kept p hp]
  have e3 : e_rises n [.tup (s.on.map U.str)] S = .ok (.bl true) S := e_rises_ok U.str (by omega) (szL (by omega)) fun p hp => by
    have := zip_tail hs.onS p hp
    simp [this]
  have e4 : e_rises n [.tup (s.kept.map encP)] S = .ok (.bl true) S := e_rises_ok encP (by omega) (szL (by omega)) fun p hp => by
    have h1 := zip_tail hs.keptS p hp
    have hm := List.of_mem_zip hp
    rw [show opLt (encP p.1) (encP p.2) S = .ok (.bl (ltP p.1 p.2)) S from lt_places (place_ok G (hs.kept _ hm.1)) (place_ok G (hs.kept _ (List.mem_of_mem_tail hm.2))), h1]
  unfold encSt at e1 e2 ⊢
  unfold e_is_state m_is_state
  simp [e_need_program_ok hP, e_is_pair_tup, e1, e2, e3, e4]
theorem e_need_state_ok (hn : 100 ≤ n) (hP : PAt S q P) (G : PG P) {s : Stt} (hs : StG P s) : e_need_state n [.ref q, encSt s] S = .ok .non S := by
  unfold e_need_state m_need_state
  simp [e_is_state_ok hn hP G hs]
end
end Gn
set_option Elab.async false
set_option linter.all false
set_option maxRecDepth 100000
set_option maxHeartbeats 1000000
namespace VI
open PySem
def datP (a : Str × Nat) : PyData := .tuple [.str a.1, .int (a.2 : Nat)]
theorem leP_data {a b : Str × Nat} : leP a b = PySem.W.dataLe false datP a b := by
  rw [leP_eq, ← dataLt_P]
  rfl
theorem leP_trans (a b c : Str × Nat) (h : leP a b = true) (k : leP b c = true) : leP a c = true := by
  rw [leP_data] at h k ⊢
  exact (PySem.W.sortLe_total _ false _).trans a b c h k
theorem leP_total (a b : Str × Nat) : (leP a b || leP b a) = true := by
  rw [leP_data, leP_data, Bool.or_eq_true]
  exact (PySem.W.sortLe_total _ false _).total a b
theorem str_ext {a b : Str} (h : a.cps.toList = b.cps.toList) : a = b := PySem.W.str_of_cps h
theorem ltS_tri {a b : Str} (h : ¬ a.cps.toList < b.cps.toList) (k : ¬ b.cps.toList < a.cps.toList) : a = b := str_ext (List.le_antisymm (List.not_lt.mp k) (List.not_lt.mp h))
theorem ltP_tri {a b : Str × Nat} (h : ltP a b = false) (k : ltP b a = false) : a = b := by
  unfold ltP at h k
  simp only [Bool.or_eq_false_iff, decide_eq_false_iff_not, Bool.and_eq_false_imp, decide_eq_true_eq] at h k
  have e1 : a.1 = b.1 := ltS_tri h.1 k.1
  have e2 := h.2 e1
  have e3 := k.2 e1.symm
  exact Prod.ext e1 (by omega)
def sortP (ps : List (Str × Nat)) : List (Str × Nat) := ps.mergeSort leP
theorem sortP_perm (ps : List (Str × Nat)) : (sortP ps).Perm ps := List.mergeSort_perm ps leP
theorem sortP_lt {ps : List (Str × Nat)} (nd : ps.Nodup) : (sortP ps).Pairwise fun a b => ltP a b = true := by
  have h1 : (sortP ps).Pairwise fun a b => leP a b = true := List.pairwise_mergeSort leP_trans leP_total ps
  have h2 : (sortP ps).Nodup := (sortP_perm ps).nodup_iff.mpr nd
  refine (h1.and h2).imp ?_
  rintro a b ⟨h, ne⟩
  rw [leP_eq] at h
  cases e : ltP a b with
  | true => rfl
  | false => exact absurd (ltP_tri e (by simpa using h)) ne
theorem sortS_lt {ks : List Str} (nd : ks.Nodup) : (sortS ks).Pairwise fun a b => a.cps.toList < b.cps.toList := by
  refine ((sortS_sorted ks).and (sortS_nd nd)).imp ?_
  rintro a b ⟨h, ne⟩
  have h := leS_iff.mp h
  by_cases hl : a.cps.toList < b.cps.toList
  · exact hl
  · exact absurd (str_ext (List.le_antisymm h (List.not_lt.mp hl))) ne
/-- a for that ends at the first item that is looked for -/
theorem for_find_acc {α : Type} {S : Sto} {g : MG} {b : MS} (enc : α → U) (p : α → Bool) (f : α → U) (xs : List α) (I : VI.Env → Prop)
    (step : ∀ x ∈ xs, ∀ env, I env → ∃ env1, g (enc x) env S = .ok env1 S ∧ (p x = true → b env1 S = .ok (.rt (f x)) S) ∧ (p x = false → ∃ env2, b env1 S = .ok (.nx env2) S ∧ I env2)) :
    ∀ (k i : Nat) (env : VI.Env), xs.length < i + k → i ≤ xs.length → I env → (∃ x, (xs.drop i).find? p = some x ∧ fLoop (nxL (xs.map enc)) g b k i env S = .ok (.rt (f x)) S) ∨ ((xs.drop i).find? p = none ∧ ∃ env', fLoop (nxL (xs.map enc)) g b k i env S = .ok (.nx env') S ∧ I env')
  | 0, i, env, h1, h2, _ => absurd h1 (by omega)
  | k + 1, i, env, h1, h2, hI => by
    have nxe : nxL (xs.map enc) i S = some (xs[i]?.map enc) := by unfold nxL; rw [List.getElem?_map]
    unfold fLoop
    rw [nxe]
    cases hi : xs[i]? with
    | none =>
      have : xs.length ≤ i := List.getElem?_eq_none_iff.mp hi
      rw [List.drop_eq_nil_of_le this]
      exact .inr ⟨rfl, env, rfl, hI⟩
    | some x =>
      have hl : i < xs.length := (List.getElem?_eq_some_iff.mp hi).1
      have hx : xs[i] = x := (List.getElem?_eq_some_iff.mp hi).2
      have ed : xs.drop i = x :: xs.drop (i + 1) := by rw [List.drop_eq_getElem_cons hl, hx]
      obtain ⟨env1, e1, e2, e3⟩ := step x (List.mem_of_getElem? hi) env hI
      rw [ed, List.find?_cons]
      cases hp : p x with
      | true =>
        refine .inl ⟨x, rfl, ?_⟩
        simp only [Option.map_some, e1, e2 hp, R.bind_ok]
      | false =>
        obtain ⟨env2, e4, hI2⟩ := e3 hp
        simp only [Option.map_some, e1, e4, R.bind_ok]
        exact for_find_acc enc p f xs I step k (i + 1) env2 (by omega) (by omega) hI2
theorem for_find {α : Type} {S : Sto} {g : MG} {b : MS} (enc : α → U) (p : α → Bool) (f : α → U) (xs : List α) (I : VI.Env → Prop) {n : Nat} {env : VI.Env} (hn : xs.length < n) (h0 : I env)
    (step : ∀ x ∈ xs, ∀ env, I env → ∃ env1, g (enc x) env S = .ok env1 S ∧ (p x = true → b env1 S = .ok (.rt (f x)) S) ∧ (p x = false → ∃ env2, b env1 S = .ok (.nx env2) S ∧ I env2)) :
    (∃ x, xs.find? p = some x ∧ fLoop (nxL (xs.map enc)) g b n 0 env S = .ok (.rt (f x)) S) ∨ (xs.find? p = none ∧ ∃ env', fLoop (nxL (xs.map enc)) g b n 0 env S = .ok (.nx env') S ∧ I env') := for_find_acc enc p f xs I step n 0 env (by omega) (Nat.zero_le _) h0
def frzV (u : U) (S : Sto) : R U := match u with
  | .ref n => match S.lst n with
    | some us => .ok (.fl us) (S.put n .dead)
    | none => .ok u S
  | u => .ok u S
@[simp] theorem q_frz {m : ME} {env : VI.Env} {S : Sto} : xFrz m env S = (m env S).bind fun u S1 => frzV u S1 := rfl
theorem frz_lst {n : Nat} {us : List U} {S : Sto} (h : S.lst n = some us) : frzV (.ref n) S = .ok (.fl us) (S.put n .dead) := by
  unfold frzV
  simp [h]
theorem frz_dct {n : Nat} {us : List (Str × U)} {S : Sto} (h : S.dct n = some us) : frzV (.ref n) S = .ok (.ref n) S := by
  have h0 : S.lst n = none := by
    unfold Sto.lst
    rw [dct_get.mp h]
  unfold frzV
  simp [h0]
end VI
namespace Gn
open PySem VI
def tr (c : Cond) (s : Stt) : Bool := c.all fun p => decide (p.1 ∈ s.on) == p.2
def condOf : Row → Cond
  | .skip c _ => c | .wait c => c | .later c => c | _ => []
def rowsAt (P : Prog) (x : Str) : List Row := (hdOf P.hs x).rows
def condAt (P : Prog) (p : Place) : Cond := match (rowsAt P p.1)[p.2]? with
  | some r => condOf r
  | none => []
def encO : Option Place → U
  | none => .non
  | some p => encP p
@[simp] theorem encO_clo {k : Nat} {o : Option Place} : Clo k (encO o) := by cases o <;> simp [encO]
def withF (s : Stt) (f : Str) (v : Bool) : Stt := ⟨sortS (if v = true then s.on.filter (fun x => !decide (x = f)) ++ [f] else s.on.filter (fun x => !decide (x = f))), s.kept⟩
def withoutP (s : Stt) (p : Place) : Stt := ⟨s.on, s.kept.filter fun x => !decide (x = p)⟩
def keepP (s : Stt) (p : Place) : Stt := ⟨s.on, sortP (s.kept ++ [p])⟩
/-- do rows: state, words, the wait that opens, the rest lost -/
def runL (x : Str) (rows : List Row) : Nat → Nat → Stt → List Str → Stt × List Str × Option Place × Option Place
  | 0, _, s, ws => (s, ws, none, none)
  | k + 1, i, s, ws => match rows[i]? with
    | none => (s, ws, none, none)
    | some (.set f v) => runL x rows k (i + 1) (withF s f v) ws
    | some (.say w) => runL x rows k (i + 1) s (ws ++ [w])
    | some (.skip c m) => runL x rows k (i + 1 + if tr c s = true then m else 0) s ws
    | some (.wait c) => if tr c s = true then runL x rows k (i + 1) s ws else (s, ws, some (x, i), none)
    | some (.later c) => if tr c s = true then runL x rows k (i + 1) s ws else if (x, i) ∈ s.kept then (s, ws, none, some (x, i)) else (keepP s (x, i), ws, none, none)
def runM (P : Prog) (x : Str) (i : Nat) (s : Stt) : Stt × List Str × Option Place × Option Place := runL x (rowsAt P x) ((rowsAt P x).length + 1 - i) i s []
section
variable {n : Nat} {S : Sto} {q : Nat} {P : Prog}
theorem hd_mem (G : PG P) {x : Str} (hx : x ∈ P.hs.map (·.1)) : (x, hdOf P.hs x) ∈ P.hs := by
  obtain ⟨p, hp, rfl⟩ := List.mem_map.mp hx
  rw [hdOf_mem G.good.hnd hp]
  exact hp
theorem rows_good (G : PG P) {x : Str} (hx : x ∈ P.hs.map (·.1)) : GoodH P.flags (hdOf P.hs x) := G.good.hgood _ (hd_mem G hx)
theorem e_rows_of_ok (hP : PAt S q P) (G : PG P) {x : Str} (hx : x ∈ P.hs.map (·.1)) : e_rows_of n [.ref q, .str x] S = .ok (.tup ((rowsAt P x).map encRow)) S := by
  have hP' : S.ins q = some (("Program" : Str), progF P) := hP
  have ek : keyAt (P.hs.map fun p => (p.1, encH p.2)) x = some (encH (hdOf P.hs x)) := keyAt_map (k := fun p : Str × Hd => p.1) (v := fun p => encH p.2) G.good.hnd (hd_mem G hx)
  unfold e_rows_of m_rows_of
  simp [hP', progF, tb_own_handlers, encHs, ek]
  simp [encH, rowsAt]
theorem place_row (G : PG P) {w : Str} {p : Place} (h : p ∈ placesOf P.hs w) : p.1 ∈ P.hs.map (·.1) ∧ ∃ r, (rowsAt P p.1)[p.2]? = some r ∧ r.word = w ∧ ∃ k, GoodR P.flags k r := by
  obtain ⟨hd, r, hm, hr, hw⟩ := mem_placesOf.mp h
  refine ⟨List.mem_map.mpr ⟨_, hm, rfl⟩, r, ?_, hw, ?_⟩
  · unfold rowsAt
    rw [hdOf_mem G.good.hnd hm]
    exact hr
  · exact ⟨_, (G.good.hgood _ hm).row _ _ hr⟩
theorem wl_cond {fl : List Str} {k : Nat} {r : Row} (h : GoodR fl k r) (hw : r.word = "wait" ∨ r.word = "later") : (∃ us, encRow r = .tup (.str r.word :: encC (condOf r) :: us)) ∧ GoodC fl (condOf r) := by
  cases r with
  | set f v => simp [Row.word] at hw
  | say w => simp [Row.word] at hw
  | skip c m => simp [Row.word] at hw
  | wait c => exact ⟨⟨_, rfl⟩, h⟩
  | later c => exact ⟨⟨_, rfl⟩, h⟩
/-- a place of a wait or of a later -/
def isWL (P : Prog) (p : Place) : Prop := p ∈ placesOf P.hs "wait" ∨ p ∈ placesOf P.hs "later"
theorem wl_row (G : PG P) {p : Place} (h : isWL P p) : p.1 ∈ P.hs.map (·.1) ∧ ∃ r, (rowsAt P p.1)[p.2]? = some r ∧ (r.word = "wait" ∨ r.word = "later") ∧ ∃ k, GoodR P.flags k r := by
  rcases h with h | h
  · obtain ⟨a, r, b, c, d⟩ := place_row G h
    exact ⟨a, r, b, .inl c, d⟩
  · obtain ⟨a, r, b, c, d⟩ := place_row G h
    exact ⟨a, r, b, .inr c, d⟩
theorem cond_good (G : PG P) {p : Place} (h : isWL P p) : GoodC P.flags (condAt P p) := by
  obtain ⟨_, r, hr, hw, k, hg⟩ := wl_row G h
  unfold condAt
  rw [hr]
  exact (wl_cond hg hw).2
theorem e_condition_at_ok (hP : PAt S q P) (G : PG P) {p : Place} (h : isWL P p) : e_condition_at n [.ref q, encP p] S = .ok (encC (condAt P p)) S := by
  obtain ⟨hx, r, hr, hw, k, hg⟩ := wl_row G h
  obtain ⟨us, e⟩ := (wl_cond hg hw).1
  unfold e_condition_at m_condition_at encP
  simp [e_rows_of_ok hP G hx, atN, hr]
  simp [e, condAt, hr]
theorem e_true (hn : 100 ≤ n) {fl : List Str} {c : Cond} (h : GoodC fl c) {s : Stt} : e_is_true n [encC c, encSt s] S = .ok (.bl (tr c s)) S := e_is_true_ok hn h.nd h.few
theorem StG.wl {s : Stt} (h : StG P s) {p : Place} (hp : p ∈ s.kept) : isWL P p := .inr (h.kept p hp)
theorem e_ready_place_ok (hn : 100 ≤ n) (hP : PAt S q P) (G : PG P) {s : Stt} (hs : StG P s) : e_ready_place n [.ref q, encSt s] S = .ok (encO (s.kept.find? fun p => tr (condAt P p) s)) S := by
  have h := for_find (S := S) (g := gN 2) (b := sIf (xCall 2 (e_is_true n) (aCons (xCall 2 (e_condition_at n) (aCons (xVar 0) (aCons (xVar 2) aNil))) (aCons (xVar 1) aNil))) (sRet (xVar 2)) sNil) encP (fun p => tr (condAt P p) s) encP s.kept (fun env => ∃ x2, env = [some (.ref q), some (encSt s), x2]) (n := n) (env := [some (.ref q), some (encSt s), none]) (by have := hs.keptLen G; omega) ⟨_, rfl⟩ (by
    rintro p hp env ⟨x2, rfl⟩
    refine ⟨_, rfl, ?_, ?_⟩
    · intro ht
      simp [e_condition_at_ok hP G (hs.wl hp), e_true hn (cond_good G (hs.wl hp)), ht]
    · intro ht
      simp [e_condition_at_ok hP G (hs.wl hp), e_true hn (cond_good G (hs.wl hp)), ht])
  unfold e_ready_place m_ready_place
  have e0 : (x2 opIx (xVar 1) (xC (.int 1))) [some (.ref q), some (encSt s), none] S = .ok (.tup (s.kept.map encP)) S := by simp [encSt]
  rcases h with ⟨p, h1, h2⟩ | ⟨h1, env', h2, _⟩
  · simp [-q_2, e0, h2, h1, encO]
  · simp [-q_2, e0, h2, h1, encO]
theorem e_without_ok (hn : 100 ≤ n) (G : PG P) {s : Stt} (hs : StG P s) {p : Place} (hp : p ∈ s.kept) : e_without n [encSt s, encP p] S = .ok (encSt (withoutP s p)) S := by
  unfold e_without m_without encSt
  simp
  rw [comp_eq encP (fun x => !decide (x = p)) encP s.kept (by have := hs.keptLen G; omega) (szL (by have := hs.keptLen G; omega))]
  · simp [withoutP]
  · intro x hx
    refine ⟨_, rfl, ?_, fun _ => by simp⟩
    have e : opNe (encP x) (encP p) S = .ok (.bl (!decide (x = p))) S := opNe_dat (α := Str × Nat) (a := x) (b := p) ⟨place_ok G (hs.kept x hx), trivial⟩ ⟨place_ok G (hs.kept p hp), trivial⟩ (by show 1 ≤ 60; omega)
    simp [e]
theorem withoutP_good {s : Stt} (hs : StG P s) {p : Place} : StG P (withoutP s p) := ⟨hs.on, hs.onS, fun x hx => hs.kept x (List.mem_filter.mp hx).1, hs.keptS.filter _⟩
theorem withF_good {s : Stt} (hs : StG P s) {f : Str} {v : Bool} (hf : f ∈ P.flags) : StG P (withF s f v) := by
  have nd0 : (s.on.filter fun x => !decide (x = f)).Nodup := hs.onNd.filter _
  have nd : (if v = true then s.on.filter (fun x => !decide (x = f)) ++ [f] else s.on.filter (fun x => !decide (x = f))).Nodup := by
    split
    · rw [List.nodup_append]
      refine ⟨nd0, by simp, ?_⟩
      intro a ha b hb
      rw [List.mem_singleton] at hb
      rw [hb]
      have := (List.mem_filter.mp ha).2
      simpa using this
    · exact nd0
  refine ⟨fun x hx => ?_, sortS_lt nd, hs.kept, hs.keptS⟩
  have hx : x ∈ (if v = true then s.on.filter (fun x => !decide (x = f)) ++ [f] else s.on.filter (fun x => !decide (x = f))) := sortS_mem.mp hx
  split at hx
  · rcases List.mem_append.mp hx with h | h
    · exact hs.on x (List.mem_filter.mp h).1
    · rw [List.mem_singleton.mp h]; exact hf
  · exact hs.on x (List.mem_filter.mp hx).1
theorem keepP_good {s : Stt} (hs : StG P s) {p : Place} (hp : p ∈ placesOf P.hs "later") (hn : p ∉ s.kept) : StG P (keepP s p) := by
  have nd : (s.kept ++ [p]).Nodup := by
    rw [List.nodup_append]
    refine ⟨hs.keptNd, by simp, ?_⟩
    intro a ha b hb z
    rw [List.mem_singleton] at hb
    exact hn (by rw [← hb, ← z]; exact ha)
  refine ⟨hs.on, hs.onS, fun x hx => ?_, sortP_lt nd⟩
  rcases List.mem_append.mp ((sortP_perm _).mem_iff.mp hx) with h | h
  · exact hs.kept x h
  · rw [List.mem_singleton.mp h]; exact hp
theorem e_with_flag_ok (hn : 100 ≤ n) (G : PG P) {s : Stt} (hs : StG P s) {f : Str} {v : Bool} (hf : f ∈ P.flags) : e_with_flag n [encSt s, .str f, .bl v] S = .ok (encSt (withF s f v)) S := by
  have l4 := hs.onLen G
  have e1 : ∀ x3 x4 : Option U, cLoop (nxL (s.on.map U.str)) (.one 4) (bOf (x2 opNe (xVar 4) (xVar 1))) (xVar 4) n 0 [some (encSt s), some (.str f), some (.bl v), x3, x4] S [] = .ok ((s.on.filter fun x => !decide (x = f)).map U.str) S := fun x3 x4 => by
    rw [comp_eq U.str (fun x => !decide (x = f)) U.str s.on (by omega) (szL (by omega))]
    intro x hx
    refine ⟨_, rfl, by simp, fun _ => by simp⟩
  obtain ⟨os, hos⟩ : ∃ os, os = s.on.filter fun x => !decide (x = f) := ⟨_, rfl⟩
  have hok : ∀ x ∈ os, PyData.strOk x = true := fun x hx => by
    rw [hos] at hx
    exact name_ok (G.good.fname x (hs.on x (List.mem_filter.mp hx).1))
  have hlen : os.length ≤ 4 := by rw [hos]; exact Nat.le_trans (List.length_filter_le _ _) l4
  rw [← hos] at e1
  have e2 : nSorted (os.map U.str) S = .ok ((sortS os).map U.str) S := sorted_strs hok (szL (by omega))
  have e3 : nSorted ((os ++ [f]).map U.str) S = .ok ((sortS (os ++ [f])).map U.str) S := sorted_strs (fun x hx => by
    rcases List.mem_append.mp hx with h | h
    · exact hok x h
    · rw [List.mem_singleton.mp h]; exact name_ok (G.good.fname f hf)) (by simp; exact szL (by omega))
  have hz : os.length + 1 ≤ sizeLine := szL (by omega)
  rw [List.map_append] at e3
  unfold withF
  rw [← hos]
  unfold encSt at e1 ⊢
  unfold e_with_flag m_with_flag
  cases v with
  | true =>
    simp [e1, hz]
    rw [show (List.map U.str os ++ [U.str f]) = List.map U.str os ++ List.map U.str [f] from rfl, e3]
    simp
  | false => simp [e1, e2]
end
end Gn
set_option Elab.async false
set_option linter.all false
set_option maxRecDepth 100000
set_option maxHeartbeats 1000000
namespace Gn
open PySem VI
def encRun (r : Stt × List Str × Option Place × Option Place) : U := .tup [encSt r.1, .fl (r.2.1.map U.str), encO r.2.2.1, encO r.2.2.2]
noncomputable def bodyRun (n : Nat) : MS := (sSeq (sPar [6, 7] (aCons (x2 opIx (xVar 4) (xVar 2)) (aCons (xTup (aCons (xVar 1) (aCons (xVar 2) aNil))) aNil)))
  (sSeq (sAug 2 (xC (.int 1)))
  (sIf (x2 opEq (x2 opIx (xVar 6) (xC (.int 0))) (xC (.str "set")))
  (sAsg (xCall 3 (e_with_flag n) (aCons (xVar 3) (aCons (x2 opIx (xVar 6) (xC (.int 1))) (aCons (x2 opIx (xVar 6) (xC (.int 2))) aNil)))) (gN 3))
  (sIf (x2 opEq (x2 opIx (xVar 6) (xC (.int 0))) (xC (.str "say")))
  (sExpr (xM isLst mAppend (xVar 5) (aCons (x2 opIx (xVar 6) (xC (.int 1))) aNil)))
  (sIf (x2 opEq (x2 opIx (xVar 6) (xC (.int 0))) (xC (.str "skip")))
  (sAug 2 (xIf (xCall 2 (e_is_true n) (aCons (x2 opIx (xVar 6) (xC (.int 1))) (aCons (xVar 3) aNil))) (x2 opIx (xVar 6) (xC (.int 2))) (xC (.int 0))))
  (sIf (xNot (xCall 2 (e_is_true n) (aCons (x2 opIx (xVar 6) (xC (.int 1))) (aCons (xVar 3) aNil))))
  (sSeq (sIf (x2 opEq (x2 opIx (xVar 6) (xC (.int 0))) (xC (.str "wait")))
  (sRet (xTup (aCons (xVar 3) (aCons (xFrz (xVar 5)) (aCons (xVar 7) (aCons (xC .non) aNil))))))
  sNil)
  (sSeq (sIf (x2 opIn (xVar 7) (x2 opIx (xVar 3) (xC (.int 1))))
  (sRet (xTup (aCons (xVar 3) (aCons (xFrz (xVar 5)) (aCons (xC .non) (aCons (xVar 7) aNil))))))
  sNil)
  (sRet (xTup (aCons (xTup (aCons (x2 opIx (xVar 3) (xC (.int 0))) (aCons (xB bTuple (nB nSorted (lim (aStar (lOf (x2 opIx (xVar 3) (xC (.int 1)))) (aCons (xVar 7) aNil))))) aNil))) (aCons (xFrz (xVar 5)) (aCons (xC .non) (aCons (xC .non) aNil))))))))
  sNil))))))
theorem m_run_eq (n : Nat) : m_run n = (sSeq (sPar [4, 5] (aCons (xCall 2 (e_rows_of n) (aCons (xVar 0) (aCons (xVar 1) aNil))) (aCons (xNew (lim aNil)) aNil)))
  (sSeq (sWhile n (x2 opLt (xVar 2) (xB bLen (aCons (xVar 4) aNil))) (bodyRun n))
  (sRet (xTup (aCons (xVar 3) (aCons (xFrz (xVar 5)) (aCons (xC .non) (aCons (xC .non) aNil)))))))) := rfl
def InvRun (P : Prog) (q : Nat) (x : Str) (rows : List Row) (S : Sto) (RES : Stt × List Str × Option Place × Option Place) (env : VI.Env) (S1 : Sto) : Prop := ∃ (j : Nat) (t : Stt) (ws : List Str) (x6 x7 : Option U) (k : Nat), env = [some (.ref q), some (.str x), some (.int (j : Nat)), some (encSt t), some (.tup (rows.map encRow)), some (.ref S.objs.length), x6, x7] ∧ S1 = S.push (.lst (ws.map U.str)) ∧ StG P t ∧ ws.length ≤ j ∧ rows.length < j + k ∧ runL x rows k j t ws = RES
section
variable {n : Nat} {S : Sto} {q : Nat} {P : Prog}
theorem e_run_ok (hn : 100 ≤ n) (hP : PAt S q P) (G : PG P) {x : Str} (hx : x ∈ P.hs.map (·.1)) {i : Nat} {s : Stt} (hs : StG P s) : e_run n [.ref q, .str x, .int (i : Nat), encSt s] S = .ok (encRun (runM P x i s)) S := by
  apply Ok.eq
  have gh := rows_good G hx
  have h8 : (rowsAt P x).length ≤ 8 := gh.few
  obtain ⟨rows, hrows⟩ : ∃ rows, rows = rowsAt P x := ⟨_, rfl⟩
  have hr8 : rows.length ≤ 8 := by rw [hrows]; exact h8
  have hrow : ∀ (j : Nat) (r : Row), rows[j]? = some r → GoodR P.flags (rows.length - j - 1) r := by rw [hrows]; exact gh.row
  have hpl : ∀ (j : Nat) (r : Row) (w : Str), rows[j]? = some r → r.word = w → (x, j) ∈ placesOf P.hs w := fun j r w hr hw => mem_placesOf.mpr ⟨_, r, hd_mem G hx, by rw [hrows] at hr; exact hr, hw⟩
  have hxo : PyData.strOk x = true := name_ok (G.good.hname _ (hd_mem G hx))
  unfold runM
  rw [← hrows]
  obtain ⟨RES, hRES⟩ : ∃ r, runL x rows (rows.length + 1 - i) i s [] = r := ⟨_, rfl⟩
  rw [hRES]
  unfold e_run
  rw [m_run_eq, q_fnG]
  apply Ok.gc
  simp [e_rows_of_ok hP G hx]
  rw [← hrows]
  -- the end of a run
  have fin : ∀ (r : Stt × List Str × Option Place × Option Place) (S1 : Sto), Ext S S1 → Ok (gcR S (.ok (encRun r) S1)) fun y T => y = encRun r ∧ T = S := fun r S1 hx => by
    rw [gc_ext hx]
    · exact ⟨rfl, rfl⟩
    · simp [encRun]
  have hL : ∀ ws : List U, Ext S ((S.push (.lst ws)).put S.objs.length .dead) := fun ws => Ext.push.put (Nat.le_refl _)
  refine while_ok (InvRun P q x rows S RES)
    (fun (env : VI.Env) (_ : Sto) => match env[2]? with | some (some (U.int j)) => ((rows.length : Int) - j).toNat | _ => 0) ?_ n _ _ ⟨i, s, [], none, none, rows.length + 1 - i, rfl, rfl, hs, by simp, by omega, hRES⟩ ?_
  · rintro env S1 ⟨j, t, ws, x6, x7, k, rfl, rfl, ht, hwl, hk, hrun⟩
    by_cases hj : j < rows.length
    · have hj' : (j : Int) < rows.length := by omega
      simp [hj]
      obtain ⟨k, rfl⟩ : ∃ k', k = k' + 1 := ⟨k - 1, by omega⟩
      obtain ⟨r, hr⟩ : ∃ r, rows[j]? = some r := ⟨_, List.getElem?_eq_getElem hj⟩
      have hg := hrow j r hr
      unfold runL at hrun
      rw [hr] at hrun
      have l4 := ht.onLen G
      have l6 := ht.keptLen G
      have hwz : ws.length < sizeLine := Nat.lt_of_le_of_lt (show ws.length ≤ 8 by omega) (by decide)
      unfold bodyRun
      simp [atN, hr]
      cases r with
      | set f v =>
        have hf : f ∈ P.flags := hg
        simp [encRow, e_with_flag_ok hn G ht hf]
        exact ⟨⟨j + 1, withF t f v, ws, _, _, k, rfl, rfl, withF_good ht hf, by omega, by omega, hrun⟩, by omega⟩
      | say w =>
        simp [encRow, kd_lst lst_new, hwz, put_push]
        exact ⟨⟨j + 1, t, ws ++ [w], _, _, k, rfl, by simp, ht, by simp; omega, by omega, hrun⟩, by omega⟩
      | skip c m =>
        obtain ⟨hc, m1, m2⟩ := hg
        simp [encRow, e_true hn hc]
        dsimp only at hrun
        cases htr : tr c t with
        | true =>
          rw [htr, if_pos rfl] at hrun
          simp
          exact ⟨⟨j + 1 + m, t, ws, _, _, k, (by congr 3), rfl, ht, by omega, by omega, hrun⟩, by omega⟩
        | false =>
          rw [htr, if_neg Bool.false_ne_true] at hrun
          simp
          exact ⟨⟨j + 1, t, ws, _, _, k, (by congr 3), rfl, ht, by omega, by omega, hrun⟩, by omega⟩
      | wait c =>
        have hc : GoodC P.flags c := hg
        simp [encRow, e_true hn hc]
        dsimp only at hrun
        cases htr : tr c t with
        | true =>
          rw [htr, if_pos rfl] at hrun
          simp
          exact ⟨⟨j + 1, t, ws, _, _, k, rfl, rfl, ht, by omega, by omega, hrun⟩, by omega⟩
        | false =>
          rw [htr, if_neg Bool.false_ne_true] at hrun
          simp [frz_lst lst_new]
          rw [← hrun]
          exact fin (t, ws, some (x, j), none) _ (hL _)
      | later c =>
        have hc : GoodC P.flags c := hg
        have hp : (x, j) ∈ placesOf P.hs "later" := hpl j _ _ hr rfl
        simp [encRow, e_true hn hc]
        dsimp only at hrun
        cases htr : tr c t with
        | true =>
          rw [htr, if_pos rfl] at hrun
          simp
          exact ⟨⟨j + 1, t, ws, _, _, k, rfl, rfl, ht, by omega, by omega, hrun⟩, by omega⟩
        | false =>
          rw [htr, if_neg Bool.false_ne_true] at hrun
          have ein : ∀ S', opIn (.tup [.str x, .int (j : Nat)]) (.tup (t.kept.map encP)) S' = .ok (.bl (decide ((x, j) ∈ t.kept))) S' := fun S' =>
            in_dat (α := Str × Nat) (a := (x, j)) (xs := t.kept) rfl ⟨_, rfl⟩ ⟨hxo, trivial⟩ (fun y hy => ⟨place_ok G (ht.kept y hy), trivial⟩) (by show 1 ≤ 60; omega) (by simp)
          by_cases hm : (x, j) ∈ t.kept
          · rw [if_pos hm] at hrun
            simp [encSt, ein, hm, frz_lst lst_new]
            rw [← hrun]
            exact fin (t, ws, none, some (x, j)) _ (hL _)
          · rw [if_neg hm] at hrun
            have es : ∀ S', nSorted (t.kept.map encP ++ [.tup [.str x, .int (j : Nat)]]) S' = .ok ((sortP (t.kept ++ [(x, j)])).map encP) S' := fun S' => by
              have := sorted_places (ks := t.kept ++ [(x, j)]) (S := S') (fun y hy => by
                rcases List.mem_append.mp hy with h | h
                · exact place_ok G (ht.kept y h)
                · rw [List.mem_singleton.mp h]; exact hxo) (by simp; exact szL (by omega))
              rw [List.map_append] at this
              exact this
            have hz : t.kept.length + 1 ≤ sizeLine := szL (by omega)
            simp [encSt, ein, hm, frz_lst lst_new, es, hz]
            rw [← hrun]
            exact fin (keepP t (x, j), ws, none, none) _ (hL _)
    · have hj' : ¬ (j : Int) < rows.length := by omega
      simp [hj, frz_lst lst_new]
      have hend : runL x rows k j t ws = (t, ws, none, none) := by
        cases k with
        | zero => rfl
        | succ k =>
          unfold runL
          rw [List.getElem?_eq_none (by omega)]
      rw [← hrun, hend]
      exact fin (t, ws, none, none) _ (hL _)
  · simp
    omega
end
end Gn
set_option Elab.async false
set_option linter.all false
set_option maxRecDepth 100000
set_option maxHeartbeats 1000000
namespace VI
open PySem
section
variable {S : Sto} {n m : Nat} {o : O}
theorem push_old (h : n < S.objs.length) : (S.push o).objs[n]? = S.objs[n]? := by
  show (S.objs ++ [o])[n]? = _
  rw [List.getElem?_append_left h]
theorem lst_push (h : n < S.objs.length) : (S.push o).lst n = S.lst n := by unfold Sto.lst; rw [push_old h]
theorem dct_push (h : n < S.objs.length) : (S.push o).dct n = S.dct n := by unfold Sto.dct; rw [push_old h]
theorem ins_push (h : n < S.objs.length) : (S.push o).ins n = S.ins n := by unfold Sto.ins; rw [push_old h]
theorem put_self (h : S.objs[n]? = some o) : S.put n o = S := by
  show (⟨S.objs.set n o, S.lk⟩ : Sto) = S
  have : S.objs.set n o = S.objs := by
    apply List.ext_getElem?
    intro i
    by_cases hi : n = i
    · subst hi
      rw [List.getElem?_set_self (lt_of_get h), h]
    · rw [List.getElem?_set_ne hi]
  rw [this]
end
theorem while_n {c : ME} {b : MS} {QS : Fl → Sto → Prop} (I : Nat → VI.Env → Sto → Prop) (step : ∀ k env S, I k env S → Ok (c env S) fun u S1 => ∃ t, u = .bl t ∧ if t = true then Ok (b env S1) (turn QS fun e S2 => ∃ k', k' < k ∧ I k' e S2) else QS (.nx env) S1) :
    ∀ (n k : Nat) (env : VI.Env) (S : Sto), I k env S → k < n → Ok (wLoop c b n env S) QS
  | 0, k, env, S, _, h => absurd h (by omega)
  | n + 1, k, env, S, hI, h => by
    unfold wLoop
    rw [Ok.bind_eq]
    refine (step k env S hI).imp fun u S1 hu => ?_
    obtain ⟨t, rfl, hk⟩ := hu
    cases t with
    | true =>
      rw [if_pos rfl] at hk
      show Ok ((b env S1).bind _) QS
      rw [Ok.bind_eq]
      refine hk.imp fun f S2 hf => ?_
      cases f with
      | nx e2 => obtain ⟨k', h1, h2⟩ := hf; exact while_n I step n k' e2 S2 h2 (by omega)
      | ct e2 => obtain ⟨k', h1, h2⟩ := hf; exact while_n I step n k' e2 S2 h2 (by omega)
      | bk e2 => exact hf
      | rt u2 => exact hf
    | false =>
      rw [if_neg Bool.false_ne_true] at hk
      exact hk
end VI
namespace Gn
open PySem VI
structure Lp where
  pile : List Place
  st : Stt
  lost : List Place
structure LpG (P : Prog) (L : Lp) : Prop where
  pile : ∀ p ∈ L.pile, p ∈ placesOf P.hs "wait"
  st : StG P L.st
def loopF (q past : Nat) (rest : List (Str × U)) (L : Lp) : List (Str × U) := ("own_program", .ref q) :: ("own_pile", .tup (L.pile.map encP)) :: ("own_state", encSt L.st) :: ("own_lost", .tup (L.lost.map encP)) :: ("own_past", .ref past) :: rest
def loopO (q past : Nat) (rest : List (Str × U)) (L : Lp) : O := .ins "Loop" (loopF q past rest L)
def LAt (S : Sto) (l q past : Nat) (rest : List (Str × U)) (L : Lp) : Prop := S.ins l = some (("Loop" : Str), loopF q past rest L)
/-- what a look does: the place, what happened, the loop behind it -/
def lookM (P : Prog) (L : Lp) : Option Place × List Str × Lp := match L.st.kept.find? fun p => tr (condAt P p) L.st with
  | some p => (some p, [], ⟨L.pile, withoutP L.st p, L.lost⟩)
  | none => match L.pile.getLast? with
    | none => (none, [], L)
    | some p => if tr (condAt P p) L.st = true then (some p, ["-"], ⟨L.pile.dropLast, L.st, L.lost⟩) else (none, [], L)
def rest? (p : Option Place) : Option (Str × Nat) := p.map fun p => (p.1, p.2 + 1)
def goM (P : Prog) : Nat → Option (Str × Nat) → Lp → List Str → List Str × Lp
  | 0, _, L, ms => (ms, L)
  | _ + 1, none, L, ms => (ms, L)
  | k + 1, some (x, i), L, ms =>
    let r := runM P x i L.st
    let L1 : Lp := ⟨L.pile ++ r.2.2.1.toList, r.1, L.lost ++ r.2.2.2.toList⟩
    let l := lookM P L1
    goM P k (rest? l.1) l.2.2 (ms ++ r.2.1 ++ (if r.2.2.1.isSome = true then ([("+" : Str)] : List Str) else []) ++ l.2.1)
section
variable {n : Nat} {S : Sto} {q l past : Nat} {P : Prog} {rest : List (Str × U)} {L : Lp}
theorem LAt.lt (h : LAt S l q past rest L) : l < S.objs.length := lt_of_get (ins_get.mp h)
theorem last_neg {ps : List Place} {p : Place} (h : ps.getLast? = some p) : L2.atI (ps.map encP) (-1) = some (encP p) := by
  obtain ⟨ys, rfl⟩ : ∃ ys, ps = ys ++ [p] := by
    rw [List.getLast?_eq_some_iff] at h
    exact h
  rw [List.map_append]
  exact atLast
theorem cut_last {α : Type} {xs : List α} : cutL xs none (some (-1)) = xs.dropLast := by
  unfold cutL HT.sIx
  simp
  rw [List.dropLast_eq_take]
  congr 1
  omega
theorem PAt.lt (h : PAt S q P) : q < S.objs.length := lt_of_get (ins_get.mp h)
theorem places_clo {k : Nat} {ps : List Place} : Clo k (.tup (ps.map encP)) := by
  rw [clo_tup]
  intro u hu
  obtain ⟨p, _, rfl⟩ := List.mem_map.mp hu
  simp
theorem loopO_clo {k : Nat} (h1 : q < k) (h2 : past < k) (h3 : ∀ p ∈ rest, Clo k p.2) : CloO k (loopO q past rest L) := by
  unfold loopO loopF
  rw [cloO_ins]
  intro p hp
  simp only [List.mem_cons] at hp
  rcases hp with rfl | rfl | rfl | rfl | rfl | hp
  · exact .ref h1
  · exact places_clo
  · exact encSt_clo
  · exact places_clo
  · exact .ref h2
  · exact h3 p hp
@[simp] theorem fl_strs_clo {k : Nat} {xs : List Str} : Clo k (.fl (xs.map U.str)) := by
  rw [clo_fl]
  intro p hp
  obtain ⟨q, _, rfl⟩ := List.mem_map.mp hp
  simp
/-- what a loop's object needs besides -/
structure Sup (S : Sto) (past : Nat) (rest : List (Str × U)) : Prop where
  few : rest.length < 100
  key : ∀ p ∈ rest, p.1 = "own_first"
  past : past < S.objs.length
  rest : ∀ p ∈ rest, Clo S.objs.length p.2
theorem lookup_none {k : Str} : ∀ {fs : List (Str × U)}, (∀ p ∈ fs, p.1 ≠ k) → fs.lookup k = none
  | [], _ => rfl
  | (x, u) :: fs, h => by
    rw [lookup_cons', if_neg fun z => h (x, u) (by simp) z.symm]
    exact lookup_none fun p hp => h p (by simp [hp])
theorem Sup.look (h : Sup S past rest) {k : Str} (hk : k ≠ "own_first") : rest.lookup k = none := lookup_none fun p hp z => hk (by rw [← z]; exact h.key p hp)
theorem LAt.self (h : LAt S l q past rest L) : S.put l (loopO q past rest L) = S := put_self (ins_get.mp h)
theorem LAt.isI (h : LAt S l q past rest L) (hs : Sup S past rest) {k : Str} (hk : k ≠ "own_program" ∧ k ≠ "own_pile" ∧ k ≠ "own_state" ∧ k ≠ "own_lost" ∧ k ≠ "own_past" ∧ k ≠ "own_first") : VI.isI "Loop" k (.ref l) S = true := by
  refine isI_of h ?_
  unfold loopF
  simp [hk, hs.look hk.2.2.2.2.2]
theorem e_looked_ok (hn : 100 ≤ n) (hP : PAt S q P) (G : PG P) (hL : LAt S l q past rest L) (hS : Sup S past rest) (hg : LpG P L) : e_Loop_looked n [.ref l] S = .ok (.tup [encO (lookM P L).1, .fl ((lookM P L).2.1.map U.str)]) (S.put l (loopO q past rest (lookM P L).2.2)) := by
  have hL' : S.ins l = some (("Loop" : Str), loopF q past rest L) := hL
  have hlt := hL.lt
  have hself : S.put l (loopO q past rest L) = S := put_self (ins_get.mp hL)
  have hclo : ∀ L', CloO S.objs.length (loopO q past rest L') := fun L' => loopO_clo hP.lt hS.past hS.rest
  have hfew : rest.length + 1 + 1 + 1 + 1 + 1 < 1000 := by have := hS.few; omega
  unfold lookM
  unfold e_Loop_looked m_Loop_looked
  cases hf : L.st.kept.find? fun p => tr (condAt P p) L.st with
  | some p =>
    have hp : p ∈ L.st.kept := List.mem_of_find?_eq_some hf
    simp [hL', loopF, tb_own_program, tb_own_state, tb_own_pile, e_ready_place_ok hn hP G hg.st, hf, encO, encP, hfew]
    have e := e_without_ok (n := n) (S := S) hn G hg.st hp
    unfold encP at e
    simp [e, hL', loopF, hfew]
    exact gc_put Ext.refl (by simp) (hclo ⟨L.pile, withoutP L.st p, L.lost⟩)
  | none =>
    cases hl : L.pile.getLast? with
    | none =>
      have hnil : L.pile = [] := List.getLast?_eq_none_iff.mp hl
      simp [hL', loopF, tb_own_program, tb_own_state, tb_own_pile, e_ready_place_ok hn hP G hg.st, hf, encO, hfew, hnil]
      rw [hself]
    | some p =>
      have hne : L.pile ≠ [] := fun z => by rw [z] at hl; cases hl
      have hm : p ∈ L.pile := List.mem_of_getLast? hl
      have hw : isWL P p := .inl (hg.pile p hm)
      have hl0 : ¬ L.pile.length = 0 := fun z => hne (List.length_eq_zero_iff.mp z)
      have hl0' : ¬ (L.pile.length : Int) = 0 := by omega
      cases ht : tr (condAt P p) L.st with
      | true =>
        simp [hL', loopF, tb_own_program, tb_own_state, tb_own_pile, e_ready_place_ok hn hP G hg.st, hf, encO, hfew, hne, last_neg hl, e_condition_at_ok hP G hw, e_true hn (cond_good G hw), ht, cut_last]
        have ed : (L.pile.map encP).dropLast = L.pile.dropLast.map encP := by rw [List.map_dropLast]
        rw [ed]
        exact gc_put Ext.refl (by simp) (hclo ⟨L.pile.dropLast, L.st, L.lost⟩)
      | false =>
        simp [hL', loopF, tb_own_program, tb_own_state, tb_own_pile, e_ready_place_ok hn hP G hg.st, hf, encO, hfew, hne, last_neg hl, e_condition_at_ok hP G hw, e_true hn (cond_good G hw), ht]
        rw [hself]
end
end Gn
set_option Elab.async false
set_option linter.all false
set_option maxRecDepth 100000
set_option maxHeartbeats 1000000
namespace Gn
open PySem VI
def wt (P : Prog) (p : Place) : Nat := (rowsAt P p.1).length - p.2
def wts (P : Prog) (ps : List Place) : Nat := (ps.map (wt P)).sum
def mu (P : Prog) (nx : Option (Str × Nat)) (L : Lp) : Nat := wts P L.st.kept + wts P L.pile + (match nx with | none => 0 | some (x, i) => (rowsAt P x).length + 1 - i)
theorem wts_perm {P : Prog} {a b : List Place} (h : a.Perm b) : wts P a = wts P b := by
  unfold wts
  induction h with
  | nil => rfl
  | cons x _ ih => simp [ih]
  | swap x y l => simp; omega
  | trans _ _ h1 h2 => rw [h1, h2]
@[simp] theorem wts_nil {P : Prog} : wts P [] = 0 := rfl
@[simp] theorem wts_cons {P : Prog} {p : Place} {ps : List Place} : wts P (p :: ps) = wt P p + wts P ps := by simp [wts]
@[simp] theorem wts_app {P : Prog} {a b : List Place} : wts P (a ++ b) = wts P a + wts P b := by simp [wts]
abbrev RunR := Stt × List Str × Option Place × Option Place
structure RunOk (P : Prog) (x : Str) (i : Nat) (s : Stt) (ws : List Str) (r : RunR) : Prop where
  good : StG P r.1
  opened : ∀ p, r.2.2.1 = some p → p ∈ placesOf P.hs "wait" ∧ i ≤ p.2 ∧ p.1 = x
  gone : ∀ p, r.2.2.2 = some p → p ∈ placesOf P.hs "later"
  word : ∀ w ∈ r.2.1, w ∈ ws ∨ nameB w = true
  wlen : r.2.1.length ≤ ws.length + ((rowsAt P x).length - i)
  less : wts P r.1.kept + wts P r.2.2.1.toList ≤ wts P s.kept + ((rowsAt P x).length - i)
section
variable {P : Prog}
theorem runL_spec (G : PG P) {x : Str} (hx : x ∈ P.hs.map (·.1)) : ∀ (k i : Nat) (s : Stt) (ws : List Str), StG P s → RunOk P x i s ws (runL x (rowsAt P x) k i s ws)
  | 0, i, s, ws, hs => ⟨hs, fun p h => (by cases h), fun p h => (by cases h), fun w h => .inl h, (by show ws.length ≤ _; omega), (by show wts P s.kept + wts P [] ≤ _; simp)⟩
  | k + 1, i, s, ws, hs => by
    have gh := rows_good G hx
    have base : RunOk P x i s ws (s, ws, none, none) := ⟨hs, fun p h => (by cases h), fun p h => (by cases h), fun w h => .inl h, (by show ws.length ≤ _; omega), (by show wts P s.kept + wts P [] ≤ _; simp)⟩
    unfold runL
    cases hr : (rowsAt P x)[i]? with
    | none => exact base
    | some r =>
      have hi : i < (rowsAt P x).length := (List.getElem?_eq_some_iff.mp hr).1
      have hg := gh.row i r hr
      have hpl : ∀ w : Str, r.word = w → (x, i) ∈ placesOf P.hs w := fun w hw => mem_placesOf.mpr ⟨_, r, hd_mem G hx, hr, hw⟩
      have on : ∀ (j : Nat) (s' : Stt) (ws' : List Str) (r' : RunR), i < j → s'.kept = s.kept → (∀ w ∈ ws', w ∈ ws ∨ nameB w = true) → ws'.length ≤ ws.length + 1 → RunOk P x j s' ws' r' → RunOk P x i s ws r' := fun j s' ws' r' hj hk hw hwl h =>
        ⟨h.good, fun p hp => ⟨(h.opened p hp).1, by have := (h.opened p hp).2.1; omega, (h.opened p hp).2.2⟩, h.gone, fun w hm => (h.word w hm).elim (hw w) .inr, (by have := h.wlen; omega), (by have := h.less; rw [hk] at this; omega)⟩
      cases r with
      | set f v => exact on (i + 1) (withF s f v) ws _ (by omega) rfl (fun w h => .inl h) (by omega) (runL_spec G hx k (i + 1) _ ws (withF_good hs hg))
      | say w => exact on (i + 1) s (ws ++ [w]) _ (by omega) rfl (fun v h => by
          rcases List.mem_append.mp h with h | h
          · exact .inl h
          · rw [List.mem_singleton.mp h]; exact .inr hg) (by simp) (runL_spec G hx k (i + 1) s _ hs)
      | skip c m => exact on (i + 1 + if tr c s = true then m else 0) s ws _ (by omega) rfl (fun w h => .inl h) (by omega) (runL_spec G hx k _ s ws hs)
      | wait c =>
        dsimp only
        split
        · exact on (i + 1) s ws _ (by omega) rfl (fun w h => .inl h) (by omega) (runL_spec G hx k _ s ws hs)
        · refine ⟨hs, fun p h => ?_, fun p h => (by cases h), fun w h => .inl h, (by show ws.length ≤ _; omega), ?_⟩
          · cases h
            exact ⟨hpl "wait" rfl, Nat.le_refl _, rfl⟩
          · show wts P s.kept + wts P [(x, i)] ≤ _
            simp [wt]
      | later c =>
        dsimp only
        split
        · exact on (i + 1) s ws _ (by omega) rfl (fun w h => .inl h) (by omega) (runL_spec G hx k _ s ws hs)
        · split
          · rename_i hm
            refine ⟨hs, fun p h => (by cases h), fun p h => ?_, fun w h => .inl h, (by show ws.length ≤ _; omega), (by show wts P s.kept + wts P [] ≤ _; simp)⟩
            cases h
            exact hpl "later" rfl
          · rename_i hm
            refine ⟨keepP_good hs (hpl "later" rfl) hm, fun p h => (by cases h), fun p h => (by cases h), fun w h => .inl h, (by show ws.length ≤ _; omega), ?_⟩
            show wts P (sortP (s.kept ++ [(x, i)])) + wts P [] ≤ _
            rw [wts_perm (sortP_perm _)]
            simp [wt]
theorem runM_spec (G : PG P) {x : Str} (hx : x ∈ P.hs.map (·.1)) {i : Nat} {s : Stt} (hs : StG P s) : RunOk P x i s [] (runM P x i s) := runL_spec G hx _ _ _ _ hs
/-- the loop behind a run -/
def afterRun (L : Lp) (r : RunR) : Lp := ⟨L.pile ++ r.2.2.1.toList, r.1, L.lost ++ r.2.2.2.toList⟩
theorem afterRun_good (G : PG P) {x : Str} (hx : x ∈ P.hs.map (·.1)) {i : Nat} {L : Lp} (hL : LpG P L) : LpG P (afterRun L (runM P x i L.st)) := by
  have h := runM_spec G hx (i := i) hL.st
  refine ⟨fun p hp => ?_, h.good⟩
  rcases List.mem_append.mp hp with hp | hp
  · exact hL.pile p hp
  · exact (h.opened p (by simpa using hp)).1
theorem afterRun_mu (G : PG P) {x : Str} (hx : x ∈ P.hs.map (·.1)) {i : Nat} {L : Lp} (hL : LpG P L) (hi : i ≤ (rowsAt P x).length) : mu P none (afterRun L (runM P x i L.st)) < mu P (some (x, i)) L := by
  have h := (runM_spec G hx (i := i) hL.st).less
  unfold mu afterRun
  simp
  omega
theorem perm_filter {α : Type} [DecidableEq α] {p : α} : ∀ {l : List α}, l.Nodup → p ∈ l → l.Perm (p :: l.filter fun x => !decide (x = p))
  | [], _, h => by simp at h
  | x :: xs, nd, h => by
    obtain ⟨h1, h2⟩ := List.nodup_cons.mp nd
    by_cases hx : x = p
    · subst hx
      have : (xs.filter fun y => !decide (y = x)) = xs := List.filter_eq_self.mpr fun y hy => by
        have : y ≠ x := fun z => h1 (by rw [← z]; exact hy)
        simp [this]
      rw [List.filter_cons]
      simp [this]
    · have hm : p ∈ xs := by
        rcases List.mem_cons.mp h with z | z
        · exact absurd z.symm hx
        · exact z
      rw [List.filter_cons]
      simp only [hx, decide_false, Bool.not_false, if_true]
      exact (List.Perm.cons x (perm_filter h2 hm)).trans (List.Perm.swap p x _)
structure LookOk (P : Prog) (L : Lp) (r : Option Place × List Str × Lp) : Prop where
  good : LpG P r.2.2
  place : ∀ p, r.1 = some p → isWL P p
  same : mu P (rest? r.1) r.2.2 = mu P none L
theorem wl_lt (G : PG P) {p : Place} (h : isWL P p) : p.2 < (rowsAt P p.1).length := by
  obtain ⟨_, r, hr, _⟩ := wl_row G h
  exact (List.getElem?_eq_some_iff.mp hr).1
theorem lookM_spec (G : PG P) {L : Lp} (hL : LpG P L) : LookOk P L (lookM P L) := by
  unfold lookM
  cases hf : L.st.kept.find? fun p => tr (condAt P p) L.st with
  | some p =>
    have hp : p ∈ L.st.kept := List.mem_of_find?_eq_some hf
    refine ⟨⟨hL.pile, withoutP_good hL.st⟩, fun p' h => (by cases h; exact hL.st.wl hp), ?_⟩
    have e := wts_perm (P := P) (perm_filter hL.st.keptNd hp)
    have hlt := wl_lt G (hL.st.wl hp)
    simp at e
    unfold mu rest? withoutP
    simp
    unfold wt at e
    omega
  | none =>
    cases hl : L.pile.getLast? with
    | none => exact ⟨hL, fun p h => (by cases h), rfl⟩
    | some p =>
      have hm : p ∈ L.pile := List.mem_of_getLast? hl
      have hw : isWL P p := .inl (hL.pile p hm)
      dsimp only
      split
      · refine ⟨⟨fun y hy => hL.pile y ((List.dropLast_subset _ hy)), hL.st⟩, fun p' h => (by cases h; exact hw), ?_⟩
        have hlt := wl_lt G hw
        obtain ⟨ys, e⟩ := List.getLast?_eq_some_iff.mp hl
        unfold mu rest?
        simp [e]
        unfold wt
        omega
      · exact ⟨hL, fun p h => (by cases h), rfl⟩
end
end Gn
set_option Elab.async false
set_option linter.all false
set_option maxRecDepth 100000
set_option maxHeartbeats 1000000
namespace Gn
open PySem VI
def encN : Option (Str × Nat) → U
  | none => .non
  | some (x, i) => .tup [.str x, .int ((i : Nat) - 1)]
theorem encN_rest {o : Option Place} : encN (rest? o) = encO o := by
  cases o with
  | none => rfl
  | some p =>
    show U.tup [.str p.1, .int (((p.2 + 1 : Nat) : Int) - 1)] = encP p
    unfold encP
    congr 3
    simp
/-- the store: S with the loop at l -/
def Lst (S : Sto) (l q past : Nat) (rest : List (Str × U)) (L : Lp) (S1 : Sto) : Prop := Ext (S.put l (loopO q past rest L)) S1
section
variable {n : Nat} {S S1 : Sto} {q l past : Nat} {P : Prog} {rest : List (Str × U)} {L : Lp} {env : VI.Env}
theorem Lst.at (h : Lst S l q past rest L S1) (hl : l < S.objs.length) : LAt S1 l q past rest L := h.ins (ins_put hl)
theorem Lst.len (h : Lst S l q past rest L S1) : S.objs.length ≤ S1.objs.length := by have := Ext.len h; rw [len_put] at this; exact this
theorem Lst.prog (h : Lst S l q past rest L S1) (hP : PAt S q P) (hq : q ≠ l) : PAt S1 q P := by
  refine Ext.ins h ?_
  rw [ins_put_ne (Ne.symm hq)]
  exact hP
theorem Lst.sup (h : Lst S l q past rest L S1) (hS : Sup S past rest) : Sup S1 past rest := ⟨hS.few, hS.key, Nat.lt_of_lt_of_le hS.past h.len, fun p hp => (hS.rest p hp).mono h.len⟩
theorem Lst.set {L' : Lp} (h : Lst S l q past rest L S1) (hl : l < S.objs.length) : Lst S l q past rest L' (S1.put l (loopO q past rest L')) := by
  obtain ⟨⟨t, e⟩, hk⟩ := h
  refine ⟨⟨t, ?_⟩, hk⟩
  show S.objs.set l _ ++ t = S1.objs.set l _
  rw [← e]
  show _ = ((S.objs.set l _) ++ t).set l _
  rw [List.set_append_left _ _ (by rw [List.length_set]; exact hl), List.set_set]
theorem Lst.push {o : O} (h : Lst S l q past rest L S1) : Lst S l q past rest L (S1.push o) := Ext.trans h Ext.push
theorem Lst.put {o : O} {k : Nat} (h : Lst S l q past rest L S1) (hk : S.objs.length ≤ k) : Lst S l q past rest L (S1.put k o) := Ext.put h (by rw [len_put]; exact hk)
theorem fld_prog (h : LAt S l q past rest L) (he : env[0]? = some (some (.ref l))) : xFld tb_own_program "own_program" (xVar 0) env S = .ok (.ref q) S := by
  have h' : S.ins l = some (("Loop" : Str), loopF q past rest L) := h
  simp [he, h', loopF, tb_own_program]
theorem fld_pile (h : LAt S l q past rest L) (he : env[0]? = some (some (.ref l))) : xFld tb_own_pile "own_pile" (xVar 0) env S = .ok (.tup (L.pile.map encP)) S := by
  have h' : S.ins l = some (("Loop" : Str), loopF q past rest L) := h
  simp [he, h', loopF, tb_own_pile]
theorem fld_state (h : LAt S l q past rest L) (he : env[0]? = some (some (.ref l))) : xFld tb_own_state "own_state" (xVar 0) env S = .ok (encSt L.st) S := by
  have h' : S.ins l = some (("Loop" : Str), loopF q past rest L) := h
  simp [he, h', loopF, tb_own_state]
theorem fld_lost (h : LAt S l q past rest L) (he : env[0]? = some (some (.ref l))) : xFld tb_own_lost "own_lost" (xVar 0) env S = .ok (.tup (L.lost.map encP)) S := by
  have h' : S.ins l = some (("Loop" : Str), loopF q past rest L) := h
  simp [he, h', loopF, tb_own_lost]
theorem set_state (h : LAt S l q past rest L) (hS : Sup S past rest) (he : env[0]? = some (some (.ref l))) {m : ME} {s : Stt} (hm : m env S = .ok (encSt s) S) : sFldS tb_own_state "own_state" (xVar 0) m env S = .ok (.nx env) (S.put l (loopO q past rest ⟨L.pile, s, L.lost⟩)) := by
  have h' : S.ins l = some (("Loop" : Str), loopF q past rest L) := h
  have hf : rest.length + 1 + 1 + 1 + 1 + 1 < 1000 := by have := hS.few; omega
  simp [hm, he, h', loopF, tb_own_state, loopO, hf]
theorem set_pile (h : LAt S l q past rest L) (hS : Sup S past rest) (he : env[0]? = some (some (.ref l))) {m : ME} {ps : List Place} (hm : m env S = .ok (.tup (ps.map encP)) S) : sFldS tb_own_pile "own_pile" (xVar 0) m env S = .ok (.nx env) (S.put l (loopO q past rest ⟨ps, L.st, L.lost⟩)) := by
  have h' : S.ins l = some (("Loop" : Str), loopF q past rest L) := h
  have hf : rest.length + 1 + 1 + 1 + 1 + 1 < 1000 := by have := hS.few; omega
  simp [hm, he, h', loopF, tb_own_pile, loopO, hf]
theorem set_lost (h : LAt S l q past rest L) (hS : Sup S past rest) (he : env[0]? = some (some (.ref l))) {m : ME} {ps : List Place} (hm : m env S = .ok (.tup (ps.map encP)) S) : sFldS tb_own_lost "own_lost" (xVar 0) m env S = .ok (.nx env) (S.put l (loopO q past rest ⟨L.pile, L.st, ps⟩)) := by
  have h' : S.ins l = some (("Loop" : Str), loopF q past rest L) := h
  have hf : rest.length + 1 + 1 + 1 + 1 + 1 < 1000 := by have := hS.few; omega
  simp [hm, he, h', loopF, tb_own_lost, loopO, hf]
end
noncomputable def goA (n : Nat) : MS := (sAsg (xCall 4 (e_run n) (aCons (xFld tb_own_program "own_program" (xVar 0)) (aCons (x2 opIx (xVar 4) (xC (.int 0))) (aCons (x2 opAdd (x2 opIx (xVar 4) (xC (.int 1))) (xC (.int 1))) (aCons (xFld tb_own_state "own_state" (xVar 0)) aNil))))) (gT [(gN 5), (gN 6), (gN 7), (gN 8)]))
def goB : MS := (sFldS tb_own_state "own_state" (xVar 0) (xVar 5))
def goC : MS := (sAsg (xNew (lim (aStar (lOf (xVar 3)) (aStar (lOf (xVar 6)) aNil)))) (gN 3))
def goD : MS := (sIf (x2 opIsNot (xVar 8) (xC .non))
  (sFldS tb_own_lost "own_lost" (xVar 0) (xTup (aStar (lOf (xFld tb_own_lost "own_lost" (xVar 0))) (aCons (xVar 8) aNil))))
  sNil)
def goE : MS := (sIf (x2 opIsNot (xVar 7) (xC .non))
  (sSeq (sFldS tb_own_pile "own_pile" (xVar 0) (xTup (aStar (lOf (xFld tb_own_pile "own_pile" (xVar 0))) (aCons (xVar 7) aNil))))
  (sExpr (xM isLst mAppend (xVar 3) (aCons (xC (.str "+")) aNil))))
  sNil)
noncomputable def goFF (n : Nat) : MS := (sAsg (xMeth "Loop" "looked" 1 (e_Loop_looked n) (xVar 0) aNil) (gT [(gN 4), (gN 9)]))
def goG : MS := (sAsg (xNew (lim (aStar (lOf (xVar 3)) (aStar (lOf (xVar 9)) aNil)))) (gN 3))
theorem m_gone_eq (n : Nat) : m_Loop_gone_on n = (sSeq (sAsg (xIf (x2 opIsNot (xVar 1) (xC .non)) (xTup (aCons (xC .non) (aCons (xNewF (lim aNil)) aNil))) (xMeth "Loop" "looked" 1 (e_Loop_looked n) (xVar 0) aNil)) (gT [(gN 2), (gN 3)]))
  (sSeq (sAsg (xIf (x2 opIsNot (xVar 1) (xC .non)) (xTup (aCons (xVar 1) (aCons (x1 opNeg (xC (.int 1))) aNil))) (xVar 2)) (gN 4))
  (sSeq (sWhile n (x2 opIsNot (xVar 4) (xC .non)) (sSeq (goA n) (sSeq goB (sSeq goC (sSeq goD (sSeq goE (sSeq (goFF n) goG)))))))
  (sRet (xB bTuple (lOf (xVar 3))))))) := rfl
section
variable {n : Nat} {S : Sto} {q l past : Nat} {P : Prog} {rest : List (Str × U)} {L : Lp}
/-- one turn -/
theorem go_turn (hn : 100 ≤ n) (hP : PAt S q P) (G : PG P) (hL : LAt S l q past rest L) (hS : Sup S past rest) (hg : LpG P L) {ev um : U} {x : Str} {i : Nat} {ms : List Str} {x2 x5 x6 x7 x8 x9 : Option U} (hx : x ∈ P.hs.map (·.1))
    (hum : seqU um S = some (ms.map U.str)) (hz : ms.length + L.pile.length + L.lost.length ≤ 1000000) :
    ∃ y5 y6 y7 y8 y9 S', (sSeq (goA n) (sSeq goB (sSeq goC (sSeq goD (sSeq goE (sSeq (goFF n) goG)))))) [some (.ref l), some ev, x2, some um, some (encN (some (x, i))), x5, x6, x7, x8, x9] S = .ok (.nx [some (.ref l), some ev, x2, some (.ref (S.objs.length + 1)), some (encN (rest? (lookM P (afterRun L (runM P x i L.st))).1)), y5, y6, y7, y8, y9]) S' ∧
      Lst S l q past rest (lookM P (afterRun L (runM P x i L.st))).2.2 S' ∧ S'.lst (S.objs.length + 1) = some ((ms ++ (runM P x i L.st).2.1 ++ (if (runM P x i L.st).2.2.1.isSome = true then [("+" : Str)] else []) ++ (lookM P (afterRun L (runM P x i L.st))).2.1).map U.str) := by
  obtain ⟨r, hr⟩ : ∃ r, runM P x i L.st = r := ⟨_, rfl⟩
  have rs : RunOk P x i L.st [] r := by rw [← hr]; exact runM_spec G hx hg.st
  have hag : LpG P (afterRun L r) := by rw [← hr]; exact afterRun_good G hx hg
  rw [hr]
  have hlt := hL.lt
  have hq : q ≠ l := fun z => by
    have h1 : S.ins q = some (("Program" : Str), progF P) := hP
    have h2 : S.ins l = some (("Loop" : Str), loopF q past rest L) := hL
    rw [z, h2] at h1
    simp at h1
  have h0 : Lst S l q past rest L S := by
    show Ext (S.put l (loopO q past rest L)) S
    rw [hL.self]
    exact Ext.refl
  have hw8 : r.2.1.length ≤ 8 := by have := rs.wlen; have : (rowsAt P x).length ≤ 8 := (rows_good G hx).few; simp at *; omega
  have z1 : ms.length + r.2.1.length ≤ sizeLine := Nat.le_trans (show _ ≤ 1000008 by omega) (by decide)
  have z2 : L.lost.length + 1 ≤ sizeLine := Nat.le_trans (show _ ≤ 1000008 by omega) (by decide)
  have z3 : L.pile.length + 1 ≤ sizeLine := Nat.le_trans (show _ ≤ 1000008 by omega) (by decide)
  have z4 : ms.length + r.2.1.length < sizeLine := Nat.lt_of_le_of_lt (show _ ≤ 1000008 by omega) (by decide)
  -- A
  have eA : goA n [some (.ref l), some ev, x2, some um, some (encN (some (x, i))), x5, x6, x7, x8, x9] S = .ok (.nx [some (.ref l), some ev, x2, some um, some (encN (some (x, i))), some (encSt r.1), some (.fl (r.2.1.map U.str)), some (encO r.2.2.1), some (encO r.2.2.2), x9]) S := by
    have e := e_run_ok (n := n) (S := S) hn hP G hx (i := i) hg.st
    rw [hr] at e
    unfold goA
    simp [-q_fld, fld_prog hL, fld_state hL, encN, e, encRun]
  -- B
  have eB : goB [some (.ref l), some ev, x2, some um, some (encN (some (x, i))), some (encSt r.1), some (.fl (r.2.1.map U.str)), some (encO r.2.2.1), some (encO r.2.2.2), x9] S = .ok (.nx [some (.ref l), some ev, x2, some um, some (encN (some (x, i))), some (encSt r.1), some (.fl (r.2.1.map U.str)), some (encO r.2.2.1), some (encO r.2.2.2), x9]) (S.put l (loopO q past rest ⟨L.pile, r.1, L.lost⟩)) := set_state hL hS rfl (by simp)
  obtain ⟨S2, hS2⟩ : ∃ S2, S2 = S.put l (loopO q past rest ⟨L.pile, r.1, L.lost⟩) := ⟨_, rfl⟩
  rw [← hS2] at eB
  have h2 : Lst S l q past rest ⟨L.pile, r.1, L.lost⟩ S2 := by rw [hS2]; exact h0.set hlt
  have n2 : S2.objs.length = S.objs.length := by rw [hS2, len_put]
  have hum2 : seqU um S2 = some (ms.map U.str) := by
    cases um with
    | ref k =>
      have hk : S.lst k = some (ms.map U.str) := hum
      show S2.lst k = _
      rw [hS2, lst_put_ne]
      · exact hk
      · intro z
        subst z
        have := lst_get.mp hk
        rw [ins_get.mp hL] at this
        cases this
    | _ => exact hum
  -- C
  have eC : goC [some (.ref l), some ev, x2, some um, some (encN (some (x, i))), some (encSt r.1), some (.fl (r.2.1.map U.str)), some (encO r.2.2.1), some (encO r.2.2.2), x9] S2 = .ok (.nx [some (.ref l), some ev, x2, some (.ref S.objs.length), some (encN (some (x, i))), some (encSt r.1), some (.fl (r.2.1.map U.str)), some (encO r.2.2.1), some (encO r.2.2.2), x9]) (S2.push (.lst ((ms ++ r.2.1).map U.str))) := by
    unfold goC
    simp [hum2, z1, n2]
  obtain ⟨S3, hS3⟩ : ∃ S3, S3 = S2.push (.lst ((ms ++ r.2.1).map U.str)) := ⟨_, rfl⟩
  rw [← hS3] at eC
  have h3 : Lst S l q past rest ⟨L.pile, r.1, L.lost⟩ S3 := by rw [hS3]; exact h2.push
  have n3 : S3.objs.length = S.objs.length + 1 := by rw [hS3, len_push, n2]
  have m3 : S3.lst S.objs.length = some ((ms ++ r.2.1).map U.str) := by rw [hS3, ← n2]; exact lst_new
  -- D
  have eD : goD [some (.ref l), some ev, x2, some (.ref S.objs.length), some (encN (some (x, i))), some (encSt r.1), some (.fl (r.2.1.map U.str)), some (encO r.2.2.1), some (encO r.2.2.2), x9] S3 = .ok (.nx [some (.ref l), some ev, x2, some (.ref S.objs.length), some (encN (some (x, i))), some (encSt r.1), some (.fl (r.2.1.map U.str)), some (encO r.2.2.1), some (encO r.2.2.2), x9]) (S3.put l (loopO q past rest ⟨L.pile, r.1, L.lost ++ r.2.2.2.toList⟩)) := by
    unfold goD
    cases hgo : r.2.2.2 with
    | none =>
      simp [encO]
      rw [(h3.at hlt).self]
    | some p =>
      have hm : xTup (aStar (lOf (xFld tb_own_lost "own_lost" (xVar 0))) (aCons (xVar 8) aNil)) [some (.ref l), some ev, x2, some (.ref S.objs.length), some (encN (some (x, i))), some (encSt r.1), some (.fl (r.2.1.map U.str)), some (encO r.2.2.1), some (encO (some p)), x9] S3 = .ok (.tup ((L.lost ++ [p]).map encP)) S3 := by
        simp [-q_fld, fld_lost (h3.at hlt), z2, encO]
      have hI : isNon (encO (some p)) = false := rfl
      simp [-q_fldS, hI, set_lost (h3.at hlt) (h3.sup hS) rfl hm]
  obtain ⟨S4, hS4⟩ : ∃ S4, S4 = S3.put l (loopO q past rest ⟨L.pile, r.1, L.lost ++ r.2.2.2.toList⟩) := ⟨_, rfl⟩
  rw [← hS4] at eD
  have h4 : Lst S l q past rest ⟨L.pile, r.1, L.lost ++ r.2.2.2.toList⟩ S4 := by rw [hS4]; exact h3.set hlt
  have n4 : S4.objs.length = S.objs.length + 1 := by rw [hS4, len_put, n3]
  have m4 : S4.lst S.objs.length = some ((ms ++ r.2.1).map U.str) := by rw [hS4, lst_put_ne (Nat.ne_of_lt hlt)]; exact m3
  -- E
  obtain ⟨S5, eE, h5, n5, m5⟩ : ∃ S5, goE [some (.ref l), some ev, x2, some (.ref S.objs.length), some (encN (some (x, i))), some (encSt r.1), some (.fl (r.2.1.map U.str)), some (encO r.2.2.1), some (encO r.2.2.2), x9] S4 = .ok (.nx [some (.ref l), some ev, x2, some (.ref S.objs.length), some (encN (some (x, i))), some (encSt r.1), some (.fl (r.2.1.map U.str)), some (encO r.2.2.1), some (encO r.2.2.2), x9]) S5 ∧ Lst S l q past rest (afterRun L r) S5 ∧ S5.objs.length = S.objs.length + 1 ∧ S5.lst S.objs.length = some ((ms ++ r.2.1 ++ (if r.2.2.1.isSome = true then [("+" : Str)] else [])).map U.str) := by
    cases ho : r.2.2.1 with
    | none =>
      refine ⟨S4, ?_, ?_, n4, ?_⟩
      · unfold goE
        simp [encO]
      · unfold afterRun
        rw [ho]
        simpa using h4
      · rw [m4]
        simp
    | some p =>
      have hm : xTup (aStar (lOf (xFld tb_own_pile "own_pile" (xVar 0))) (aCons (xVar 7) aNil)) [some (.ref l), some ev, x2, some (.ref S.objs.length), some (encN (some (x, i))), some (encSt r.1), some (.fl (r.2.1.map U.str)), some (encO (some p)), some (encO r.2.2.2), x9] S4 = .ok (.tup ((L.pile ++ [p]).map encP)) S4 := by
        simp [-q_fld, fld_pile (h4.at hlt), z3, encO]
      have hf := set_pile (h4.at hlt) (h4.sup hS) rfl hm
      obtain ⟨S5, hS5⟩ : ∃ S5, S5 = S4.put l (loopO q past rest ⟨L.pile ++ [p], r.1, L.lost ++ r.2.2.2.toList⟩) := ⟨_, rfl⟩
      rw [← hS5] at hf
      have m5 : S5.lst S.objs.length = some ((ms ++ r.2.1).map U.str) := by rw [hS5, lst_put_ne (Nat.ne_of_lt hlt)]; exact m4
      have n5 : S5.objs.length = S.objs.length + 1 := by rw [hS5, len_put, n4]
      have h5 : Lst S l q past rest (afterRun L r) S5 := by
        rw [hS5]
        unfold afterRun
        rw [ho]
        exact h4.set hlt
      refine ⟨S5.put S.objs.length (.lst ((ms ++ r.2.1 ++ [("+" : Str)]).map U.str)), ?_, h5.put (Nat.le_refl _), by rw [len_put, n5], ?_⟩
      · unfold goE
        have hI : isNon (encO (some p)) = false := rfl
        simp [-q_fldS, hI, hf, kd_lst m5, m5, z4]
      · rw [lst_put (by omega)]
        simp
  -- F
  have hlk := lookM_spec G hag
  have eF : goFF n [some (.ref l), some ev, x2, some (.ref S.objs.length), some (encN (some (x, i))), some (encSt r.1), some (.fl (r.2.1.map U.str)), some (encO r.2.2.1), some (encO r.2.2.2), x9] S5 = .ok (.nx [some (.ref l), some ev, x2, some (.ref S.objs.length), some (encN (rest? (lookM P (afterRun L r)).1)), some (encSt r.1), some (.fl (r.2.1.map U.str)), some (encO r.2.2.1), some (encO r.2.2.2), some (.fl ((lookM P (afterRun L r)).2.1.map U.str))]) (S5.put l (loopO q past rest (lookM P (afterRun L r)).2.2)) := by
    have hI : isI "Loop" "looked" (.ref l) S5 = true := (h5.at hlt).isI (h5.sup hS) (by simp)
    unfold goFF
    rw [encN_rest]
    simp [hI, e_looked_ok hn (h5.prog hP hq) G (h5.at hlt) (h5.sup hS) hag]
  obtain ⟨S6, hS6⟩ : ∃ S6, S6 = S5.put l (loopO q past rest (lookM P (afterRun L r)).2.2) := ⟨_, rfl⟩
  rw [← hS6] at eF
  have h6 : Lst S l q past rest (lookM P (afterRun L r)).2.2 S6 := by rw [hS6]; exact h5.set hlt
  have n6 : S6.objs.length = S.objs.length + 1 := by rw [hS6, len_put, n5]
  have m6 : S6.lst S.objs.length = some ((ms ++ r.2.1 ++ (if r.2.2.1.isSome = true then [("+" : Str)] else [])).map U.str) := by rw [hS6, lst_put_ne (Nat.ne_of_lt hlt)]; exact m5
  -- G
  have z5 : (ms ++ r.2.1 ++ (if r.2.2.1.isSome = true then [("+" : Str)] else [])).length + (lookM P (afterRun L r)).2.1.length ≤ sizeLine := by
    have l1 : (if r.2.2.1.isSome = true then [("+" : Str)] else []).length ≤ 1 := by split <;> simp
    have l2 : (lookM P (afterRun L r)).2.1.length ≤ 1 := by
      unfold lookM
      split
      · simp
      · split
        · simp
        · split <;> simp
    rw [List.length_append, List.length_append]
    exact Nat.le_trans (show _ ≤ 1000010 by omega) (by decide)
  refine ⟨some (encSt r.1), some (.fl (r.2.1.map U.str)), some (encO r.2.2.1), some (encO r.2.2.2), some (.fl ((lookM P (afterRun L r)).2.1.map U.str)), S6.push (.lst ((ms ++ r.2.1 ++ (if r.2.2.1.isSome = true then [("+" : Str)] else []) ++ (lookM P (afterRun L r)).2.1).map U.str)), ?_, h6.push, by rw [← n6]; exact lst_new⟩
  rw [q_seq, eA, R.bind_ok, onF_nx, q_seq, eB, R.bind_ok, onF_nx, q_seq, eC, R.bind_ok, onF_nx, q_seq, eD, R.bind_ok, onF_nx, q_seq, eE, R.bind_ok, onF_nx, q_seq, eF, R.bind_ok, onF_nx]
  unfold goG
  obtain ⟨mm, hmm⟩ : ∃ mm, mm = ms ++ r.2.1 ++ (if r.2.2.1.isSome = true then [("+" : Str)] else []) := ⟨_, rfl⟩
  rw [← hmm] at m6 z5 ⊢
  simp [m6, z5, n6]
/-- what comes first is right -/
def NxG (P : Prog) (nx : Option (Str × Nat)) : Prop := ∀ x i, nx = some (x, i) → x ∈ P.hs.map (·.1) ∧ i ≤ (rowsAt P x).length
theorem nxRest (G : PG P) {L : Lp} (hL : LpG P L) : NxG P (rest? (lookM P L).1) := by
  intro x i h
  cases hp : (lookM P L).1 with
  | none => rw [hp] at h; cases h
  | some p =>
    rw [hp] at h
    cases h
    have hw := (lookM_spec G hL).place p hp
    exact ⟨(wl_row G hw).1, wl_lt G hw⟩
def InvGo (P : Prog) (S : Sto) (l q past : Nat) (rest : List (Str × U)) (ev : U) (RES : List Str × Lp) (k : Nat) (env : VI.Env) (S1 : Sto) : Prop := ∃ (nx : Option (Str × Nat)) (L : Lp) (ms : List Str) (um : U) (x2 x5 x6 x7 x8 x9 : Option U) (f : Nat), env = [some (.ref l), some ev, x2, some um, some (encN nx), x5, x6, x7, x8, x9] ∧ Lst S l q past rest L S1 ∧ seqU um S1 = some (ms.map U.str) ∧ LpG P L ∧ NxG P nx ∧ k = mu P nx L ∧ k < f ∧ ms.length + 20 * k + L.pile.length + L.lost.length ≤ 1000000 ∧ goM P f nx L ms = RES
theorem goM_none {f : Nat} {L : Lp} {ms : List Str} : goM P f none L ms = (ms, L) := by cases f <;> rfl
theorem afterRun_len {r : RunR} : (afterRun L r).pile.length ≤ L.pile.length + 1 ∧ (afterRun L r).lost.length ≤ L.lost.length + 1 := by
  unfold afterRun
  constructor
  · rw [List.length_append]; cases r.2.2.1 <;> simp
  · rw [List.length_append]; cases r.2.2.2 <;> simp
theorem look_len : (lookM P L).2.2.pile.length ≤ L.pile.length ∧ (lookM P L).2.2.lost.length = L.lost.length ∧ (lookM P L).2.1.length ≤ 1 := by
  unfold lookM
  split
  · simp
  · split
    · simp
    · split <;> simp
theorem go_while (hn : 100 ≤ n) (hP : PAt S q P) (G : PG P) (hl : l < S.objs.length) (hq : q ≠ l) (hS : Sup S past rest) {ev : U} {RES : List Str × Lp} {QS : Fl → Sto → Prop} (fin : ∀ (ms : List Str) (L : Lp) (um : U) (x2 x5 x6 x7 x8 x9 : Option U) (S1 : Sto), (ms, L) = RES → Lst S l q past rest L S1 → seqU um S1 = some (ms.map U.str) → QS (.nx [some (.ref l), some ev, x2, some um, some .non, x5, x6, x7, x8, x9]) S1) :
    ∀ (k : Nat) (env : VI.Env) (S1 : Sto), InvGo P S l q past rest ev RES k env S1 → k < n → Ok (wLoop (x2 opIsNot (xVar 4) (xC .non)) (sSeq (goA n) (sSeq goB (sSeq goC (sSeq goD (sSeq goE (sSeq (goFF n) goG)))))) n env S1) QS := by
  refine while_n (InvGo P S l q past rest ev RES) ?_ n
  rintro k env S1 ⟨nx, L, ms, um, x2, x5, x6, x7, x8, x9, f, rfl, hL, hum, hg, hnx, rfl, hf, hz, hgo⟩
  cases nx with
  | none =>
    rw [goM_none] at hgo
    simp [encN]
    exact fin ms L um x2 x5 x6 x7 x8 x9 S1 hgo hL hum
  | some p =>
    obtain ⟨x, i⟩ := p
    obtain ⟨hx, hi⟩ := hnx x i rfl
    obtain ⟨f, rfl⟩ : ∃ f', f = f' + 1 := ⟨f - 1, by omega⟩
    have hI : isNon (encN (some (x, i))) = false := rfl
    obtain ⟨y5, y6, y7, y8, y9, S', e, hL', hm⟩ := go_turn (n := n) (ev := ev) (x := x) (i := i) (x2 := x2) (x5 := x5) (x6 := x6) (x7 := x7) (x8 := x8) (x9 := x9) hn (hL.prog hP hq) G (hL.at hl) (hL.sup hS) hg hx hum (by omega)
    have hag := afterRun_good G hx (i := i) hg
    have hmu := afterRun_mu G hx hg hi
    have hlk := lookM_spec G hag
    have la := afterRun_len (L := L) (r := runM P x i L.st)
    have ll := look_len (P := P) (L := afterRun L (runM P x i L.st))
    have hw8 : (runM P x i L.st).2.1.length ≤ 8 := by
      have h1 := (runM_spec G hx (i := i) hg.st).wlen
      have h2 : (rowsAt P x).length ≤ 8 := (rows_good G hx).few
      simp at h1
      omega
    simp [hI, -q_seq]
    rw [e]
    rw [Ok.ok, turn_nx]
    refine ⟨_, ?_, rest? (lookM P (afterRun L (runM P x i L.st))).1, (lookM P (afterRun L (runM P x i L.st))).2.2, _, .ref (S1.objs.length + 1), x2, y5, y6, y7, y8, y9, f, rfl, ?_, hm, hlk.good, nxRest G hag, rfl, ?_, ?_, hgo⟩
    · rw [hlk.same]; exact hmu
    · obtain ⟨⟨t, e1⟩, k1⟩ := hL'
      obtain ⟨⟨t2, e2⟩, k2⟩ := hL
      refine ⟨⟨t2 ++ t, ?_⟩, k1.trans k2⟩
      rw [← e1]
      show S.objs.set l _ ++ (t2 ++ t) = S1.objs.set l _ ++ t
      rw [← e2]
      show _ = ((S.objs.set l _) ++ t2).set l _ ++ t
      rw [List.set_append_left _ _ (by rw [List.length_set]; exact hl), List.set_set, List.append_assoc]
    · rw [hlk.same]; omega
    · rw [hlk.same]
      have l1 : (if (runM P x i L.st).2.2.1.isSome = true then [("+" : Str)] else []).length ≤ 1 := by split <;> simp
      rw [List.length_append, List.length_append, List.length_append]
      omega
end
end Gn
set_option Elab.async false
set_option linter.all false
set_option maxRecDepth 100000
set_option maxHeartbeats 1000000
namespace Gn
open PySem VI
def goEv (P : Prog) (n : Nat) (x : Str) (L : Lp) : List Str × Lp := goM P n (some (x, 0)) L []
def goLook (P : Prog) (n : Nat) (L : Lp) : List Str × Lp := goM P n (rest? (lookM P L).1) (lookM P L).2.2 (lookM P L).2.1
section
variable {n : Nat} {S : Sto} {q l past : Nat} {P : Prog} {rest : List (Str × U)} {L : Lp}
theorem q_ne_l (hP : PAt S q P) (hL : LAt S l q past rest L) : q ≠ l := fun z => by
  have h1 : S.ins q = some (("Program" : Str), progF P) := hP
  have h2 : S.ins l = some (("Loop" : Str), loopF q past rest L) := hL
  rw [z, h2] at h1
  simp at h1
/-- the end of gone_on -/
theorem go_fin (hP : PAt S q P) (hL : LAt S l q past rest L) (hS : Sup S past rest) {RES : List Str × Lp} {ev : U} (ms : List Str) (L' : Lp) (um : U) (x2 x5 x6 x7 x8 x9 : Option U) (S1 : Sto) (hr : (ms, L') = RES) (h1 : Lst S l q past rest L' S1) (h2 : seqU um S1 = some (ms.map U.str)) :
    Ok (sRet (xB bTuple (lOf (xVar 3))) [some (.ref l), some ev, x2, some um, some .non, x5, x6, x7, x8, x9] S1) fun f S2 => Ok (endF f S2) fun u S3 => Ok (gcR S (.ok u S3)) fun y T => y = U.tup (RES.1.map U.str) ∧ T = S.put l (loopO q past rest RES.2) := by
  subst hr
  simp [h2]
  rw [gc_put h1 strs_clo (loopO_clo hP.lt hS.past hS.rest)]
  exact ⟨rfl, rfl⟩
theorem e_gone_ev (hn : 100 ≤ n) (hP : PAt S q P) (G : PG P) (hL : LAt S l q past rest L) (hS : Sup S past rest) (hg : LpG P L) {x : Str} (hx : x ∈ P.hs.map (·.1)) (hk : mu P (some (x, 0)) L < n) (hz : 20 * mu P (some (x, 0)) L + L.pile.length + L.lost.length ≤ 1000000) :
    e_Loop_gone_on n [.ref l, .str x] S = .ok (.tup ((goEv P n x L).1.map U.str)) (S.put l (loopO q past rest (goEv P n x L).2)) := by
  apply Ok.eq
  unfold e_Loop_gone_on
  rw [m_gone_eq, q_fnG]
  apply Ok.gc
  simp [-q_seq]
  rw [q_seq]
  simp [-q_seq]
  rw [q_seq]
  simp [-q_seq]
  rw [q_seq, q_while, Ok.bind_eq]
  refine go_while (S := S) (RES := goEv P n x L) (ev := .str x) (q := q) (past := past) (rest := rest) (P := P) hn hP G hL.lt (q_ne_l hP hL) hS ?_ (mu P (some (x, 0)) L) _ S ⟨some (x, 0), L, [], .fl [], _, none, none, none, none, none, n, rfl, ?_, rfl, hg, ?_, rfl, hk, by simpa using hz, rfl⟩ hk
  · intro ms L' um x2 x5 x6 x7 x8 x9 S1 hr h1 h2
    have := go_fin hP hL hS (ev := .str x) ms L' um x2 x5 x6 x7 x8 x9 S1 hr h1 h2
    simpa using this
  · show Ext (S.put l (loopO q past rest L)) S
    rw [hL.self]
    exact Ext.refl
  · intro y i h
    cases h
    exact ⟨hx, Nat.zero_le _⟩
theorem e_gone_look (hn : 100 ≤ n) (hP : PAt S q P) (G : PG P) (hL : LAt S l q past rest L) (hS : Sup S past rest) (hg : LpG P L) (hk : mu P none L < n) (hz : 20 * mu P none L + 1 + L.pile.length + L.lost.length ≤ 1000000) :
    e_Loop_gone_on n [.ref l, .non] S = .ok (.tup ((goLook P n L).1.map U.str)) (S.put l (loopO q past rest (goLook P n L).2)) := by
  apply Ok.eq
  have hlk := lookM_spec G hg
  have ll := look_len (P := P) (L := L)
  unfold e_Loop_gone_on
  rw [m_gone_eq, q_fnG]
  apply Ok.gc
  simp [-q_seq]
  rw [q_seq]
  simp [-q_seq, hL.isI hS, e_looked_ok hn hP G hL hS hg]
  rw [q_seq]
  simp [-q_seq]
  rw [q_seq, q_while, Ok.bind_eq, ← encN_rest]
  refine go_while (S := S) (RES := goLook P n L) (ev := .non) (q := q) (past := past) (rest := rest) (P := P) hn hP G hL.lt (q_ne_l hP hL) hS ?_ (mu P (rest? (lookM P L).1) (lookM P L).2.2) _ _ ⟨rest? (lookM P L).1, (lookM P L).2.2, (lookM P L).2.1, .fl ((lookM P L).2.1.map U.str), _, none, none, none, none, none, n, rfl, Ext.refl, rfl, hlk.good, nxRest G hg, rfl, by rw [hlk.same]; exact hk, ?_, rfl⟩ (by rw [hlk.same]; exact hk)
  · intro ms L' um x2 x5 x6 x7 x8 x9 S1 hr h1 h2
    have := go_fin hP hL hS (ev := .non) ms L' um x2 x5 x6 x7 x8 x9 S1 hr h1 h2
    simpa using this
  · rw [hlk.same]
    omega
end
end Gn
set_option Elab.async false
set_option linter.all false
set_option maxRecDepth 100000
set_option maxHeartbeats 1000000
namespace VI
theorem put_push_comm {S : Sto} {a : Nat} {o o' : O} (h : a < S.objs.length) : (S.push o').put a o = (S.put a o).push o' := by
  show (⟨(S.objs ++ [o']).set a o, S.lk⟩ : Sto) = ⟨S.objs.set a o ++ [o'], S.lk⟩
  rw [List.set_append_left _ _ h]
theorem gc_len {S S1 : Sto} {u : U} (h : S1.objs.length = S.objs.length) : gcR S (.ok u S1) = .ok u S1 := by
  unfold gcR
  dsimp only
  split
  · rw [← h, cut_self]
  · rfl
theorem gc_ref {S S1 : Sto} {n : Nat} (h : S.objs.length ≤ n) : gcR S (.ok (.ref n) S1) = .ok (.ref n) S1 := by
  unfold gcR
  dsimp only
  rw [if_neg]
  rintro ⟨h1, _⟩
  rw [clo_ref] at h1
  omega
end VI
namespace Gn
open PySem VI
section
variable {n : Nat} {S : Sto} {q l past : Nat} {P : Prog} {rest : List (Str × U)} {L : Lp}
theorem PAt.push {o : O} (h : PAt S q P) : PAt (S.push o) q P := h.ext Ext.push
theorem loop_init (hn : 100 ≤ n) (hP : PAt S q P) (G : PG P) {a : Nat} (ha : S.ins a = some (("Loop" : Str), [])) {u : U} {ps : List Place} (hu : isPls u ps) (hp : ∀ p ∈ ps, p ∈ placesOf P.hs "wait") (hl : ps.length < n) {s : Stt} (hs : StG P s)
    (hk : mu P none ⟨ps, s, []⟩ < n) (hz : 20 * mu P none ⟨ps, s, []⟩ + 1 + ps.length ≤ 1000000) :
    e_Loopzz_initzz n [.ref a, .ref q, u, encSt s] S = .ok .non ((S.put a (loopO q S.objs.length [("own_first", .tup ((goLook P n ⟨ps, s, []⟩).1.map U.str))] (goLook P n ⟨ps, s, []⟩).2)).push (.lst [])) := by
  have hlt := lt_of_get (ins_get.mp ha)
  have hq : q ≠ a := fun z => by
    have h1 : S.ins q = some (("Program" : Str), progF P) := hP
    rw [z, ha] at h1
    simp at h1
  have hseq : ∀ S', seqU u S' = some (ps.map encP) := fun S' => by rcases hu with rfl | rfl <;> rfl
  -- the store with the list of what is past
  obtain ⟨S2, hS2⟩ : ∃ S2, S2 = (S.put a (loopO q S.objs.length [] ⟨ps, s, []⟩)).push (.lst []) := ⟨_, rfl⟩
  have hP2 : PAt S2 q P := by
    rw [hS2]
    refine PAt.push ?_
    show (S.put a _).ins q = _
    rw [ins_put_ne (Ne.symm hq)]
    exact hP
  have hlt' : a < (S.put a (loopO q S.objs.length [] ⟨ps, s, []⟩)).objs.length := by rw [len_put]; exact hlt
  have hL2 : LAt S2 a q S.objs.length [] ⟨ps, s, []⟩ := by
    rw [hS2]
    show (Sto.push _ _).ins a = _
    rw [ins_push hlt']
    exact ins_put hlt
  have n2 : S2.objs.length = S.objs.length + 1 := by rw [hS2, len_push, len_put]
  have hSup : Sup S2 S.objs.length [] := ⟨by simp, by simp, by omega, by simp⟩
  have eg := e_gone_look (n := n) hn hP2 G hL2 hSup ⟨hp, hs⟩ hk (by simpa using hz)
  have hI : isI "Loop" "gone_on" (.ref a) S2 = true := hL2.isI hSup (by simp)
  obtain ⟨RES, hRES⟩ : ∃ r, goLook P n ⟨ps, s, []⟩ = r := ⟨_, rfl⟩
  rw [hRES] at eg ⊢
  have e0 := e_need_pile_ok (n := n) hn hP G hu hp hl
  have e1 := e_need_state_ok (n := n) hn hP G hs
  have e2 := e_need_program_ok (n := n) hP
  unfold e_Loopzz_initzz m_Loopzz_initzz
  simp [e0, e1, e2, ha, tb_own_program, tb_own_pile, tb_own_state, tb_own_lost, tb_own_past, tb_own_first, ins_put hlt, put_put, hseq]
  have hlp : ∀ o : O, a < (S.put a o).objs.length := fun o => by rw [len_put]; exact hlt
  rw [ins_push (hlp _), ins_put hlt]
  simp
  rw [put_push_comm (hlp _), put_put]
  rw [show (S.put a (O.ins "Loop" [("own_program", U.ref q), ("own_pile", U.tup (List.map encP ps)), ("own_state", encSt s), ("own_lost", U.tup []), ("own_past", U.ref S.objs.length)])).push (.lst []) = S2 from hS2.symm]
  simp [hI, eg]
  have hR : (S2.put a (loopO q S.objs.length [] RES.2)).ins a = some (("Loop" : Str), loopF q S.objs.length [] RES.2) := ins_put hL2.lt
  rw [hR]
  simp [loopF, put_put]
  have e3 : S2.put a (O.ins "Loop" [("own_program", U.ref q), ("own_pile", U.tup (List.map encP RES.2.pile)), ("own_state", encSt RES.2.st), ("own_lost", U.tup (List.map encP RES.2.lost)), ("own_past", U.ref S.objs.length), ("own_first", U.tup (List.map U.str RES.1))]) = (S.put a (loopO q S.objs.length [("own_first", .tup (RES.1.map U.str))] RES.2)).push (.lst []) := by
    rw [hS2, put_push_comm (hlp _), put_put]
    rfl
  rw [e3]
  unfold gcR
  dsimp only
  rw [if_neg]
  rintro ⟨_, hk⟩
  have hk' := hk a (loopO q S.objs.length [("own_first", .tup (RES.1.map U.str))] RES.2) hlt (by rw [push_old (hlp _)]; exact get_put hlt)
  rcases hk' with z | z
  · rw [ins_get.mp ha] at z
    unfold loopO loopF at z
    cases z
  · unfold loopO loopF at z
    rw [cloO_ins] at z
    have := z ("own_past", .ref S.objs.length) (by simp)
    rw [clo_ref] at this
    omega
theorem e_loop_make {env : VI.Env} {ms : MA} (hn : 100 ≤ n) (hP : PAt S q P) (G : PG P) {u : U} {ps : List Place} (hu : isPls u ps) (hp : ∀ p ∈ ps, p ∈ placesOf P.hs "wait") (hl : ps.length < n) {s : Stt} (hs : StG P s)
    (hk : mu P none ⟨ps, s, []⟩ < n) (hz : 20 * mu P none ⟨ps, s, []⟩ + 1 + ps.length ≤ 1000000) (hm : ms env S = .ok [.ref q, u, encSt s] S) :
    xMake "Loop" 4 (e_Loopzz_initzz n) ms env S = .ok (.ref S.objs.length) ((S.push (loopO q (S.objs.length + 1) [("own_first", .tup ((goLook P n ⟨ps, s, []⟩).1.map U.str))] (goLook P n ⟨ps, s, []⟩).2)).push (.lst [])) := by
  have e := loop_init (n := n) (S := S.push (.ins "Loop" [])) hn hP.push G (a := S.objs.length) (by simp) hu hp hl hs hk hz
  rw [len_push, put_push] at e
  simp [hm, e]
theorem e_len_ok (hL : LAt S l q past rest L) : e_Loopzz_lenzz n [.ref l] S = .ok (.int L.pile.length) S := by
  unfold e_Loopzz_lenzz m_Loopzz_lenzz
  simp [-q_fld, fld_pile hL]
theorem e_state_ok (hL : LAt S l q past rest L) : e_Loop_state n [.ref l] S = .ok (encSt L.st) S := by
  unfold e_Loop_state m_Loop_state
  simp [-q_fld, fld_state hL]
theorem e_pile_ok (hL : LAt S l q past rest L) : e_Loop_pile n [.ref l] S = .ok (.tup (L.pile.map encP)) S := by
  unfold e_Loop_pile m_Loop_pile
  simp [-q_fld, fld_pile hL]
theorem e_first_ok {u : U} (hL : LAt S l q past [("own_first", u)] L) : e_Loop_first n [.ref l] S = .ok u S := by
  have h' : S.ins l = some (("Loop" : Str), loopF q past [("own_first", u)] L) := hL
  unfold e_Loop_first m_Loop_first
  simp [h', loopF, tb_own_first]
def evs (P : Prog) (s : Stt) : List Str := (P.hs.filter fun p => tr p.2.guard s).map (·.1)
theorem e_events_ok (hn : 100 ≤ n) (hP : PAt S q P) (G : PG P) {s : Stt} : e_events_in n [.ref q, encSt s] S = .ok (.fl ((evs P s).map U.str)) S := by
  have hP' : S.ins q = some (("Program" : Str), progF P) := hP
  unfold e_events_in m_events_in
  simp
  rw [q_compD (kvs := P.hs.map fun p => (p.1, encH p.2)) (by simp [hP', progF, tb_own_handlers, encHs])]
  rw [itemsU_map, comp_eq (fun p : Str × Hd => U.tup [.str p.1, encH p.2]) (fun p => tr p.2.guard s) (fun p => U.str p.1) P.hs (by have := G.good.hfew; omega) (szL (by have := G.good.hfew; omega))]
  · unfold evs
    simp
  · intro p hp
    refine ⟨_, rfl, ?_, fun _ => by simp⟩
    simp [encH, e_true hn (G.good.hgood p hp).guard]
theorem e_possible_ok (hn : 100 ≤ n) (hP : PAt S q P) (G : PG P) {s : Stt} (hs : StG P s) : e_possible n [.ref q, encSt s] S = .ok (.tup ((evs P s).map U.str)) S := by
  unfold e_possible m_possible
  simp [e_need_state_ok hn hP G hs, e_events_ok hn hP G]
theorem e_names_ok (hP : PAt S q P) : e_Program_names n [.ref q] S = .ok (.tup (P.hs.map fun p => U.str p.1)) S := by
  have hP' : S.ins q = some (("Program" : Str), progF P) := hP
  unfold e_Program_names m_Program_names
  simp [hP', progF, tb_own_handlers, encHs, bTupD]
theorem notIn_strs {x : Str} {ys : List Str} {u : U} (h : seqU u S = some (ys.map U.str)) : opNotIn (.str x) u S = .ok (.bl (!decide (x ∈ ys))) S := by
  unfold opNotIn inU
  cases u with
  | str z => simp [seqU] at h
  | _ => simp [h, strsOf_map]
theorem fld_past (h : LAt S l q past rest L) {env : VI.Env} (he : env[0]? = some (some (.ref l))) : xFld tb_own_past "own_past" (xVar 0) env S = .ok (.ref past) S := by
  have h' : S.ins l = some (("Loop" : Str), loopF q past rest L) := h
  simp [he, h', loopF, tb_own_past]
/-- what a loop notes of an event -/
def entry (x : Str) (L : Lp) : U := .tup [.str x, .tup (L.pile.map encP), encSt L.st, .tup (L.lost.map encP)]
theorem e_call_ok (hn : 100 ≤ n) (hP : PAt S q P) (G : PG P) (hL : LAt S l q past rest L) (hS : Sup S past rest) (hg : LpG P L) {x : Str} (hx : x ∈ evs P L.st) (hk : mu P (some (x, 0)) L < n) (hz : 20 * mu P (some (x, 0)) L + L.pile.length + L.lost.length ≤ 1000000) {us : List U} (hpast : S.lst past = some us) (hus : us.length < sizeLine) :
    e_Loopzz_callzz n [.ref l, .str x] S = .ok (.tup ((goEv P n x L).1.map U.str)) ((S.put past (.lst (us ++ [entry x L]))).put l (loopO q past rest (goEv P n x L).2)) := by
  have hxm : x ∈ P.hs.map (·.1) := by
    unfold evs at hx
    obtain ⟨p, hp, rfl⟩ := List.mem_map.mp hx
    exact List.mem_map.mpr ⟨p, (List.mem_filter.mp hp).1, rfl⟩
  have hP' : S.ins q = some (("Program" : Str), progF P) := hP
  have hC : isC "Program" (.ref q) S = true := isC_of hP'
  have e1 : opNotIn (.str x) (.tup (P.hs.map fun p => U.str p.1)) S = .ok (.bl false) S := by
    rw [notIn_strs (ys := P.hs.map (·.1)) (by rw [List.map_map]; rfl)]
    simp [hxm]
  have e2 : opNotIn (.str x) (.fl ((evs P L.st).map U.str)) S = .ok (.bl false) S := by
    rw [notIn_strs (ys := evs P L.st) rfl]
    simp [hx]
  have plt := lt_of_get (lst_get.mp hpast)
  have hpl : past ≠ l := fun z => by
    subst z
    have := lst_get.mp hpast
    rw [ins_get.mp hL] at this
    cases this
  have hpq : past ≠ q := fun z => by
    subst z
    have := lst_get.mp hpast
    rw [ins_get.mp hP'] at this
    cases this
  obtain ⟨S2, hS2⟩ : ∃ S2, S2 = S.put past (.lst (us ++ [entry x L])) := ⟨_, rfl⟩
  have hP2 : PAt S2 q P := by rw [hS2]; show (S.put past _).ins q = _; rw [ins_put_ne hpq]; exact hP
  have hL2 : LAt S2 l q past rest L := by rw [hS2]; show (S.put past _).ins l = _; rw [ins_put_ne hpl]; exact hL
  have n2 : S2.objs.length = S.objs.length := by rw [hS2, len_put]
  have hSup : Sup S2 past rest := ⟨hS.few, hS.key, by rw [n2]; exact hS.past, by rw [n2]; exact hS.rest⟩
  have hI : isI "Loop" "gone_on" (.ref l) S2 = true := hL2.isI hSup (by simp)
  have eg := e_gone_ev (n := n) hn hP2 G hL2 hSup hg hxm hk hz
  unfold e_Loopzz_callzz m_Loopzz_callzz
  simp [-q_fld, fld_prog hL, fld_state hL, fld_pile hL, fld_lost hL, fld_past hL, hC, e_names_ok hP, e1, e_events_ok hn hP G, e2, kd_lst hpast, hpast, hus]
  rw [show S.put past (.lst (us ++ [U.tup [.str x, .tup (L.pile.map encP), encSt L.st, .tup (L.lost.map encP)]])) = S2 from hS2.symm, ← hS2]
  simp [hI, eg]
  exact gc_len (by rw [len_put, n2])
end
end Gn
set_option Elab.async false
set_option linter.all false
set_option maxRecDepth 100000
set_option maxHeartbeats 1000000
namespace Gn
open PySem VI
def dwD (g : Nat) (ce : List Int) (r t : Int) : List (Str × U) := [("great", .ref g), ("cells", .fl (ce.map U.int)), ("rest", .int r), ("turn", .int t)]
structure Dw (d g : Nat) (S : Sto) : Prop where
  ex : ∃ (r t : Int) (gr ce : List Int), S.dct d = some (dwD g ce r t) ∧ S.lst g = some (gr.map U.int) ∧ 0 ≤ r ∧ 0 ≤ t ∧ (∀ x ∈ gr, 0 ≤ x) ∧ (∀ x ∈ ce, 0 ≤ x) ∧ ce.length ≤ 63 ∧ gr.length ≤ 63
  dg : d ≠ g
  fr : d ∉ S.lk
/-- nothing but the draws' two objects changes -/
structure Dr (d g : Nat) (S S' : Sto) : Prop where
  dw : Dw d g S'
  len : S'.objs.length = S.objs.length
  lk : S'.lk = S.lk
  get : ∀ i, i ≠ d → i ≠ g → S'.objs[i]? = S.objs[i]?
section
variable {d g : Nat} {S S1 S2 : Sto} {n : Nat}
theorem Dw.dlt (h : Dw d g S) : d < S.objs.length := by obtain ⟨_, _, _, _, a, _⟩ := h.ex; exact lt_of_get (dct_get.mp a)
theorem Dw.glt (h : Dw d g S) : g < S.objs.length := by obtain ⟨_, _, _, _, _, a, _⟩ := h.ex; exact lt_of_get (lst_get.mp a)
theorem Dr.refl (h : Dw d g S) : Dr d g S S := ⟨h, rfl, rfl, fun _ _ _ => rfl⟩
theorem Dr.trans (a : Dr d g S S1) (b : Dr d g S1 S2) : Dr d g S S2 := ⟨b.dw, b.len.trans a.len, b.lk.trans a.lk, fun i h1 h2 => (b.get i h1 h2).trans (a.get i h1 h2)⟩
theorem Dr.lst (a : Dr d g S S1) {i : Nat} (h1 : i ≠ d) (h2 : i ≠ g) : S1.lst i = S.lst i := by unfold Sto.lst; rw [a.get i h1 h2]
theorem Dr.dct (a : Dr d g S S1) {i : Nat} (h1 : i ≠ d) (h2 : i ≠ g) : S1.dct i = S.dct i := by unfold Sto.dct; rw [a.get i h1 h2]
theorem Dr.ins (a : Dr d g S S1) {i : Nat} (h1 : i ≠ d) (h2 : i ≠ g) : S1.ins i = S.ins i := by unfold Sto.ins; rw [a.get i h1 h2]
theorem Dw.ext (h : Dw d g S) (e : Ext S S1) : Dw d g S1 := by
  obtain ⟨r, t, gr, ce, a1, a2, rest⟩ := h.ex
  exact ⟨⟨r, t, gr, ce, e.dct a1, e.lst a2, rest⟩, h.dg, by rw [e.lk]; exact h.fr⟩
theorem Dw.put (h : Dw d g S) {i : Nat} {o : O} (h1 : i ≠ d) (h2 : i ≠ g) : Dw d g (S.put i o) := by
  obtain ⟨r, t, gr, ce, a1, a2, rest⟩ := h.ex
  exact ⟨⟨r, t, gr, ce, by rw [dct_put_ne h1]; exact a1, by rw [lst_put_ne h2]; exact a2, rest⟩, h.dg, h.fr⟩
/-- what was laid on top stays -/
theorem Dr.cut {o : O} (h : Dr d g (S.push o) S1) (hd : d < S.objs.length) (hg : g < S.objs.length) : Dr d g S (S1.cut S.objs.length) ∧ S1 = (S1.cut S.objs.length).push o := by
  have hlen : S1.objs.length = S.objs.length + 1 := by rw [h.len, len_push]
  have e1 : S1.objs = S1.objs.take S.objs.length ++ [o] := by
    have : S1.objs[S.objs.length]? = some o := by rw [h.get _ (by omega) (by omega)]; exact get_new
    have h2 := List.take_append_drop S.objs.length S1.objs
    rw [List.drop_eq_getElem_cons (by omega), List.drop_eq_nil_of_le (by omega)] at h2
    rw [(List.getElem?_eq_some_iff.mp this).2] at h2
    exact h2.symm
  have hc : ∀ i, i < S.objs.length → (S1.cut S.objs.length).objs[i]? = S1.objs[i]? := fun i hi => by
    show (S1.objs.take _)[i]? = _
    rw [List.getElem?_take_of_lt hi]
  refine ⟨⟨?_, ?_, h.lk, fun i h1 h2 => ?_⟩, ?_⟩
  · obtain ⟨r, t, gr, ce, a1, a2, rest⟩ := h.dw.ex
    exact ⟨⟨r, t, gr, ce, by unfold Sto.dct at a1 ⊢; rw [hc d hd]; exact a1, by unfold Sto.lst at a2 ⊢; rw [hc g hg]; exact a2, rest⟩, h.dw.dg, h.dw.fr⟩
  · show (S1.objs.take _).length = _
    rw [List.length_take]
    omega
  · by_cases hi : i < S.objs.length
    · rw [hc i hi, h.get i h1 h2, push_old hi]
    · rw [List.getElem?_eq_none (by show (S1.objs.take _).length ≤ i; rw [List.length_take]; omega), List.getElem?_eq_none (by omega)]
  · show S1 = ⟨S1.objs.take _ ++ [o], S1.lk⟩
    rw [← e1]
/-- draws, and things laid on top -/
def DX (d g : Nat) (S S1 : Sto) : Prop := ∃ S', Dr d g S S' ∧ Ext S' S1
theorem DX.of (h : Dr d g S S1) : DX d g S S1 := ⟨S1, h, Ext.refl⟩
theorem DX.refl (h : Dw d g S) : DX d g S S := .of (.refl h)
theorem DX.ext (h : DX d g S S1) (e : Ext S1 S2) : DX d g S S2 := let ⟨S', a, b⟩ := h; ⟨S', a, b.trans e⟩
theorem DX.push {o : O} (h : DX d g S S1) : DX d g S (S1.push o) := h.ext Ext.push
theorem DX.len (h : DX d g S S1) : S.objs.length ≤ S1.objs.length := by obtain ⟨S', a, b⟩ := h; rw [← a.len]; exact b.len
theorem DX.put {o : O} {i : Nat} (h : DX d g S S1) (hi : S.objs.length ≤ i) : DX d g S (S1.put i o) := by
  obtain ⟨S', a, b⟩ := h
  exact ⟨S', a, b.put (by rw [a.len]; exact hi)⟩
theorem DX.dw (h : DX d g S S1) : Dw d g S1 := by obtain ⟨S', a, b⟩ := h; exact a.dw.ext b
theorem DX.dr (h : DX d g S S1) (k : Dr d g S1 S2) (hd : d < S.objs.length) (hg : g < S.objs.length) : DX d g S S2 := by
  obtain ⟨S', a, ⟨t, e⟩, hk⟩ := h
  have hl : S'.objs.length ≤ S1.objs.length := by rw [← e]; simp
  have ge : ∀ i, i < S'.objs.length → S1.objs[i]? = S'.objs[i]? := fun i hi => by rw [← e, List.getElem?_append_left hi]
  refine ⟨S2.cut S'.objs.length, ⟨?_, ?_, ?_, fun i h1 h2 => ?_⟩, ⟨⟨S2.objs.drop S'.objs.length, ?_⟩, rfl⟩⟩
  · obtain ⟨r, t', gr, ce, a1, a2, rest⟩ := k.dw.ex
    have hc : ∀ i, i < S'.objs.length → (S2.cut S'.objs.length).objs[i]? = S2.objs[i]? := fun i hi => by
      show (S2.objs.take _)[i]? = _
      rw [List.getElem?_take_of_lt hi]
    exact ⟨⟨r, t', gr, ce, by unfold Sto.dct at a1 ⊢; rw [hc d (by rw [a.len]; exact hd)]; exact a1, by unfold Sto.lst at a2 ⊢; rw [hc g (by rw [a.len]; exact hg)]; exact a2, rest⟩, k.dw.dg, k.dw.fr⟩
  · show (S2.objs.take _).length = _
    rw [List.length_take, k.len, ← a.len]
    omega
  · show S2.lk = _
    rw [k.lk, hk, a.lk]
  · by_cases hi : i < S'.objs.length
    · show (S2.objs.take _)[i]? = _
      rw [List.getElem?_take_of_lt hi, k.get i h1 h2, ge i hi, a.get i h1 h2]
    · rw [List.getElem?_eq_none (by show (S2.objs.take _).length ≤ i; rw [List.length_take]; omega), List.getElem?_eq_none (by rw [← a.len]; omega)]
  · show S2.objs.take _ ++ S2.objs.drop _ = _
    exact List.take_append_drop _ _
theorem dw_clo {k : Nat} (h : Dw d g S) {i : Nat} (hi : i = d ∨ i = g) {o : O} (ho : S.objs[i]? = some o) (hk : g < k) : CloO k o := by
  obtain ⟨r, t, gr, ce, a1, a2, rest⟩ := h.ex
  rcases hi with rfl | rfl
  · rw [dct_get.mp a1] at ho
    cases ho
    rw [cloO_dct]
    intro p hp
    unfold dwD at hp
    simp only [List.mem_cons, List.not_mem_nil, or_false] at hp
    rcases hp with rfl | rfl | rfl | rfl
    · exact .ref hk
    · rw [clo_fl]
      intro u hu
      obtain ⟨x, _, rfl⟩ := List.mem_map.mp hu
      simp
    · simp
    · simp
  · rw [lst_get.mp a2] at ho
    cases ho
    rw [cloO_lst]
    intro u hu
    obtain ⟨x, _, rfl⟩ := List.mem_map.mp hu
    simp
theorem gc_dr {u : U} (h : DX d g S S1) (hg : g < S.objs.length) (hu : Clo S.objs.length u) : ∃ S', Dr d g S S' ∧ gcR S (.ok u S1) = .ok u S' := by
  obtain ⟨S', a, b⟩ := h
  refine ⟨S', a, ?_⟩
  have kp : Kept S S1 := fun i o hi ho => by
    obtain ⟨t, e⟩ := b.pre
    rw [← e, List.getElem?_append_left (by rw [a.len]; exact hi)] at ho
    by_cases hid : i = d ∨ i = g
    · exact .inr (dw_clo a.dw hid ho hg)
    · simp only [not_or] at hid
      rw [a.get i hid.1 hid.2] at ho
      exact .inl ho
  unfold gcR
  dsimp only
  rw [if_pos ⟨hu, kp⟩, ← a.len, b.cut]
theorem Ok.gcDr {u : U} {Q : U → Sto → Prop} (h : DX d g S S1) (hg : g < S.objs.length) (hu : Clo S.objs.length u) (k : ∀ S', Dr d g S S' → Q u S') : Ok (gcR S (.ok u S1)) Q := by
  obtain ⟨S', a, e⟩ := gc_dr h hg hu
  rw [e]
  exact k S' a
end
end Gn
set_option Elab.async false
set_option linter.all false
set_option maxRecDepth 100000
set_option maxHeartbeats 1000000
namespace VI
open PySem Dat
instance : Dat Int where
  enc := .int
  dat := .int
  dep := 0
  ok _ := True
  rd a k S _ _ := by cases k <;> rfl
  eqv a b := by simp [PyData.eqv]
section
variable {α : Type} [Dat α] {S : Sto}
theorem eqv_nil {ds : List PyData} : PyData.eqv (.list ds) (.list []) = ds.isEmpty := by
  cases ds <;> simp [PyData.eqv, PyData.eqvAll]
theorem rd_fl {xs : List α} (h : ∀ x ∈ xs, ok x) (hd : dep α ≤ 59) : rdU 60 S (.fl (xs.map enc)) = some (.list (xs.map dat)) := by
  show (allSome _).map _ = _
  rw [rd_list h hd]
  rfl
theorem rd_ref {n : Nat} {xs : List α} (hl : S.lst n = some (xs.map enc)) (h : ∀ x ∈ xs, ok x) (hd : dep α ≤ 59) : rdU 60 S (.ref n) = some (.list (xs.map dat)) := by
  show (match S.lst n with | some xs => _ | none => none) = _
  rw [hl]
  show (allSome _).map _ = _
  rw [rd_list h hd]
  rfl
theorem ne_nil {xs : List α} {u : U} (hu : rdU 60 S u = some (.list (xs.map dat))) : opNe u (.fl []) S = .ok (.bl (!xs.isEmpty)) S := by
  have e2 : rdU 60 S (.fl []) = some (.list []) := rfl
  unfold opNe eqU
  cases u with
  | str x => unfold rdU at hu; split at hu <;> cases hu
  | _ => simp [hu, e2, eqv_nil]
theorem eq_nil {xs : List α} {u : U} (hu : rdU 60 S u = some (.list (xs.map dat))) : opEq u (.fl []) S = .ok (.bl xs.isEmpty) S := by
  have e2 : rdU 60 S (.fl []) = some (.list []) := rfl
  unfold opEq eqU
  cases u with
  | str x => unfold rdU at hu; split at hu <;> cases hu
  | _ => simp [hu, e2, eqv_nil]
end
theorem q_pop0 {n : Nat} {u : U} {us : List U} {S : Sto} (h : S.lst n = some (u :: us)) : mPop (.ref n) [.int 0] S = .ok u (S.put n (.lst us)) := by
  unfold mPop
  simp [h, seqIndex?]
theorem q_popN {n k : Nat} {us : List U} {S : Sto} (h : S.lst n = some us) (hk : k < us.length) (hl : us.length < 2 ^ 62) : mPop (.ref n) [.int (k : Nat)] S = .ok us[k] (S.put n (.lst (us.eraseIdx k))) := by
  unfold mPop
  have e : seqIndex? (k : Int) us.length = some k := by
    unfold seqIndex?
    simp
    omega
  have b : (k : Int).natAbs < 2 ^ 63 := by omega
  simp only [h, e]
  rw [if_pos b]
  simp [hk]
theorem perm_erase {α : Type} : ∀ {l : List α} {k : Nat} {y : α}, l[k]? = some y → (y :: l.eraseIdx k).Perm l
  | [], k, y, h => by simp at h
  | x :: xs, 0, y, h => by
    simp at h
    subst h
    exact List.Perm.refl _
  | x :: xs, k + 1, y, h => by
    have ih := perm_erase (l := xs) (k := k) (y := y) (by simpa using h)
    rw [List.eraseIdx_cons_succ]
    exact (List.Perm.swap x y _).trans (List.Perm.cons x ih)
end VI
namespace Gn
open PySem VI
section
variable {d g : Nat} {S S1 S2 : Sto} {n : Nat}
theorem putTurn {g : Nat} {ce : List Int} {r t x : Int} : putKU "turn" (.int x) (dwD g ce r t) = dwD g ce r x := by
  unfold putKU dwD
  simp
theorem putRest {g : Nat} {ce : List Int} {r t x : Int} : putKU "rest" (.int x) (dwD g ce r t) = dwD g ce x t := by
  unfold putKU dwD
  simp
theorem blend_ok (hn : 100 ≤ n) (h : Dw d g S) : Ok (e__law_blend n [.ref d] S) fun u S' => (∃ i : Int, u = .int i ∧ 0 ≤ i) ∧ Dr d g S S' := by
  obtain ⟨r, t, gr, ce, a1, a2, hr, ht, hg, hc, lc, lg⟩ := h.ex
  have sz : (dwD g ce r t).length < sizeLine := by show 4 < sizeLine; decide
  obtain ⟨S1, hS1⟩ : ∃ S1, S1 = S.put d (.dct (dwD g ce r (t + 1))) := ⟨_, rfl⟩
  have b1 : S1.dct d = some (dwD g ce r (t + 1)) := by rw [hS1]; exact dct_put h.dlt
  have b2 : S1.lst g = some (gr.map U.int) := by rw [hS1, lst_put_ne h.dg]; exact a2
  have D1 : Dr d g S S1 := ⟨⟨⟨r, t + 1, gr, ce, b1, b2, hr, by omega, hg, hc, lc, lg⟩, h.dg, by rw [hS1]; exact h.fr⟩, by rw [hS1, len_put], by rw [hS1]; rfl, fun i h1 h2 => by rw [hS1, get_put_ne (Ne.symm h1)]⟩
  unfold e__law_blend m__law_blend
  rw [q_fnG]
  apply Ok.gc
  have kt : keyAt (dwD g ce r t) "turn" = some (.int t) := by simp [dwD]
  simp [a1, kt, sz, h.fr, putTurn]
  rw [← hS1]
  refine for_ok [.int 2147483629, .int 2147483587, .int 2147483579, .int 2147483563] (fun _ env S' => S' = S1 ∧ ∃ (f : Int) (x3 x4 x5 : Option U), 0 ≤ f ∧ env = [some (.ref d), some (.int (t + 1)), some (.int f), x3, x4, x5]) (by show 4 < n; omega) ⟨rfl, 0, none, none, none, by omega, rfl⟩ (fun _ _ _ _ => rfl) ?_ ?_
  · rintro i u env S' hu ⟨rfl, f, x3, x4, x5, hf, rfl⟩
    obtain ⟨p, rfl, p0, p1⟩ : ∃ p : Int, u = .int p ∧ 0 < p ∧ p < 2147483648 := by
      have hm := List.mem_of_getElem? hu
      simp only [List.mem_cons, List.not_mem_nil, or_false] at hm
      rcases hm with rfl | rfl | rfl | rfl <;> exact ⟨_, rfl, by omega, by omega⟩
    have kc : keyAt (dwD g ce r (t + 1)) "cells" = some (.fl (ce.map U.int)) := by simp [dwD]
    simp [p0, b1, kc]
    refine for_ok (ce.map U.int) (fun _ env S2 => S2 = S' ∧ ∃ (q : Int) (x5 : Option U), 0 ≤ q ∧ q < p ∧ env = [some (.ref d), some (.int (t + 1)), some (.int f), some (.int p), some (.int q), x5]) (by rw [List.length_map]; omega) ⟨rfl, _, x5, Int.fmod_nonneg_of_pos _ p0, Int.fmod_lt_of_pos _ p0, rfl⟩ (fun _ _ _ _ => rfl) ?_ ?_
    · rintro i2 u2 env2 S2 hu2 ⟨rfl, q, x5', q0, q1, rfl⟩
      obtain ⟨y, rfl⟩ : ∃ y : Int, u2 = .int y := by
        obtain ⟨y, _, e⟩ := List.mem_map.mp (List.mem_of_getElem? hu2)
        exact ⟨y, e.symm⟩
      simp [p0]
      exact ⟨Int.fmod_nonneg_of_pos _ p0, Int.fmod_lt_of_pos _ p0⟩
    · rintro env2 S2 ⟨rfl, q, x5', q0, q1, rfl⟩
      have hq : q.natAbs < 2 ^ 64 := by omega
      simp [p0]
      refine ⟨by omega, ?_⟩
      have := Int.fmod_nonneg_of_pos (q ^ 5) p0
      have : 0 ≤ f * 2147483647 := Int.mul_nonneg hf (by omega)
      omega
  · rintro env S' ⟨rfl, f, x3, x4, x5, hf, rfl⟩
    simp
    exact Ok.gcDr (.of D1) h.glt (by simp) fun S' hS' => ⟨⟨f, rfl, hf⟩, hS'⟩
theorem take_tail (h : Dw d g S) {k : Int} (hk : 0 < k ∧ k < 1073741824) : Ok ((sSeq (sAsg (x2 opMod (xB bInt (aCons (x2 opIx (xVar 0) (xC (.str "rest"))) aNil)) (xVar 1)) (gN 2))
      (sSeq (sAsg (x2 opDiv (x2 opIx (xVar 0) (xC (.str "rest"))) (xVar 1)) (gSubI (xVar 0) (xC (.str "rest")))) (sRet (xVar 2)))) [some (.ref d), some (.int k), none] S) fun f S' => (∃ i : Nat, f = .rt (.int (i : Nat)) ∧ (i : Int) < k) ∧ Dr d g S S' := by
  obtain ⟨r, t, gr, ce, a1, a2, hr, ht, hg, hc, lc, lg⟩ := h.ex
  have sz : (dwD g ce r t).length < sizeLine := by show 4 < sizeLine; decide
  have kr : keyAt (dwD g ce r t) "rest" = some (.int r) := by simp [dwD]
  have hk2 : k.natAbs < 1073741824 := by omega
  simp [a1, kr, hk.1, hk.2, hk2, sz, h.fr, putRest]
  refine ⟨⟨(r.fmod k).toNat, ?_, ?_⟩, ⟨⟨⟨r.fdiv k, t, gr, ce, dct_put h.dlt, by rw [lst_put_ne h.dg]; exact a2, ?_, ht, hg, hc, lc, lg⟩, h.dg, h.fr⟩, by simp, rfl, fun i h1 h2 => get_put_ne (Ne.symm h1)⟩⟩
  · rw [Int.toNat_of_nonneg (Int.fmod_nonneg_of_pos _ hk.1)]
  · rw [Int.toNat_of_nonneg (Int.fmod_nonneg_of_pos _ hk.1)]
    exact Int.fmod_lt_of_pos _ hk.1
  · rw [Int.fdiv_eq_ediv_of_nonneg r (Int.le_of_lt hk.1)]
    exact Int.ediv_nonneg hr (Int.le_of_lt hk.1)
theorem take_ok (hn : 100 ≤ n) (h : Dw d g S) {k : Int} (hk : 0 < k ∧ k < 1073741824) : Ok (e__law_take n [.ref d, .int k] S) fun u S' => (∃ i : Nat, u = .int (i : Nat) ∧ (i : Int) < k) ∧ Dr d g S S' := by
  obtain ⟨r, t, gr, ce, a1, a2, hr, ht, hg, hc, lc, lg⟩ := h.ex
  have sz : (dwD g ce r t).length < sizeLine := by show 4 < sizeLine; decide
  have kr : keyAt (dwD g ce r t) "rest" = some (.int r) := by simp [dwD]
  have kg : keyAt (dwD g ce r t) "great" = some (.ref g) := by simp [dwD]
  have fin : ∀ S1, Dr d g S S1 → Ok ((sSeq (sAsg (x2 opMod (xB bInt (aCons (x2 opIx (xVar 0) (xC (.str "rest"))) aNil)) (xVar 1)) (gN 2))
      (sSeq (sAsg (x2 opDiv (x2 opIx (xVar 0) (xC (.str "rest"))) (xVar 1)) (gSubI (xVar 0) (xC (.str "rest")))) (sRet (xVar 2)))) [some (.ref d), some (.int k), none] S1) fun f S2 => Ok (endF f S2) fun u S3 => Ok (gcR S (.ok u S3)) fun u S' => (∃ i : Nat, u = .int (i : Nat) ∧ (i : Int) < k) ∧ Dr d g S S' := by
    intro S1 h1
    refine (take_tail h1.dw hk).imp ?_
    rintro f S2 ⟨⟨i, rfl, hi⟩, h2⟩
    simp only [endF_rt, Ok.ok]
    exact Ok.gcDr (.of (h1.trans h2)) h.glt (by simp) fun S' hS' => ⟨⟨i, rfl, hi⟩, hS'⟩
  unfold e__law_take m__law_take
  rw [q_fnG]
  apply Ok.gc
  rw [Ok.bind_eq, q_seq, Ok.bind_eq]
  by_cases hr0 : r = 0
  · subst hr0
    have rg : rdU 60 S (.ref g) = some (.list (gr.map Dat.dat)) := rd_ref (α := Int) a2 (fun _ _ => trivial) (by show 0 ≤ 59; omega)
    cases gr with
    | nil =>
      simp [a1, kr, kg, ne_nil (α := Int) rg, -q_seq]
      refine (blend_ok hn h).imp ?_
      rintro u S2 ⟨⟨i, rfl, hi⟩, h2⟩
      obtain ⟨r2, t2, gr2, ce2, c1, c2, hr2, ht2, hg2, hc2, lc2, lg2⟩ := h2.dw.ex
      have sz2 : (dwD g ce2 r2 t2).length < sizeLine := by show 4 < sizeLine; decide
      simp [c1, sz2, h2.dw.fr, putRest, -q_seq]
      exact fin _ (h2.trans ⟨⟨⟨i, t2, gr2, ce2, dct_put h2.dw.dlt, by rw [lst_put_ne h.dg]; exact c2, hi, ht2, hg2, hc2, lc2, lg2⟩, h.dg, h2.dw.fr⟩, by simp, rfl, fun i h1 _ => get_put_ne (Ne.symm h1)⟩)
    | cons x xs =>
      have a2' : S.lst g = some (U.int x :: xs.map U.int) := a2
      have c1 : ∀ o, (S.put g o).dct d = some (dwD g ce 0 t) := fun o => by rw [dct_put_ne (Ne.symm h.dg)]; exact a1
      simp [a1, kr, kg, ne_nil (α := Int) rg, kd_lst a2, q_pop0 a2', c1, sz, h.fr, putRest, -q_seq]
      refine fin _ ⟨⟨⟨x, t, xs, ce, dct_put (by rw [len_put]; exact h.dlt), by rw [lst_put_ne h.dg]; exact lst_put h.glt, hg x (by simp), ht, fun y hy => hg y (by simp [hy]), hc, lc, by simp at lg; omega⟩, h.dg, h.fr⟩, by simp, rfl, fun i h1 h2 => ?_⟩
      rw [get_put_ne (Ne.symm h1), get_put_ne (Ne.symm h2)]
  · simp [a1, kr, hr0, -q_seq]
    exact fin S (.refl h)
theorem pick_fl (hn : 100 ≤ n) (h : Dw d g S) {us : List U} (h0 : us ≠ []) (hl : us.length < 1073741824) (hc : ∀ u ∈ us, Clo S.objs.length u) : Ok (e__law_pick n [.ref d, .fl us] S) fun u S' => u ∈ us ∧ Dr d g S S' := by
  have hp : 0 < us.length := List.length_pos_iff.mpr h0
  unfold e__law_pick m__law_pick
  rw [q_fnG]
  apply Ok.gc
  simp
  refine (take_ok hn h ⟨by omega, by omega⟩).imp ?_
  rintro u S' ⟨⟨i, rfl, hi⟩, h1⟩
  obtain ⟨v, hv⟩ : ∃ v, us[i]? = some v := ⟨_, List.getElem?_eq_getElem (by omega)⟩
  simp [atN, hv]
  have hm := List.mem_of_getElem? hv
  exact Ok.gcDr (.of h1) h.glt (hc v hm) fun S2 h2 => ⟨hm, h2⟩
theorem pick_tup (hn : 100 ≤ n) (h : Dw d g S) {us : List U} (h0 : us ≠ []) (hl : us.length < 1073741824) (hc : ∀ u ∈ us, Clo S.objs.length u) : Ok (e__law_pick n [.ref d, .tup us] S) fun u S' => u ∈ us ∧ Dr d g S S' := by
  have hp : 0 < us.length := List.length_pos_iff.mpr h0
  unfold e__law_pick m__law_pick
  rw [q_fnG]
  apply Ok.gc
  simp
  refine (take_ok hn h ⟨by omega, by omega⟩).imp ?_
  rintro u S' ⟨⟨i, rfl, hi⟩, h1⟩
  obtain ⟨v, hv⟩ : ∃ v, us[i]? = some v := ⟨_, List.getElem?_eq_getElem (by omega)⟩
  simp [atN, hv]
  have hm := List.mem_of_getElem? hv
  exact Ok.gcDr (.of h1) h.glt (hc v hm) fun S2 h2 => ⟨hm, h2⟩
theorem pick_str (hn : 100 ≤ n) (h : Dw d g S) {x : Str} (h0 : 0 < x.length) (hl : x.length ≤ 100) : Ok (e__law_pick n [.ref d, .str x] S) fun u S' => (∃ c ∈ x.cps.toList, u = .str ⟨#[c]⟩) ∧ Dr d g S S' := by
  have hz : x.length ≤ sizeLine := szL (by omega)
  unfold e__law_pick m__law_pick
  rw [q_fnG]
  apply Ok.gc
  simp [hz]
  refine (take_ok hn h ⟨by omega, by omega⟩).imp ?_
  rintro u S' ⟨⟨i, rfl, hi⟩, h1⟩
  have hil : i < x.cps.toList.length := by rw [← str_len]; omega
  have e : opIx (.str x) (.int (i : Nat)) S' = .ok (.str ⟨#[x.cps.toList[i]]⟩) S' := by
    show (if _ then _ else _) = _
    rw [if_pos hz, atN, List.getElem?_eq_getElem hil]
  simp only [e, Ok.ok, R.bind_ok, endF_rt]
  exact Ok.gcDr (.of h1) h.glt (by simp) fun S2 h2 => ⟨⟨_, by simpa using List.getElem_mem hil, rfl⟩, h2⟩
end
end Gn
set_option Elab.async false
set_option linter.all false
set_option maxRecDepth 100000
set_option maxHeartbeats 1000000
namespace VI
open PySem
theorem joinL_nil : ∀ ps : List (List Nat), TL.joinL [] ps = ps.flatten
  | [] => rfl
  | [p] => by simp [TL.joinL]
  | p :: q :: r => by
    show p ++ ([] ++ TL.joinL [] (q :: r)) = _
    rw [joinL_nil (q :: r)]
    simp
theorem flat_single : ∀ cs : List Nat, ((cs.map fun k => (⟨#[k]⟩ : Str)).map TL.tl).flatten = cs
  | [] => rfl
  | c :: cs => by
    rw [List.map_cons, List.map_cons, List.flatten_cons, flat_single cs]
    rfl
/-- letters, glued -/
theorem join_letters {cs : List Nat} : (TL.tl (Txt.join "" (cs.map fun k => ⟨#[k]⟩))) = cs := by
  rw [TL.join_eq, TL.tl_join]
  have e : TL.tl ("" : Str) = [] := by kernel_rfl
  rw [e, joinL_nil, flat_single]
theorem strsOf_singles : ∀ cs : List Nat, strsOf (cs.map fun k => .str ⟨#[k]⟩) = some (cs.map fun k => ⟨#[k]⟩)
  | [] => rfl
  | c :: cs => by
    rw [List.map_cons]
    unfold strsOf
    rw [strsOf_singles cs]
    rfl
theorem sum_singles : ∀ cs : List Nat, ((cs.map fun k => (⟨#[k]⟩ : Str)).map (·.length)).sum = cs.length
  | [] => rfl
  | c :: cs => by
    rw [List.map_cons, List.map_cons, List.sum_cons, sum_singles cs, List.length_cons]
    show 1 + cs.length = _
    omega
theorem join_fl {cs : List Nat} {S : Sto} (h : cs.length ≤ 1000) : joinU "" (.fl (cs.map fun k => .str ⟨#[k]⟩)) S = .ok (.str (Txt.join "" (cs.map fun k => ⟨#[k]⟩))) S := by
  unfold joinU
  simp only [seq_fl, strsOf_singles]
  rw [if_pos]
  rw [sum_singles, List.length_map]
  have : (("" : Str)).length = 0 := rfl
  rw [this]
  omega
def onS {α : Type} (u : U) (f : Str → R α) : R α := match u with
  | .str i => f i
  | _ => .no
@[simp] theorem onS_str {α : Type} {i : Str} {f : Str → R α} : onS (.str i) f = f i := rfl
@[simp] theorem q_join {mo me : ME} {env : VI.Env} {S : Sto} : xJoin mo me env S = (mo env S).bind fun u S1 => onS u fun a => (me env S1).bind fun w S2 => joinU a w S2 := rfl
@[simp] theorem range_len {i : Int} {n : Nat} : (rangeU i n).length = n := by unfold rangeU; simp
end VI
namespace Gn
open PySem VI
section
variable {d g : Nat} {S S1 S2 : Sto} {n : Nat}
theorem eraseIdx_map {α β : Type} {f : α → β} : ∀ {l : List α} {k : Nat}, (l.map f).eraseIdx k = (l.eraseIdx k).map f
  | [], _ => rfl
  | _ :: _, 0 => rfl
  | x :: xs, k + 1 => by
    rw [List.map_cons, List.eraseIdx_cons_succ, List.eraseIdx_cons_succ, List.map_cons, eraseIdx_map]
def InvOrd {α : Type} [Dat α] (d g : Nat) (S : Sto) (uxs : U) (xs : List α) (env : VI.Env) (S1 : Sto) : Prop := env = [some (.ref d), some uxs, some (.ref S.objs.length), some (.ref (S.objs.length + 1))] ∧ DX d g S S1 ∧ ∃ left found : List α, S1.lst S.objs.length = some (left.map Dat.enc) ∧ S1.lst (S.objs.length + 1) = some (found.map Dat.enc) ∧ (found ++ left).Perm xs
theorem order_ok {α : Type} [Dat α] (hn : 100 ≤ n) (h : Dw d g S) {xs : List α} (hk : ∀ x ∈ xs, Dat.ok x) (hd : Dat.dep α ≤ 59) (hl : xs.length ≤ 60) (hc : ∀ x ∈ xs, Clo S.objs.length (Dat.enc x)) :
    Ok (e__law_order n [.ref d, .fl (xs.map Dat.enc)] S) fun u S' => (∃ ys : List α, u = .fl (ys.map Dat.enc) ∧ ys.Perm xs) ∧ Dr d g S S' := by
  have hdl := h.dlt
  have hgl := h.glt
  unfold e__law_order m__law_order
  rw [q_fnG]
  apply Ok.gc
  simp
  refine while_ok (InvOrd d g S (.fl (xs.map Dat.enc)) xs) (fun _ S1 => match S1.lst S.objs.length with | some left => left.length | none => 0) ?_ n _ _ ⟨rfl, (DX.refl h).push.push, xs, [], ?_, ?_, by simp⟩ ?_
  · rintro env S1 ⟨rfl, hX, left, found, e1, e2, pm⟩
    have hk' : ∀ x ∈ left, Dat.ok x := fun x hx => hk x (pm.mem_iff.mp (by simp [hx]))
    have hll : (found ++ left).length = xs.length := pm.length_eq
    rw [List.length_append] at hll
    have rg : rdU 60 S1 (.ref S.objs.length) = some (.list (left.map Dat.dat)) := rd_ref (α := α) e1 hk' hd
    cases left with
    | nil =>
      simp [ne_nil (α := α) rg, frz_lst e2]
      refine Ok.gcDr (hX.put (by omega)) hgl ?_ fun S' hS' => ⟨⟨found, rfl, by simpa using pm⟩, hS'⟩
      rw [clo_fl]
      intro u hu
      obtain ⟨x, hx, rfl⟩ := List.mem_map.mp hu
      exact hc x (pm.mem_iff.mp (by simp [hx]))
    | cons x xs' =>
      have hlen : ((x :: xs').map (Dat.enc : α → U)).length = xs'.length + 1 := by simp
      simp [ne_nil (α := α) rg, kd_lst e2, kd_lst e1, q_lenR e1]
      refine (take_ok hn hX.dw ⟨by omega, by simp at hll; omega⟩).imp ?_
      rintro u S2 ⟨⟨k, rfl, hkk⟩, h2⟩
      have hk1 : k < (x :: xs').length := by simp; omega
      have f1 : S2.lst S.objs.length = some ((x :: xs').map Dat.enc) := by rw [h2.lst (by omega) (by omega)]; exact e1
      have f2 : S2.lst (S.objs.length + 1) = some (found.map Dat.enc) := by rw [h2.lst (by omega) (by omega)]; exact e2
      have hz : found.length < sizeLine := Nat.lt_of_le_of_lt (show found.length ≤ 60 by omega) (by decide)
      have f3 : ∀ o, (S2.put S.objs.length o).lst (S.objs.length + 1) = some (found.map Dat.enc) := fun o => by rw [lst_put_ne (by omega)]; exact f2
      have lt1 := lt_of_get (lst_get.mp f1)
      have lt2 := lt_of_get (lst_get.mp f2)
      simp [q_popN f1 (k := k) (by simpa using hk1) (by simp at hll ⊢; omega), f3, hz]
      obtain ⟨y, hy⟩ : ∃ y, (x :: xs')[k]? = some y := ⟨_, List.getElem?_eq_getElem hk1⟩
      have hy' : ((x :: xs').map (Dat.enc : α → U))[k]'(by simpa using hk1) = Dat.enc y := by
        rw [List.getElem_map, (List.getElem?_eq_some_iff.mp hy).2]
      have hy2 : (Dat.enc x :: xs'.map (Dat.enc : α → U))[k]'(by simpa using hk1) = Dat.enc y := hy'
      have he : (Dat.enc x :: xs'.map (Dat.enc : α → U)).eraseIdx k = ((x :: xs').eraseIdx k).map Dat.enc := eraseIdx_map (l := x :: xs')
      rw [hy2, he]
      have g1 : ((S2.put S.objs.length (.lst (((x :: xs').eraseIdx k).map Dat.enc))).put (S.objs.length + 1) (.lst (found.map Dat.enc ++ [Dat.enc y]))).lst S.objs.length = some (((x :: xs').eraseIdx k).map Dat.enc) := by rw [lst_put_ne (by omega)]; exact lst_put lt1
      refine ⟨⟨rfl, ((hX.dr h2 hdl hgl).put (Nat.le_refl _)).put (by omega), (x :: xs').eraseIdx k, found ++ [y], g1, ?_, ?_⟩, ?_⟩
      · rw [lst_put (by rw [len_put]; exact lt2)]
        simp
      · refine List.Perm.trans ?_ pm
        rw [List.append_assoc]
        exact List.Perm.append_left _ (perm_erase hy)
      · rw [g1, e1]
        simp only [List.length_map, List.length_eraseIdx_of_lt hk1]
        simp
  · rw [lst_push (by simp)]
    exact lst_new
  · rw [← len_push (o := .lst (xs.map Dat.enc))]
    exact lst_new
  · rw [lst_push (by simp), lst_new]
    simp
    omega
theorem name13 : ∀ x ∈ ["on", "off", "set", "say", "skip", "wait", "later", "flags", "held", "a", "b", "c", ("zzzzzzzz" : String)], nameB (Str.ofString x) = true := by
  have h : (["on", "off", "set", "say", "skip", "wait", "later", "flags", "held", "a", "b", "c", ("zzzzzzzz" : String)].all fun x => nameB (Str.ofString x)) = true := by decide +kernel
  exact List.all_eq_true.mp h
theorem AZ_len : AZ.length = 26 := by decide +kernel
theorem word_comp (hn : 100 ≤ n) {az : Str} (h0 : 0 < az.length) (h1 : az.length ≤ 100) {S3 : Sto} (h03 : Dr d g S S3) {j : Nat} (hj : j ≤ 9) {x1 : Option U} : Ok (cLoop (nxL (rangeU 0 j)) (.one 3) tYesU (xCall 2 (e__law_pick n) (aCons (xVar 0) (aCons (xVar 2) aNil))) n 0 [some (.ref d), x1, some (.str az), none] S3 []) fun acc S4 => Dr d g S S4 ∧ ∃ cs : List Nat, acc = cs.map (fun k => U.str ⟨#[k]⟩) ∧ cs.length = j ∧ ∀ k ∈ cs, k ∈ az.cps.toList := by
  refine comp_ok (rangeU 0 j) (fun i S' acc => Dr d g S S' ∧ ∃ cs : List Nat, acc = cs.map (fun k => U.str ⟨#[k]⟩) ∧ cs.length = i ∧ ∀ k ∈ cs, k ∈ az.cps.toList) (by simp; omega) ⟨h03, [], rfl, rfl, by simp⟩ (fun _ _ _ _ => rfl) ?_ ?_
  · rintro i2 u2 S4 acc hu2 ⟨h4, cs, rfl, hl, hcs⟩
    have hi2 : i2 < 9 := by have := (List.getElem?_eq_some_iff.mp hu2).1; rw [range_len] at this; omega
    refine ⟨_, rfl, ?_⟩
    simp
    refine (pick_str hn h4.dw h0 h1).imp ?_
    rintro v S5 ⟨⟨c, hc, rfl⟩, h5⟩
    refine ⟨Nat.lt_of_le_of_lt (show cs.length ≤ 10 by omega) (by decide), h4.trans h5, cs ++ [c], by simp, by simp [hl], ?_⟩
    intro k hk
    rcases List.mem_append.mp hk with hk | hk
    · simpa using hcs k hk
    · rw [List.mem_singleton.mp hk]; simpa using hc
  · rintro S4 acc ⟨h4, cs, rfl, hl, hcs⟩
    rw [range_len] at hl
    exact ⟨h4, cs, rfl, hl, hcs⟩
theorem word_end (h : Dw d g S) {S4 : Sto} (h4 : Dr d g S S4) {cs : List Nat} (h1 : 1 ≤ cs.length) (h8 : cs.length ≤ 8) (hcs : ∀ k ∈ cs, k ∈ AZ.cps.toList) : Ok (joinU "" (.fl (cs.map fun k => U.str ⟨#[k]⟩)) S4) fun u S1 => Ok (gcR S (.ok u S1)) fun u S' => (∃ x, u = .str x ∧ nameB x = true) ∧ Dr d g S S' := by
  have hcl : cs.length ≤ 1000 := by omega
  rw [join_fl hcl, Ok.ok]
  refine Ok.gcDr (.of h4) h.glt (by simp) fun S' hS' => ⟨⟨_, rfl, ?_⟩, hS'⟩
  have ej : (Txt.join ("" : Str) (cs.map fun k => (⟨#[k]⟩ : Str))).cps.toList = cs := join_letters
  unfold nameB
  rw [str_len, ej]
  simp only [Bool.and_eq_true, decide_eq_true_eq, List.all_eq_true]
  exact ⟨⟨h1, h8⟩, hcs⟩
def ml13 : ME := (xNewF (lim (aCons (xC (.str "on")) (aCons (xC (.str "off")) (aCons (xC (.str "set")) (aCons (xC (.str "say")) (aCons (xC (.str "skip")) (aCons (xC (.str "wait")) (aCons (xC (.str "later")) (aCons (xC (.str "flags")) (aCons (xC (.str "held")) (aCons (xC (.str "a")) (aCons (xC (.str "b")) (aCons (xC (.str "c")) (aCons (xC (.str "zzzzzzzz")) aNil)))))))))))))))
noncomputable def m_word' (az : Str) (ml : ME) (n : Nat) : MS :=
  (sSeq (sAsg ml (gN 1))
  (sSeq (sIf (x2 opEq (xCall 2 (e__law_take n) (aCons (xVar 0) (aCons (xC (.int 2)) aNil))) (xC (.int 0)))
  (sRet (xCall 2 (e__law_pick n) (aCons (xVar 0) (aCons (xVar 1) aNil))))
  sNil)
  (sSeq (sAsg (xC (.str az)) (gN 2))
  (sRet (xJoin (xC (.str "")) (xNewF (nComp n [3] (iRange1 (aCons (x2 opAdd (xC (.int 1)) (xCall 2 (e__law_take n) (aCons (xVar 0) (aCons (xCall 2 (e__law_pick n) (aCons (xVar 0) (aCons (xNewF (lim (aCons (xC (.int 1)) (aCons (xC (.int 2)) (aCons (xC (.int 8)) aNil))))) aNil))) aNil)))) aNil)) (.one 3) tYesU (xCall 2 (e__law_pick n) (aCons (xVar 0) (aCons (xVar 2) aNil))))))))))
theorem ml13_eq {env : VI.Env} {S : Sto} : ml13 env S = .ok (.fl (["on", "off", "set", "say", "skip", "wait", "later", "flags", "held", "a", "b", "c", ("zzzzzzzz" : String)].map fun x => U.str (Str.ofString x))) S := by
  unfold ml13
  have z13 : (13 ≤ sizeLine) = True := eq_true (by decide)
  simp [z13]
theorem wordm_eq (n : Nat) : m__law_word n = m_word' (Str.ofString "abcdefghijklmnopqrstuvwxyz") ml13 n := Eq.refl _
noncomputable def m_words' (az : Str) (n : Nat) : MS :=
  (sSeq (sAsg (xNew (lim aNil)) (gN 2))
  (sSeq (sFor n (iRange1 (aCons (xVar 1) aNil)) (gN 3)
  (sSeq (sAsg (xCall 1 (e__law_word n) (aCons (xVar 0) aNil)) (gN 4))
  (sSeq (sAsg (x2 opAdd (xNewF (lim (aCons (xVar 4) aNil))) (xNewF (nComp n [6] (iOf (xC (.str az))) (.one 6) tYesU (x2 opAdd (xSl (xVar 4) oNone (oSome (xC (.int 7)))) (xVar 6))))) (gN 5))
  (sExpr (xM isLst mAppend (xVar 2) (aCons (x2 opIx (xNewF (nComp n [7] (iOf (xVar 5)) (.one 7) (bOf (x2 opNotIn (xVar 7) (xVar 2))) (xVar 7))) (xC (.int 0))) aNil))))))
  (sRet (xVar 2))))
theorem words_eq (n : Nat) : m__law_words n = m_words' (Str.ofString "abcdefghijklmnopqrstuvwxyz") n := Eq.refl _
theorem word_ok' (hn : 100 ≤ n) (h : Dw d g S) {az : Str} (az0 : 0 < az.length) (az1 : az.length ≤ 100) (haz : ∀ k ∈ az.cps.toList, k ∈ AZ.cps.toList) {ml : ME} {us : List U} (hml : ∀ env S, ml env S = .ok (.fl us) S) (us0 : us ≠ []) (us1 : us.length ≤ 100) (usn : ∀ u ∈ us, ∃ x, u = .str x ∧ nameB x = true) : Ok (fnG 4 (m_word' az ml n) [.ref d] S) fun u S' => (∃ x, u = .str x ∧ nameB x = true) ∧ Dr d g S S' := by
  unfold m_word'
  rw [q_fnG]
  apply Ok.gc
  simp [hml]
  refine (take_ok hn h ⟨by omega, by omega⟩).imp ?_
  rintro u S1 ⟨⟨i, rfl, hi⟩, h1⟩
  simp
  by_cases h0 : i = 0
  · subst h0
    simp
    refine (pick_fl hn h1.dw us0 (by omega) (fun u hu => by obtain ⟨x, rfl, _⟩ := usn u hu; simp)).imp ?_
    rintro v S2 ⟨hv, h2⟩
    obtain ⟨x, rfl, hx⟩ := usn v hv
    exact Ok.gcDr (.of (h1.trans h2)) h.glt (by simp) fun S' hS' => ⟨⟨x, rfl, hx⟩, hS'⟩
  · simp [h0]
    refine (pick_fl hn h1.dw (by simp) (by show 3 < _; omega) (by simp)).imp ?_
    rintro v S2 ⟨hv, h2⟩
    obtain ⟨k, rfl, k0, k1⟩ : ∃ k : Int, v = .int k ∧ 0 < k ∧ k ≤ 8 := by
      simp only [List.mem_cons, List.not_mem_nil, or_false] at hv
      rcases hv with rfl | rfl | rfl <;> exact ⟨_, rfl, by omega, by omega⟩
    refine (take_ok hn h2.dw ⟨k0, by omega⟩).imp ?_
    rintro v S3 ⟨⟨j, rfl, hj⟩, h3⟩
    have hj2 : ∀ S' : Sto, rng [.int ((1 : Int) + j)] S' = .ok (nxL (rangeU 0 (j + 1))) S' := fun S' => by
      rw [show ((1 : Int) + j) = ((j + 1 : Nat) : Int) by omega]
      exact rng_nat (by omega)
    have h03 : Dr d g S S3 := (h1.trans h2).trans h3
    rw [q_addI, Ok.ok, hj2, Ok.ok]
    refine (word_comp hn (az := az) az0 az1 h03 (show j + 1 ≤ 9 by omega)).imp ?_
    rintro acc S4 ⟨h4, cs, rfl, hl, hcs⟩
    exact word_end h h4 (by omega) (by omega) fun k hk => haz k (hcs k hk)
theorem word_ok (hn : 100 ≤ n) (h : Dw d g S) : Ok (e__law_word n [.ref d] S) fun u S' => (∃ x, u = .str x ∧ nameB x = true) ∧ Dr d g S S' := by
  have e : e__law_word n = fnG 4 (m_word' (Str.ofString "abcdefghijklmnopqrstuvwxyz") ml13 n) := by
    rw [← wordm_eq]
    exact Eq.refl _
  rw [e]
  exact word_ok' (az := Str.ofString "abcdefghijklmnopqrstuvwxyz") hn h (by rw [AZ_len]; omega) (by rw [AZ_len]; omega) (fun k hk => hk) (fun env S => ml13_eq) (by simp) (by simp) fun u hu => by
    obtain ⟨x, hx, rfl⟩ := List.mem_map.mp hu
    exact ⟨_, rfl, name13 x hx⟩
end
end Gn
set_option Elab.async false
set_option linter.all false
set_option maxRecDepth 100000
set_option maxHeartbeats 1000000
namespace VI
open PySem
theorem tl_app (x y : Str) : (x ++ y).cps.toList = x.cps.toList ++ y.cps.toList := TL.tl_append x y
theorem cut7 {x : Str} : (L2.cutS x none (some 7)).cps.toList = x.cps.toList.take 7 := by
  unfold L2.cutS
  show (List.take (HT.sIx x.length x.length (some 7) - HT.sIx x.length 0 none) (List.drop (HT.sIx x.length 0 none) x.cps.toList)).toArray.toList = _
  have e0 : HT.sIx x.length 0 none = 0 := rfl
  have e1 : HT.sIx x.length x.length (some 7) = min 7 x.length := by
    unfold HT.sIx
    simp
  rw [e0, e1]
  simp
  rw [str_len]
  simp
theorem notIn_ref {n : Nat} {x : Str} {ys : List Str} {S : Sto} (h : S.lst n = some (ys.map U.str)) : opNotIn (.str x) (.ref n) S = .ok (.bl (!decide (x ∈ ys))) S := by
  unfold opNotIn inU
  have e : seqU (.ref n) S = some (ys.map U.str) := h
  simp [e, strsOf_map]
end VI
namespace Gn
open PySem VI
def nears (az x : Str) : List Str := x :: az.cps.toList.map fun c => L2.cutS x none (some 7) ++ ⟨#[c]⟩
theorem near_name {az x y : Str} (haz : ∀ k ∈ az.cps.toList, k ∈ AZ.cps.toList) (h : nameB x = true) (hy : y ∈ nears az x) : nameB y = true := by
  rcases List.mem_cons.mp hy with rfl | hy
  · exact h
  · obtain ⟨c, hc, rfl⟩ := List.mem_map.mp hy
    have e : (L2.cutS x none (some 7) ++ (⟨#[c]⟩ : Str)).cps.toList = x.cps.toList.take 7 ++ [c] := by rw [tl_app, cut7]
    unfold nameB at h ⊢
    rw [str_len, e]
    simp only [Bool.and_eq_true, decide_eq_true_eq, List.all_eq_true] at h ⊢
    refine ⟨⟨by simp, by simp; omega⟩, fun k hk => ?_⟩
    rcases List.mem_append.mp hk with hk | hk
    · exact h.2 k (List.mem_of_mem_take hk)
    · rw [List.mem_singleton.mp hk]; exact haz c hc
theorem near_new {az x : Str} {ys : List Str} (nd : az.cps.toList.Nodup) (hl : ys.length < az.length) : ∃ y ∈ nears az x, y ∉ ys := by
  apply Classical.byContradiction
  intro hno
  have hall : ∀ y ∈ nears az x, y ∈ ys := fun y hy => Classical.byContradiction fun z => hno ⟨y, hy, z⟩
  have hnd : (az.cps.toList.map fun c => L2.cutS x none (some 7) ++ (⟨#[c]⟩ : Str)).Nodup := by
    rw [List.nodup_iff_pairwise_ne, List.pairwise_map]
    refine (List.nodup_iff_pairwise_ne.mp nd).imp ?_
    intro a b hab z
    apply hab
    have := congrArg (fun q : Str => q.cps.toList) z
    simp only [tl_app] at this
    have := List.append_cancel_left this
    simpa using this
  have := sub_len hnd fun y hy => hall y (List.mem_cons_of_mem _ hy)
  rw [List.length_map, ← str_len] at this
  omega
section
variable {d g : Nat} {S S1 S2 : Sto} {n : Nat}
def InvW (d g : Nat) (S : Sto) (k : Nat) (i : Nat) (env : VI.Env) (S1 : Sto) : Prop := ∃ (x3 x4 x5 x6 x7 : Option U) (ys : List Str) (T : Sto), env = [some (.ref d), some (.int (k : Nat)), some (.ref S.objs.length), x3, x4, x5, x6, x7] ∧ Dr d g S T ∧ S1 = T.push (.lst (ys.map U.str)) ∧ ys.length = i ∧ ys.Nodup ∧ ∀ y ∈ ys, nameB y = true
/-- so many names that differ, in a new list -/
structure WQ (d g : Nat) (S : Sto) (k : Nat) (u : U) (S' : Sto) : Prop where
  ex : ∃ (ys : List Str) (T : Sto), u = .ref S.objs.length ∧ Dr d g S T ∧ S' = T.push (.lst (ys.map U.str)) ∧ ys.length = k ∧ ys.Nodup ∧ ∀ y ∈ ys, nameB y = true
theorem words_ok' (hn : 100 ≤ n) (h : Dw d g S) {az : Str} (az1 : az.length = 26) (nd : az.cps.toList.Nodup) (haz : ∀ k ∈ az.cps.toList, k ∈ AZ.cps.toList) {k : Nat} (hk : k ≤ 20) :
    Ok (fnG 8 (m_words' az n) [.ref d, .int (k : Nat)] S) (WQ d g S k) := by
  have hdl := h.dlt
  have hgl := h.glt
  unfold m_words'
  rw [q_fnG]
  refine Ok.gc ?_
  simp [rng_nat (show k ≤ 1000000 by omega)]
  refine for_ok (rangeU 0 k) (InvW d g S k) (by simp; omega) ⟨none, none, none, none, none, [], S, rfl, .refl h, rfl, rfl, by simp, by simp⟩ (fun _ _ _ _ => rfl) ?_ ?_
  · rintro i u env S1 hu ⟨x3, x4, x5, x6, x7, ys, T, rfl, hT, rfl, hyl, hnd, hnm⟩
    have hi : i < 20 := by have := (List.getElem?_eq_some_iff.mp hu).1; rw [range_len] at this; omega
    simp
    refine (word_ok hn (hT.dw.ext Ext.push)).imp ?_
    rintro v S2 ⟨⟨x, rfl, hx⟩, h2⟩
    obtain ⟨hT2, e2⟩ := h2.cut (by rw [hT.len]; exact hdl) (by rw [hT.len]; exact hgl)
    obtain ⟨T2, hT2e⟩ : ∃ T2, T2 = S2.cut T.objs.length := ⟨_, rfl⟩
    rw [← hT2e] at hT2 e2
    have hT02 := hT.trans hT2
    have hlT : T2.objs.length = S.objs.length := by rw [hT2.len, hT.len]
    have m2 : S2.lst S.objs.length = some (ys.map U.str) := by rw [e2, ← hlT]; exact lst_new
    have hxl : x.length ≤ sizeLine := name_sz hx
    have ec : cLoop (nxL (signsU az)) (.one 6) tYesU (x2 opAdd (xSl (xVar 4) oNone (oSome (xC (.int 7)))) (xVar 6)) n 0 [some (.ref d), some (.int (k : Nat)), some (.ref S.objs.length), some u, some (.str x), x5, none, x7] S2 [] = .ok (az.cps.toList.map fun c => .str (L2.cutS x none (some 7) ++ ⟨#[c]⟩)) S2 := by
      refine comp_map (fun c => U.str ⟨#[c]⟩) _ az.cps.toList (by rw [← str_len, az1]; omega) (by rw [← str_len, az1]; exact szL (by omega)) fun c hc => ⟨_, rfl, rfl, ?_⟩
      have hz : (L2.cutS x none (some 7)).length + (⟨#[c]⟩ : Str).length ≤ sizeLine := by
        have : (L2.cutS x none (some 7)).length ≤ 7 := by rw [str_len, cut7]; simp; omega
        have h1 : (⟨#[c]⟩ : Str).length = 1 := rfl
        exact szL (by omega)
      simp [hxl, hz]
    have hz26 : (26 + 1 ≤ sizeLine) := szL (by omega)
    have hz2 : 1 + az.length ≤ sizeLine := by rw [az1]; exact szL (by omega)
    have en : ([U.str x] ++ az.cps.toList.map fun c => U.str (L2.cutS x none (some 7) ++ ⟨#[c]⟩)) = (nears az x).map U.str := by
      unfold nears
      rw [List.map_cons, List.map_map]
      rfl
    have nl : (nears az x).length = 27 := by unfold nears; rw [List.length_cons, List.length_map, ← str_len, az1]
    have ef : ∀ (y3 y4 y6 : Option U), cLoop (nxL ((nears az x).map U.str)) (.one 7) (bOf (x2 opNotIn (xVar 7) (xVar 2))) (xVar 7) n 0 [some (.ref d), some (.int (k : Nat)), some (.ref S.objs.length), y3, y4, some (.fl ((nears az x).map U.str)), y6, none] S2 [] = .ok (((nears az x).filter fun y => !decide (y ∈ ys)).map U.str) S2 := fun y3 y4 y6 => by
      rw [comp_eq U.str (fun y => !decide (y ∈ ys)) U.str (nears az x) (by omega) (szL (by omega))]
      intro y hy
      refine ⟨_, rfl, ?_, fun _ => by simp⟩
      simp [notIn_ref m2]
    obtain ⟨y0, hy0, hy1⟩ := near_new (x := x) (ys := ys) nd (by rw [az1]; omega)
    cases hq : (nears az x).filter fun z => !decide (z ∈ ys) with
    | nil =>
      have := List.filter_eq_nil_iff.mp hq y0 hy0
      simp [hy1] at this
    | cons y r =>
      have my : y ∈ nears az x ∧ y ∉ ys := by
        have := List.mem_filter.mp (show y ∈ (nears az x).filter fun z => !decide (z ∈ ys) by rw [hq]; simp)
        simpa using this
      have hyz : ys.length < sizeLine := Nat.lt_of_le_of_lt (show ys.length ≤ 20 by omega) (by decide)
      have hz3 : az.cps.toList.length + 1 ≤ sizeLine := by rw [← str_len, az1]; exact hz26
      have en' : (U.str x :: az.cps.toList.map fun c => U.str (L2.cutS x none (some 7) ++ ⟨#[c]⟩)) = (nears az x).map U.str := en
      simp only [ec, Ok.ok, List.length_map]
      refine ⟨by omega, ?_⟩
      rw [en']
      simp [kd_lst m2, ef, hq, m2, hyz, -List.map_cons]
      simp [m2, hyz]
      refine ⟨_, _, _, _, _, ys ++ [y], T2, rfl, hT02, ?_, by simp [hyl], ?_, ?_⟩
      · rw [e2, ← hlT, put_push]
        simp
      · rw [List.nodup_append]
        refine ⟨hnd, by simp, ?_⟩
        intro a ha b hb z
        rw [List.mem_singleton] at hb
        exact my.2 (by rw [← hb, ← z]; exact ha)
      · intro z hz
        rcases List.mem_append.mp hz with hz | hz
        · exact hnm z hz
        · rw [List.mem_singleton.mp hz]; exact near_name haz hx my.1
  · rintro env S1 ⟨x3, x4, x5, x6, x7, ys, T, rfl, hT, rfl, hyl, hnd, hnm⟩
    rw [range_len] at hyl
    simp
    rw [gc_ref (Nat.le_refl _)]
    exact ⟨⟨ys, T, rfl, hT, rfl, hyl, hnd, hnm⟩⟩
theorem AZ_nd : AZ.cps.toList.Nodup := by
  have h : decide AZ.cps.toList.Nodup = true := by decide +kernel
  exact of_decide_eq_true h
theorem words_ok (hn : 100 ≤ n) (h : Dw d g S) {k : Nat} (hk : k ≤ 20) : Ok (e__law_words n [.ref d, .int (k : Nat)] S) (WQ d g S k) := by
  have e : e__law_words n = fnG 8 (m_words' AZ n) := by
    rw [← words_eq]
    exact Eq.refl _
  rw [e]
  exact words_ok' (az := AZ) hn h AZ_len AZ_nd (fun k hk => hk) hk
theorem mergeU_map {c : Cond} (nd : (c.map (·.1)).Nodup) : mergeU (c.map fun p => (p.1, U.bl p.2)) = c.map fun p => (p.1, U.bl p.2) := by
  unfold mergeU
  have key : ∀ (pre : Cond) (c : Cond), ((pre ++ c).map (·.1)).Nodup → (c.map fun p => (p.1, U.bl p.2)).foldl (fun acc p => putKU p.1 p.2 acc) (pre.map fun p => (p.1, U.bl p.2)) = (pre ++ c).map fun p => (p.1, U.bl p.2) := by
    intro pre c
    induction c generalizing pre with
    | nil => intro _; simp
    | cons p c ih =>
      intro nd
      rw [List.map_cons, List.foldl_cons, putKU_new]
      · have := ih (pre ++ [p]) (by simpa using nd)
        simpa using this
      · intro q hq
        obtain ⟨r, hr, rfl⟩ := List.mem_map.mp hq
        rw [List.map_append, List.map_cons, List.nodup_append] at nd
        exact nd.2.2 r.1 (List.mem_map.mpr ⟨r, hr, rfl⟩) p.1 (by simp)
  have := key [] c (by simpa using nd)
  simpa using this
theorem pairs_map : ∀ {c : Cond}, pairsOf (c.map fun p => U.tup [.str p.1, .bl p.2]) = some (c.map fun p => (p.1, U.bl p.2))
  | [] => rfl
  | p :: c => by
    rw [List.map_cons]
    unfold pairsOf
    rw [pairs_map]
    rfl
theorem cond_ok (hn : 100 ≤ n) (h : Dw d g S) {fl : List Str} (hf : ∀ x ∈ fl, nameB x = true) (nd : fl.Nodup) (hl : fl.length ≤ 4) : Ok (e__law_condition n [.ref d, .fl (fl.map U.str)] S) fun u S' => (∃ c, u = encC c ∧ GoodC fl c) ∧ Dr d g S S' := by
  have hdl := h.dlt
  have hgl := h.glt
  unfold e__law_condition m__law_condition
  rw [q_fnG]
  apply Ok.gc
  have z10 : (10 ≤ sizeLine) = True := eq_true (by decide)
  simp [z10]
  refine (order_ok (α := Str) hn h (xs := fl) (fun x hx => name_ok (hf x hx)) (by show 0 ≤ 59; omega) (by omega) (by intro x _; exact .str x)).imp ?_
  rintro u S1 ⟨⟨ys, rfl, pm⟩, h1⟩
  refine (pick_fl hn h1.dw (by simp) (by show 10 < _; omega) (by simp)).imp ?_
  rintro v S2 ⟨hv, h2⟩
  obtain ⟨k, rfl⟩ : ∃ k : Nat, v = .int (k : Nat) := by
    simp only [List.mem_cons, List.not_mem_nil, or_false] at hv
    rcases hv with rfl | rfl | rfl | rfl | rfl | rfl | rfl | rfl | rfl | rfl
    · exact ⟨0, rfl⟩
    · exact ⟨1, rfl⟩
    · exact ⟨1, rfl⟩
    · exact ⟨1, rfl⟩
    · exact ⟨1, rfl⟩
    · exact ⟨1, rfl⟩
    · exact ⟨2, rfl⟩
    · exact ⟨2, rfl⟩
    · exact ⟨3, rfl⟩
    · exact ⟨4, rfl⟩
  have ecut : cutL (ys.map U.str) none (some (k : Int)) = (ys.take k).map U.str := by
    unfold cutL
    rw [HT.sIx_nat]
    show ((ys.map U.str).drop 0).take (min k (ys.map U.str).length - 0) = _
    rw [List.drop_zero, Nat.sub_zero, List.length_map, List.map_take]
    by_cases hk : k ≤ ys.length
    · rw [Nat.min_eq_left hk]
    · rw [Nat.min_eq_right (by omega), List.take_of_length_le (by simp), List.take_of_length_le (by simp; omega)]
  have hyl : ys.length = fl.length := pm.length_eq
  have hynd : ys.Nodup := pm.nodup_iff.mpr nd
  simp [Dat.enc, ecut]
  rw [← List.map_take]
  refine comp_ok ((ys.take k).map U.str) (fun i S' acc => Dr d g S S' ∧ ∃ c : Cond, acc = (c.map fun p => U.tup [.str p.1, .bl p.2]) ∧ c.map (·.1) = (ys.take k).take i) (by simp; omega) ⟨h1.trans h2, [], rfl, rfl⟩ (fun _ _ _ _ => rfl) ?_ ?_
  · rintro i w S3 acc hw ⟨h3, c, rfl, hc⟩
    have hi := (List.getElem?_eq_some_iff.mp hw).1
    rw [List.length_map] at hi
    have hil : i < 4 := by rw [List.length_take] at hi; omega
    rw [List.getElem?_map, List.getElem?_eq_getElem hi] at hw
    cases hw
    refine ⟨_, rfl, ?_⟩
    simp
    refine (take_ok hn h3.dw ⟨by omega, by omega⟩).imp ?_
    rintro v S4 ⟨⟨m, rfl, hm⟩, h4⟩
    have hcl : c.length = i := by
      have := congrArg List.length hc
      rw [List.length_map, List.length_take] at this
      omega
    simp
    refine ⟨Nat.lt_of_le_of_lt (show c.length ≤ 10 by omega) (by decide), h3.trans h4, c ++ [((ys.take k)[i], decide (0 < m))], by simp, ?_⟩
    rw [List.map_append, hc, List.take_succ, List.getElem?_eq_getElem hi]
    simp
  · rintro S3 acc ⟨h3, c, rfl, hc⟩
    rw [List.length_map, List.take_length] at hc
    have cnd : (c.map (·.1)).Nodup := by rw [hc]; exact hynd.sublist (List.take_sublist _ _)
    have ed : bDictPF (c.map fun p => U.tup [.str p.1, .bl p.2]) S3 = .ok (encC c) S3 := by
      unfold bDictPF
      rw [pairs_map]
      show R.ok (U.fd (mergeU _)) S3 = _
      rw [mergeU_map cnd]
      rfl
    simp [ed]
    refine Ok.gcDr (.of h3) hgl (by simp) fun S' hS' => ⟨⟨c, rfl, cnd, fun p hp => ?_, ?_⟩, hS'⟩
    · have : p.1 ∈ c.map (·.1) := List.mem_map.mpr ⟨p, hp, rfl⟩
      rw [hc] at this
      exact pm.mem_iff.mp (List.mem_of_mem_take this)
    · have := congrArg List.length hc
      rw [List.length_map, List.length_take] at this
      omega
end
end Gn
set_option Elab.async false
set_option linter.all false
set_option maxRecDepth 100000
set_option maxHeartbeats 1000000
namespace Gn
open PySem VI
def wl : Row → Nat
  | .wait _ => 1
  | .later _ => 1
  | _ => 0
def plD (fl : List Str) (h : Nat) (r : Nat) : List (Str × U) := [("flags", .fl (fl.map U.str)), ("handlers", .ref h), ("words", .fl [.str "on", .str "x", .str "hello"]), ("room", .int (r : Nat))]
structure PlA (d g p : Nat) (fl : List Str) (h r : Nat) (S : Sto) : Prop where
  dw : Dw d g S
  at' : S.dct p = some (plD fl h r)
  pd : p ≠ d
  pg : p ≠ g
  fr : p ∉ S.lk
/-- draws, and the plan's room -/
structure DP (d g p : Nat) (fl : List Str) (h r : Nat) (S S' : Sto) : Prop where
  pl : PlA d g p fl h r S'
  len : S'.objs.length = S.objs.length
  lk : S'.lk = S.lk
  get : ∀ i, i ≠ d → i ≠ g → i ≠ p → S'.objs[i]? = S.objs[i]?
section
variable {d g p h r : Nat} {S S1 S2 : Sto} {n : Nat} {fl : List Str}
theorem PlA.dr (a : PlA d g p fl h r S) (k : Dr d g S S1) : PlA d g p fl h r S1 := ⟨k.dw, by rw [k.dct a.pd a.pg]; exact a.at', a.pd, a.pg, by rw [k.lk]; exact a.fr⟩
theorem DP.refl (a : PlA d g p fl h r S) : DP d g p fl h r S S := ⟨a, rfl, rfl, fun _ _ _ _ => rfl⟩
theorem DP.trans {r' : Nat} (a : DP d g p fl h r S S1) (b : DP d g p fl h r' S1 S2) : DP d g p fl h r' S S2 := ⟨b.pl, b.len.trans a.len, b.lk.trans a.lk, fun i h1 h2 h3 => (b.get i h1 h2 h3).trans (a.get i h1 h2 h3)⟩
theorem DP.dr (a : DP d g p fl h r S S1) (k : Dr d g S1 S2) : DP d g p fl h r S S2 := ⟨a.pl.dr k, k.len.trans a.len, k.lk.trans a.lk, fun i h1 h2 h3 => (k.get i h1 h2).trans (a.get i h1 h2 h3)⟩
theorem putRoom {r' : Nat} : putKU "room" (.int (r' : Nat)) (plD fl h r) = plD fl h r' := by
  unfold plD putKU
  simp [putKU]
theorem str_rd (hf : ∀ x ∈ fl, nameB x = true) : rdU 60 S (.fl (fl.map U.str)) = some (.list (fl.map PyData.str)) := rd_fl (α := Str) (fun x hx => name_ok (hf x hx)) (by show 0 ≤ 59; omega)
theorem say_names : ∀ x ∈ ["on", "x", ("hello" : String)], nameB (Str.ofString x) = true := by
  have h : (["on", "x", ("hello" : String)].all fun x => nameB (Str.ofString x)) = true := by decide +kernel
  simpa using h
/-- a row is drawn -/
structure RowQ (d g p : Nat) (fl : List Str) (h r : Nat) (left : Nat) (S : Sto) (u : U) (S' : Sto) : Prop where
  ex : ∃ (w : Row) (r' : Nat), u = encRow w ∧ GoodR fl left w ∧ r' + wl w = r ∧ DP d g p fl h r' S S'
theorem row_ok (hn : 100 ≤ n) (a : PlA d g p fl h r S) (hf : ∀ x ∈ fl, nameB x = true) (nd : fl.Nodup) (hl : fl.length ≤ 4) {left : Nat} (hle : left ≤ 8) :
    Ok (e__law_row n [.ref d, .ref p, .int (left : Nat)] S) (RowQ d g p fl h r left S) := by
  unfold e__law_row m__law_row
  rw [q_fnG]
  apply Ok.gc
  have kf : ∀ r, keyAt (plD fl h r) "flags" = some (.fl (fl.map U.str)) := fun r => by simp [plD]
  have kr : ∀ r, keyAt (plD fl h r) "room" = some (.int (r : Nat)) := fun r => by simp [plD]
  have kw : ∀ r, keyAt (plD fl h r) "words" = some (.fl [.str "on", .str "x", .str "hello"]) := fun r => by simp [plD]
  simp [a.at', kf]
  refine (take_ok hn a.dw ⟨by omega, by omega⟩).imp ?_
  rintro u S1 ⟨⟨w, rfl, hw⟩, h1⟩
  have a1 := a.dr h1
  have d1 : DP d g p fl h r S S1 := (DP.refl a).dr h1
  have ene := ne_nil (α := Str) (S := S1) (xs := fl) (u := .fl (fl.map U.str)) (str_rd hf)
  by_cases c1 : (w : Int) < 4 ∧ fl ≠ []
  · have hE : fl.isEmpty = false := by cases fl <;> simp_all
    simp [ene, c1.1, hE]
    refine (pick_fl hn h1.dw (by simpa using c1.2) (by rw [List.length_map]; omega) (by simp)).imp ?_
    rintro v S2 ⟨hv, h2⟩
    obtain ⟨x, hx, rfl⟩ := List.mem_map.mp hv
    refine (take_ok hn h2.dw ⟨by omega, by omega⟩).imp ?_
    rintro v S3 ⟨⟨k, rfl, _⟩, h3⟩
    have d3 := (d1.dr h2).dr h3
    simp
    rw [gc_len d3.len]
    exact ⟨⟨.set x (decide (k = 0)), r, by unfold encRow; simp, hx, rfl, d3⟩⟩
  · have e1 : (if (w : Int) < 4 then R.ok (U.bl !fl.isEmpty) S1 else R.ok (U.bl false) S1) = R.ok (U.bl false) S1 := by
      split
      · have : fl = [] := Classical.byContradiction fun z => c1 ⟨by assumption, z⟩
        subst this
        rfl
      · rfl
    simp [ene, e1]
    by_cases c2 : (w : Int) = 4 ∧ 0 < left
    · simp [c2.1, c2.2]
      refine (cond_ok hn h1.dw hf nd hl).imp ?_
      rintro v S2 ⟨⟨c, rfl, hc⟩, h2⟩
      refine (take_ok hn h2.dw ⟨by omega, by omega⟩).imp ?_
      rintro v S3 ⟨⟨k, rfl, hk⟩, h3⟩
      have d3 := (d1.dr h2).dr h3
      simp
      rw [gc_len d3.len]
      exact ⟨⟨.skip c (1 + k), r, by unfold encRow; simp, ⟨hc, by omega, by omega⟩, rfl, d3⟩⟩
    · have e2 : (if (w : Int) = 4 then R.ok (U.bl (decide (0 < left))) S1 else R.ok (U.bl false) S1) = R.ok (U.bl false) S1 := by
        split
        · have : ¬ 0 < left := fun z => c2 ⟨by assumption, z⟩
          simp [this]
        · rfl
      simp [e2]
      have sz : (plD fl h r).length < sizeLine := by show 4 < sizeLine; decide
      by_cases c3 : 5 < (w : Int) ∧ 0 < r
      · have er : (r : Int) - 1 = ((r - 1 : Nat) : Int) := by omega
        simp [c3.1, c3.2, a1.at', kr, kf, sz, a1.fr, er, putRoom]
        have a2 : PlA d g p fl h (r - 1) (S1.put p (.dct (plD fl h (r - 1)))) := ⟨h1.dw.put a.pd a.pg, dct_put (lt_of_get (dct_get.mp a1.at')), a.pd, a.pg, a1.fr⟩
        have d2 : DP d g p fl h (r - 1) S (S1.put p (.dct (plD fl h (r - 1)))) := ⟨a2, by rw [len_put]; exact h1.len, h1.lk, fun i i1 i2 i3 => by rw [get_put_ne (Ne.symm i3)]; exact h1.get i i1 i2⟩
        refine (pick_fl hn a2.dw (by simp) (by show 3 < _; omega) (by simp)).imp ?_
        rintro v S2 ⟨hv, h2⟩
        have d3 := d2.dr h2
        refine (cond_ok hn h2.dw hf nd hl).imp ?_
        rintro z S3 ⟨⟨c, rfl, hc⟩, h3⟩
        have d4 := d3.dr h3
        rw [gc_len d4.len]
        simp only [List.mem_cons, List.not_mem_nil, or_false] at hv
        rcases hv with rfl | rfl | rfl
        · exact ⟨⟨.wait c, r - 1, rfl, hc, by show r - 1 + 1 = r; omega, d4⟩⟩
        · exact ⟨⟨.wait c, r - 1, rfl, hc, by show r - 1 + 1 = r; omega, d4⟩⟩
        · exact ⟨⟨.later c, r - 1, rfl, hc, by show r - 1 + 1 = r; omega, d4⟩⟩
      · have e3 : (if 5 < (w : Int) then R.ok (U.bl (decide (0 < r))) S1 else R.ok (U.bl false) S1) = R.ok (U.bl false) S1 := by
          split
          · have : ¬ 0 < r := fun z => c3 ⟨by assumption, z⟩
            simp [this]
          · rfl
        simp [a1.at', kr, e3, kw]
        refine (pick_fl hn a1.dw (by simp) (by show 3 < _; omega) (by simp)).imp ?_
        rintro v S2 ⟨hv, h2⟩
        have d3 := d1.dr h2
        rw [gc_len d3.len]
        simp only [List.mem_cons, List.not_mem_nil, or_false] at hv
        rcases hv with rfl | rfl | rfl
        · exact ⟨⟨.say "on", r, rfl, say_names _ (by simp), rfl, d3⟩⟩
        · exact ⟨⟨.say "x", r, rfl, say_names _ (by simp), rfl, d3⟩⟩
        · exact ⟨⟨.say "hello", r, rfl, say_names _ (by simp), rfl, d3⟩⟩
end
end Gn
set_option Elab.async false
set_option linter.all false
set_option maxRecDepth 100000
set_option maxHeartbeats 1000000
namespace VI
open PySem
section
variable {env : VI.Env} {S : Sto} {v : ME} {r : List (ME × ME)} {p : MP}
@[simp] theorem q_pnil : pAll [] env S = .ok [] S := rfl
@[simp] theorem q_pcons {k : Str} : pAll ((xC (.str k), v) :: r) env S = (v env S).bind fun w S2 => (pAll r env S2).bind fun ps S3 => .ok ((k, w) :: ps) S3 := rfl
@[simp] theorem q_disp : xDisp p env S = (p env S).bind fun ps S1 => gd (ps.length ≤ 15) (.ok (.ref S1.objs.length) (S1.push (.dct (mergeU ps)))) := rfl
theorem q_stL {n k : Nat} {u : U} {us : List U} (h : S.lst n = some us) (hk : k < us.length) : stU (.ref n) (.int (k : Nat)) u S = .ok () (S.put n (.lst (us.set k u))) := by
  unfold stU
  have e : L2.ixN us.length (k : Int) = some k := by
    unfold L2.ixN
    simp
    omega
  simp [h, e]
end
end VI
namespace Gn
open PySem VI
def absI (x : Int) : Int := if x < 0 then -x else x
section
variable {d g p h r : Nat} {S S1 S2 : Sto} {n : Nat} {fl : List Str}
structure BegQ (u : U) (S : Sto) : Prop where
  ex : ∃ d g, u = .ref d ∧ Dw d g S ∧ S.lk = []
theorem begin_ok (hn : 100 ≤ n) {ns : List Int} (hl : ns.length ≤ 63) : Ok (e__law_begin n [.sc (ns.map U.int)] S0) BegQ := by
  unfold e__law_begin m__law_begin
  rw [q_fnG]
  apply Ok.gc
  simp
  rw [comp_eq U.int (fun x => decide ((1000000000000000000 : Int) ≤ absI x)) (fun x => .int (absI x - 1000000000000000000)) ns (by omega) (szL (by omega))]
  · simp
    rw [comp_map U.int (fun x => .int ((absI x).fmod 2147483629)) ns (by omega) (szL (by omega))]
    · simp
      rw [gc_ref (by simp)]
      have em : mergeU [(Str.ofString "great", U.ref S0.objs.length), (Str.ofString "cells", U.fl (List.map (fun x => U.int ((absI x).fmod 2147483629)) ns)), (Str.ofString "rest", U.int 0), (Str.ofString "turn", U.int 0)] = dwD 0 (ns.map fun x => (absI x).fmod 2147483629) 0 0 := by
        unfold mergeU dwD
        simp [putKU]
        rfl
      rw [em]
      simp only [Ok.ok]
      refine ⟨⟨_, 0, rfl, ⟨⟨0, 0, (ns.filter fun x => decide (1000000000000000000 ≤ absI x)).map fun x => absI x - 1000000000000000000, ns.map fun x => (absI x).fmod 2147483629, ?_, ?_, by omega, by omega, ?_, ?_, ?_, ?_⟩, by show S0.objs.length + 1 ≠ 0; omega, ?_⟩, rfl⟩⟩
      · rw [← len_push]
        exact dct_new
      · rw [lst_push (by show 0 < S0.objs.length + 1; omega)]
        show (Sto.push S0 _).lst S0.objs.length = _
        rw [lst_new, List.map_map]
        rfl
      · intro x hx
        obtain ⟨y, hy, rfl⟩ := List.mem_map.mp hx
        have := (List.mem_filter.mp hy).2
        simp at this
        omega
      · intro x hx
        obtain ⟨y, hy, rfl⟩ := List.mem_map.mp hx
        exact Int.fmod_nonneg_of_pos _ (by omega)
      · simpa using hl
      · rw [List.length_map]
        have := List.length_filter_le (fun x => decide (1000000000000000000 ≤ absI x)) ns
        omega
      · intro z
        cases z
    · intro x hx
      refine ⟨_, rfl, rfl, ?_⟩
      simp
      rfl
  · intro x hx
    refine ⟨_, rfl, ?_, fun _ => ?_⟩
    · simp
      rfl
    · simp
      rfl
theorem wl_count {x : Str} : ∀ {rows : List Row} {k : Nat}, (((rows.zipIdx k).filter fun q => decide (q.1.word = ("wait" : Str))).length + ((rows.zipIdx k).filter fun q => decide (q.1.word = ("later" : Str))).length) = (rows.map wl).sum
  | [], k => rfl
  | w :: rows, k => by
    have ih := wl_count (x := x) (rows := rows) (k := k + 1)
    rw [List.zipIdx_cons, List.filter_cons, List.filter_cons, List.map_cons, List.sum_cons, ← ih]
    cases w <;> simp [Row.word, wl] <;> omega
def wls (hs : List (Str × Hd)) : Nat := (hs.map fun p => (p.2.rows.map wl).sum).sum
theorem wls_places : ∀ {hs : List (Str × Hd)}, (placesOf hs "wait").length + (placesOf hs "later").length = wls hs
  | [] => rfl
  | p :: hs => by
    have ih := wls_places (hs := hs)
    have h1 := wl_count (x := p.1) (rows := p.2.rows) (k := 0)
    unfold placesOf at ih ⊢
    unfold wls at ih ⊢
    rw [List.flatMap_cons, List.flatMap_cons, List.length_append, List.length_append, List.map_cons, List.sum_cons, ← ih, ← h1]
    unfold plc
    rw [List.length_map, List.length_map]
    omega
end
end Gn
set_option Elab.async false
set_option linter.all false
set_option maxRecDepth 100000
set_option maxHeartbeats 1000000
namespace Gn
open PySem VI
section
variable {d g p h r : Nat} {S S1 S2 : Sto} {n : Nat} {fl : List Str}
/-- a plan lies in the store -/
structure PlanAt (d g p : Nat) (fl : List Str) (h : Nat) (hs : List (Str × Hd)) (S : Sto) : Prop where
  pl : ∃ r, PlA d g p fl h r S
  hat : S.dct h = some (hs.map fun p => (p.1, encHL p.2))
  hd : h ≠ d
  hg : h ≠ g
  hp : h ≠ p
  lk : S.lk = []
structure PlanQ (d g : Nat) (u : U) (S : Sto) : Prop where
  ex : ∃ p fl h hs, u = .ref p ∧ PlanAt d g p fl h hs S ∧ GoodP fl hs
def InvPl (d g l p h : Nat) (fl zs : List Str) (i : Nat) (env : VI.Env) (S : Sto) : Prop := ∃ (x8 x9 x10 x11 : Option U) (hs : List (Str × Hd)) (r : Nat), env = [some (.ref d), some (.int 3), some (.int 4), some (.int 7), some (.int 6), some (.ref l), some (.ref p), some (.ref h), x8, x9, x10, x11] ∧
  PlA d g p fl h r S ∧ S.dct h = some (hs.map fun p => (p.1, encHL p.2)) ∧ S.lk = [] ∧ r + wls hs = 6 ∧ hs.map (·.1) = zs.take i ∧ (∀ p ∈ hs, GoodH fl p.2)
theorem cut_front {xs : List Str} {k : Nat} : cutL (xs.map U.str) none (some (k : Int)) = (xs.take k).map U.str := by
  unfold cutL
  rw [HT.sIx_nat]
  show ((xs.map U.str).drop 0).take (min k (xs.map U.str).length - 0) = _
  rw [List.drop_zero, Nat.sub_zero, List.length_map, List.map_take]
  by_cases hk : k ≤ xs.length
  · rw [Nat.min_eq_left hk]
  · rw [Nat.min_eq_right (by omega), List.take_of_length_le (by simp), List.take_of_length_le (by simp; omega)]
noncomputable def planB (n : Nat) : MS :=
  (sSeq (sAsg (xIf (x2 opEq (xCall 2 (e__law_take n) (aCons (xVar 0) (aCons (xC (.int 3)) aNil))) (xC (.int 0))) (xCall 2 (e__law_condition n) (aCons (xVar 0) (aCons (x2 opIx (xVar 6) (xC (.str "flags"))) aNil))) xD0F) (gN 9))
  (sSeq (sAsg (x2 opAdd (xC (.int 1)) (xCall 2 (e__law_take n) (aCons (xVar 0) (aCons (xVar 3) aNil)))) (gN 10))
  (sAsg (xTup (aCons (xVar 9) (aCons (xNewF (nComp n [11] (iRange1 (aCons (xVar 10) aNil)) (.one 11) tYesU (xCall 3 (e__law_row n) (aCons (xVar 0) (aCons (xVar 6) (aCons (x2 opSub (x2 opSub (xVar 10) (xVar 11)) (xC (.int 1))) aNil)))))) aNil))) (gSubI (xVar 7) (xVar 8)))))
noncomputable def planR (n : Nat) : MS :=
  (sSeq (sAsg (x2 opIx (xVar 6) (xC (.str "handlers"))) (gN 7))
(sSeq (sFor n (iOf (xSl (xVar 5) (oSome (xVar 1)) (oSome (x2 opAdd (x2 opAdd (xVar 1) (xC (.int 1))) (xCall 2 (e__law_take n) (aCons (xVar 0) (aCons (xVar 2) aNil))))))) (gN 8) (planB n))
  (sRet (xFrz (xVar 6)))))
theorem cut_mid {xs : List Str} (hl : xs.length = 7) {k : Nat} (hk : k < 4) : cutL (xs.map U.str) (some 3) (some (3 + 1 + (k : Int))) = ((xs.drop 3).take (k + 1)).map U.str := by
  unfold cutL
  have e : (3 + 1 + (k : Int)) = ((4 + k : Nat) : Int) := by omega
  have e3 : (3 : Int) = ((3 : Nat) : Int) := rfl
  rw [e, e3, HT.sIx_nat, HT.sIx_nat, List.length_map, hl, Nat.min_eq_left (by omega : 4 + k ≤ 7), Nat.min_eq_left (by omega : 3 ≤ 7), show 4 + k - 3 = k + 1 by omega, List.map_take, List.map_drop]
def InvRw (d g p : Nat) (fl : List Str) (h r lots : Nat) (S : Sto) (j : Nat) (S' : Sto) (acc : List U) : Prop := ∃ (rows : List Row) (r' : Nat), acc = rows.map encRow ∧ rows.length = j ∧ r' + (rows.map wl).sum = r ∧ (∀ i w, rows[i]? = some w → GoodR fl (lots - i - 1) w) ∧ DP d g p fl h r' S S'
theorem range_get {i m : Nat} (h : i < m) : (rangeU 0 m)[i]? = some (.int (i : Nat)) := by
  unfold rangeU
  simp [h]
theorem planB_ok (hn : 100 ≤ n) {l : Nat} {zs : List Str} (zl : zs.length ≤ 4) (znd : zs.Nodup) (hf : ∀ x ∈ fl, nameB x = true) (nd : fl.Nodup) (hl : fl.length ≤ 4) (hd : h ≠ d) (hg : h ≠ g) (hp : h ≠ p) {i : Nat} {u : U} {env : VI.Env} {QS : Fl → Sto → Prop} (hu : (zs.map U.str)[i]? = some u) (I : InvPl d g l p h fl zs i env S) : Ok (gN 8 u env S) fun e S1 => Ok (planB n e S1) (turn QS (InvPl d g l p h fl zs (i + 1))) := by
  obtain ⟨x8, x9, x10, x11, hs, r, rfl, a, hat, lk, hr, hz, hgd⟩ := I
  have hi : i < zs.length := by have := (List.getElem?_eq_some_iff.mp hu).1; rwa [List.length_map] at this
  rw [List.getElem?_map, List.getElem?_eq_getElem hi] at hu
  cases hu
  unfold planB
  have kf : ∀ r, keyAt (plD fl h r) "flags" = some (.fl (fl.map U.str)) := fun r => by simp [plD]
  simp
  refine (take_ok hn a.dw ⟨by omega, by omega⟩).imp ?_
  rintro v S1 ⟨⟨k, rfl, hk⟩, h1⟩
  have a1 := a.dr h1
  simp only [q_eqI, Ok.ok, onB_bl]
  refine Ok.imp (P := fun v S2 => (∃ c, v = encC c ∧ GoodC fl c) ∧ Dr d g S S2) ?_ ?_
  · split
    · simp [a1.at', kf]
      refine (cond_ok hn a1.dw hf nd hl).imp ?_
      rintro v S2 ⟨hc, h2⟩
      exact ⟨hc, h1.trans h2⟩
    · simp only [Ok.ok]
      exact ⟨⟨[], rfl, by simp, by simp, by simp⟩, h1⟩
  rintro v S2 ⟨⟨c, rfl, hc⟩, h2⟩
  refine (take_ok hn h2.dw ⟨by omega, by omega⟩).imp ?_
  rintro v S3 ⟨⟨m, rfl, hm⟩, h3⟩
  have a3 := (a.dr h2).dr h3
  have D03 := h2.trans h3
  simp only [q_addI, Ok.ok]
  rw [show (1 : Int) + (m : Int) = ((1 + m : Nat) : Int) by omega, rng_nat (by omega)]
  simp only [Ok.ok]
  refine comp_ok (rangeU 0 (1 + m)) (fun j S' acc => InvRw d g p fl h r (1 + m) S3 j S' acc) (by rw [range_len]; omega) ⟨[], r, rfl, rfl, rfl, fun i w hw => by simp at hw, .refl a3⟩ (fun _ _ _ _ => rfl) ?_ ?_
  · rintro j v S4 acc hv ⟨rows, r4, rfl, hrl, hr4, hrw, h4⟩
    have hj : j < 1 + m := by have := (List.getElem?_eq_some_iff.mp hv).1; rwa [range_len] at this
    have ev : v = .int (j : Nat) := by
      have := hv
      rw [range_get hj] at this
      exact (Option.some.inj this).symm
    subst ev
    refine ⟨_, rfl, ?_⟩
    have el : (1 : Int) + (m : Int) - (j : Int) - 1 = ((1 + m - j - 1 : Nat) : Int) := by omega
    simp only [q_yes, Ok.ok, if_true]
    simp
    rw [el]
    refine (row_ok hn h4.pl hf nd hl (by omega)).imp ?_
    rintro v S5 ⟨⟨w, r5, rfl, hw, hr5, h5⟩⟩
    refine ⟨Nat.lt_of_le_of_lt (show rows.length ≤ 10 by omega) (by decide), rows ++ [w], r5, by simp, by simp [hrl], ?_, ?_, h4.trans h5⟩
    · rw [List.map_append, List.sum_append]
      simp
      omega
    · intro i x hx
      rw [List.getElem?_append] at hx
      split at hx
      · exact hrw i x hx
      · have hi0 : i - rows.length = 0 := by
          have := (List.getElem?_eq_some_iff.mp hx).1
          simpa using this
        rw [hi0] at hx
        simp at hx
        subst hx
        have : i = j := by omega
        subst this
        exact hw
  · rintro S4 acc ⟨rows, r4, rfl, hrl, hr4, hrw, h4⟩
    rw [range_len] at hrl
    have hat4 : S4.dct h = some (hs.map fun p => (p.1, encHL p.2)) := by
      unfold Sto.dct
      rw [h4.get h hd hg hp, D03.get h hd hg]
      exact hat
    have hlk4 : S4.lk = [] := by rw [h4.lk, D03.lk, lk]
    have hsl : hs.length = i := by
      have := congrArg List.length hz
      rw [List.length_map, List.length_take] at this
      omega
    have hnew : ∀ q ∈ hs.map (fun p => (p.1, encHL p.2)), q.1 ≠ zs[i] := by
      intro q hq z
      obtain ⟨q', hq', rfl⟩ := List.mem_map.mp hq
      have m1 : q'.1 ∈ zs.take i := by rw [← hz]; exact List.mem_map.mpr ⟨q', hq', rfl⟩
      simp only at z
      rw [z] at m1
      obtain ⟨k', hk', e'⟩ := List.mem_take_iff_getElem.mp m1
      exact List.pairwise_iff_getElem.mp (List.nodup_iff_pairwise_ne.mp znd) k' i (by omega) hi (by omega) e'
    have hz4 : hs.length < sizeLine := Nat.lt_of_le_of_lt (show hs.length ≤ 10 by omega) (by decide)
    simp [hat4, hlk4, hz4]
    rw [putKU_new hnew]
    refine ⟨_, _, _, _, hs ++ [(zs[i], ⟨c, rows⟩)], r4, rfl, ⟨h4.pl.dw.put hd hg, ?_, a.pd, a.pg, h4.pl.fr⟩, ?_, hlk4, ?_, ?_, ?_⟩
    · rw [dct_put_ne hp]
      exact h4.pl.at'
    · rw [dct_put (lt_of_get (dct_get.mp hat4)), List.map_append]
      rfl
    · unfold wls at hr ⊢
      rw [List.map_append, List.sum_append]
      simp
      omega
    · rw [List.map_append, hz, List.take_succ, List.getElem?_eq_getElem hi]
      rfl
    · intro q hq
      rcases List.mem_append.mp hq with hq | hq
      · exact hgd q hq
      · rw [List.mem_singleton.mp hq]
        refine ⟨hc, by show 1 ≤ rows.length; omega, by show rows.length ≤ 8; omega, fun i w hw => ?_⟩
        have := hrw i w hw
        rw [← hrl] at this
        exact this
theorem plan_eq : m__law_plan n =
  (sSeq (sAsg (xCall 2 (e__law_words n) (aCons (xVar 0) (aCons (x2 opAdd (xVar 1) (xVar 2)) aNil))) (gN 5))
  (sSeq (sAsg (xDisp (pAll [((xC (.str "flags")), (xSl (xVar 5) oNone (oSome (xCall 2 (e__law_take n) (aCons (xVar 0) (aCons (x2 opAdd (xVar 1) (xC (.int 1))) aNil)))))), ((xC (.str "handlers")), xD0), ((xC (.str "words")), (xNewF (lim (aCons (xC (.str "on")) (aCons (xC (.str "x")) (aCons (xC (.str "hello")) aNil))))))])) (gN 6))
  (sSeq (sAsg (xVar 4) (gSubI (xVar 6) (xC (.str "room"))))
  (sSeq (sIf (xAnd (x2 opNe (x2 opIx (xVar 6) (xC (.str "flags"))) (xNewF (lim aNil))) (x2 opEq (xCall 2 (e__law_take n) (aCons (xVar 0) (aCons (xC (.int 3)) aNil))) (xC (.int 0))))
  (sAsg (x2 opIx (xVar 5) (xC (.int 0))) (gSubI (xVar 5) (xVar 1)))
  sNil)
  (planR n))))) := rfl
theorem planR_ok (hn : 100 ≤ n) {l : Nat} {ls : List Str} (a : PlA d g p fl h 6 S1) (hh : S1.dct h = some []) (hls : S1.lst l = some (ls.map U.str)) (lk : S1.lk = []) (l7 : ls.length = 7) (znd : (ls.drop 3).Nodup) (znm : ∀ x ∈ ls, nameB x = true) (hf : ∀ x ∈ fl, nameB x = true) (nd : fl.Nodup) (hl : fl.length ≤ 4) (hd : h ≠ d) (hg : h ≠ g) (hp : h ≠ p) (p0 : S.objs.length ≤ p) (ld : l ≠ d) (lg : l ≠ g) :
    Ok (planR n [some (.ref d), some (.int 3), some (.int 4), some (.int 7), some (.int 6), some (.ref l), some (.ref p), none, none, none, none, none] S1) fun f S2 => Ok (endF f S2) fun u S3 => Ok (gcR S (.ok u S3)) (PlanQ d g) := by
  unfold planR
  have kh : ∀ r, keyAt (plD fl h r) "handlers" = some (.ref h) := fun r => by simp [plD]
  simp [a.at', kh]
  refine (take_ok hn a.dw ⟨by omega, by omega⟩).imp ?_
  rintro u S2 ⟨⟨k, rfl, hk⟩, h2⟩
  have hls2 : S2.lst l = some (ls.map U.str) := by rw [h2.lst ld lg]; exact hls
  have ec := cut_mid (xs := ls) l7 (k := k) (by omega)
  have e4 : (3 : Int) + 1 = 4 := rfl
  rw [e4] at ec
  obtain ⟨zs, hzs⟩ : ∃ zs, zs = (ls.drop 3).take (k + 1) := ⟨_, rfl⟩
  rw [← hzs] at ec
  have zl : zs.length = k + 1 := by rw [hzs, List.length_take, List.length_drop]; omega
  have znd' : zs.Nodup := by rw [hzs]; exact znd.sublist (List.take_sublist _ _)
  simp [hls2, ec]
  refine for_ok (zs.map U.str) (InvPl d g l p h fl zs) (by rw [List.length_map]; omega) ⟨none, none, none, none, [], 6, rfl, a.dr h2, by rw [h2.dct hd hg]; exact hh, by rw [h2.lk, lk], rfl, rfl, by simp⟩ (fun _ _ _ _ => rfl) (fun i u env S hu I => planB_ok hn (by omega) znd' hf nd hl hd hg hp hu I) ?_
  rintro env S3 ⟨x8, x9, x10, x11, hs, r, rfl, a3, hat, lk3, hr, hz, hgd⟩
  rw [List.length_map, List.take_length] at hz
  simp [frz_dct a3.at']
  rw [gc_ref p0]
  have hsl : hs.length = k + 1 := by
    have := congrArg List.length hz
    rw [List.length_map] at this
    omega
  refine ⟨⟨p, fl, h, hs, rfl, ⟨⟨r, a3⟩, hat, hd, hg, hp, lk3⟩, ⟨nd, hl, hf, by rw [hz]; exact znd', by omega, by omega, fun q hq => ?_, hgd, by rw [wls_places]; omega⟩⟩⟩
  have : q.1 ∈ zs := by rw [← hz]; exact List.mem_map.mpr ⟨q, hq, rfl⟩
  rw [hzs] at this
  exact znm _ (List.mem_of_mem_drop (List.mem_of_mem_take this))
theorem plan_ok (hn : 100 ≤ n) (D : Dw d g S) (hlk : S.lk = []) : Ok (e__law_plan n [.ref d, .int 3, .int 4, .int 7, .int 6] S) (PlanQ d g) := by
  have hdl := D.dlt
  have hgl := D.glt
  unfold e__law_plan
  rw [plan_eq, q_fnG]
  apply Ok.gc
  simp
  refine (words_ok (k := 7) hn D (by omega)).imp ?_
  rintro u S1 ⟨⟨ys, T, rfl, hT, rfl, yl, ynd, ynm⟩⟩
  have dT := hT.dw.ext (Ext.push (o := .lst (ys.map U.str)))
  simp
  refine (take_ok hn dT ⟨by omega, by omega⟩).imp ?_
  rintro u S2 ⟨⟨k, rfl, hk⟩, h2⟩
  obtain ⟨hT2, e2⟩ := h2.cut (by rw [hT.len]; exact hdl) (by rw [hT.len]; exact hgl)
  obtain ⟨T2, hT2e⟩ : ∃ T2, T2 = S2.cut T.objs.length := ⟨_, rfl⟩
  rw [← hT2e] at hT2 e2
  have lT2 : T2.objs.length = S.objs.length := by rw [hT2.len, hT.len]
  have m2 : S2.lst S.objs.length = some (ys.map U.str) := by rw [e2, ← lT2]; exact lst_new
  have n2 : S2.objs.length = S.objs.length + 1 := by rw [e2, len_push, lT2]
  obtain ⟨fl, hfl⟩ : ∃ fl, fl = ys.take k := ⟨_, rfl⟩
  have ec : cutL (ys.map U.str) none (some (k : Int)) = fl.map U.str := by rw [hfl]; exact cut_front
  have em : ∀ x : U, mergeU [(Str.ofString "flags", U.fl (fl.map U.str)), (Str.ofString "handlers", x), (Str.ofString "words", U.fl [U.str (Str.ofString "on"), U.str (Str.ofString "x"), U.str (Str.ofString "hello")])] = [(Str.ofString "flags", U.fl (fl.map U.str)), (Str.ofString "handlers", x), (Str.ofString "words", U.fl [U.str (Str.ofString "on"), U.str (Str.ofString "x"), U.str (Str.ofString "hello")])] := fun x => by
    unfold mergeU
    simp [putKU]
  have ep : ∀ x : Nat, putKU (Str.ofString "room") (U.int 6) [(Str.ofString "flags", U.fl (fl.map U.str)), (Str.ofString "handlers", .ref x), (Str.ofString "words", U.fl [U.str (Str.ofString "on"), U.str (Str.ofString "x"), U.str (Str.ofString "hello")])] = plD fl x 6 := fun x => by
    unfold plD
    simp [putKU]
  have lk2 : S2.lk = [] := by rw [h2.lk]; show T.lk = []; rw [hT.lk, hlk]
  have s3 : (3 < sizeLine) = True := eq_true (by decide)
  simp [m2, ec, em, ep, lk2, s3]
  have ns : ∀ {o o' : O}, ((S2.push o).push o').objs.length = S2.objs.length + 2 := by simp
  rw [show ((S2.push (O.dct [])).push (O.dct [(Str.ofString "flags", U.fl (fl.map U.str)), (Str.ofString "handlers", .ref S2.objs.length), (Str.ofString "words", U.fl [U.str (Str.ofString "on"), U.str (Str.ofString "x"), U.str (Str.ofString "hello")])])).put (S2.objs.length + 1) (.dct (plD fl S2.objs.length 6)) = (S2.push (O.dct [])).push (.dct (plD fl S2.objs.length 6)) from by rw [← len_push (S := S2) (o := O.dct []), put_push]]
  have ev2 : PlA d g (S2.objs.length + 1) fl S2.objs.length 6 ((S2.push (O.dct [])).push (.dct (plD fl S2.objs.length 6))) := ⟨h2.dw.ext (Ext.push.trans Ext.push), by rw [← len_push (S := S2) (o := O.dct [])]; exact dct_new, by omega, by omega, by rw [show ((S2.push (O.dct [])).push (.dct (plD fl S2.objs.length 6))).lk = S2.lk from rfl, lk2]; simp⟩
  have lst3 : ((S2.push (O.dct [])).push (.dct (plD fl S2.objs.length 6))).lst S.objs.length = some (ys.map U.str) := by rw [lst_push (by rw [len_push]; omega), lst_push (by omega)]; exact m2
  have dct3 : ((S2.push (O.dct [])).push (.dct (plD fl S2.objs.length 6))).dct S2.objs.length = some [] := by rw [dct_push (by rw [len_push]; omega)]; exact dct_new
  have lk3 : ((S2.push (O.dct [])).push (.dct (plD fl S2.objs.length 6))).lk = [] := lk2
  obtain ⟨S3, hS3⟩ : ∃ S3, S3 = ((S2.push (O.dct [])).push (.dct (plD fl S2.objs.length 6))) := ⟨_, rfl⟩
  rw [← hS3] at ev2 lst3 dct3 lk3 ⊢
  have hf : ∀ x ∈ fl, nameB x = true := fun x hx => ynm x (by rw [hfl] at hx; exact List.mem_of_mem_take hx)
  have fnd : fl.Nodup := by rw [hfl]; exact ynd.sublist (List.take_sublist _ _)
  have fln : fl.length ≤ 4 := by rw [hfl, List.length_take]; omega
  have kf : ∀ r x, keyAt (plD fl x r) "flags" = some (.fl (fl.map U.str)) := fun r x => by simp [plD]
  have ene := ne_nil (α := Str) (S := S3) (xs := fl) (u := .fl (fl.map U.str)) (str_rd hf)
  simp [ev2.at', kf, ene]
  have go := fun (S4 : Sto) (h4 : Dr d g S3 S4) => planR_ok (S := S) hn (ev2.dr h4) (by rw [h4.dct (by omega) (by omega)]; exact dct3) (by rw [h4.lst (i := S.objs.length) (by omega) (by omega)]; exact lst3) (by rw [h4.lk, lk3]) yl (ynd.sublist (List.drop_sublist _ _)) ynm hf fnd fln (by omega) (by omega) (by omega) (by omega) (by omega) (by omega)
  by_cases hE : fl = []
  · simp [hE]
    exact go S3 (.refl ev2.dw)
  · simp [hE]
    refine (take_ok hn ev2.dw ⟨by omega, by omega⟩).imp ?_
    rintro u S4 ⟨⟨m, rfl, hm⟩, h4⟩
    by_cases m0 : m = 0
    · subst m0
      have lst4 : S4.lst S.objs.length = some (ys.map U.str) := by rw [h4.lst (by omega) (by omega)]; exact lst3
      obtain ⟨a0, a1, a2, a3, a4, a5, a6, hys⟩ : ∃ a0 a1 a2 a3 a4 a5 a6, ys = [a0, a1, a2, a3, a4, a5, a6] := by
        match ys, yl with
        | [a0, a1, a2, a3, a4, a5, a6], _ => exact ⟨a0, a1, a2, a3, a4, a5, a6, rfl⟩
      have est : stU (.ref S.objs.length) (.int 3) (.str a0) S4 = .ok () (S4.put S.objs.length (.lst ([a0, a1, a2, a0, a4, a5, a6].map U.str))) := by
        rw [hys] at lst4
        exact q_stL (k := 3) lst4 (by simp)
      have e0 : L2.atI (ys.map U.str) 0 = some (.str a0) := by rw [hys]; rfl
      simp [lst4, e0, est]
      have a4' := ev2.dr h4
      refine planR_ok (S := S) (ls := [a0, a1, a2, a0, a4, a5, a6]) hn ⟨a4'.dw.put (by omega) (by omega), by rw [dct_put_ne (by omega)]; exact a4'.at', a4'.pd, a4'.pg, a4'.fr⟩ (by rw [dct_put_ne (by omega), h4.dct (by omega) (by omega)]; exact dct3) (lst_put (by rw [h4.len, hS3, len_push, len_push]; omega)) (by show S4.lk = []; rw [h4.lk, lk3]) rfl ?_ ?_ hf fnd fln (by omega) (by omega) (by omega) (by omega) (by omega) (by omega)
      · rw [hys] at ynd
        simp at ynd ⊢
        simp [ynd]
      · intro x hx
        refine ynm x ?_
        rw [hys]
        simp at hx ⊢
        rcases hx with h | h | h | h | h | h | h <;> simp [h]
    · simp [m0]
      exact go S4 h4
end
end Gn
set_option Elab.async false
set_option linter.all false
set_option maxRecDepth 100000
set_option maxHeartbeats 1000000
namespace Gn
open PySem VI
section
variable {d g p h r : Nat} {S S1 S2 : Sto} {n : Nat} {fl : List Str} {hs : List (Str × Hd)}
theorem range_zip {α : Type} : ∀ {xs : List α}, xs.zipIdx.map (fun q => U.int (q.2 : Nat)) = rangeU 0 xs.length := by
  intro xs
  have e : xs.zipIdx.map (fun q => U.int (q.2 : Nat)) = (xs.zipIdx.map Prod.snd).map fun i => U.int (i : Nat) := by rw [List.map_map]; rfl
  rw [e, List.zipIdx_map_snd]
  apply List.ext_getElem?
  intro i
  by_cases hi : i < xs.length
  · rw [range_get hi]
    simp [hi]
  · rw [List.getElem?_eq_none (by simp; omega), List.getElem?_eq_none (by rw [range_len]; omega)]
theorem lplc (hn : 100 ≤ n) {w k : Str} {rows : List Row} (hr : rows.length ≤ 8) {a c : U} :
    cLoop (nxL (rangeU 0 rows.length)) (.one 5) (bOf (x2 opEq (x2 opIx (x2 opIx (xVar 4) (xVar 5)) (xC (.int 0))) (xVar 1))) (xTup (aCons (xVar 3) (aCons (xVar 5) aNil))) n 0 [some a, some (.str w), some c, some (.str k), some (.fl (rows.map encRow)), none] S [] = .ok ((plc w (k, ⟨[], rows⟩)).map encP) S := by
  rw [← range_zip, comp_eq (fun q : Row × Nat => U.int (q.2 : Nat)) (fun q => decide (q.1.word = w)) (fun q => encP (k, q.2)) rows.zipIdx (by rw [List.length_zipIdx]; omega) (by rw [List.length_zipIdx]; exact szL (by omega))]
  · unfold plc
    rw [List.map_map]
    rfl
  · intro q hq
    refine ⟨_, rfl, ?_, fun _ => ?_⟩
    · obtain ⟨us, e⟩ := word_eq q.1
      have hg : rows[q.2]? = some q.1 := List.mem_zipIdx_iff_getElem?.mp hq
      have ha : L2.atI (rows.map encRow) (q.2 : Int) = some (encRow q.1) := by
        rw [L2.atI_nat]
        rw [List.getElem?_map, hg]
        rfl
      simp [ha, e]
    · simp [encP]
theorem placesOf_sort (nd : (hs.map (·.1)).Nodup) {w : Str} : placesOf (sortHs hs) w = (sortS (hs.map (·.1))).flatMap fun k => plc w (k, ⟨[], (hdOf hs k).rows⟩) := by
  unfold placesOf sortHs
  rw [List.flatMap_map]
  congr 1
  funext k
  rw [plc_sort (p := (k, hdOf hs k))]
  rfl
theorem law_places_ok (hn : 100 ≤ n) (A : PlanAt d g p fl h hs S) (G : GoodP fl hs) {w : Str} : e__law_places n [.ref p, .str w] S = .ok (.fl ((placesOf (mkP fl hs).hs w).map encP)) S := by
  obtain ⟨r, a⟩ := A.pl
  have kh : keyAt (plD fl h r) "handlers" = some (.ref h) := by simp [plD]
  have h64 : hs.length < 64 := by have := G.hfew; omega
  unfold e__law_places m__law_places
  simp [a.at', kh, A.hat, h64]
  have ek0 : (hs.map ((fun x : Str × U => x.1) ∘ fun p : Str × Hd => (p.1, encHL p.2))) = hs.map (·.1) := rfl
  rw [ek0]
  obtain ⟨ks, hks⟩ : ∃ ks, ks = sortS (hs.map (·.1)) := ⟨_, rfl⟩
  have kl : ks.length = hs.length := by rw [hks, sortS_len, List.length_map]
  have fewl : ∀ i, ((ks.take i).flatMap fun k => plc w (k, ⟨[], (hdOf hs k).rows⟩)).length ≤ 1000 := by
    intro i
    have hall : ∀ (zs : List Str), (∀ k ∈ zs, k ∈ hs.map (·.1)) → (zs.flatMap fun k => plc w (k, ⟨[], (hdOf hs k).rows⟩)).length ≤ 8 * zs.length := by
      intro zs
      induction zs with
      | nil => intro _; simp
      | cons z zs ih =>
        intro hz
        have := ih fun k hk => hz k (by simp [hk])
        rw [List.flatMap_cons, List.length_append, List.length_cons]
        obtain ⟨q, hq, rfl⟩ := List.mem_map.mp (hz z (by simp))
        have h1 := plc_len (w := w) (p := (q.1, ⟨[], (hdOf hs q.1).rows⟩)) (by rw [hdOf_mem G.hnd hq]; exact (G.hgood q hq).few)
        omega
    have h1 := hall (ks.take i) fun k hk => by rw [← sortS_mem, ← hks]; exact List.mem_of_mem_take hk
    rw [List.length_take] at h1
    have := G.hfew
    omega
  rw [← hks]
  obtain ⟨env', e1, x3, x4, x5, rfl⟩ := for_eq U.str ks (fun i env => ∃ x3 x4 x5, env = [some (.ref p), some (.str w), some (.fl (((ks.take i).flatMap fun k => plc w (k, ⟨[], (hdOf hs k).rows⟩)).map encP)), x3, x4, x5]) (n := n) (S := S) (g := gN 3) (b := (sSeq (sAsg (x2 opIx (x2 opIx (x2 opIx (xVar 0) (xC (.str "handlers"))) (xVar 3)) (xC (.int 1))) (gN 4))
  (sAsg (x2 opAdd (xVar 2) (xNewF (nComp n [5] (iRange1 (aCons (xB bLen (aCons (xVar 4) aNil)) aNil)) (.one 5) (bOf (x2 opEq (x2 opIx (x2 opIx (xVar 4) (xVar 5)) (xC (.int 0))) (xVar 1))) (xTup (aCons (xVar 3) (aCons (xVar 5) aNil)))))) (gN 2)))) (env := [some (.ref p), some (.str w), some (.fl []), none, none, none]) (by omega) ⟨none, none, none, rfl⟩ (by
    rintro i k env hk ⟨x3, x4, x5, rfl⟩
    have hkm : k ∈ hs.map (·.1) := by rw [← sortS_mem, ← hks]; exact List.mem_of_getElem? hk
    obtain ⟨q, hq, rfl⟩ := List.mem_map.mp hkm
    have ek : keyAt (hs.map fun p => (p.1, encHL p.2)) q.1 = some (encHL q.2) := keyAt_map (k := fun p => p.1) (v := fun p => encHL p.2) G.hnd hq
    have hr := (G.hgood q hq).few
    refine ⟨_, rfl, ?_⟩
    have e1 : L2.atI [encC q.2.guard, U.fl (q.2.rows.map encRow)] 1 = some (U.fl (q.2.rows.map encRow)) := rfl
    have ehl : encHL q.2 = .tup [encC q.2.guard, .fl (q.2.rows.map encRow)] := rfl
    have hi : i < ks.length := (List.getElem?_eq_some_iff.mp hk).1
    have eq : ((ks.take (i + 1)).flatMap fun k => plc w (k, ⟨[], (hdOf hs k).rows⟩)) = ((ks.take i).flatMap fun k => plc w (k, ⟨[], (hdOf hs k).rows⟩)) ++ plc w (q.1, ⟨[], q.2.rows⟩) := by
      rw [List.take_succ, hk, List.flatMap_append]
      simp [hdOf_mem G.hnd hq]
    have h1 := fewl (i + 1)
    rw [eq, List.length_append] at h1
    have h2 := szL h1
    obtain ⟨pre, hpre⟩ : ∃ pre, pre = ((ks.take i).flatMap fun k => plc w (k, ⟨[], (hdOf hs k).rows⟩)) := ⟨_, rfl⟩
    obtain ⟨post, hpost⟩ : ∃ post, post = plc w (q.1, ⟨[], q.2.rows⟩) := ⟨_, rfl⟩
    rw [← hpre, ← hpost] at h2
    simp only [eq]
    rw [← hpre, ← hpost]
    simp [a.at', kh, A.hat, ek]
    simp [ehl, e1, rng_nat (show q.2.rows.length ≤ 1000000 by omega), lplc hn hr, ← hpost, h2])
  rw [e1]
  simp
  rw [hks]
  show _ = (placesOf (sortHs hs) w).map encP
  rw [placesOf_sort G.hnd]
end
end Gn
set_option Elab.async false
set_option linter.all false
set_option maxRecDepth 100000
set_option maxHeartbeats 1000000
namespace Gn
open PySem VI
section
variable {d g p h r : Nat} {S S1 S2 : Sto} {n : Nat} {fl : List Str} {hs : List (Str × Hd)}
theorem zip_lt {α : Type} : ∀ {xs : List α} {k : Nat}, (xs.zipIdx k).Pairwise fun a b => a.2 < b.2
  | [], k => by simp
  | x :: xs, k => by
    rw [List.zipIdx_cons, List.pairwise_cons]
    refine ⟨fun q hq => ?_, zip_lt⟩
    have := List.le_snd_of_mem_zipIdx hq
    simp at this ⊢
    omega
theorem plc_lt {w : Str} {p : Str × Hd} : (plc w p).Pairwise fun a b => ltP a b = true := by
  unfold plc
  rw [List.pairwise_map]
  refine (zip_lt.filter _).imp ?_
  intro a b hab
  simp [ltP, hab]
theorem places_lt {ks : List Str} {f : Str → List Place} (hk : ks.Pairwise fun a b => a.cps.toList < b.cps.toList) (hf : ∀ k ∈ ks, (f k).Pairwise fun a b => ltP a b = true) (hn : ∀ k ∈ ks, ∀ q ∈ f k, q.1 = k) : (ks.flatMap f).Pairwise fun a b => ltP a b = true := by
  induction ks with
  | nil => simp
  | cons k ks ih =>
    obtain ⟨h1, h2⟩ := List.pairwise_cons.mp hk
    rw [List.flatMap_cons, List.pairwise_append]
    refine ⟨hf k (by simp), ih h2 (fun x hx => hf x (by simp [hx])) fun x hx => hn x (by simp [hx]), fun a ha b hb => ?_⟩
    obtain ⟨x, hx, hb⟩ := List.mem_flatMap.mp hb
    have e1 := hn k (by simp) a ha
    have e2 := hn x (by simp [hx]) b hb
    have := h1 x hx
    simp [ltP, e1, e2, this]
theorem plan_lt (G : GoodP fl hs) {w : Str} : (placesOf (mkP fl hs).hs w).Pairwise fun a b => ltP a b = true := by
  show (placesOf (sortHs hs) w).Pairwise _
  rw [placesOf_sort G.hnd]
  refine places_lt (sortS_lt G.hnd) (fun k _ => plc_lt) fun k _ q hq => ?_
  unfold plc at hq
  obtain ⟨x, _, rfl⟩ := List.mem_map.mp hq
  rfl
/-- some of a list, by draws -/
structure SubQ {α : Type} (d g : Nat) (enc : α → U) (xs : List α) (S : Sto) (acc : List U) (S' : Sto) : Prop where
  ex : ∃ ys : List α, acc = ys.map enc ∧ ys.Sublist xs ∧ Dr d g S S'
theorem sub_ok {α : Type} (hn : 100 ≤ n) (D : Dw d g S) {enc : α → U} {xs : List α} (hl : xs.length ≤ 60) {i : Nat} {env : VI.Env} (hi : i < env.length) (hi0 : i ≠ 0) (he : env[0]? = some (some (.ref d))) : Ok (cLoop (nxL (xs.map enc)) (.one i) (bOf (x2 opEq (xCall 2 (e__law_take n) (aCons (xVar 0) (aCons (xC (.int 2)) aNil))) (xC (.int 0)))) (xVar i) n 0 env S []) (SubQ d g enc xs S) := by
  refine comp_ok (xs.map enc) (fun j S' acc => ∃ ys : List α, acc = ys.map enc ∧ ys.Sublist (xs.take j) ∧ Dr d g S S') (by rw [List.length_map]; omega) ⟨[], rfl, by simp, .refl D⟩ (fun _ _ _ _ => rfl) ?_ ?_
  · rintro j u S1 acc hu ⟨ys, rfl, hy, h1⟩
    have hj := (List.getElem?_eq_some_iff.mp hu).1
    rw [List.length_map] at hj
    rw [List.getElem?_map, List.getElem?_eq_getElem hj] at hu
    cases hu
    refine ⟨env.set i (some (enc xs[j])), ?_, ?_⟩
    · simp [Tg.set]
    · have e0 : (env.set i (some (enc xs[j])))[0]? = some (some (.ref d)) := by rw [List.getElem?_set_ne hi0]; exact he
      have ei : (env.set i (some (enc xs[j])))[i]? = some (some (enc xs[j])) := by rw [List.getElem?_set_self hi]
      simp [e0, ei]
      refine (take_ok hn h1.dw ⟨by omega, by omega⟩).imp ?_
      rintro v S2 ⟨⟨m, rfl, hm⟩, h2⟩
      simp
      have hyl : ys.length ≤ 60 := Nat.le_trans hy.length_le (by rw [List.length_take]; omega)
      have et : xs.take (j + 1) = xs.take j ++ [xs[j]] := by rw [List.take_succ, List.getElem?_eq_getElem hj]; rfl
      by_cases m0 : m = 0
      · simp [m0, e0, ei]
        refine ⟨Nat.lt_of_le_of_lt hyl (by decide), ys ++ [xs[j]], by simp, ?_, h1.trans h2⟩
        rw [et]
        exact hy.append (List.Sublist.refl _)
      · simp [m0]
        refine ⟨ys, rfl, ?_, h1.trans h2⟩
        rw [et]
        exact hy.trans (List.sublist_append_left _ _)
  · rintro S1 acc ⟨ys, rfl, hy, h1⟩
    rw [List.length_map, List.take_length] at hy
    exact ⟨⟨ys, rfl, hy, h1⟩⟩
structure StQ (d g : Nat) (P : Prog) (S : Sto) (u : U) (S' : Sto) : Prop where
  ex : ∃ s, u = encSt s ∧ StG P s ∧ Dr d g S S'
theorem any_state_ok (hn : 100 ≤ n) (A : PlanAt d g p fl h hs S) (G : GoodP fl hs) : Ok (e__law_any_state n [.ref d, .ref p] S) (StQ d g (mkP fl hs) S) := by
  obtain ⟨r, a⟩ := A.pl
  have kf : keyAt (plD fl h r) "flags" = some (.fl (fl.map U.str)) := by simp [plD]
  unfold e__law_any_state m__law_any_state
  rw [q_fnG]
  apply Ok.gc
  simp [a.at', kf]
  refine (sub_ok (enc := U.str) hn a.dw (by have := G.ffew; omega) (by simp) (by omega) rfl).imp ?_
  rintro acc S1 ⟨⟨on, rfl, hon, h1⟩⟩
  have ho : on.length ≤ 4 := Nat.le_trans hon.length_le G.ffew
  rw [sorted_strs (fun x hx => name_ok (G.fname x (hon.subset hx))) (szL (by omega))]
  have A1 : PlanAt d g p fl h hs S1 := ⟨⟨r, a.dr h1⟩, by rw [h1.dct A.hd A.hg]; exact A.hat, A.hd, A.hg, A.hp, by rw [h1.lk, A.lk]⟩
  simp [law_places_ok hn A1 G]
  have few := (mkP_good G).good.few
  refine (sub_ok (enc := encP) hn h1.dw (by omega) (by simp) (by omega) rfl).imp ?_
  rintro acc S2 ⟨⟨kept, rfl, hk, h2⟩⟩
  have h12 := h1.trans h2
  rw [gc_len h12.len]
  refine ⟨⟨⟨sortS on, kept⟩, rfl, ⟨fun x hx => ?_, sortS_lt (G.fnd.sublist hon), fun q hq => hk.subset hq, (plan_lt G).sublist hk⟩, h12⟩⟩
  show x ∈ sortS fl
  rw [sortS_mem] at hx ⊢
  exact hon.subset hx
end
end Gn
set_option Elab.async false
set_option linter.all false
set_option maxRecDepth 100000
set_option maxHeartbeats 1000000
namespace Gn
open PySem VI
section
variable {P : Prog} {L K : Lp} {be : List Place}
def markOk (x : Str) : Prop := PyData.strOk x = true
theorem plus_ok : markOk "+" := by unfold markOk; decide +kernel
theorem minus_ok : markOk "-" := by unfold markOk; decide +kernel
structure GoOk (P : Prog) (nx : Option (Str × Nat)) (L : Lp) (ms : List Str) (r : List Str × Lp) : Prop where
  good : LpG P r.2
  less : mu P none r.2 + r.2.lost.length ≤ mu P nx L + L.lost.length
  mark : (∀ x ∈ ms, markOk x) → ∀ x ∈ r.1, markOk x
  pre : ms <+: r.1
theorem look_marks {x : Str} (h : x ∈ (lookM P L).2.1) : markOk x := by
  unfold lookM at h
  split at h
  · simp at h
  · split at h
    · simp at h
    · split at h
      · simp at h; rw [h]; exact minus_ok
      · simp at h
theorem mu_none {nx : Option (Str × Nat)} : mu P none L ≤ mu P nx L := by unfold mu; simp
theorem goM_spec (G : PG P) : ∀ (k : Nat) (nx : Option (Str × Nat)) (L : Lp) (ms : List Str), LpG P L → NxG P nx → GoOk P nx L ms (goM P k nx L ms)
  | 0, nx, L, ms, hL, _ => ⟨hL, by show mu P none L + L.lost.length ≤ _; have := mu_none (P := P) (L := L) (nx := nx); omega, fun h => h, List.prefix_refl _⟩
  | k + 1, none, L, ms, hL, _ => ⟨hL, Nat.le_refl _, fun h => h, List.prefix_refl _⟩
  | k + 1, some (x, i), L, ms, hL, hx => by
    obtain ⟨h1, h2⟩ := hx x i rfl
    have ho := runM_spec G h1 (i := i) hL.st
    have hA := afterRun_good G h1 (i := i) hL
    have hm := afterRun_mu G h1 hL h2
    have hl := lookM_spec G hA
    have hn := look_len (P := P) (L := afterRun L (runM P x i L.st))
    have hal := (afterRun_len (L := L) (r := runM P x i L.st)).2
    have ih := goM_spec G k (rest? (lookM P (afterRun L (runM P x i L.st))).1) (lookM P (afterRun L (runM P x i L.st))).2.2 (ms ++ (runM P x i L.st).2.1 ++ (if (runM P x i L.st).2.2.1.isSome = true then ([("+" : Str)] : List Str) else []) ++ (lookM P (afterRun L (runM P x i L.st))).2.1) hl.good (nxRest G hA)
    refine ⟨ih.good, ?_, fun h => ih.mark ?_, ?_⟩
    · refine Nat.le_trans ih.less ?_
      rw [hl.same, hn.2.1]
      omega
    · intro y hy
      rcases List.mem_append.mp hy with hy | hy
      · rcases List.mem_append.mp hy with hy | hy
        · rcases List.mem_append.mp hy with hy | hy
          · exact h y hy
          · rcases ho.word y hy with z | z
            · simp at z
            · exact name_ok z
        · split at hy
          · simp at hy; rw [hy]; exact plus_ok
          · simp at hy
      · exact look_marks hy
    · refine List.IsPrefix.trans ?_ ih.pre
      rw [List.append_assoc, List.append_assoc]
      exact List.prefix_append _ _
/-- the great pile holds the small one on top -/
structure Sim (be : List Place) (L K : Lp) : Prop where
  pile : K.pile = be ++ L.pile
  st : K.st = L.st
theorem look_sim (h : Sim be L K) : ((lookM P K).1 = (lookM P L).1 ∧ (lookM P K).2.1 = (lookM P L).2.1 ∧ Sim be (lookM P L).2.2 (lookM P K).2.2) ∨ (L.pile = [] ∧ lookM P L = (none, [], L)) := by
  unfold lookM
  rw [h.st]
  cases hf : L.st.kept.find? fun p => tr (condAt P p) L.st with
  | some p => exact .inl ⟨rfl, rfl, h.pile, rfl⟩
  | none =>
    cases hl : L.pile.getLast? with
    | none => exact .inr ⟨List.getLast?_eq_none_iff.mp hl, rfl⟩
    | some p =>
      left
      have hk : K.pile.getLast? = some p := by rw [h.pile, List.getLast?_append, hl]; rfl
      rw [hk]
      dsimp only
      split
      · refine ⟨rfl, rfl, ?_, rfl⟩
        show K.pile.dropLast = be ++ L.pile.dropLast
        rw [h.pile, List.dropLast_append_of_ne_nil]
        intro z
        rw [z] at hl
        cases hl
      · exact ⟨rfl, rfl, h⟩
structure Agr (be : List Place) (a b : List Str × Lp) : Prop where
  on : a.2.pile ≠ [] → b.1 = a.1 ∧ Sim be a.2 b.2
  pre : a.1 <+: b.1
theorem goM_sim (G : PG P) : ∀ (k : Nat) (nx : Option (Str × Nat)) (L K : Lp) (ms : List Str), LpG P L → LpG P K → NxG P nx → Sim be L K → Agr be (goM P k nx L ms) (goM P k nx K ms)
  | 0, nx, L, K, ms, _, _, _, h => ⟨fun _ => ⟨rfl, h⟩, List.prefix_refl _⟩
  | k + 1, none, L, K, ms, _, _, _, h => ⟨fun _ => ⟨rfl, h⟩, List.prefix_refl _⟩
  | k + 1, some (x, i), L, K, ms, hL, hK, hx, h => by
    obtain ⟨h1, h2⟩ := hx x i rfl
    have hA := afterRun_good G h1 (i := i) hL
    have hB := afterRun_good G h1 (i := i) hK
    have hs : Sim be (afterRun L (runM P x i L.st)) (afterRun K (runM P x i K.st)) := by
      rw [h.st]
      refine ⟨?_, rfl⟩
      show K.pile ++ _ = be ++ (L.pile ++ _)
      rw [h.pile, List.append_assoc]
    have ea : goM P (k + 1) (some (x, i)) L ms = goM P k (rest? (lookM P (afterRun L (runM P x i L.st))).1) (lookM P (afterRun L (runM P x i L.st))).2.2 (ms ++ (runM P x i L.st).2.1 ++ (if (runM P x i L.st).2.2.1.isSome = true then ([("+" : Str)] : List Str) else []) ++ (lookM P (afterRun L (runM P x i L.st))).2.1) := rfl
    have eb : goM P (k + 1) (some (x, i)) K ms = goM P k (rest? (lookM P (afterRun K (runM P x i K.st))).1) (lookM P (afterRun K (runM P x i K.st))).2.2 (ms ++ (runM P x i K.st).2.1 ++ (if (runM P x i K.st).2.2.1.isSome = true then ([("+" : Str)] : List Str) else []) ++ (lookM P (afterRun K (runM P x i K.st))).2.1) := rfl
    have gL := lookM_spec G hA
    have gK := lookM_spec G hB
    have nA := nxRest G hA
    have nB := nxRest G hB
    rw [ea, eb]
    rcases look_sim (P := P) hs with ⟨e1, e2, e3⟩ | ⟨e1, e2⟩
    · rw [e1, e2, h.st]
      rw [h.st] at e1 e2 e3 gK
      exact goM_sim G k _ _ _ _ gL.good gK.good nA e3
    · rw [e2]
      show Agr be (goM P k none _ _) _
      rw [goM_none]
      refine ⟨fun z => absurd e1 z, ?_⟩
      refine List.IsPrefix.trans ?_ (goM_spec G k _ _ _ gK.good nB).pre
      rw [h.st, List.append_nil]
      exact List.prefix_append _ _
theorem goLook_sim (G : PG P) {n : Nat} (hL : LpG P L) (hK : LpG P K) (h : Sim be L K) : Agr be (goLook P n L) (goLook P n K) := by
  unfold goLook
  have gL := lookM_spec G hL
  have gK := lookM_spec G hK
  rcases look_sim (P := P) h with ⟨e1, e2, e3⟩ | ⟨e1, e2⟩
  · rw [e1, e2]
    exact goM_sim G n _ _ _ _ gL.good gK.good (nxRest G hL) e3
  · rw [e2]
    show Agr be (goM P n none _ _) _
    rw [goM_none]
    exact ⟨fun z => absurd e1 z, List.nil_prefix⟩
theorem goLook_spec (G : PG P) {n : Nat} (hL : LpG P L) : LpG P (goLook P n L).2 ∧ mu P none (goLook P n L).2 + (goLook P n L).2.lost.length ≤ mu P none L + L.lost.length ∧ ∀ x ∈ (goLook P n L).1, markOk x := by
  unfold goLook
  have gL := lookM_spec G hL
  have h := goM_spec G n (rest? (lookM P L).1) (lookM P L).2.2 (lookM P L).2.1 gL.good (nxRest G hL)
  refine ⟨h.good, ?_, h.mark fun x hx => look_marks hx⟩
  have := h.less
  rw [gL.same, look_len.2.1] at this
  exact this
theorem rows_le (G : PG P) {x : Str} (hx : x ∈ P.hs.map (·.1)) : (rowsAt P x).length ≤ 8 := (rows_good G hx).few
theorem goEv_spec (G : PG P) {n : Nat} (hL : LpG P L) {x : Str} (hx : x ∈ P.hs.map (·.1)) : LpG P (goEv P n x L).2 ∧ mu P none (goEv P n x L).2 + (goEv P n x L).2.lost.length ≤ mu P none L + L.lost.length + 9 ∧ ∀ y ∈ (goEv P n x L).1, markOk y := by
  unfold goEv
  have h := goM_spec G n (some (x, 0)) L [] hL (fun x' i e => by cases e; exact ⟨hx, Nat.zero_le _⟩)
  refine ⟨h.good, ?_, h.mark (by simp)⟩
  have h1 := h.less
  have h2 := rows_le G hx
  have : mu P (some (x, 0)) L ≤ mu P none L + 9 := by unfold mu; simp; omega
  omega
theorem goEv_sim (G : PG P) {n : Nat} (hL : LpG P L) (hK : LpG P K) (h : Sim be L K) {x : Str} (hx : x ∈ P.hs.map (·.1)) : Agr be (goEv P n x L) (goEv P n x K) := goM_sim G n _ _ _ _ hL hK (fun x' i e => by cases e; exact ⟨hx, Nat.zero_le _⟩) h
end
end Gn
set_option Elab.async false
set_option linter.all false
set_option maxRecDepth 100000
set_option maxHeartbeats 1000000
namespace Gn
open PySem VI
section
variable {P : Prog} {S : Sto} {n l l1 l2 q past p1 p2 : Nat} {rest r1 r2 : List (Str × U)} {L : Lp} {A B : List Str × Lp} {be : List Place}
theorem lenO_ok (hL : LAt S l q past rest L) (hz : L.pile.length ≤ 1000000) : lenO "Loop" (e_Loopzz_lenzz n) [.ref l] S = .ok (.int L.pile.length) S := by
  unfold lenO
  have hC : isC "Loop" (.ref l) S = true := isC_of hL
  have hg : 0 ≤ (L.pile.length : Int) ∧ (L.pile.length : Int).natAbs < 2 ^ 63 := ⟨by omega, by omega⟩
  simp only [hC, if_true, e_len_ok hL]
  show (if 0 ≤ (L.pile.length : Int) ∧ (L.pile.length : Int).natAbs < 2 ^ 63 then _ else _) = _
  rw [if_pos hg]
theorem eq_strs {xs ys : List Str} (hx : ∀ x ∈ xs, markOk x) (hy : ∀ x ∈ ys, markOk x) : opEq (.tup (xs.map U.str)) (.tup (ys.map U.str)) S = .ok (.bl (decide (xs = ys))) S :=
  opEq_dat (α := List Str) (a := xs) (b := ys) hx hy (by show 1 ≤ 60; omega)
theorem eq_pls {xs ys : List Place} (hx : ∀ p ∈ xs, PyData.strOk p.1 = true) (hy : ∀ p ∈ ys, PyData.strOk p.1 = true) : opEq (.tup (xs.map encP)) (.tup (ys.map encP)) S = .ok (.bl (decide (xs = ys))) S :=
  opEq_dat (α := List (Str × Nat)) (a := xs) (b := ys) (fun p hp => ⟨hx p hp, trivial⟩) (fun p hp => ⟨hy p hp, trivial⟩) (by show 2 ≤ 60; omega)
theorem eq_sts {s : Stt} (h1 : ∀ x ∈ s.on, PyData.strOk x = true) (h2 : ∀ p ∈ s.kept, PyData.strOk p.1 = true) : opEq (encSt s) (encSt s) S = .ok (.bl true) S := by
  have := opEq_dat (S := S) (α := List Str × List (Str × Nat)) (a := (s.on, s.kept)) (b := (s.on, s.kept)) ⟨h1, fun p hp => ⟨h2 p hp, trivial⟩⟩ ⟨h1, fun p hp => ⟨h2 p hp, trivial⟩⟩ (by show 4 ≤ 60; omega)
  rw [decide_eq_true rfl] at this
  exact this
theorem agree_ok (G : PG P) (h1 : LAt S l1 q p1 r1 A.2) (h2 : LAt S l2 q p2 r2 B.2) (gA : LpG P A.2) (mA : ∀ x ∈ A.1, markOk x) (mB : ∀ x ∈ B.1, markOk x) (h : Agr be A B) (hbe : ∀ p ∈ be, p ∈ placesOf P.hs "wait") (z1 : A.2.pile.length ≤ 500) (z2 : be.length ≤ 100) :
    e__law_agree n [.ref l1, .ref l2, .tup (be.map encP), .tup (A.1.map U.str), .tup (B.1.map U.str)] S = .ok (.bl true) S := by
  have c1 : isC "Loop" (.ref l1) S = true := isC_of h1
  have c2 : isC "Loop" (.ref l2) S = true := isC_of h2
  unfold e__law_agree m__law_agree
  by_cases h0 : A.2.pile = []
  · have hl := lenO_ok (n := n) h1 (by omega)
    rw [h0] at hl
    have e1 : cutL (B.1.map U.str) none (some (A.1.length : Int)) = A.1.map U.str := by
      rw [cut_front, ← List.prefix_iff_eq_take.mp h.pre]
    simp [hl, e1, eq_strs mA mA]
  · have hl := lenO_ok (n := n) h1 (by omega)
    obtain ⟨e1, e2⟩ := h.on h0
    have hp : ¬ (A.2.pile.length : Int) = 0 := by
      cases hh : A.2.pile with
      | nil => exact absurd hh h0
      | cons => simp; omega
    have hz : be.length + A.2.pile.length ≤ sizeLine := szL (by omega)
    have hpl : ∀ p ∈ be ++ A.2.pile, PyData.strOk p.1 = true := fun p hp => by
      rcases List.mem_append.mp hp with hp | hp
      · exact place_ok G (hbe p hp)
      · exact place_ok G (gA.pile p hp)
    have es := eq_sts (S := S) (s := A.2.st) (fun x hx => name_ok (G.good.fname x (gA.st.on x hx))) (fun p hp => place_ok G (gA.st.kept p hp))
    have ep := eq_pls (S := S) hpl hpl
    rw [List.map_append] at ep
    simp [hl, h0, c1, c2, e_state_ok h1, e_state_ok h2, e_pile_ok h1, e_pile_ok h2, e1, e2.st, e2.pile, es, ep, eq_strs mA mA, hz]
end
end Gn
set_option Elab.async false
set_option linter.all false
set_option maxRecDepth 100000
set_option maxHeartbeats 1000000
namespace Gn
open PySem VI
noncomputable def lawL (n : Nat) : MS :=
  (sSeq (sAsg (xCall 2 (e_possible n) (aCons (xVar 4) (aCons (xProp "Loop" (e_Loop_state n) (xVar 10)) aNil))) (gN 13))
  (sSeq (sIf (xOr (x2 opEq (xB bLen (aCons (xVar 13) aNil)) (xC (.int 0))) (x2 opEq (xB (lenO "Loop" (e_Loopzz_lenzz n)) (aCons (xVar 10) aNil)) (xC (.int 0))))
  sBrk
  sNil)
  (sSeq (sAsg (xCall 2 (e__law_pick n) (aCons (xVar 1) (aCons (xVar 13) aNil))) (gN 14))
  (sIf (xNot (xCall 5 (e__law_agree n) (aCons (xVar 10) (aCons (xVar 11) (aCons (xVar 9) (aCons (xCallO "Loop" 2 (e_Loopzz_callzz n) (xVar 10) (aCons (xVar 14) aNil)) (aCons (xCallO "Loop" 2 (e_Loopzz_callzz n) (xVar 11) (aCons (xVar 14) aNil)) aNil)))))))
  (sRet (xC (.bl false)))
  sNil))))
noncomputable def lawB (n : Nat) : MS :=
  (sSeq (sAsg (xCall 5 (e__law_plan n) (aCons (xVar 1) (aCons (xC (.int 3)) (aCons (xC (.int 4)) (aCons (xC (.int 7)) (aCons (xC (.int 6)) aNil)))))) (gN 3))
  (sSeq (sAsg (xTup (aCons (xCall 1 (e__law_made n) (aCons (xVar 3) aNil)) (aCons (xCall 2 (e__law_places n) (aCons (xVar 3) (aCons (xC (.str "wait")) aNil))) aNil))) (gT [(gN 4), (gN 5)]))
  (sSeq (sIf (x2 opEq (xVar 5) (xNewF (lim aNil)))
  sCnt
  sNil)
  (sSeq (sAsg (xNewF (nComp n [15] (iRange1 (aCons (x2 opAdd (xC (.int 1)) (xCall 2 (e__law_take n) (aCons (xVar 1) (aCons (xC (.int 3)) aNil)))) aNil)) (.one 15) tYesU (xCall 2 (e__law_pick n) (aCons (xVar 1) (aCons (xVar 5) aNil))))) (gN 6))
  (sSeq (sPar [7, 8] (aCons (xCall 2 (e__law_any_state n) (aCons (xVar 1) (aCons (xVar 3) aNil))) (aCons (x2 opAdd (xC (.int 1)) (xCall 2 (e__law_take n) (aCons (xVar 1) (aCons (xC (.int 6)) aNil)))) aNil)))
  (sSeq (sAsg (xB bTuple (nComp n [15] (iRange1 (aCons (xVar 8) aNil)) (.one 15) tYesU (xCall 2 (e__law_pick n) (aCons (xVar 1) (aCons (xVar 5) aNil))))) (gN 9))
  (sSeq (sPar [10, 11] (aCons (xMake "Loop" 4 (e_Loopzz_initzz n) (aCons (xVar 4) (aCons (xVar 6) (aCons (xVar 7) aNil)))) (aCons (xMake "Loop" 4 (e_Loopzz_initzz n) (aCons (xVar 4) (aCons (x2 opAdd (xNewF (nB nList (lOf (xVar 9)))) (xVar 6)) (aCons (xVar 7) aNil)))) aNil)))
  (sSeq (sIf (xNot (xCall 5 (e__law_agree n) (aCons (xVar 10) (aCons (xVar 11) (aCons (xVar 9) (aCons (xProp "Loop" (e_Loop_first n) (xVar 10)) (aCons (xProp "Loop" (e_Loop_first n) (xVar 11)) aNil)))))))
  (sRet (xC (.bl false)))
  sNil)
  (sFor n (iRange1 (aCons (xCall 2 (e__law_take n) (aCons (xVar 1) (aCons (xC (.int 16)) aNil))) aNil)) (gN 12) (lawL n))))))))))
theorem law_eq {n : Nat} : m_law n =
  (sSeq (sAsg (xCall 1 (e__law_begin n) (aCons (xVar 0) aNil)) (gN 1))
  (sSeq (sFor n (iRange1 (aCons (x2 opAdd (xC (.int 4)) (xB bMin (aCons (xB bLen (aCons (xVar 0) aNil)) (aCons (xC (.int 16)) aNil)))) aNil)) (gN 2) (lawB n))
  (sRet (xC (.bl true))))) := rfl
section
variable {P : Prog} {S S1 : Sto} {n d g q l c : Nat} {be : List Place} {A B : Lp} {r1 r2 : List (Str × U)}
/-- both loops lie in the store: the small one at l, the great one at l + 2 -/
structure TwoL (P : Prog) (d g q l : Nat) (be : List Place) (r1 r2 : List (Str × U)) (c : Nat) (A B : Lp) (S : Sto) : Prop where
  dw : Dw d g S
  lk : S.lk = []
  pat : PAt S q P
  a1 : LAt S l q (l + 1) r1 A
  a2 : LAt S (l + 2) q (l + 3) r2 B
  s1 : Sup S (l + 1) r1
  s2 : Sup S (l + 3) r2
  u1 : ∃ us, S.lst (l + 1) = some us ∧ us.length ≤ c
  u2 : ∃ us, S.lst (l + 3) = some us ∧ us.length ≤ c
  gA : LpG P A
  gB : LpG P B
  sim : A.pile ≠ [] → Sim be A B
  mA : mu P none A + A.lost.length ≤ 200 + 9 * c
  mB : mu P none B + B.lost.length ≤ 200 + 9 * c
  lt : d < q ∧ g < q ∧ q < l
theorem Sup.len {past : Nat} {rest : List (Str × U)} (h : Sup S past rest) (e : S1.objs.length = S.objs.length) : Sup S1 past rest := ⟨h.few, h.key, by rw [e]; exact h.past, by rw [e]; exact h.rest⟩
theorem TwoL.dr (h : TwoL P d g q l be r1 r2 c A B S) (k : Dr d g S S1) : TwoL P d g q l be r1 r2 c A B S1 := by
  have hlt := h.lt
  exact ⟨k.dw, by rw [k.lk, h.lk], by show S1.ins q = _; rw [k.ins (by omega) (by omega)]; exact h.pat, by show S1.ins l = _; rw [k.ins (by omega) (by omega)]; exact h.a1, by show S1.ins (l + 2) = _; rw [k.ins (by omega) (by omega)]; exact h.a2, h.s1.len k.len, h.s2.len k.len, by rw [k.lst (by omega) (by omega)]; exact h.u1, by rw [k.lst (by omega) (by omega)]; exact h.u2, h.gA, h.gB, h.sim, h.mA, h.mB, h.lt⟩
theorem pile_mu (G : PG P) (h : LpG P A) : A.pile.length ≤ mu P none A := by
  have key : ∀ ps : List Place, (∀ p ∈ ps, p ∈ placesOf P.hs "wait") → ps.length ≤ wts P ps := by
    intro ps
    induction ps with
    | nil => intro _; simp
    | cons p ps ih =>
      intro hp
      have h1 := ih fun x hx => hp x (by simp [hx])
      have h2 := wl_lt G (.inl (hp p (by simp)))
      rw [wts_cons, List.length_cons]
      unfold wt
      omega
  have := key A.pile h.pile
  unfold mu
  omega
theorem evs_mem {x : Str} {s : Stt} (h : x ∈ evs P s) : x ∈ P.hs.map (·.1) := by
  unfold evs at h
  obtain ⟨p, hp, rfl⟩ := List.mem_map.mp h
  exact List.mem_map.mpr ⟨p, (List.mem_filter.mp hp).1, rfl⟩
def InvLap (P : Prog) (d g q l : Nat) (be : List Place) (r1 r2 : List (Str × U)) (u0 : U) (x2 x3 x5 x6 x7 x8 : Option U) (c : Nat) (env : VI.Env) (S : Sto) : Prop := ∃ (x12 x13 x14 x15 : Option U) (A B : Lp), env = [some u0, some (.ref d), x2, x3, some (.ref q), x5, x6, x7, x8, some (.tup (be.map encP)), some (.ref l), some (.ref (l + 2)), x12, x13, x14, x15] ∧ TwoL P d g q l be r1 r2 c A B S
theorem lap_ok (hn : 1000 ≤ n) (G : PG P) (hbe : ∀ p ∈ be, p ∈ placesOf P.hs "wait") (zbe : be.length ≤ 100) {u0 : U} {x2 x3 x5 x6 x7 x8 : Option U} {env : VI.Env} {u : U} (hc : c < 16) (J : InvLap P d g q l be r1 r2 u0 x2 x3 x5 x6 x7 x8 c env S) {QS : Fl → Sto → Prop} (hQ : ∀ env S, InvLap P d g q l be r1 r2 u0 x2 x3 x5 x6 x7 x8 c env S → QS (.nx env) S) :
    Ok (gN 12 u env S) fun e S1 => Ok (lawL n e S1) (turn QS (InvLap P d g q l be r1 r2 u0 x2 x3 x5 x6 x7 x8 (c + 1))) := by
  obtain ⟨x12, x13, x14, x15, A, B, rfl, T⟩ := J
  have c1 : isC "Loop" (.ref l) S = true := isC_of T.a1
  have mA := T.mA
  have pA := pile_mu G T.gA
  have hlen := lenO_ok (n := n) T.a1 (by omega)
  unfold lawL
  simp [c1, e_state_ok T.a1, e_possible_ok (n := n) (by omega) T.pat G T.gA.st]
  by_cases he : evs P A.st = []
  · simp [he]
    exact hQ _ _ ⟨_, _, _, _, A, B, rfl, T⟩
  · have he0 : ¬ ((evs P A.st).length : Int) = 0 := by
      cases hh : evs P A.st with
      | nil => exact absurd hh he
      | cons => simp; omega
    by_cases hp : A.pile = []
    · rw [hp] at hlen
      simp [he, hlen]
      exact hQ _ _ ⟨_, _, _, _, A, B, rfl, T⟩
    · simp [he, hlen, hp]
      have evl : (evs P A.st).length ≤ 4 := by
        unfold evs
        rw [List.length_map]
        exact Nat.le_trans (List.length_filter_le _ _) G.good.hfew
      refine (pick_tup (by omega) T.dw (by simpa using he) (by rw [List.length_map]; omega) (by simp)).imp ?_
      rintro v S1 ⟨hv, h1⟩
      obtain ⟨x, hx, rfl⟩ := List.mem_map.mp hv
      have T1 := T.dr h1
      have hlt := T.lt
      have hxm := evs_mem hx
      have hr := rows_le G hxm
      have mB := T.mB
      have pB := pile_mu G T.gB
      have muA : mu P (some (x, 0)) A ≤ mu P none A + 9 := by unfold mu; simp; omega
      have muB : mu P (some (x, 0)) B ≤ mu P none B + 9 := by unfold mu; simp; omega
      obtain ⟨us1, hu1, hul1⟩ := T1.u1
      obtain ⟨us2, hu2, hul2⟩ := T1.u2
      have sl : ∀ us : List U, us.length ≤ c → us.length < sizeLine := fun us h => Nat.lt_of_le_of_lt (show us.length ≤ 100 by omega) (by decide)
      have sim := T.sim hp
      have ec1 := e_call_ok (n := n) (by omega) T1.pat G T1.a1 T1.s1 T1.gA hx (by omega) (by omega) hu1 (sl us1 hul1)
      refine ⟨isC_of T1.a1, ?_⟩
      rw [ec1]
      simp only [Ok.ok]
      have l1 := T1.a1.lt
      have l2 := T1.a2.lt
      have k1 := T1.s1.past
      have k2 := T1.s2.past
      obtain ⟨S2, hS2⟩ : ∃ S2, S2 = (S1.put (l + 1) (.lst (us1 ++ [entry x A]))).put l (loopO q (l + 1) r1 (goEv P n x A).2) := ⟨_, rfl⟩
      rw [← hS2]
      have n2 : S2.objs.length = S1.objs.length := by rw [hS2, len_put, len_put]
      have P2 : PAt S2 q P := by rw [hS2]; show (Sto.put _ _ _).ins q = _; rw [ins_put_ne (by omega), ins_put_ne (by omega)]; exact T1.pat
      have b2 : LAt S2 (l + 2) q (l + 3) r2 B := by rw [hS2]; show (Sto.put _ _ _).ins (l + 2) = _; rw [ins_put_ne (by omega), ins_put_ne (by omega)]; exact T1.a2
      have a2 : LAt S2 l q (l + 1) r1 (goEv P n x A).2 := by rw [hS2]; exact ins_put (by rw [len_put]; exact l1)
      have v1 : S2.lst (l + 1) = some (us1 ++ [entry x A]) := by rw [hS2, lst_put_ne (by omega)]; exact lst_put k1
      have v2 : S2.lst (l + 3) = some us2 := by rw [hS2, lst_put_ne (by omega), lst_put_ne (by omega)]; exact hu2
      have D2 : Dw d g S2 := by rw [hS2]; exact (T1.dw.put (by omega) (by omega)).put (by omega) (by omega)
      have K2 : S2.lk = [] := by rw [hS2]; exact T1.lk
      refine ⟨isC_of b2, ?_⟩
      have ec2 := e_call_ok (n := n) (by omega) P2 G b2 (T1.s2.len n2) T1.gB (x := x) (by rw [sim.st]; exact hx) (by omega) (by omega) v2 (sl us2 hul2)
      rw [ec2]
      simp only [Ok.ok]
      obtain ⟨S3, hS3⟩ : ∃ S3, S3 = (S2.put (l + 3) (.lst (us2 ++ [entry x B]))).put (l + 2) (loopO q (l + 3) r2 (goEv P n x B).2) := ⟨_, rfl⟩
      rw [← hS3]
      have n3 : S3.objs.length = S1.objs.length := by rw [hS3, len_put, len_put, n2]
      have P3 : PAt S3 q P := by rw [hS3]; show (Sto.put _ _ _).ins q = _; rw [ins_put_ne (by omega), ins_put_ne (by omega)]; exact P2
      have a3 : LAt S3 l q (l + 1) r1 (goEv P n x A).2 := by rw [hS3]; show (Sto.put _ _ _).ins l = _; rw [ins_put_ne (by omega), ins_put_ne (by omega)]; exact a2
      have b3 : LAt S3 (l + 2) q (l + 3) r2 (goEv P n x B).2 := by rw [hS3]; exact ins_put (by rw [len_put, n2]; exact l2)
      have w1 : S3.lst (l + 1) = some (us1 ++ [entry x A]) := by rw [hS3, lst_put_ne (by omega), lst_put_ne (by omega)]; exact v1
      have w2 : S3.lst (l + 3) = some (us2 ++ [entry x B]) := by rw [hS3, lst_put_ne (by omega)]; exact lst_put (by rw [n2]; exact k2)
      have D3 : Dw d g S3 := by rw [hS3]; exact (D2.put (by omega) (by omega)).put (by omega) (by omega)
      have K3 : S3.lk = [] := by rw [hS3]; exact K2
      obtain ⟨gA', mA', kA'⟩ := goEv_spec G (n := n) T.gA hxm
      obtain ⟨gB', mB', kB'⟩ := goEv_spec G (n := n) T.gB hxm
      have agr := goEv_sim G (n := n) T.gA T.gB sim hxm
      have pA' := pile_mu G gA'
      rw [agree_ok (n := n) G a3 b3 gA' kA' kB' agr hbe (by omega) zbe]
      simp
      exact ⟨_, _, _, _, _, _, rfl, D3, K3, P3, a3, b3, T1.s1.len n3, T1.s2.len n3, ⟨_, w1, by rw [List.length_append]; simp; omega⟩, ⟨_, w2, by rw [List.length_append]; simp; omega⟩, gA', gB', fun z => (agr.on z).2, by omega, by omega, hlt⟩
end
end Gn
set_option Elab.async false
set_option linter.all false
set_option maxRecDepth 100000
set_option maxHeartbeats 1000000
namespace VI
open PySem
@[simp] theorem q_min {i j : Int} {S : Sto} : bMin [.int i, .int j] S = .ok (.int (if j < i then j else i)) S := rfl
theorem lst_at {S : Sto} {xs : List U} {i : Nat} (h : i = S.objs.length) : (S.push (.lst xs)).lst i = some xs := by subst h; exact lst_new
theorem ins_at {S : Sto} {c : Str} {fs : List (Str × U)} {i : Nat} (h : i = S.objs.length) : (S.push (.ins c fs)).ins i = some (c, fs) := by subst h; exact ins_new
end VI
namespace Gn
open PySem VI
section
variable {P : Prog} {S S1 : Sto} {n d g q l c p h : Nat} {be : List Place} {A B : Lp} {r1 r2 : List (Str × U)} {fl : List Str} {hs : List (Str × Hd)}
theorem PlanAt.dr (A : PlanAt d g p fl h hs S) (k : Dr d g S S1) : PlanAt d g p fl h hs S1 := let ⟨r, a⟩ := A.pl; ⟨⟨r, a.dr k⟩, by rw [k.dct A.hd A.hg]; exact A.hat, A.hd, A.hg, A.hp, by rw [k.lk, A.lk]⟩
theorem PlanAt.ext (A : PlanAt d g p fl h hs S) (e : Ext S S1) : PlanAt d g p fl h hs S1 := let ⟨r, a⟩ := A.pl; ⟨⟨r, a.dw.ext e, e.dct a.at', a.pd, a.pg, by rw [e.lk]; exact a.fr⟩, e.dct A.hat, A.hd, A.hg, A.hp, by rw [e.lk, A.lk]⟩
theorem PAt.dr (h : PAt S q P) (k : Dr d g S S1) (h1 : q ≠ d) (h2 : q ≠ g) : PAt S1 q P := by show S1.ins q = _; rw [k.ins h1 h2]; exact h
/-- places drawn -/
structure PicksQ (d g : Nat) (ws : List Place) (m : Nat) (S : Sto) (acc : List U) (S' : Sto) : Prop where
  ex : ∃ ps : List Place, acc = ps.map encP ∧ ps.length = m ∧ (∀ p ∈ ps, p ∈ ws) ∧ Dr d g S S'
theorem picks_ok (hn : 1000 ≤ n) (D : Dw d g S) {ws : List Place} (h0 : ws ≠ []) (hl : ws.length ≤ 100) {m : Nat} (hm : m ≤ 20) {env : VI.Env} (e1 : env[1]? = some (some (.ref d))) (e5 : env[5]? = some (some (.fl (ws.map encP)))) (el : env.length = 16) :
    Ok (cLoop (nxL (rangeU 0 m)) (.one 15) tYesU (xCall 2 (e__law_pick n) (aCons (xVar 1) (aCons (xVar 5) aNil))) n 0 env S []) (PicksQ d g ws m S) := by
  refine comp_ok (rangeU 0 m) (fun j S' acc => PicksQ d g ws j S acc S') (by rw [range_len]; omega) ⟨[], rfl, rfl, by simp, .refl D⟩ (fun _ _ _ _ => rfl) ?_ ?_
  · rintro j u S1 acc hu ⟨ps, rfl, hj, hp, h1⟩
    have hjm := (List.getElem?_eq_some_iff.mp hu).1
    rw [range_len] at hjm
    refine ⟨env.set 15 (some u), by simp [Tg.set], ?_⟩
    have f1 : (env.set 15 (some u))[1]? = some (some (.ref d)) := by rw [List.getElem?_set_ne (by omega)]; exact e1
    have f5 : (env.set 15 (some u))[5]? = some (some (.fl (ws.map encP))) := by rw [List.getElem?_set_ne (by omega)]; exact e5
    simp [f1, f5]
    refine (pick_fl (by omega) h1.dw (by simpa using h0) (by rw [List.length_map]; omega) (fun u hu => by obtain ⟨x, _, rfl⟩ := List.mem_map.mp hu; simp)).imp ?_
    rintro v S2 ⟨hv, h2⟩
    obtain ⟨x, hx, rfl⟩ := List.mem_map.mp hv
    refine ⟨Nat.lt_of_le_of_lt (show ps.length ≤ 20 by omega) (by decide), ⟨ps ++ [x], by simp, by simp [hj], ?_, h1.trans h2⟩⟩
    intro y hy
    rcases List.mem_append.mp hy with hy | hy
    · exact hp y hy
    · rw [List.mem_singleton.mp hy]; exact hx
  · rintro S1 acc ⟨ps, rfl, hj, hp, h1⟩
    rw [range_len] at hj
    subst hj
    exact ⟨⟨ps, rfl, rfl, hp, h1⟩⟩
def InvT (u0 : U) (env : VI.Env) (S : Sto) : Prop := ∃ (d g : Nat) (x2 x3 x4 x5 x6 x7 x8 x9 x10 x11 x12 x13 x14 x15 : Option U), env = [some u0, some (.ref d), x2, x3, x4, x5, x6, x7, x8, x9, x10, x11, x12, x13, x14, x15] ∧ Dw d g S ∧ S.lk = []
theorem wts_le (G : PG P) : ∀ ps : List Place, (∀ p ∈ ps, isWL P p) → wts P ps ≤ 8 * ps.length
  | [], _ => by simp
  | p :: ps, hp => by
    have h1 := wts_le G ps fun x hx => hp x (by simp [hx])
    have h2 := rows_le G (wl_row G (hp p (by simp))).1
    rw [wts_cons, List.length_cons]
    unfold wt
    omega
theorem turn_ok (hn : 1000 ≤ n) {u0 u : U} {env : VI.Env} (I : InvT u0 env S) {QS : Fl → Sto → Prop} : Ok (gN 2 u env S) fun e S1 => Ok (lawB n e S1) (turn QS (InvT u0)) := by
  obtain ⟨d, g, x2, x3, x4, x5, x6, x7, x8, x9, x10, x11, x12, x13, x14, x15, rfl, D, hlk⟩ := I
  unfold lawB
  simp [-q_make]
  refine (plan_ok (by omega) D hlk).imp ?_
  rintro v S1 ⟨⟨p, fl, h, hs, rfl, A, G⟩⟩
  obtain ⟨r, a⟩ := A.pl
  have em := e_made_ok (n := n) (by omega) G a.at' A.hat (by rw [A.lk]; simp)
  rw [em]
  simp [-q_make]
  obtain ⟨q, hq⟩ : ∃ q, q = S1.objs.length := ⟨_, rfl⟩
  obtain ⟨S2, hS2⟩ : ∃ S2, S2 = S1.push (O.ins (Str.ofString "Program") (progF (mkP fl hs))) := ⟨_, rfl⟩
  rw [← hq, ← hS2]
  have A2 : PlanAt d g p fl h hs S2 := by rw [hS2]; exact A.ext Ext.push
  have Pq : PAt S2 q (mkP fl hs) := by rw [hS2, hq]; exact ins_new
  have PGd := mkP_good G
  have dq : d < q ∧ g < q := by rw [hq]; exact ⟨a.dw.dlt, a.dw.glt⟩
  have l2 : S2.objs.length = q + 1 := by rw [hS2, len_push, hq]
  obtain ⟨P, hP⟩ : ∃ P, P = mkP fl hs := ⟨_, rfl⟩
  have D2 : Dw d g S2 := by obtain ⟨r, a⟩ := A2.pl; exact a.dw
  rw [law_places_ok (by omega) A2 G]
  have any := fun S3 (A3 : PlanAt d g p fl h hs S3) => any_state_ok (n := n) (by omega) A3 G
  rw [← hP] at Pq PGd any ⊢
  obtain ⟨ws, hws⟩ : ∃ ws, ws = placesOf P.hs "wait" := ⟨_, rfl⟩
  have wl6 : ws.length ≤ 6 := by have := PGd.good.few; rw [← hws] at this; omega
  have een : opEq (.fl (ws.map encP)) (.fl []) S2 = .ok (.bl ws.isEmpty) S2 := eq_nil (α := Str × Nat) (xs := ws) (rd_fl (α := Str × Nat) (fun p hp => ⟨place_ok PGd (by rw [← hws]; exact hp), trivial⟩) (by show 1 ≤ 59; omega))
  rw [← hws]
  simp [een, -q_make]
  by_cases h0 : ws = []
  · simp [h0, -q_make]
    exact ⟨d, g, _, _, _, _, _, _, _, _, _, _, _, _, _, _, rfl, D2, A2.lk⟩
  · simp [h0, -q_make]
    refine (take_ok (by omega) D2 ⟨by omega, by omega⟩).imp ?_
    rintro v S3 ⟨⟨m, rfl, hm⟩, h3⟩
    have e1m : (1 : Int) + (m : Int) = ((1 + m : Nat) : Int) := by omega
    simp only [q_addI, Ok.ok, e1m]
    rw [rng_nat (by omega)]
    simp only [Ok.ok]
    refine (picks_ok hn h3.dw h0 (by omega) (by omega) rfl rfl rfl).imp ?_
    rintro acc S4 ⟨⟨up, rfl, upl, upm, h4⟩⟩
    refine (any S4 ((A2.dr h3).dr h4)).imp ?_
    rintro v S5 ⟨⟨s, rfl, hs5, h5⟩⟩
    refine (take_ok (by omega) h5.dw ⟨by omega, by omega⟩).imp ?_
    rintro v S6 ⟨⟨m6, rfl, hm6⟩, h6⟩
    have e6m : (1 : Int) + (m6 : Int) = ((1 + m6 : Nat) : Int) := by omega
    simp only [q_addI, Ok.ok, e6m]
    rw [rng_nat (by omega)]
    simp only [Ok.ok]
    refine (picks_ok hn h6.dw h0 (by omega) (by omega) rfl rfl rfl).imp ?_
    rintro acc S7 ⟨⟨be, rfl, bel, bem, h7⟩⟩
    have h27 : Dr d g S2 S7 := (((h3.trans h4).trans h5).trans h6).trans h7
    have P7 : PAt S7 q P := Pq.dr h27 (by omega) (by omega)
    have n7 : S7.objs.length = q + 1 := by rw [h27.len, l2]
    have upw : ∀ p ∈ up, p ∈ placesOf P.hs "wait" := fun p hp => by rw [← hws]; exact upm p hp
    have bew : ∀ p ∈ be, p ∈ placesOf P.hs "wait" := fun p hp => by rw [← hws]; exact bem p hp
    have buw : ∀ p ∈ be ++ up, p ∈ placesOf P.hs "wait" := fun p hp => (List.mem_append.mp hp).elim (bew p) (upw p)
    have hA : LpG P ⟨up, s, []⟩ := ⟨upw, hs5⟩
    have hB : LpG P ⟨be ++ up, s, []⟩ := ⟨buw, hs5⟩
    have wk : wts P s.kept ≤ 48 := by
      have h1 := wts_le PGd s.kept fun p hp => .inr (hs5.kept p hp)
      have h2 := hs5.keptLen PGd
      omega
    have wu := wts_le PGd up fun p hp => .inl (upw p hp)
    have wb := wts_le PGd be fun p hp => .inl (bew p hp)
    have muA : mu P none ⟨up, s, []⟩ ≤ 200 := by unfold mu; simp; omega
    have muB : mu P none ⟨be ++ up, s, []⟩ ≤ 200 := by unfold mu; simp; omega
    have zbu : be.length + up.length ≤ sizeLine := szL (by omega)
    rw [e_loop_make (by omega) P7 PGd (u := .fl (up.map encP)) (.inl rfl) upw (by omega) hs5 (by omega) (by omega) (by simp)]
    simp only [Ok.ok]
    obtain ⟨l, hl⟩ : ∃ l, l = S7.objs.length := ⟨_, rfl⟩
    obtain ⟨RA, hRA⟩ : ∃ RA, RA = goLook P n ⟨up, s, []⟩ := ⟨_, rfl⟩
    obtain ⟨RB, hRB⟩ : ∃ RB, RB = goLook P n ⟨be ++ up, s, []⟩ := ⟨_, rfl⟩
    rw [← hl, ← hRA]
    obtain ⟨S8, hS8⟩ : ∃ S8, S8 = (S7.push (loopO q (l + 1) [("own_first", .tup (RA.1.map U.str))] RA.2)).push (.lst []) := ⟨_, rfl⟩
    rw [← hS8]
    have n8 : S8.objs.length = l + 2 := by rw [hS8, len_push, len_push, hl]
    have X8 : Ext S7 S8 := by rw [hS8]; exact Ext.push.trans Ext.push
    have P8 : PAt S8 q P := P7.ext X8
    have a8 : LAt S8 l q (l + 1) [("own_first", .tup (RA.1.map U.str))] RA.2 := by
      rw [hS8]
      show (Sto.push _ _).ins l = _
      rw [ins_push (by rw [len_push]; omega), hl]
      exact ins_new
    have v8 : S8.lst (l + 1) = some [] := by
      rw [hS8]
      exact lst_at (by rw [len_push, hl])
    rw [e_loop_make (by omega) P8 PGd (u := .fl ((be ++ up).map encP)) (.inl rfl) buw (by rw [List.length_append]; omega) hs5 (by omega) (by rw [List.length_append]; omega) (by simp [zbu])]
    simp only [Ok.ok]
    rw [n8, ← hRB]
    obtain ⟨S9, hS9⟩ : ∃ S9, S9 = (S8.push (loopO q (l + 2 + 1) [("own_first", .tup (RB.1.map U.str))] RB.2)).push (.lst []) := ⟨_, rfl⟩
    rw [← hS9]
    have n9 : S9.objs.length = l + 4 := by rw [hS9, len_push, len_push, n8]
    have X9 : Ext S8 S9 := by rw [hS9]; exact Ext.push.trans Ext.push
    have P9 : PAt S9 q P := P8.ext X9
    have a9 : LAt S9 l q (l + 1) [("own_first", .tup (RA.1.map U.str))] RA.2 := X9.ins a8
    have b9 : LAt S9 (l + 2) q (l + 3) [("own_first", .tup (RB.1.map U.str))] RB.2 := by
      rw [hS9]
      show (Sto.push _ _).ins (l + 2) = _
      rw [ins_push (by rw [len_push]; omega)]
      exact ins_at n8.symm
    have v9 : S9.lst (l + 1) = some [] := X9.lst v8
    have w9 : S9.lst (l + 3) = some [] := by
      rw [hS9]
      exact lst_at (by rw [len_push, n8])
    have D9 : Dw d g S9 := h7.dw.ext (X8.trans X9)
    have K9 : S9.lk = [] := by rw [X9.lk, X8.lk, h27.lk, A2.lk]
    obtain ⟨gA, mA, kA⟩ := goLook_spec PGd (n := n) hA
    obtain ⟨gB, mB, kB⟩ := goLook_spec PGd (n := n) hB
    have agr := goLook_sim (be := be) PGd (n := n) hA hB ⟨rfl, rfl⟩
    rw [← hRA] at gA mA kA agr
    rw [← hRB] at gB mB kB agr
    simp only [List.length_nil, Nat.add_zero] at mA mB
    have pA := pile_mu PGd gA
    refine ⟨isC_of a9, ?_⟩
    rw [e_first_ok a9]
    simp only [Ok.ok]
    refine ⟨isC_of b9, ?_⟩
    rw [e_first_ok b9]
    simp only [Ok.ok]
    rw [agree_ok (n := n) PGd a9 b9 gA kA kB agr bew (by omega) (by omega)]
    simp
    refine (take_ok (by omega) D9 ⟨by omega, by omega⟩).imp ?_
    rintro v S10 ⟨⟨m10, rfl, hm10⟩, h10⟩
    rw [rng_nat (by omega)]
    simp only [Ok.ok]
    have sup : ∀ (o : Nat) (xs : List Str), o < l + 4 → Sup S9 o [("own_first", .tup (xs.map U.str))] := fun o xs ho => ⟨by simp, by simp, by omega, by simp⟩
    have T9 : TwoL P d g q l be [("own_first", .tup (RA.1.map U.str))] [("own_first", .tup (RB.1.map U.str))] 0 RA.2 RB.2 S9 := ⟨D9, K9, P9, a9, b9, sup _ _ (by omega), sup _ _ (by omega), ⟨[], v9, by simp⟩, ⟨[], w9, by simp⟩, gA, gB, fun z => (agr.on z).2, by omega, by omega, by omega⟩
    have hQ : ∀ (x2 x3 x5 x6 x7 x8 : Option U) (c : Nat) (env : VI.Env) (S : Sto), InvLap P d g q l be [("own_first", .tup (RA.1.map U.str))] [("own_first", .tup (RB.1.map U.str))] u0 x2 x3 x5 x6 x7 x8 c env S → turn QS (InvT u0) (.nx env) S := by
      rintro x2 x3 x5 x6 x7 x8 c env S ⟨x12, x13, x14, x15, A, B, rfl, T⟩
      exact ⟨d, g, _, _, _, _, _, _, _, _, _, _, _, _, _, _, rfl, T.dw, T.lk⟩
    refine for_ok (rangeU 0 m10) (InvLap P d g q l be [("own_first", .tup (RA.1.map U.str))] [("own_first", .tup (RB.1.map U.str))] u0 _ _ _ _ _ _) (by rw [range_len]; omega) ⟨_, _, _, _, _, _, rfl, T9.dr h10⟩ (fun _ _ _ _ => rfl) (fun i u env S hu J => ?_) (hQ _ _ _ _ _ _ _)
    have hi : i < m10 := by have := (List.getElem?_eq_some_iff.mp hu).1; rwa [range_len] at this
    exact lap_ok hn PGd bew (by omega) (by omega) J (hQ _ _ _ _ _ _ _)
theorem law_ok (hn : 1000 ≤ n) {ns : List Int} (hl : ns.length ≤ 63) : Ok (e_law n [.sc (ns.map U.int)] S0) fun u _ => u = .bl true := by
  unfold e_law
  rw [law_eq, q_fnG]
  apply Ok.gc
  simp
  refine (begin_ok (by omega) hl).imp ?_
  rintro v S1 ⟨⟨d, g, rfl, D, lk⟩⟩
  have e : (4 : Int) + (if (16 : Int) < (ns.length : Int) then 16 else (ns.length : Int)) = ((4 + min ns.length 16 : Nat) : Int) := by
    split <;> omega
  simp [e]
  rw [show (4 : Int) + ((min ns.length 16 : Nat) : Int) = ((4 + min ns.length 16 : Nat) : Int) by omega, rng_nat (by omega)]
  simp only [Ok.ok]
  refine for_ok (rangeU 0 (4 + min ns.length 16)) (fun _ => InvT (.sc (ns.map U.int))) (by rw [range_len]; omega) ⟨d, g, _, _, _, _, _, _, _, _, _, _, _, _, _, _, rfl, D, lk⟩ (fun _ _ _ _ => rfl) (fun i u env S hu I => turn_ok hn I) ?_
  rintro env S2 ⟨_⟩
  simp
  unfold gcR
  dsimp only
  split <;> rfl
theorem law_holds (ns : List Int) (hl : ns.length ≤ 63) : ∃ n S', e_law n [.sc (ns.map U.int)] S0 = .ok (.bl true) S' := by
  obtain ⟨u, S', e, hu⟩ := (law_ok (n := 1000) (Nat.le_refl _) hl).get
  rw [hu] at e
  exact ⟨1000, S', e⟩
end
end Gn
theorem PySem.Challenge.cw_innerloops_k18_whole_the_top_alone_matte_holds : PySem.Challenge.rw_innerloops_k18_whole_the_top_alone_matte.Holds := by
  exact Gn.holds_of Gn.law_holds
