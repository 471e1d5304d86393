import PyProof.Rows.All
import Wide.All
import OpenK.AllK
import Wide.FinOn
import HandS.ForMost
import HandS.Walk
import HandS.Deep
import HandS.TupAny
import HandS.Flow
import HandS.Style
import KE.DataCmp
import HandS.Conv
import HandS.Zip
import HandS.IsInst
import KE.SortData
import HandS.Defaults
import HandS.Dict
import HandS.More
import HandS.RaiseMore
import HandS.WordsExc
import HandS.Head0
import HandS.Head1
import HandS.Head2
import HandS.HeadEnd
import HandS.HeadHook1
import HandS.HeadHook2
import KE.GoesEnum
import HandS.TupMul
import HandS.DictComp
import KE.KDictZip
import HandS.Text
import HandS.SetFor
import HandS.Strs
import HandS.Star
import HandS.Small
import PySem.Challenge.RW_masterpins_k93_whole_tighter_systems
set_option Elab.async false
set_option linter.all false
set_option maxRecDepth 100000
set_option maxHeartbeats 4000000
/-! The D layer: values as plain data, lists and dicts that change as cells of a store. -/
namespace DL
open PySem PySem.Spec PyProof.Rows L2
abbrev D := PyData
/-- what an expression gives: a datum, or a cell of the store -/
inductive U where
  | d (x : D)
  | r (n : Nat)
  /-- the law's script -/
  | s (ns : List Int)
inductive Cell where
  | lst (xs : List D)
  | dic (kvs : List (D × D))
  | fz (x : D)
def Cell.isMut : Cell → Bool
  | .lst _ => true
  | .dic _ => true
  | .fz _ => false
abbrev Sto := List Cell
abbrev Rho := List (Option U)
inductive Rs (α : Type) where
  | ok (a : α) (S : Sto)
  | ex (c : Str) (fs : List (Str × D)) (S : Sto)
  | bad
inductive Rt where
  | nx (ρ : Rho) (S : Sto)
  | rt (u : U) (S : Sto)
  | bk (ρ : Rho) (S : Sto)
  | ct (ρ : Rho) (S : Sto)
  | ex (c : Str) (fs : List (Str × D)) (S : Sto)
  | bad
@[inline] def Rs.bind {α β : Type} (m : Rs α) (k : α → Sto → Rs β) : Rs β := match m with
  | .ok a S => k a S
  | .ex c fs S => .ex c fs S
  | .bad => .bad
abbrev DE := Rho → Sto → Rs U
abbrev DT := Rho → Sto → Rs Bool
abbrev DA := Rho → Sto → Rs (List U)
abbrev DI := Rho → Sto → Rs (List D)
abbrev DS := Rho → Sto → Rt
abbrev Fn := List U → Sto → Rs U
/-! ### configurations -/
structure Cfg where
  /-- lists that are being made: they stay as they are, and nothing else names them -/
  hd : List Addr
  ι : List Addr
  S : Sto
  H : Hp
def live (hd ι : List Addr) (S : Sto) (a : Addr) : Prop := a ∈ hd ∨ ∃ (n : Nat) (c : Cell), ι[n]? = some a ∧ S[n]? = some c ∧ c.isMut = true
/-- how what was at a stands later -/
def kept (H' : Hp) (a : Addr) : HO → Prop
  | .lst xs => H' a = some (.lst xs)
  | .dK kvs => Rd H' a (.dK kvs)
  | .dT kvs => Rd H' a (.dT kvs)
  | o => H' a = some o
structure Keep (c c' : Cfg) : Prop where
  keep : ∀ a o, c.H a = some o → ¬ live c.hd c.ι c.S a → kept c'.H a o ∧ ¬ live c'.hd c'.ι c'.S a
structure Ext (c c' : Cfg) : Prop extends Keep c c' where
  pre : c.ι <+: c'.ι
  hid : ∀ a, a ∈ c.hd → c'.H a = c.H a
  same : c'.hd = c.hd
theorem kept.there {H' : Hp} {a : Addr} {o : HO} (h : kept H' a o) : ∃ o', H' a = some o' := by
  cases o with
  | dK kvs =>
    rcases h with h | ⟨_, h⟩
    · exact ⟨_, h⟩
    · exact ⟨_, h⟩
  | dT kvs =>
    rcases h with h | ⟨_, h⟩
    · exact ⟨_, h⟩
    · exact ⟨_, h⟩
  | _ => exact ⟨_, h⟩
theorem kept.of_eq {H' : Hp} {a : Addr} {o : HO} (h : H' a = some o) : kept H' a o := by
  cases o with
  | dK kvs => exact .inl h
  | dT kvs => exact .inl h
  | _ => exact h
theorem kept.trans {H1 H2 : Hp} {a : Addr} {o : HO} (h : kept H1 a o) (k : ∀ o1, H1 a = some o1 → kept H2 a o1) : kept H2 a o := by
  cases o with
  | dK kvs =>
    rcases h with h | ⟨ob, h⟩
    · exact k _ h
    · exact .inr ⟨_, k _ h⟩
  | dT kvs =>
    rcases h with h | ⟨ob, h⟩
    · exact k _ h
    · exact .inr ⟨_, k _ h⟩
  | _ => exact k _ h
theorem Ext.refl (c : Cfg) : Ext c c := ⟨⟨fun _ _ e n => ⟨kept.of_eq e, n⟩⟩, List.prefix_refl _, fun _ _ => rfl, rfl⟩
theorem Keep.trans {a b c : Cfg} (h : Keep a b) (k : Keep b c) : Keep a c := ⟨fun x o e n => by
  obtain ⟨k1, n1⟩ := h.keep x o e n
  obtain ⟨o1, e1⟩ := k1.there
  exact ⟨k1.trans fun o2 e2 => (k.keep x o2 e2 n1).1, (k.keep x o1 e1 n1).2⟩⟩
theorem Ext.trans {a b c : Cfg} (h : Ext a b) (k : Ext b c) : Ext a c := ⟨h.toKeep.trans k.toKeep, h.pre.trans k.pre, fun a ha => (k.hid a (by rw [h.same]; exact ha)).trans (h.hid a ha), k.same.trans h.same⟩
/-! ### what represents a datum -/
def kD : Key → D
  | .inl i => .int i
  | .inr s => .str s
mutual
inductive Rep (K : PySem.W.Frag) (c : Cfg) : V → D → Prop
  | non : Rep K c .non .none
  | bl (b : Bool) : Rep K c (.bl b) (.bool b)
  | int (i : Int) : Rep K c (.int i) (.int i)
  | str (x : Str) : Rep K c (.str x) (.str x)
  | lst {a : Addr} {xs : List V} {ds : List D} : c.H a = some (.lst xs) → ¬ live c.hd c.ι c.S a → RepA K c xs ds → Rep K c (.ref a) (.list ds)
  | tup {a : Addr} {xs : List V} {ds : List D} : c.H a = some (.tup xs) → ¬ live c.hd c.ι c.S a → RepA K c xs ds → Rep K c (.ref a) (.tuple ds)
  | tupK {a : Addr} {xs : List V} {ds : List D} : (∃ (o : Obj) (its : Array Value) (n : Nat), K.lookup a = some o ∧ o.cls = .type "tuple" ∧ o.data = .seq its n ∧ its.size ≤ sizeLine ∧ Vals xs its.toList) → RepA K c xs ds → Rep K c (.ref a) (.tuple ds)
  | dK {a : Addr} {kvs : List (Key × V)} {ds : List (D × D)} : Rd c.H a (.dK kvs) → ¬ live c.hd c.ι c.S a → RepK K c kvs ds → Rep K c (.ref a) (.dict ds)
  | dT {a : Addr} {kvs : List (List Key × V)} {ds : List (D × D)} : Rd c.H a (.dT kvs) → ¬ live c.hd c.ι c.S a → kvs ≠ [] → RepT K c kvs ds → Rep K c (.ref a) (.dict ds)
inductive RepA (K : PySem.W.Frag) (c : Cfg) : List V → List D → Prop
  | nil : RepA K c [] []
  | cons {v : V} {vs : List V} {d : D} {ds : List D} : Rep K c v d → RepA K c vs ds → RepA K c (v :: vs) (d :: ds)
inductive RepK (K : PySem.W.Frag) (c : Cfg) : List (Key × V) → List (D × D) → Prop
  | nil : RepK K c [] []
  | cons {k : Key} {v : V} {vs : List (Key × V)} {d : D} {ds : List (D × D)} : Rep K c v d → RepK K c vs ds → RepK K c ((k, v) :: vs) ((kD k, d) :: ds)
inductive RepT (K : PySem.W.Frag) (c : Cfg) : List (List Key × V) → List (D × D) → Prop
  | nil : RepT K c [] []
  | cons {k : List Key} {v : V} {vs : List (List Key × V)} {d : D} {ds : List (D × D)} : Rep K c v d → RepT K c vs ds → RepT K c ((k, v) :: vs) ((.tuple (k.map kD), d) :: ds)
end
section
variable {K : PySem.W.Frag} {c c' : Cfg}
theorem Rd_ext {a : Addr} {u : HO} (e : Keep c c') (h : Rd c.H a u) (n : ¬ live c.hd c.ι c.S a) (hu : (∃ xs, u = .lst xs) ∨ (∃ xs, u = .dK xs) ∨ (∃ xs, u = .dT xs)) : Rd c'.H a u ∧ ¬ live c'.hd c'.ι c'.S a := by
  rcases h with h | ⟨ob, h⟩
  · obtain ⟨k, m⟩ := e.keep a _ h n
    refine ⟨?_, m⟩
    rcases hu with ⟨_, rfl⟩ | ⟨_, rfl⟩ | ⟨_, rfl⟩
    · exact .inl k
    · exact k
    · exact k
  · obtain ⟨k, m⟩ := e.keep a _ h n
    refine ⟨?_, m⟩
    rcases hu with ⟨_, rfl⟩ | ⟨_, rfl⟩ | ⟨_, rfl⟩
    · exact .inr ⟨_, k⟩
    · exact .inr ⟨_, k⟩
    · exact .inr ⟨_, k⟩
mutual
theorem Rep.ext (e : Keep c c') : ∀ {d : D} {v : V}, Rep K c v d → Rep K c' v d
  | .none, _, h => by cases h; exact .non
  | .bool b, _, h => by cases h; exact .bl b
  | .int b, _, h => by cases h; exact .int b
  | .str b, _, h => by cases h; exact .str b
  | .list ds, _, h => by
    cases h with
    | lst h n r =>
      obtain ⟨h', n'⟩ := e.keep _ _ h n
      exact .lst h' n' (RepA.ext e r)
  | .tuple ds, _, h => by
    cases h with
    | tup h n r =>
      obtain ⟨h', n'⟩ := e.keep _ _ h n
      exact .tup h' n' (RepA.ext e r)
    | tupK h r => exact .tupK h (RepA.ext e r)
  | .dict ds, _, h => by
    cases h with
    | dK h n r =>
      obtain ⟨h', n'⟩ := Rd_ext e h n (.inr (.inl ⟨_, rfl⟩))
      exact .dK h' n' (RepK.ext e r)
    | dT h n z r =>
      obtain ⟨h', n'⟩ := Rd_ext e h n (.inr (.inr ⟨_, rfl⟩))
      exact .dT h' n' z (RepT.ext e r)
theorem RepA.ext (e : Keep c c') : ∀ {ds : List D} {vs : List V}, RepA K c vs ds → RepA K c' vs ds
  | [], _, h => by cases h; exact .nil
  | d :: ds, _, h => by
    cases h with
    | cons h r => exact .cons (Rep.ext e h) (RepA.ext e r)
theorem RepK.ext (e : Keep c c') : ∀ {ds : List (D × D)} {vs : List (Key × V)}, RepK K c vs ds → RepK K c' vs ds
  | [], _, h => by cases h; exact .nil
  | (k, d) :: ds, _, h => by
    cases h with
    | cons h r => exact .cons (Rep.ext e h) (RepK.ext e r)
theorem RepT.ext (e : Keep c c') : ∀ {ds : List (D × D)} {vs : List (List Key × V)}, RepT K c vs ds → RepT K c' vs ds
  | [], _, h => by cases h; exact .nil
  | (k, d) :: ds, _, h => by
    cases h with
    | cons h r => exact .cons (Rep.ext e h) (RepT.ext e r)
end
theorem RepA.length : ∀ {ds : List D} {vs : List V}, RepA K c vs ds → vs.length = ds.length
  | [], _, h => by cases h; rfl
  | d :: ds, _, h => by
    cases h with
    | cons h r => rw [List.length_cons, List.length_cons, RepA.length r]
theorem RepA.get {x : D} : ∀ {ds : List D} {vs : List V} {i : Nat}, RepA K c vs ds → ds[i]? = some x → ∃ v, vs[i]? = some v ∧ Rep K c v x
  | d :: ds, _, 0, .cons h r, e => by
    rw [List.getElem?_cons_zero] at e
    cases e
    exact ⟨_, rfl, h⟩
  | d :: ds, _, i + 1, .cons h r, e => by
    rw [List.getElem?_cons_succ] at e
    obtain ⟨v, e1, h1⟩ := RepA.get (i := i) r e
    exact ⟨v, by rw [List.getElem?_cons_succ]; exact e1, h1⟩
theorem RepA.append : ∀ {ds es : List D} {vs ws : List V}, RepA K c vs ds → RepA K c ws es → RepA K c (vs ++ ws) (ds ++ es)
  | _, _, _, _, .nil, s => s
  | _, _, _, _, .cons r t, s => .cons r (RepA.append t s)
theorem RepA.take : ∀ {ds : List D} {vs : List V} (n : Nat), RepA K c vs ds → RepA K c (vs.take n) (ds.take n)
  | _, _, 0, _ => .nil
  | _, _, _ + 1, .nil => .nil
  | _, _, n + 1, .cons r t => .cons r (RepA.take n t)
theorem RepA.drop : ∀ {ds : List D} {vs : List V} (n : Nat), RepA K c vs ds → RepA K c (vs.drop n) (ds.drop n)
  | _, _, 0, r => r
  | _, _, _ + 1, .nil => .nil
  | _, _, n + 1, .cons _ t => RepA.drop n t
theorem RepA.set {x : V} {d : D} (q : Rep K c x d) : ∀ {ds : List D} {vs : List V} (i : Nat), RepA K c vs ds → RepA K c (vs.set i x) (ds.set i d)
  | _, _, _, .nil => .nil
  | _, _, 0, .cons _ t => .cons q t
  | _, _, i + 1, .cons r t => .cons r (RepA.set q i t)
theorem RepA.reverse {ds : List D} {vs : List V} (h : RepA K c vs ds) : RepA K c vs.reverse ds.reverse := by
  have go : ∀ {ds : List D} {vs : List V} {es : List D} {ws : List V}, RepA K c vs ds → RepA K c ws es → RepA K c (vs.reverse ++ ws) (ds.reverse ++ es) := by
    intro ds
    induction ds with
    | nil => intro vs es ws h1 h2; cases h1; exact h2
    | cons d ds ih =>
      intro vs es ws h1 h2
      cases h1 with
      | cons h r =>
        rw [List.reverse_cons, List.reverse_cons, List.append_assoc, List.append_assoc]
        exact ih r (.cons h h2)
  have z := go h (RepA.nil (K := K) (c := c))
  rw [List.append_nil, List.append_nil] at z
  exact z
end
def RepU (K : PySem.W.Frag) (c : Cfg) (v : V) : U → Prop
  | .d x => Rep K c v x
  | .r n => ∃ a, c.ι[n]? = some a ∧ v = .ref a
  | .s ns => ∃ a, v = .ref a ∧ ((Rd c.H a (.lst (ns.map V.int)) ∧ ¬ live c.hd c.ι c.S a) ∨ ∃ (o : Obj) (its : Array Value) (n : Nat), K.lookup a = some o ∧ o.cls = .type "list" ∧ o.dict = none ∧ o.data = .seq its n ∧ its.size ≤ sizeLine ∧ Vals (ns.map V.int) its.toList)
theorem pre_get {α : Type} {l m : List α} (p : l <+: m) {i : Nat} {x : α} (h : l[i]? = some x) : m[i]? = some x := by
  obtain ⟨t, rfl⟩ := p
  obtain ⟨hi, e⟩ := List.getElem?_eq_some_iff.mp h
  rw [List.getElem?_append_left hi]
  exact h
theorem RepU.keep {K : PySem.W.Frag} {c c' : Cfg} (e : Keep c c') (p : c.ι <+: c'.ι) {u : U} {v : V} (h : RepU K c v u) : RepU K c' v u := by
  cases u with
  | d x => exact Rep.ext e h
  | r n =>
    obtain ⟨a, h1, h2⟩ := h
    exact ⟨a, pre_get p h1, h2⟩
  | s ns =>
    obtain ⟨a, h1, h2⟩ := h
    refine ⟨a, h1, ?_⟩
    rcases h2 with ⟨h2, n⟩ | h2
    · exact .inl (Rd_ext e h2 n (.inl ⟨_, rfl⟩))
    · exact .inr h2
theorem RepU.ext {K : PySem.W.Frag} {c c' : Cfg} (e : Ext c c') {u : U} {v : V} (h : RepU K c v u) : RepU K c' v u := RepU.keep e.toKeep e.pre h
inductive RepUs (K : PySem.W.Frag) (c : Cfg) : List V → List U → Prop
  | nil : RepUs K c [] []
  | cons {v : V} {vs : List V} {d : U} {ds : List U} : RepU K c v d → RepUs K c vs ds → RepUs K c (v :: vs) (d :: ds)
theorem RepUs.ext {K : PySem.W.Frag} {c c' : Cfg} (e : Ext c c') : ∀ {us : List U} {vs : List V}, RepUs K c vs us → RepUs K c' vs us
  | _, _, .nil => .nil
  | _, _, .cons h r => .cons (h.ext e) (RepUs.ext e r)
theorem RepUs.length {K : PySem.W.Frag} {c : Cfg} : ∀ {us : List U} {vs : List V}, RepUs K c vs us → vs.length = us.length
  | _, _, .nil => rfl
  | _, _, .cons _ r => by rw [List.length_cons, List.length_cons, r.length]
def CellOk (K : PySem.W.Frag) (c : Cfg) (a : Addr) : Cell → Prop
  | .lst xs => ∃ vs, c.H a = some (.lst vs) ∧ RepA K c vs xs
  | .dic kvs => (∃ vs, c.H a = some (.dK vs) ∧ RepK K c vs kvs) ∨ (∃ vs, c.H a = some (.dT vs) ∧ vs ≠ [] ∧ RepT K c vs kvs)
  | .fz x => Rep K c (.ref a) x ∧ (∃ o, c.H a = some o) ∧ ¬ live c.hd c.ι c.S a
theorem CellOk.ext {K : PySem.W.Frag} {c c' : Cfg} (e : Keep c c') {a : Addr} {cl : Cell} (h : CellOk K c a cl) (k : cl.isMut = true → c'.H a = c.H a) : CellOk K c' a cl := by
  cases cl with
  | lst xs =>
    obtain ⟨vs, h1, h2⟩ := h
    exact ⟨vs, (k rfl).trans h1, h2.ext e⟩
  | dic kvs =>
    rcases h with ⟨vs, h1, h2⟩ | ⟨vs, h1, z, h2⟩
    · exact .inl ⟨vs, (k rfl).trans h1, h2.ext e⟩
    · exact .inr ⟨vs, (k rfl).trans h1, z, h2.ext e⟩
  | fz x =>
    obtain ⟨r, ⟨o, q⟩, n⟩ := h
    obtain ⟨k1, n1⟩ := e.keep _ _ q n
    exact ⟨Rep.ext e r, k1.there, n1⟩
structure OkC (K : PySem.W.Frag) (c : Cfg) : Prop where
  hid : ∀ a, a ∈ c.hd → (∃ o, c.H a = some o) ∧ a ∉ c.ι
  len : c.ι.length = c.S.length
  nodup : c.ι.Nodup
  cell : ∀ (n : Nat) (cl : Cell), c.S[n]? = some cl → ∃ a, c.ι[n]? = some a ∧ CellOk K c a cl
theorem CellOk.there {K : PySem.W.Frag} {c : Cfg} {a : Addr} {cl : Cell} (h : CellOk K c a cl) (m : cl.isMut = true) : ∃ o, c.H a = some o := by
  cases cl with
  | lst xs => obtain ⟨vs, h1, _⟩ := h; exact ⟨_, h1⟩
  | dic kvs =>
    rcases h with ⟨vs, h1, _⟩ | ⟨vs, h1, _⟩
    · exact ⟨_, h1⟩
    · exact ⟨_, h1⟩
  | fz x => cases m
section
variable {K : PySem.W.Frag} {c : Cfg}
theorem nodup_idx {α : Type} {l : List α} (h : l.Nodup) {i j : Nat} {x : α} (a : l[i]? = some x) (b : l[j]? = some x) : i = j := by
  obtain ⟨h1, e1⟩ := List.getElem?_eq_some_iff.mp a
  obtain ⟨h2, e2⟩ := List.getElem?_eq_some_iff.mp b
  exact (List.getElem_inj h).mp (e1.trans e2.symm)
theorem OkC.live_there (o : OkC K c) {a : Addr} (h : live c.hd c.ι c.S a) : ∃ ob, c.H a = some ob := by
  rcases h with h | ⟨n, cl, h1, h2, h3⟩
  · exact (o.hid a h).1
  obtain ⟨a', h4, h5⟩ := o.cell n cl h2
  rw [h1] at h4
  cases h4
  exact h5.there h3
theorem OkC.hid_ne (o : OkC K c) {p a : Addr} (h : c.H p = none) (ha : a ∈ c.hd) : a ≠ p := fun e => by
  obtain ⟨ob, q⟩ := (o.hid a ha).1
  rw [e, h] at q
  cases q
theorem OkC.notlive (o : OkC K c) {p : Addr} (h : c.H p = none) : ¬ live c.hd c.ι c.S p := fun l => by
  obtain ⟨ob, e⟩ := o.live_there l
  rw [h] at e
  cases e
/-- a new object that is no cell -/
theorem ext_new (o : OkC K c) {p : Addr} {u : HO} (h : c.H p = none) : Ext c ⟨c.hd, c.ι, c.S, upd c.H p u⟩ := ⟨⟨fun a ob e n => by
  refine ⟨kept.of_eq ?_, n⟩
  show upd c.H p u a = _
  rw [upd_ne (ne_of_none e h)]
  exact e⟩, List.prefix_refl _, fun a ha => upd_ne (o.hid_ne h ha), rfl⟩
theorem ok_new (o : OkC K c) {p : Addr} {u : HO} (h : c.H p = none) : OkC K ⟨c.hd, c.ι, c.S, upd c.H p u⟩ := ⟨fun a ha => ⟨by obtain ⟨ob, q⟩ := (o.hid a ha).1; exact ⟨ob, (upd_ne (o.hid_ne h ha)).trans q⟩, (o.hid a ha).2⟩, o.len, o.nodup, fun n cl e => by
  obtain ⟨a, h1, h2⟩ := o.cell n cl e
  refine ⟨a, h1, h2.ext (ext_new o h).toKeep fun m => ?_⟩
  obtain ⟨ob, e1⟩ := h2.there m
  exact upd_ne (ne_of_none e1 h)⟩
/-- the heap has grown; nothing tracked has changed -/
theorem ext_same (o : OkC K c) {H' : Hp} (k : ∀ a o, c.H a = some o → H' a = some o) : Ext c ⟨c.hd, c.ι, c.S, H'⟩ := ⟨⟨fun a ob e n => ⟨kept.of_eq (k a ob e), n⟩⟩, List.prefix_refl _, fun a ha => by obtain ⟨ob, q⟩ := (o.hid a ha).1; exact (k a ob q).trans q.symm, rfl⟩
theorem ok_same {H' : Hp} (o : OkC K c) (k : ∀ a o, c.H a = some o → H' a = some o) : OkC K ⟨c.hd, c.ι, c.S, H'⟩ := ⟨fun a ha => ⟨by obtain ⟨ob, q⟩ := (o.hid a ha).1; exact ⟨ob, k a ob q⟩, (o.hid a ha).2⟩, o.len, o.nodup, fun n cl e => by
  obtain ⟨a, h1, h2⟩ := o.cell n cl e
  refine ⟨a, h1, h2.ext (ext_same o k).toKeep fun m => ?_⟩
  obtain ⟨ob, e1⟩ := h2.there m
  exact (k a ob e1).trans e1.symm⟩
/-- a new cell -/
theorem ext_cell (o : OkC K c) {p : Addr} {u : HO} {cl : Cell} (h : c.H p = none) : Ext c ⟨c.hd, c.ι ++ [p], c.S ++ [cl], upd c.H p u⟩ := by
  have hl := o.len
  refine ⟨⟨fun a ob e n => ⟨kept.of_eq ?_, ?_⟩⟩, List.prefix_append _ _, fun a ha => upd_ne (o.hid_ne h ha), rfl⟩
  · show upd c.H p u a = _
    rw [upd_ne (ne_of_none e h)]
    exact e
  · rintro (hq | ⟨m, cl', h1, h2, h3⟩)
    · exact n (.inl hq)
    have h1 : (c.ι ++ [p])[m]? = some a := h1
    have h2 : (c.S ++ [cl])[m]? = some cl' := h2
    by_cases hm : m < c.ι.length
    · rw [List.getElem?_append_left hm] at h1
      rw [List.getElem?_append_left (by omega)] at h2
      exact n (.inr ⟨m, cl', h1, h2, h3⟩)
    · rw [List.getElem?_append_right (by omega)] at h1
      have e0 : m - c.ι.length = 0 := by
        by_cases q : m - c.ι.length = 0
        · exact q
        · rw [List.getElem?_eq_none (by simp; omega)] at h1
          cases h1
      rw [e0] at h1
      cases h1
      rw [h] at e
      cases e
theorem ok_cell (o : OkC K c) {p : Addr} {u : HO} {cl : Cell} (h : c.H p = none) (hc : CellOk K ⟨c.hd, c.ι ++ [p], c.S ++ [cl], upd c.H p u⟩ p cl) : OkC K ⟨c.hd, c.ι ++ [p], c.S ++ [cl], upd c.H p u⟩ := by
  have hl := o.len
  refine ⟨fun a ha => ⟨by obtain ⟨ob, q⟩ := (o.hid a ha).1; exact ⟨ob, (upd_ne (o.hid_ne h ha)).trans q⟩, fun z => ?_⟩, by show (c.ι ++ [p]).length = (c.S ++ [cl]).length; simp; omega, ?_, fun n cl' e => ?_⟩
  · have z : a ∈ c.ι ++ [p] := z
    rcases List.mem_append.mp z with z | z
    · exact (o.hid a ha).2 z
    · exact o.hid_ne h ha (by simpa using z)
  · show (c.ι ++ [p]).Nodup
    refine List.nodup_append.mpr ⟨o.nodup, by simp, fun a ha b hb => ?_⟩
    have hb : b = p := by simpa using hb
    subst hb
    intro e
    subst e
    obtain ⟨i, hi, e⟩ := List.getElem_of_mem ha
    obtain ⟨cl2, e2⟩ : ∃ cl2, c.S[i]? = some cl2 := ⟨_, List.getElem?_eq_getElem (by omega)⟩
    obtain ⟨a2, h1, h2⟩ := o.cell i cl2 e2
    have e3 : c.ι[i]? = some a := by rw [List.getElem?_eq_getElem hi, e]
    rw [e3] at h1
    cases h1
    cases cl2 with
    | lst xs =>
      obtain ⟨vs, q, _⟩ := h2
      rw [h] at q; cases q
    | dic kvs =>
      rcases h2 with ⟨vs, q, _⟩ | ⟨vs, q, _⟩ <;> (rw [h] at q; cases q)
    | fz x =>
      obtain ⟨_, ⟨ob, q⟩, _⟩ := h2
      rw [h] at q; cases q
  · have e : (c.S ++ [cl])[n]? = some cl' := e
    by_cases hm : n < c.S.length
    · rw [List.getElem?_append_left hm] at e
      obtain ⟨a, h1, h2⟩ := o.cell n cl' e
      refine ⟨a, ?_, h2.ext (ext_cell o h).toKeep fun m => ?_⟩
      · show (c.ι ++ [p])[n]? = some a
        rw [List.getElem?_append_left (by omega)]
        exact h1
      · obtain ⟨ob, e1⟩ := h2.there m
        exact upd_ne (ne_of_none e1 h)
    · rw [List.getElem?_append_right (by omega)] at e
      have e0 : n - c.S.length = 0 := by
        by_cases q : n - c.S.length = 0
        · exact q
        · rw [List.getElem?_eq_none (by simp; omega)] at e
          cases e
      rw [e0] at e
      cases e
      refine ⟨p, ?_, hc⟩
      show (c.ι ++ [p])[n]? = some p
      rw [List.getElem?_append_right (by omega), show n - c.ι.length = 0 by omega]
      rfl
/-- a cell changes -/
theorem ext_set (o : OkC K c) {n : Nat} {a : Addr} {cl cl' : Cell} {u : HO} (hn : c.ι[n]? = some a) (hS : c.S[n]? = some cl) (m : cl.isMut = true) : Ext c ⟨c.hd, c.ι, c.S.set n cl', upd c.H a u⟩ := by
  have mem : a ∈ c.ι := List.mem_of_getElem? hn
  refine ⟨⟨fun b ob e nl => ?_⟩, List.prefix_refl _, fun b hb => upd_ne fun z => (o.hid b hb).2 (by rw [z]; exact mem), rfl⟩
  have hb : b ≠ a := fun z => nl (.inr ⟨n, cl, by rw [z]; exact hn, hS, m⟩)
  refine ⟨kept.of_eq ?_, ?_⟩
  · show upd c.H a u b = _
    rw [upd_ne hb]
    exact e
  · rintro (hq | ⟨k, cl2, h1, h2, h3⟩)
    · exact nl (.inl hq)
    have h1 : c.ι[k]? = some b := h1
    have h2 : (c.S.set n cl')[k]? = some cl2 := h2
    have hk : n ≠ k := fun z => by
      subst z
      rw [hn] at h1
      cases h1
      exact hb rfl
    rw [List.getElem?_set_ne hk] at h2
    exact nl (.inr ⟨k, cl2, h1, h2, h3⟩)
theorem ok_set (o : OkC K c) {n : Nat} {a : Addr} {cl cl' : Cell} {u : HO} (hn : c.ι[n]? = some a) (hS : c.S[n]? = some cl) (m : cl.isMut = true) (hc : CellOk K ⟨c.hd, c.ι, c.S.set n cl', upd c.H a u⟩ a cl') : OkC K ⟨c.hd, c.ι, c.S.set n cl', upd c.H a u⟩ := by
  refine ⟨fun b hb => ⟨by obtain ⟨ob, q⟩ := (o.hid b hb).1; exact ⟨ob, ((ext_set (cl' := cl') (u := u) o hn hS m).hid b hb).trans q⟩, (o.hid b hb).2⟩, by show c.ι.length = (c.S.set n cl').length; rw [List.length_set]; exact o.len, o.nodup, fun k cl2 e => ?_⟩
  have e : (c.S.set n cl')[k]? = some cl2 := e
  by_cases hk : n = k
  · subst hk
    have hlt : n < c.S.length := (List.getElem?_eq_some_iff.mp hS).1
    rw [List.getElem?_set_self hlt] at e
    cases e
    exact ⟨a, hn, hc⟩
  · rw [List.getElem?_set_ne hk] at e
    obtain ⟨a2, h1, h2⟩ := o.cell k cl2 e
    refine ⟨a2, h1, h2.ext (ext_set o hn hS m).toKeep fun _ => ?_⟩
    exact upd_ne fun z => hk (nodup_idx o.nodup hn (by rw [← z]; exact h1))
/-- what a cell holds, as a datum -/
def Cell.dat : Cell → D
  | .lst xs => .list xs
  | .dic kvs => .dict kvs
  | .fz x => x
theorem CellOk.rep {a : Addr} {cl : Cell} (h : CellOk K c a cl) {c' : Cfg} (k : Keep c c') (e : c'.H a = c.H a ∨ cl.isMut = false) (n : ¬ live c'.hd c'.ι c'.S a) : Rep K c' (.ref a) cl.dat := by
  cases cl with
  | lst xs =>
    obtain ⟨vs, h1, h2⟩ := h
    have e1 : c'.H a = c.H a := e.resolve_right fun z => nomatch z
    exact .lst (e1.trans h1) n (h2.ext k)
  | dic kvs =>
    have e1 : c'.H a = c.H a := e.resolve_right fun z => nomatch z
    rcases h with ⟨vs, h1, h2⟩ | ⟨vs, h1, z, h2⟩
    · exact .dK (.inl (e1.trans h1)) n (h2.ext k)
    · exact .dT (.inl (e1.trans h1)) n z (h2.ext k)
  | fz x => exact h.1.ext k
theorem live_set {n : Nat} {x : D} {b : Addr} (h : live c.hd c.ι (c.S.set n (.fz x)) b) : live c.hd c.ι c.S b := by
  rcases h with h | ⟨k, cl, h1, h2, h3⟩
  · exact .inl h
  by_cases hk : n = k
  · subst hk
    by_cases hlt : n < c.S.length
    · rw [List.getElem?_set_self hlt] at h2
      cases h2
      cases h3
    · rw [List.getElem?_eq_none (by simp; omega)] at h2
      cases h2
  · rw [List.getElem?_set_ne hk] at h2
    exact .inr ⟨k, cl, h1, h2, h3⟩
/-- a cell becomes a datum -/
theorem ext_frz {n : Nat} {x : D} : Ext c ⟨c.hd, c.ι, c.S.set n (.fz x), c.H⟩ := ⟨⟨fun b ob e nl => ⟨kept.of_eq e, fun h => nl (live_set h)⟩⟩, List.prefix_refl _, fun _ _ => rfl, rfl⟩
theorem ok_frz (o : OkC K c) {n : Nat} {a : Addr} {cl : Cell} (hn : c.ι[n]? = some a) (hS : c.S[n]? = some cl) : OkC K ⟨c.hd, c.ι, c.S.set n (.fz cl.dat), c.H⟩ ∧ Rep K ⟨c.hd, c.ι, c.S.set n (.fz cl.dat), c.H⟩ (.ref a) cl.dat := by
  have hlt : n < c.S.length := (List.getElem?_eq_some_iff.mp hS).1
  obtain ⟨a', h1, h2⟩ := o.cell n cl hS
  rw [hn] at h1
  cases h1
  have nl : ¬ live c.hd c.ι (c.S.set n (.fz cl.dat)) a := by
    rintro (hq | ⟨k, cl2, h3, h4, h5⟩)
    · exact (o.hid a hq).2 (List.mem_of_getElem? hn)
    have hk := nodup_idx o.nodup hn h3
    subst hk
    rw [List.getElem?_set_self hlt] at h4
    cases h4
    cases h5
  have r : Rep K ⟨c.hd, c.ι, c.S.set n (.fz cl.dat), c.H⟩ (.ref a) cl.dat := h2.rep ext_frz.toKeep (.inl rfl) nl
  refine ⟨⟨o.hid, by show c.ι.length = (c.S.set n _).length; rw [List.length_set]; exact o.len, o.nodup, fun k cl2 e => ?_⟩, r⟩
  have e : (c.S.set n (.fz cl.dat))[k]? = some cl2 := e
  by_cases hk : n = k
  · subst hk
    rw [List.getElem?_set_self hlt] at e
    cases e
    refine ⟨a, hn, r, ?_, nl⟩
    cases cl with
    | fz x => exact h2.2.1
    | lst xs => exact h2.there rfl
    | dic xs => exact h2.there rfl
  · rw [List.getElem?_set_ne hk] at e
    obtain ⟨a2, h3, h4⟩ := o.cell k cl2 e
    exact ⟨a2, h3, h4.ext ext_frz.toKeep fun _ => rfl⟩
/-- the cells of a call are dropped -/
theorem live_take {hd ι : List Addr} {S : Sto} {k : Nat} {b : Addr} (h : live hd (ι.take k) (S.take k) b) : live hd ι S b := by
  rcases h with h | ⟨n, cl, h1, h2, h3⟩
  · exact .inl h
  rw [List.getElem?_take] at h1 h2
  split at h1
  · rename_i hn
    rw [if_pos hn] at h2
    exact .inr ⟨n, cl, h1, h2, h3⟩
  · cases h1
theorem keep_take {hd ι : List Addr} {S : Sto} {H : Hp} {k : Nat} : Keep ⟨hd, ι, S, H⟩ ⟨hd, ι.take k, S.take k, H⟩ := ⟨fun b ob e nl => ⟨kept.of_eq e, fun h => nl (live_take h)⟩⟩
theorem ok_take (o : OkC K c) (k : Nat) : OkC K ⟨c.hd, c.ι.take k, c.S.take k, c.H⟩ := by
  have hl := o.len
  refine ⟨fun a ha => ⟨(o.hid a ha).1, fun z => (o.hid a ha).2 (List.mem_of_mem_take z)⟩, by show (c.ι.take k).length = (c.S.take k).length; rw [List.length_take, List.length_take, hl], List.Nodup.sublist (List.take_sublist _ _) o.nodup, fun n cl e => ?_⟩
  have e : (c.S.take k)[n]? = some cl := e
  rw [List.getElem?_take] at e
  split at e
  · rename_i hn
    obtain ⟨a, h1, h2⟩ := o.cell n cl e
    refine ⟨a, ?_, h2.ext keep_take fun _ => rfl⟩
    show (c.ι.take k)[n]? = some a
    rw [List.getElem?_take, if_pos hn]
    exact h1
  · cases e
theorem ext_take {c0 : Cfg} (e : Ext c0 c) (o : OkC K c0) : c.ι.take c0.S.length = c0.ι ∧ Ext c0 ⟨c.hd, c.ι.take c0.S.length, c.S.take c0.S.length, c.H⟩ := by
  obtain ⟨t, ht⟩ := e.pre
  have hl := o.len
  have h1 : c.ι.take c0.S.length = c0.ι := by
    rw [← ht, ← hl, List.take_left']
    rfl
  refine ⟨h1, ⟨e.toKeep.trans keep_take, ?_, e.hid, e.same⟩⟩
  show c0.ι <+: c.ι.take c0.S.length
  rw [h1]
  exact List.prefix_refl _
end
end DL
namespace DL
open PySem PySem.Spec PyProof.Rows L2
/-! ### readings -/
/-- what is wanted of an exception: its class's name, its fields, the configuration -/
abbrev EXW := Option (Str → List (Str × D) → Cfg → Prop)
/-- nothing may be raised -/
abbrev E0W : EXW := none
def EXW.at_ (E : EXW) (n : Str) (fs : List (Str × D)) (c : Cfg) (S' : Sto) (K : PySem.W.Frag) : Prop := match E with
  | none => False
  | some E => ∀ ι' H', Ext c ⟨c.hd, ι', S', H'⟩ → OkC K ⟨c.hd, ι', S', H'⟩ → E n fs ⟨c.hd, ι', S', H'⟩
theorem EXW.step {E : EXW} {n : Str} {fs : List (Str × D)} {c c1 : Cfg} {S' : Sto} {K : PySem.W.Frag} (h : E.at_ n fs c S' K) (e : Ext c c1) : E.at_ n fs c1 S' K := by
  have hs := e.same
  cases E with
  | none => exact h
  | some E =>
    intro ι' H' e' o
    rw [hs] at e' o ⊢
    exact h ι' H' (e.trans e') o
def PostG {α β : Type} (R : Cfg → β → α → Prop) (K : PySem.W.Frag) (E : EXW) (c : Cfg) (Q : β → Hp → Prop) : Rs α → Prop
  | .ok u S' => ∀ v ι' H', Ext c ⟨c.hd, ι', S', H'⟩ → OkC K ⟨c.hd, ι', S', H'⟩ → R ⟨c.hd, ι', S', H'⟩ v u → Q v H'
  | .ex n fs S' => E.at_ n fs c S' K
  | .bad => False
abbrev Post (K : PySem.W.Frag) : EXW → Cfg → (V → Hp → Prop) → Rs U → Prop := PostG (RepU K) K
abbrev PostB (K : PySem.W.Frag) : EXW → Cfg → (Bool → Hp → Prop) → Rs Bool → Prop := PostG (fun _ b b' => b = b') K
abbrev PostA (K : PySem.W.Frag) : EXW → Cfg → (List V → Hp → Prop) → Rs (List U) → Prop := PostG (RepUs K) K
theorem PostG.step {α β : Type} {R : Cfg → β → α → Prop} {K : PySem.W.Frag} {E : EXW} {c c1 : Cfg} {Q : β → Hp → Prop} {r : Rs α} (h : PostG R K E c Q r) (e : Ext c c1) : PostG R K E c1 Q r := by
  have hs := e.same
  cases r with
  | ok u S' =>
    intro v ι' H' e' o r
    rw [hs] at e' o r
    exact h v ι' H' (e.trans e') o r
  | ex n fs S' => exact EXW.step h e
  | bad => exact h
structure Slots (K : PySem.W.Frag) (c : Cfg) (σ : L2.St) (ρ : Rho) : Prop where
  at_ : ∀ (i : Nat) (u : U), ρ[i]? = some (some u) → ∃ v, σ[i]? = some (some v) ∧ RepU K c v u
theorem Slots.ext {K : PySem.W.Frag} {c c' : Cfg} {σ : L2.St} {ρ : Rho} (h : Slots K c σ ρ) (e : Ext c c') : Slots K c' σ ρ := ⟨fun i u q => by
  obtain ⟨v, h1, h2⟩ := h.at_ i u q
  exact ⟨v, h1, h2.ext e⟩⟩
/-- a place is stored -/
theorem Slots.set {K : PySem.W.Frag} {c : Cfg} {σ : L2.St} {ρ : Rho} (h : Slots K c σ ρ) (hl : ρ.length = σ.length) {i : Nat} {v : V} {u : U} (r : RepU K c v u) : Slots K c (σ.set i (some v)) (ρ.set i (some u)) := ⟨fun j w q => by
  by_cases hj : i = j
  · subst hj
    by_cases hi : i < ρ.length
    · rw [List.getElem?_set_self hi] at q
      cases q
      exact ⟨v, List.getElem?_set_self (by omega), r⟩
    · rw [List.getElem?_eq_none (by simp; omega)] at q
      cases q
  · rw [List.getElem?_set_ne hj] at q
    rw [List.getElem?_set_ne hj]
    exact h.at_ j w q⟩
/-- the state at hand -/
structure At (K : PySem.W.Frag) (c : Cfg) (σ : L2.St) (ρ : Rho) : Prop where
  ok : OkC K c
  sl : Slots K c σ ρ
  len : ρ.length = σ.length
theorem At.ext {K : PySem.W.Frag} {c c' : Cfg} {σ : L2.St} {ρ : Rho} (h : At K c σ ρ) (e : Ext c c') (o : OkC K c') : At K c' σ ρ := ⟨o, h.sl.ext e, h.len⟩
def tD (K : PySem.W.Frag) (E : EXW) (f : DE) : TE := fun σ H Q => ∃ hd ι S ρ, At K ⟨hd, ι, S, H⟩ σ ρ ∧ Post K E ⟨hd, ι, S, H⟩ Q (f ρ S)
def tB (K : PySem.W.Frag) (E : EXW) (f : DT) : TT := fun σ H Q => ∃ hd ι S ρ, At K ⟨hd, ι, S, H⟩ σ ρ ∧ PostB K E ⟨hd, ι, S, H⟩ Q (f ρ S)
def tA (K : PySem.W.Frag) (E : EXW) (f : DA) : TA := fun σ H Q => ∃ hd ι S ρ, At K ⟨hd, ι, S, H⟩ σ ρ ∧ PostA K E ⟨hd, ι, S, H⟩ Q (f ρ S)
def PostS (K : PySem.W.Frag) (E : EXW) (c : Cfg) (D : Ends) : Rt → Prop
  | .nx ρ' S' => ∀ σ' ι' H', Ext c ⟨c.hd, ι', S', H'⟩ → At K ⟨c.hd, ι', S', H'⟩ σ' ρ' → D.nx σ' H'
  | .bk ρ' S' => ∀ σ' ι' H', Ext c ⟨c.hd, ι', S', H'⟩ → At K ⟨c.hd, ι', S', H'⟩ σ' ρ' → D.bk σ' H'
  | .ct ρ' S' => ∀ σ' ι' H', Ext c ⟨c.hd, ι', S', H'⟩ → At K ⟨c.hd, ι', S', H'⟩ σ' ρ' → D.ct σ' H'
  | .rt u S' => ∀ v ι' H', Ext c ⟨c.hd, ι', S', H'⟩ → OkC K ⟨c.hd, ι', S', H'⟩ → RepU K ⟨c.hd, ι', S', H'⟩ v u → D.rt v H'
  | .ex n fs S' => E.at_ n fs c S' K
  | .bad => False
theorem PostS.step {K : PySem.W.Frag} {E : EXW} {c c1 : Cfg} {D : Ends} {r : Rt} (h : PostS K E c D r) (e : Ext c c1) : PostS K E c1 D r := by
  have hs := e.same
  cases r with
  | nx ρ S' =>
    intro v ι' H' e' r
    rw [hs] at e' r
    exact h v ι' H' (e.trans e') r
  | bk ρ S' =>
    intro v ι' H' e' r
    rw [hs] at e' r
    exact h v ι' H' (e.trans e') r
  | ct ρ S' =>
    intro v ι' H' e' r
    rw [hs] at e' r
    exact h v ι' H' (e.trans e') r
  | rt u S' =>
    intro v ι' H' e' o r
    rw [hs] at e' o r
    exact h v ι' H' (e.trans e') o r
  | ex n fs S' => exact EXW.step h e
  | bad => exact h
def tS (K : PySem.W.Frag) (E : EXW) (f : DS) : TS := fun D σ H => ∃ hd ι S ρ, At K ⟨hd, ι, S, H⟩ σ ρ ∧ PostS K E ⟨hd, ι, S, H⟩ D (f ρ S)
theorem _root_.L2.PE.dimp {X : Cx} {e : Expr} {t t' : TE} (h : PE X e t) (k : ∀ σ H Q, t' σ H Q → t σ H Q) : PE X e t' := ⟨fun pins s σ H Q I q => h.run pins s σ H Q I (k _ _ _ q)⟩
theorem _root_.L2.PT.dimp {X : Cx} {e : Expr} {t t' : TT} (h : PT X e t) (k : ∀ σ H Q, t' σ H Q → t σ H Q) : PT X e t' := ⟨fun pins s σ H Q I q => h.run pins s σ H Q I (k _ _ _ q)⟩
theorem _root_.L2.PW.dimp {X : Cx} {e : Expr} {t t' : TT} (h : PW X e t) (k : ∀ σ H Q, t' σ H Q → t σ H Q) : PW X e t' := ⟨fun wh pins s σ H Q I q => h.run wh pins s σ H Q I (k _ _ _ q)⟩
theorem _root_.L2.PA.dimp {X : Cx} {e : List Expr} {t t' : TA} (h : PA X e t) (k : ∀ σ H Q, t' σ H Q → t σ H Q) : PA X e t' := ⟨fun pos pins s σ H Q I q => h.run pos pins s σ H Q I (k _ _ _ q)⟩
theorem _root_.L2.PS.dimp {X : Cx} {e : Stmt} {t t' : TS} (h : PS X e t) (k : ∀ D σ H, t' D σ H → t D σ H) : PS X e t' := ⟨fun pins s σ H D I q => h.run pins s σ H D I (k _ _ _ q)⟩
theorem _root_.L2.PSs.dimp {X : Cx} {e : List Stmt} {t t' : TS} (h : PSs X e t) (k : ∀ D σ H, t' D σ H → t D σ H) : PSs X e t' := ⟨fun pins s σ H D I q => h.run pins s σ H D I (k _ _ _ q)⟩
theorem _root_.L2.PG.dimp {X : Cx} {e : Expr} {t t' : TG} (h : PG X e t) (k : ∀ v σ H Q, t' v σ H Q → t v σ H Q) : PG X e t' := ⟨fun pins s σ H v u Q I r q => h.run pins s σ H v u Q I r (k _ _ _ _ q)⟩
section
variable {X : Cx} {E : EXW} {K : PySem.W.Frag}
/-- f, then k of what it gave -/
theorem tD_step {f : DE} {σ : L2.St} {ρ : Rho} {c : Cfg} {Q Q' : V → Hp → Prop} {k : U → Sto → Rs U} (a : At K c σ ρ) (h : Post K E c Q' ((f ρ c.S).bind k))
    (go : ∀ u v c1, Ext c c1 → At K c1 σ ρ → RepU K c1 v u → Post K E c1 Q' (k u c1.S) → Q v c1.H) : tD K E f σ c.H Q := by
  refine ⟨c.hd, c.ι, c.S, ρ, a, ?_⟩
  cases hf : f ρ c.S with
  | ok u S1 =>
    rw [hf] at h
    exact fun v ι' H' e o r => go u v ⟨c.hd, ι', S1, H'⟩ e (a.ext e o) r (PostG.step h e)
  | ex n fs S1 =>
    rw [hf] at h
    exact h
  | bad =>
    rw [hf] at h
    exact h
/-- .. with another kind of end -/
theorem tD_stepG {α β : Type} {R : Cfg → β → α → Prop} {f : DE} {σ : L2.St} {ρ : Rho} {c : Cfg} {Q : V → Hp → Prop} {Q' : β → Hp → Prop} {k : U → Sto → Rs α} (a : At K c σ ρ) (h : PostG R K E c Q' ((f ρ c.S).bind k))
    (go : ∀ u v c1, Ext c c1 → At K c1 σ ρ → RepU K c1 v u → PostG R K E c1 Q' (k u c1.S) → Q v c1.H) : tD K E f σ c.H Q := by
  refine ⟨c.hd, c.ι, c.S, ρ, a, ?_⟩
  cases hf : f ρ c.S with
  | ok u S1 =>
    rw [hf] at h
    exact fun v ι' H' e o r => go u v ⟨c.hd, ι', S1, H'⟩ e (a.ext e o) r (PostG.step h e)
  | ex n fs S1 =>
    rw [hf] at h
    exact h
  | bad =>
    rw [hf] at h
    exact h
theorem tB_stepG {α β : Type} {R : Cfg → β → α → Prop} {f : DT} {σ : L2.St} {ρ : Rho} {c : Cfg} {Q : Bool → Hp → Prop} {Q' : β → Hp → Prop} {k : Bool → Sto → Rs α} (a : At K c σ ρ) (h : PostG R K E c Q' ((f ρ c.S).bind k))
    (go : ∀ u c1, Ext c c1 → At K c1 σ ρ → PostG R K E c1 Q' (k u c1.S) → Q u c1.H) : tB K E f σ c.H Q := by
  refine ⟨c.hd, c.ι, c.S, ρ, a, ?_⟩
  cases hf : f ρ c.S with
  | ok u S1 =>
    rw [hf] at h
    exact fun v ι' H' e o r => by
      subst r
      exact go v ⟨c.hd, ι', S1, H'⟩ e (a.ext e o) (PostG.step h e)
  | ex n fs S1 =>
    rw [hf] at h
    exact h
  | bad =>
    rw [hf] at h
    exact h
theorem tA_stepG {α β : Type} {R : Cfg → β → α → Prop} {f : DA} {σ : L2.St} {ρ : Rho} {c : Cfg} {Q : List V → Hp → Prop} {Q' : β → Hp → Prop} {k : List U → Sto → Rs α} (a : At K c σ ρ) (h : PostG R K E c Q' ((f ρ c.S).bind k))
    (go : ∀ u v c1, Ext c c1 → At K c1 σ ρ → RepUs K c1 v u → PostG R K E c1 Q' (k u c1.S) → Q v c1.H) : tA K E f σ c.H Q := by
  refine ⟨c.hd, c.ι, c.S, ρ, a, ?_⟩
  cases hf : f ρ c.S with
  | ok u S1 =>
    rw [hf] at h
    exact fun v ι' H' e o r => go u v ⟨c.hd, ι', S1, H'⟩ e (a.ext e o) r (PostG.step h e)
  | ex n fs S1 =>
    rw [hf] at h
    exact h
  | bad =>
    rw [hf] at h
    exact h
/-! ### what an end gives -/
theorem Post.val {c : Cfg} {Q : V → Hp → Prop} {d : D} {v : V} (h : Post K E c Q (.ok (.d d) c.S)) (o : OkC K c) (r : Rep K c v d) : Q v c.H := h v c.ι c.H (Ext.refl c) o r
theorem Post.valU {c : Cfg} {Q : V → Hp → Prop} {u : U} {v : V} (h : Post K E c Q (.ok u c.S)) (o : OkC K c) (r : RepU K c v u) : Q v c.H := h v c.ι c.H (Ext.refl c) o r
theorem Post.new {c : Cfg} {Q : V → Hp → Prop} {d : D} {p : Addr} {u : HO} (h : Post K E c Q (.ok (.d d) c.S)) (o : OkC K c) (hp : c.H p = none) (r : Rep K ⟨c.hd, c.ι, c.S, upd c.H p u⟩ (.ref p) d) : Q (.ref p) (upd c.H p u) :=
  h (.ref p) c.ι (upd c.H p u) (ext_new o hp) (ok_new o hp) r
theorem rep_newL {c : Cfg} {p : Addr} {xs : List V} {ds : List D} (o : OkC K c) (hp : c.H p = none) (r : RepA K c xs ds) : Rep K ⟨c.hd, c.ι, c.S, upd c.H p (.lst xs)⟩ (.ref p) (.list ds) :=
  .lst upd_same (o.notlive hp) (r.ext (ext_new o hp).toKeep)
theorem rep_newT {c : Cfg} {p : Addr} {xs : List V} {ds : List D} (o : OkC K c) (hp : c.H p = none) (r : RepA K c xs ds) : Rep K ⟨c.hd, c.ι, c.S, upd c.H p (.tup xs)⟩ (.ref p) (.tuple ds) :=
  .tup upd_same (o.notlive hp) (r.ext (ext_new o hp).toKeep)
/-! ### names, constants -/
def dVar (i : Nat) : DE := fun ρ S => match ρ[i]? with
  | some (some u) => .ok u S
  | _ => .bad
def dC (d : D) : DE := fun _ S => .ok (.d d) S
theorem pd_var (i : Nat) {x : Str} {pos : Pos} (hN : X.N[i]? = some x := by rfl) (hv : Vis X.env.scope x := by first | exact Or.inl rfl | exact Or.inr (Or.inl rfl) | exact Or.inr (Or.inr rfl)) (hd : (x == ("__debug__" : Str)) = false := by decide)
    (hcd : (x == ("__classdict__" : Str)) = false := by decide) : PE X (.Name x pos) (tD X.K E (dVar i)) := (pe_var hN hv hd hcd).dimp fun σ H Q ⟨hd, ι, S, ρ, a, h⟩ => by
  unfold dVar at h
  split at h
  · rename_i u e
    obtain ⟨v, h1, h2⟩ := a.sl.at_ i u e
    exact ⟨v, h1, Post.valU (c := ⟨hd, ι, S, H⟩) h a.ok h2⟩
  · exact h.elim
theorem pd_int {i j pos} : PE X (.Constant (.int i) j pos) (tD X.K E (dC (.int i))) := pe_int.dimp fun σ H Q ⟨hd, ι, S, ρ, a, h⟩ => Post.val (c := ⟨hd, ι, S, H⟩) h a.ok (.int i)
theorem pd_bl {i j pos} : PE X (.Constant (.bool i) j pos) (tD X.K E (dC (.bool i))) := pe_bl.dimp fun σ H Q ⟨hd, ι, S, ρ, a, h⟩ => Post.val (c := ⟨hd, ι, S, H⟩) h a.ok (.bl i)
theorem pd_non {j pos} : PE X (.Constant .none j pos) (tD X.K E (dC .none)) := pe_non.dimp fun σ H Q ⟨hd, ι, S, ρ, a, h⟩ => Post.val (c := ⟨hd, ι, S, H⟩) h a.ok .non
theorem pd_str {i j pos} : PE X (.Constant (.str i) j pos) (tD X.K E (dC (.str i))) := pe_str.dimp fun σ H Q ⟨hd, ι, S, ρ, a, h⟩ => Post.val (c := ⟨hd, ι, S, H⟩) h a.ok (.str i)
theorem pd_gint {x : Str} {i : Int} {pos : Pos} (hg : Gl X x) (hm : ∃ t, X.mg x = some (.int i t)) (hd : (x == ("__debug__" : Str)) = false := by decide) : PE X (.Name x pos) (tD X.K E (dC (.int i))) := by
  obtain ⟨t, hm⟩ := hm
  exact (pe_glob (v := .int i) hg hm ⟨t, rfl⟩ hd).dimp fun σ H Q ⟨hd, ι, S, ρ, a, h⟩ => Post.val (c := ⟨hd, ι, S, H⟩) h a.ok (.int i)
theorem pd_gstr {x : Str} {i : Str} {pos : Pos} (hg : Gl X x) (hm : ∃ t, X.mg x = some (.str i t)) (hd : (x == ("__debug__" : Str)) = false := by decide) : PE X (.Name x pos) (tD X.K E (dC (.str i))) := by
  obtain ⟨t, hm⟩ := hm
  exact (pe_glob (v := .str i) hg hm ⟨t, rfl⟩ hd).dimp fun σ H Q ⟨hd, ι, S, ρ, a, h⟩ => Post.val (c := ⟨hd, ι, S, H⟩) h a.ok (.str i)
/-! ### operators -/
abbrev Op1 := U → Sto → Rs U
abbrev Op2 := U → U → Sto → Rs U
abbrev OpN := List U → Sto → Rs U
def dOp2 (op : Op2) (f g : DE) : DE := fun ρ S => (f ρ S).bind fun u S1 => (g ρ S1).bind fun w S2 => op u w S2
def dOp1 (op : Op1) (f : DE) : DE := fun ρ S => (f ρ S).bind op
/-- the rule r of the layer serves op -/
def Lk2 (K : PySem.W.Frag) (E : EXW) (r : R2) (op : Op2) : Prop := ∀ (c : Cfg) (x y : V) (u w : U) (Q : VK), OkC K c → RepU K c x u → RepU K c y w → Post K E c Q (op u w c.S) → r x y c.H Q
def Lk1 (K : PySem.W.Frag) (E : EXW) (r : V → Hp → VK → Prop) (op : Op1) : Prop := ∀ (c : Cfg) (x : V) (u : U) (Q : VK), OkC K c → RepU K c x u → Post K E c Q (op u c.S) → r x c.H Q
def LkN (K : PySem.W.Frag) (E : EXW) (r : List V → Hp → VK → Prop) (op : OpN) : Prop := ∀ (c : Cfg) (x : List V) (u : List U) (Q : VK), OkC K c → RepUs K c x u → Post K E c Q (op u c.S) → r x c.H Q
theorem t_op2 {r : R2} {op : Op2} (l : Lk2 K E r op) {f g : DE} {σ : L2.St} {H : Hp} {Q : VK} (h : tD K E (dOp2 op f g) σ H Q) : tOp r (tD K E f) (tD K E g) σ H Q := by
  obtain ⟨hd, ι, S, ρ, a, h⟩ := h
  refine tD_step (c := ⟨hd, ι, S, H⟩) a h fun u v c1 e1 a1 r1 h1 => ?_
  refine tD_step (c := c1) a1 h1 fun w y c2 e2 a2 r2 h2 => ?_
  exact l c2 v y u w Q a2.ok (r1.ext e2) r2 h2
theorem t_op1 {r : V → Hp → VK → Prop} {op : Op1} (l : Lk1 K E r op) {f : DE} {σ : L2.St} {H : Hp} {Q : VK} (h : tD K E (dOp1 op f) σ H Q) : tUn r (tD K E f) σ H Q := by
  obtain ⟨hd, ι, S, ρ, a, h⟩ := h
  exact tD_step (c := ⟨hd, ι, S, H⟩) a h fun u v c1 e1 a1 r1 h1 => l c1 v u Q a1.ok r1 h1
variable {a b c : Expr} {f g k : DE} {pos : Pos} {op : Op2} {r : R2}
theorem pd_bin {o : Operator} (ho : OpR X (binaryOp o) r) (l : Lk2 X.K E r op) (ha : PE X a (tD X.K E f)) (hb : PE X b (tD X.K E g)) : PE X (.BinOp a o b pos) (tD X.K E (dOp2 op f g)) := (pe_op ho ha hb).dimp fun _ _ _ h => t_op2 l h
theorem pd_un {o : UnaryOp} {op : Op1} {r : V → Hp → VK → Prop} (ho : UnR X (unaryOp o) r) (l : Lk1 X.K E r op) (ha : PE X a (tD X.K E f)) : PE X (.UnaryOp o a pos) (tD X.K E (dOp1 op f)) := (pe_un ho ha).dimp fun _ _ _ h => t_op1 l h
theorem pd_cmp {o : CmpOp} (ho : OpR X (compareOp o) r) (l : Lk2 X.K E r op) (ha : PE X a (tD X.K E f)) (hb : PE X b (tD X.K E g)) (hm : behindInMarks o b = false) : PE X (.Compare a [o] [b] pos) (tD X.K E (dOp2 op f g)) := (pe_cmpR ho ha hb hm).dimp fun _ _ _ h => t_op2 l h
/-- a bool as a test's answer -/
def asB (u : U) (S : Sto) : Rs Bool := match u with
  | .d (.bool b) => .ok b S
  | _ => .bad
def dTest (f : DE) : DT := fun ρ S => (f ρ S).bind asB
theorem asB_go {c : Cfg} {u : U} {v : V} {Q : Bool → Hp → Prop} (o : OkC K c) (r : RepU K c v u) (h : PostB K E c Q (asB u c.S)) : ∃ k, v = .bl k ∧ Q k c.H := by
  unfold asB at h
  split at h
  · rename_i b
    cases r
    exact ⟨b, rfl, h b c.ι c.H (Ext.refl c) o rfl⟩
  · exact h.elim
theorem pd_cmpT {o : CmpOp} (ho : OpR X (compareOp o) r) (l : Lk2 X.K E r op) (ha : PE X a (tD X.K E f)) (hb : PE X b (tD X.K E g)) (hm : behindInMarks o b = false) : PT X (.Compare a [o] [b] pos) (tB X.K E (dTest (dOp2 op f g))) := (pt_cmpR ho ha hb hm).dimp fun σ H Q ⟨hd, ι, S, ρ, at_, h⟩ => by
  refine t_op2 l (tD_stepG (c := ⟨hd, ι, S, H⟩) at_ h fun u v c1 e1 a1 r1 h1 => ?_)
  exact asB_go a1.ok r1 h1
/-- a chain of two -/
def dChain (op op' : Op2) (f g k : DE) : DE := fun ρ S => (f ρ S).bind fun u S1 => (g ρ S1).bind fun w S2 => (op u w S2).bind fun z S3 => (asB z S3).bind fun b S4 =>
  if b = true then (k ρ S4).bind fun y S5 => op' w y S5 else .ok (.d (.bool false)) S4
theorem op_step {op : Op2} {r : R2} (l : Lk2 K E r op) {α β : Type} {R : Cfg → β → α → Prop} {c : Cfg} {x y : V} {u w : U} {Q : VK} {Q' : β → Hp → Prop} {k : U → Sto → Rs α} (o : OkC K c) (rx : RepU K c x u) (ry : RepU K c y w) (h : PostG R K E c Q' ((op u w c.S).bind k))
    (go : ∀ z v c1, Ext c c1 → OkC K c1 → RepU K c1 v z → PostG R K E c1 Q' (k z c1.S) → Q v c1.H) : r x y c.H Q := by
  refine l c x y u w Q o rx ry ?_
  cases hf : op u w c.S with
  | ok z S1 =>
    rw [hf] at h
    exact fun v ι' H' e o r => go z v ⟨c.hd, ι', S1, H'⟩ e o r (PostG.step h e)
  | ex n fs S1 =>
    rw [hf] at h
    exact h
  | bad =>
    rw [hf] at h
    exact h
theorem asB_go2 {α β : Type} {R : Cfg → β → α → Prop} {c : Cfg} {u : U} {v : V} {Q' : β → Hp → Prop} {k : Bool → Sto → Rs α} (r : RepU K c v u) (h : PostG R K E c Q' ((asB u c.S).bind k)) : ∃ b, v = .bl b ∧ PostG R K E c Q' (k b c.S) := by
  unfold asB at h
  split at h
  · rename_i b
    cases r
    exact ⟨b, rfl, h⟩
  · exact h.elim
theorem t_chain {op op' : Op2} {r r' : R2} (l : Lk2 K E r op) (l' : Lk2 K E r' op') {f g k : DE} {σ : L2.St} {H : Hp} {Q : VK} (h : tD K E (dChain op op' f g k) σ H Q) : tChain r r' (tD K E f) (tD K E g) (tD K E k) σ H Q := by
  obtain ⟨hd, ι, S, ρ, a, h⟩ := h
  refine tD_step (c := ⟨hd, ι, S, H⟩) a h fun u v c1 e1 a1 r1 h1 => ?_
  refine tD_step (c := c1) a1 h1 fun w y c2 e2 a2 r2 h2 => ?_
  refine op_step l a2.ok (r1.ext e2) r2 h2 fun z t c3 e3 o3 r3 h3 => ?_
  obtain ⟨b, rfl, h4⟩ := asB_go2 r3 h3
  refine ⟨b, rfl, ?_⟩
  cases b with
  | false => exact Post.val h4 o3 (.bl false)
  | true =>
    rw [if_pos rfl] at h4
    rw [if_pos rfl]
    refine tD_step (c := c3) (a2.ext e3 o3) h4 fun z' y' c5 e5 a5 r5 h5 => ?_
    exact l' c5 y y' w z' Q a5.ok ((r2.ext e3).ext e5) r5 h5
theorem pd_chain {o o' : CmpOp} {op op' : Op2} {r r' : R2} (ho : OpR X (compareOp o) r) (ho' : OpR X (compareOp o') r') (l : Lk2 X.K E r op) (l' : Lk2 X.K E r' op') (ha : PE X a (tD X.K E f)) (hb : PE X b (tD X.K E g)) (hc : PE X c (tD X.K E k))
    (hm : lastMarks [o, o'] [b, c] = false := by with_unfolding_all rfl) : PE X (.Compare a [o, o'] [b, c] pos) (tD X.K E (dChain op op' f g k)) := (pe_chain ho ho' ha hb hc hm).dimp fun _ _ _ h => t_chain l l' h
theorem pd_chainT {o o' : CmpOp} {op op' : Op2} {r r' : R2} (ho : OpR X (compareOp o) r) (ho' : OpR X (compareOp o') r') (l : Lk2 X.K E r op) (l' : Lk2 X.K E r' op') (ha : PE X a (tD X.K E f)) (hb : PE X b (tD X.K E g)) (hc : PE X c (tD X.K E k))
    (hm : lastMarks [o, o'] [b, c] = false := by with_unfolding_all rfl) : PT X (.Compare a [o, o'] [b, c] pos) (tB X.K E (dTest (dChain op op' f g k))) := (pt_chain ho ho' ha hb hc hm).dimp fun σ H Q ⟨hd, ι, S, ρ, at_, h⟩ => by
  refine t_chain l l' (tD_stepG (c := ⟨hd, ι, S, H⟩) at_ h fun u v c1 e1 a1 r1 h1 => ?_)
  exact asB_go a1.ok r1 h1
/-! ### truth, and, or, not -/
def truU (u : U) (S : Sto) : Rs Bool := match u with
  | .d .none => .ok false S
  | .d (.bool b) => .ok b S
  | .d (.int i) => .ok (i != 0) S
  | .d (.str s) => if s.length ≤ 16777216 then .ok (s.length != 0) S else .bad
  | .d (.list xs) => .ok (!xs.isEmpty) S
  | .d (.tuple xs) => .ok (!xs.isEmpty) S
  | .d (.dict _) => .bad
  | .r n => match S[n]? with
    | some (.lst xs) => .ok (!xs.isEmpty) S
    | some (.fz (.list xs)) => .ok (!xs.isEmpty) S
    | _ => .bad
  | .s ns => .ok (!ns.isEmpty) S
def dTru (f : DE) : DT := fun ρ S => (f ρ S).bind truU
theorem RepA.isEmpty {c : Cfg} {vs : List V} {ds : List D} (r : RepA K c vs ds) : ds.isEmpty = vs.isEmpty := by
  cases r <;> rfl
theorem sqT_of {c : Cfg} {v : V} {ds : List D} (r : Rep K c v (.tuple ds)) : ∃ a xs, v = .ref a ∧ SqT K c.H a xs ∧ RepA K c xs ds := by
  cases r with
  | tup h n r => exact ⟨_, _, rfl, .inl (.inl h), r⟩
  | tupK h r => exact ⟨_, _, rfl, .inr h, r⟩
theorem lst_of {c : Cfg} {v : V} {ds : List D} (r : Rep K c v (.list ds)) : ∃ a xs, v = .ref a ∧ c.H a = some (.lst xs) ∧ RepA K c xs ds := by
  cases r with
  | lst h n r => exact ⟨_, _, rfl, h, r⟩
/-- the items of a list value -/
def lstOf (u : U) (S : Sto) : Option (List D) := match u with
  | .d (.list xs) => some xs
  | .r n => match S[n]? with
    | some (.lst xs) => some xs
    | some (.fz (.list xs)) => some xs
    | _ => none
  | _ => none
theorem lstOf_rep {c : Cfg} {u : U} {v : V} {ds : List D} (o : OkC K c) (r : RepU K c v u) (h : lstOf u c.S = some ds) : ∃ a xs, v = .ref a ∧ c.H a = some (.lst xs) ∧ RepA K c xs ds := by
  unfold lstOf at h
  split at h
  · cases h
    exact lst_of r
  · rename_i n
    obtain ⟨a, h1, h2⟩ := r
    split at h
    · rename_i xs e
      cases h
      obtain ⟨a', h3, vs, h4, h5⟩ := o.cell n _ e
      rw [h1] at h3
      cases h3
      exact ⟨a, vs, h2, h4, h5⟩
    · rename_i xs e
      cases h
      obtain ⟨a', h3, h4, _⟩ := o.cell n _ e
      rw [h1] at h3
      cases h3
      rw [h2]
      exact lst_of h4
    · cases h
  · cases h
theorem sc_of {c : Cfg} {v : V} {ns : List Int} (r : RepU K c v (.s ns)) : ∃ a, v = .ref a ∧ SqL K c.H a (ns.map V.int) := by
  obtain ⟨a, h1, h2⟩ := r
  refine ⟨a, h1, ?_⟩
  rcases h2 with ⟨h2, _⟩ | h2
  · exact .inl h2
  · exact .inr h2
theorem tru_go {c : Cfg} {u : U} {v : V} {Q : Bool → Hp → Prop} (o : OkC K c) (r : RepU K c v u) (h : PostB K E c Q (truU u c.S)) : ∃ k, TruV K v c.H k ∧ Q k c.H := by
  have fin : ∀ {b : Bool}, PostB K E c Q (.ok b c.S) → Q b c.H := fun {b} h => h b c.ι c.H (Ext.refl c) o rfl
  unfold truU at h
  split at h
  · cases r; exact ⟨false, rfl, fin h⟩
  · cases r; exact ⟨_, rfl, fin h⟩
  · cases r; exact ⟨_, rfl, fin h⟩
  · rename_i x
    cases r
    split at h
    · rename_i hl
      refine ⟨_, ⟨by rw [sizeLine_eq]; exact hl, rfl⟩, ?_⟩
      have := fin h
      have e : (((x.length : Int)) != 0) = (x.length != 0) := by
        cases hx : x.length with
        | zero => rfl
        | succ n =>
          simp
          omega
      rw [e]
      exact this
    · exact h.elim
  · obtain ⟨a, xs, rfl, h1, h2⟩ := lst_of r
    exact ⟨_, .inl ⟨xs, .inl (.inl h1), rfl⟩, by rw [← h2.isEmpty]; exact fin h⟩
  · obtain ⟨a, xs, rfl, h1, h2⟩ := sqT_of r
    exact ⟨_, .inr (.inl ⟨xs, h1, rfl⟩), by rw [← h2.isEmpty]; exact fin h⟩
  · exact h.elim
  · rename_i n
    split at h
    · rename_i xs e
      obtain ⟨a, vs, rfl, h4, h5⟩ := lstOf_rep (ds := xs) o r (by simp only [lstOf, e])
      exact ⟨_, .inl ⟨vs, .inl (.inl h4), rfl⟩, by rw [← h5.isEmpty]; exact fin h⟩
    · rename_i xs e
      obtain ⟨a, vs, rfl, h4, h5⟩ := lstOf_rep (ds := xs) o r (by simp only [lstOf, e])
      exact ⟨_, .inl ⟨vs, .inl (.inl h4), rfl⟩, by rw [← h5.isEmpty]; exact fin h⟩
    · exact h.elim
  · rename_i ns
    obtain ⟨a, rfl, h1⟩ := sc_of r
    refine ⟨_, .inl ⟨_, h1, rfl⟩, ?_⟩
    have := fin h
    rw [List.isEmpty_map]
    exact this
theorem pd_tru {e : Expr} (h : PE X e (tD X.K E f)) (he : ∀ whole, isTrue e X.env whole = (do let v ← whole; standAt e.pos; holding [v] (truthy v)) := by intro _; rfl) : PT X e (tB X.K E (dTru f)) := (pt_truth h he).dimp fun σ H Q ⟨hd, ι, S, ρ, at_, h⟩ =>
  tD_stepG (c := ⟨hd, ι, S, H⟩) at_ h fun u v c1 e1 a1 r1 h1 => tru_go a1.ok r1 h1
theorem pd_tst {e : Expr} (h : PE X e (tD X.K E f)) (he : ∀ whole, isTrue e X.env whole = (do let v ← whole; standAt e.pos; holding [v] (truthy v)) := by intro _; rfl) : PT X e (tB X.K E (dTest f)) := (pt_val h he).dimp fun σ H Q ⟨hd, ι, S, ρ, at_, h⟩ =>
  tD_stepG (c := ⟨hd, ι, S, H⟩) at_ h fun u v c1 e1 a1 r1 h1 => asB_go a1.ok r1 h1
def dAndT (f g : DT) : DT := fun ρ S => (f ρ S).bind fun b S1 => if b = true then g ρ S1 else .ok false S1
def dOrT (f g : DT) : DT := fun ρ S => (f ρ S).bind fun b S1 => if b = true then .ok true S1 else g ρ S1
def dNotT (f : DT) : DT := fun ρ S => (f ρ S).bind fun b S1 => .ok (!b) S1
variable {p q : DT} {rest : List Expr}
theorem PostB.fin {c : Cfg} {Q : Bool → Hp → Prop} {b : Bool} (h : PostB K E c Q (.ok b c.S)) (o : OkC K c) : Q b c.H := h b c.ι c.H (Ext.refl c) o rfl
theorem wd_and1 (ha : PT X a (tB X.K E p)) : PW X (.BoolOp .And [a] pos) (tB X.K E p) := pw_and1 ha
theorem wd_or1 (ha : PT X a (tB X.K E p)) : PW X (.BoolOp .Or [a] pos) (tB X.K E p) := pw_or1 ha
theorem wd_and (ha : PT X a (tB X.K E p)) (hb : PW X (.BoolOp .And (b :: rest) pos) (tB X.K E q)) : PW X (.BoolOp .And (a :: b :: rest) pos) (tB X.K E (dAndT p q)) := (pw_and ha hb).dimp fun σ H Q ⟨hd, ι, S, ρ, at_, h⟩ => by
  refine tB_stepG (c := ⟨hd, ι, S, H⟩) at_ h fun u c1 e1 a1 h1 => ?_
  cases u with
  | true => exact ⟨c1.hd, c1.ι, c1.S, ρ, a1, h1⟩
  | false => exact PostB.fin h1 a1.ok
theorem wd_or (ha : PT X a (tB X.K E p)) (hb : PW X (.BoolOp .Or (b :: rest) pos) (tB X.K E q)) : PW X (.BoolOp .Or (a :: b :: rest) pos) (tB X.K E (dOrT p q)) := (pw_or ha hb).dimp fun σ H Q ⟨hd, ι, S, ρ, at_, h⟩ => by
  refine tB_stepG (c := ⟨hd, ι, S, H⟩) at_ h fun u c1 e1 a1 h1 => ?_
  cases u with
  | false => exact ⟨c1.hd, c1.ι, c1.S, ρ, a1, h1⟩
  | true => exact PostB.fin h1 a1.ok
theorem pd_notT (ha : PT X a (tB X.K E p)) : PT X (.UnaryOp .Not a pos) (tB X.K E (dNotT p)) := (pt_not ha).dimp fun σ H Q ⟨hd, ι, S, ρ, at_, h⟩ =>
  tB_stepG (c := ⟨hd, ι, S, H⟩) at_ h fun u c1 e1 a1 h1 => PostB.fin h1 a1.ok
/-- as values: all but the last are bools -/
def dAndV (f g : DE) : DE := fun ρ S => (f ρ S).bind fun u S1 => (asB u S1).bind fun b S2 => if b = true then g ρ S2 else .ok (.d (.bool false)) S2
def dOrV (f g : DE) : DE := fun ρ S => (f ρ S).bind fun u S1 => (asB u S1).bind fun b S2 => if b = true then .ok (.d (.bool true)) S2 else g ρ S2
def dNotV (f : DE) : DE := fun ρ S => (f ρ S).bind fun u S1 => (asB u S1).bind fun b S2 => .ok (.d (.bool (!b))) S2
theorem pd_one {op} (h : PE X a (tD X.K E f)) : PE X (.BoolOp op [a] pos) (tD X.K E f) := pe_one h
theorem pd_and (ha : PE X a (tD X.K E f)) (hb : PE X (.BoolOp .And (b :: rest) pos) (tD X.K E g)) : PE X (.BoolOp .And (a :: b :: rest) pos) (tD X.K E (dAndV f g)) := (pe_and ha hb).dimp fun σ H Q ⟨hd, ι, S, ρ, at_, h⟩ => by
  refine tD_step (c := ⟨hd, ι, S, H⟩) at_ h fun u v c1 e1 a1 r1 h1 => ?_
  obtain ⟨b, rfl, h4⟩ := asB_go2 r1 h1
  refine ⟨b, rfl, ?_⟩
  cases b with
  | true => exact ⟨c1.hd, c1.ι, c1.S, ρ, a1, h4⟩
  | false => exact Post.val h4 a1.ok (.bl false)
theorem pd_or (ha : PE X a (tD X.K E f)) (hb : PE X (.BoolOp .Or (b :: rest) pos) (tD X.K E g)) : PE X (.BoolOp .Or (a :: b :: rest) pos) (tD X.K E (dOrV f g)) := (pe_or ha hb).dimp fun σ H Q ⟨hd, ι, S, ρ, at_, h⟩ => by
  refine tD_step (c := ⟨hd, ι, S, H⟩) at_ h fun u v c1 e1 a1 r1 h1 => ?_
  obtain ⟨b, rfl, h4⟩ := asB_go2 r1 h1
  refine ⟨b, rfl, ?_⟩
  cases b with
  | false => exact ⟨c1.hd, c1.ι, c1.S, ρ, a1, h4⟩
  | true => exact Post.val h4 a1.ok (.bl true)
theorem pd_not (ha : PE X a (tD X.K E f)) : PE X (.UnaryOp .Not a pos) (tD X.K E (dNotV f)) := (pe_not ha).dimp fun σ H Q ⟨hd, ι, S, ρ, at_, h⟩ => by
  refine tD_step (c := ⟨hd, ι, S, H⟩) at_ h fun u v c1 e1 a1 r1 h1 => ?_
  obtain ⟨b, rfl, h4⟩ := asB_go2 r1 h1
  exact ⟨b, rfl, Post.val h4 a1.ok (.bl (!b))⟩
def dIf (p : DT) (f g : DE) : DE := fun ρ S => (p ρ S).bind fun b S1 => if b = true then f ρ S1 else g ρ S1
theorem pd_if {t : Expr} (ht : PT X t (tB X.K E p)) (ha : PE X a (tD X.K E f)) (hb : PE X b (tD X.K E g)) : PE X (.IfExp t a b pos) (tD X.K E (dIf p f g)) := (pe_ifExp ht ha hb).dimp fun σ H Q ⟨hd, ι, S, ρ, at_, h⟩ => by
  refine tB_stepG (c := ⟨hd, ι, S, H⟩) at_ h fun u c1 e1 a1 h1 => ?_
  cases u with
  | true => exact ⟨c1.hd, c1.ι, c1.S, ρ, a1, h1⟩
  | false => exact ⟨c1.hd, c1.ι, c1.S, ρ, a1, h1⟩
end
end DL
namespace DL
open PySem PySem.Spec PyProof.Rows L2
/-! ### data by the layer's Dp -/
section
variable {K : PySem.W.Frag} {c : Cfg}
mutual
theorem Rep.dp : ∀ {d : D} {v : V}, Rep K c v d → d.canLay0 = true → Dp K c.H v d
  | .none, _, h, _ => by cases h; exact .non
  | .bool b, _, h, _ => by cases h; exact .bl b
  | .int b, _, h, _ => by cases h; exact .int b
  | .str b, _, h, _ => by cases h; exact .str b
  | .list ds, _, h, l => by
    have l' : PyData.canLayAll0 ds = true := by simpa [PyData.canLay0] using l
    obtain ⟨a, xs, rfl, h1, h2⟩ := lst_of h
    exact .lst (.inl (.inl h1)) (RepA.dp h2 l')
  | .tuple ds, _, h, l => by
    have l' : PyData.canLayAll0 ds = true := by simpa [PyData.canLay0] using l
    obtain ⟨a, xs, rfl, h1, h2⟩ := sqT_of h
    exact .tup h1 (RepA.dp h2 l')
  | .dict ds, _, _, l => by simp [PyData.canLay0] at l
theorem RepA.dp : ∀ {ds : List D} {vs : List V}, RepA K c vs ds → PyData.canLayAll0 ds = true → DpAll K c.H vs ds
  | [], _, h, _ => by cases h; exact .nil
  | d :: ds, _, h, l => by
    have l' : d.canLay0 = true ∧ PyData.canLayAll0 ds = true := by simpa [PyData.canLayAll0] using l
    cases h with
    | cons h r => exact .cons (Rep.dp h l'.1) (RepA.dp r l'.2)
end
/-- the datum that a value is at the moment -/
def datOf (u : U) (S : Sto) : Option D := match u with
  | .d x => some x
  | .r n => match S[n]? with
    | some (.lst xs) => some (.list xs)
    | some (.fz x) => some x
    | _ => none
  | .s _ => none
theorem shaped_lay {d : D} (h : SeqAt.shaped d = true) : d.canLay0 = true := SeqAt.canLay_of_shaped h
theorem datOf_dp {u : U} {v : V} {d : D} (o : OkC K c) (r : RepU K c v u) (h : datOf u c.S = some d) (s : d.canLay0 = true) : Dp K c.H v d := by
  unfold datOf at h
  split at h
  · cases h; exact Rep.dp r s
  · rename_i n
    obtain ⟨a, h1, rfl⟩ := r
    split at h
    · rename_i xs e
      cases h
      obtain ⟨a', h3, vs, h4, h5⟩ := o.cell n _ e
      rw [h1] at h3
      cases h3
      have l' : PyData.canLayAll0 xs = true := by simpa [PyData.canLay0] using s
      exact .lst (.inl (.inl h4)) (h5.dp l')
    · rename_i x e
      cases h
      obtain ⟨a', h3, h4, _⟩ := o.cell n _ e
      rw [h1] at h3
      cases h3
      exact h4.dp s
    · cases h
  · cases h
end
section
variable {X : Cx} {E : EXW} {K : PySem.W.Frag}
theorem rInt {c : Cfg} {v : V} {i : Int} (r : RepU K c v (.d (.int i))) : v = .int i := by cases r; rfl
theorem rStr {c : Cfg} {v : V} {i : Str} (r : RepU K c v (.d (.str i))) : v = .str i := by cases r; rfl
theorem rBool {c : Cfg} {v : V} {i : Bool} (r : RepU K c v (.d (.bool i))) : v = .bl i := by cases r; rfl
theorem rNone {c : Cfg} {v : V} (r : RepU K c v (.d .none)) : v = .non := by cases r; rfl
/-! ### + -/
def addD : Op2 := fun u w S => match u, w with
  | .d (.int i), .d (.int j) => .ok (.d (.int (i + j))) S
  | .d (.str i), .d (.str j) => if i.length + j.length ≤ 16777216 then .ok (.d (.str (i ++ j))) S else .bad
  | .d (.tuple xs), .d (.tuple ys) => if xs.length + ys.length ≤ 16777216 then .ok (.d (.tuple (xs ++ ys))) S else .bad
  | u, w => match lstOf u S, lstOf w S with
    | some xs, some ys => if xs.length + ys.length ≤ 16777216 then .ok (.d (.list (xs ++ ys))) S else .bad
    | _, _ => .bad
abbrev rAddA (K : PySem.W.Frag) : R2 := fun x y H Q => rI0 (fun i j => .int (i + j)) x y H Q ∨ ((fun x y H Q => ∃ i j, x = .str i ∧ y = .str j ∧ i.length + j.length ≤ sizeLine ∧ Q (.str (i ++ j)) H) x y H Q ∨ (rCatA K x y H Q ∨ rCat x y H Q))
theorem or_add : OpR X (binaryOp .Add) (rAddA X.K) := op_add.or (op_add_str.or (op_catA.or op_cat))
theorem lk_add : Lk2 K E (rAddA K) addD := by
  intro c x y u w Q o rx ry h
  have lists : ∀ {xs ys : List D}, lstOf u c.S = some xs → lstOf w c.S = some ys → Post K E c Q (if xs.length + ys.length ≤ 16777216 then .ok (.d (.list (xs ++ ys))) c.S else .bad) → rAddA K x y c.H Q := by
    intro xs ys h1 h2 h
    split at h
    · rename_i hl
      obtain ⟨a, vs, rfl, e1, r1⟩ := lstOf_rep o rx h1
      obtain ⟨b, ws, rfl, e2, r2⟩ := lstOf_rep o ry h2
      refine .inr (.inr (.inr ⟨a, b, vs, ws, rfl, rfl, e1, e2, by rw [sizeLine_eq, r1.length, r2.length]; exact hl, fun p hp => ?_⟩))
      exact Post.new h o hp (rep_newL o hp (r1.append r2))
    · exact h.elim
  unfold addD at h
  split at h
  · rw [rInt rx, rInt ry]
    exact .inl ⟨_, _, rfl, rfl, Post.val h o (.int _)⟩
  · split at h
    · rename_i hl
      rw [rStr rx, rStr ry]
      exact .inr (.inl ⟨_, _, rfl, rfl, by rw [sizeLine_eq]; exact hl, Post.val h o (.str _)⟩)
    · exact h.elim
  · rename_i xs ys
    split at h
    · rename_i hl
      obtain ⟨a, vs, rfl, e1, r1⟩ := sqT_of rx
      obtain ⟨b, ws, rfl, e2, r2⟩ := sqT_of ry
      refine .inr (.inr (.inl ⟨a, b, vs, ws, rfl, rfl, e1, e2, by rw [sizeLine_eq, r1.length, r2.length]; exact hl, fun hv => ?_, fun _ hw => ?_, fun _ _ p hp => ?_⟩))
      · subst hv
        cases r1
        exact Post.val h o ry
      · subst hw
        cases r2
        rw [List.append_nil] at h
        exact Post.val h o rx
      · exact Post.new h o hp (rep_newT o hp (r1.append r2))
    · exact h.elim
  · split at h
    · rename_i h1 h2
      exact lists h1 h2 h
    · exact h.elim
/-! ### -, *, //, %, ** of ints -/
def int2 (C : Int → Int → Prop) [∀ i j, Decidable (C i j)] (g : Int → Int → Int) : Op2 := fun u w S => match u, w with
  | .d (.int i), .d (.int j) => if C i j then .ok (.d (.int (g i j))) S else .bad
  | _, _ => .bad
def subD : Op2 := fun u w S => match u, w with
  | .d (.int i), .d (.int j) => .ok (.d (.int (i - j))) S
  | _, _ => .bad
instance (i j : Int) : Decidable (CMul i j) := by unfold CMul; infer_instance
instance (i j : Int) : Decidable (CDiv i j) := by unfold CDiv; infer_instance
instance (i j : Int) : Decidable (CPow i j) := by unfold CPow; infer_instance
def mulD : Op2 := int2 CMul (· * ·)
def fdivD : Op2 := int2 CDiv (· / ·)
def modD : Op2 := int2 (fun _ j => 0 < j) (· % ·)
def powD : Op2 := int2 CPow fun i j => i ^ j.toNat
theorem lk_sub : Lk2 K E (rI0 fun i j => .int (i - j)) subD := by
  intro c x y u w Q o rx ry h
  unfold subD at h
  split at h
  · rw [rInt rx, rInt ry]
    exact ⟨_, _, rfl, rfl, Post.val h o (.int _)⟩
  · exact h.elim
theorem lk_int2 {C : Int → Int → Prop} [∀ i j, Decidable (C i j)] {g : Int → Int → Int} : Lk2 K E (rI C fun i j => .int (g i j)) (int2 C g) := by
  intro c x y u w Q o rx ry h
  unfold int2 at h
  split at h
  · split at h
    · rename_i hC
      rw [rInt rx, rInt ry]
      exact ⟨_, _, rfl, rfl, hC, Post.val h o (.int _)⟩
    · exact h.elim
  · exact h.elim
def negD : Op1 := fun u S => match u with
  | .d (.int i) => .ok (.d (.int (-i))) S
  | _ => .bad
theorem lk_neg : Lk1 K E (rU fun i => .int (-i)) negD := by
  intro c x u Q o rx h
  unfold negD at h
  split at h
  · rw [rInt rx]
    exact ⟨_, rfl, Post.val h o (.int _)⟩
  · exact h.elim
/-! ### ==, != -/
def eqD : Op2 := fun u w S => match datOf u S, datOf w S with
  | some a, some b => if SeqAt.shaped a = true ∧ SeqAt.shaped b = true then .ok (.d (.bool (PyData.eqv a b))) S else .bad
  | _, _ => .bad
def neD : Op2 := fun u w S => match datOf u S, datOf w S with
  | some a, some b => if SeqAt.shaped a = true ∧ SeqAt.shaped b = true then .ok (.d (.bool (!PyData.eqv a b))) S else .bad
  | _, _ => .bad
theorem lk_eq : Lk2 K E (rEqD K) eqD := by
  intro c x y u w Q o rx ry h
  unfold eqD at h
  split at h
  · rename_i a b h1 h2
    split at h
    · rename_i hs
      exact ⟨a, b, datOf_dp o rx h1 (shaped_lay hs.1), datOf_dp o ry h2 (shaped_lay hs.2), hs.1, hs.2, Post.val h o (.bl _)⟩
    · exact h.elim
  · exact h.elim
theorem lk_ne : Lk2 K E (rNeD K) neD := by
  intro c x y u w Q o rx ry h
  unfold neD at h
  split at h
  · rename_i a b h1 h2
    split at h
    · rename_i hs
      exact ⟨a, b, datOf_dp o rx h1 (shaped_lay hs.1), datOf_dp o ry h2 (shaped_lay hs.2), hs.1, hs.2, Post.val h o (.bl _)⟩
    · exact h.elim
  · exact h.elim
/-! ### <, <=, >, >= -/
def ordC (a b : D) : Bool := SeqAt.shaped a && (SeqAt.shaped b && (PySem.W.alike a b && !(match a with | .none => true | _ => false)))
def rOrd (K : PySem.W.Frag) (g : D → D → Bool) : R2 := fun x y H Q => ∃ d e, Dp K H x d ∧ Dp K H y e ∧ ordC d e = true ∧ Q (.bl (g d e)) H
theorem ordC_of {a b : D} (h : ordC a b = true) : SeqAt.shaped a = true ∧ SeqAt.shaped b = true ∧ PySem.W.alike a b = true ∧ a ≠ .none := by
  unfold ordC at h
  rw [Bool.and_eq_true, Bool.and_eq_true, Bool.and_eq_true] at h
  refine ⟨h.1, h.2.1, h.2.2.1, fun e => ?_⟩
  subst e
  exact nomatch h.2.2.2
theorem depth_of {d : D} (h : SeqAt.shaped d = true) : d.depth ≤ 64 := by
  unfold SeqAt.shaped at h
  rw [Bool.and_eq_true] at h
  exact of_decide_eq_true h.2
theorem op_ordLt (hu : X.A.units + 64 < cLine) : OpR X (compareOp .Lt) (rOrd X.K fun a b => PySem.W.dataLt a b) := by
  intro pins s σ H x y v u Q I rx ry ⟨d, e, hd, he, hc, q⟩
  obtain ⟨sd, se, al, hn⟩ := ordC_of hc
  obtain ⟨as, r1⟩ := Dp.reads I d x v hd rx
  obtain ⟨bs, r2⟩ := Dp.reads I e y u he ry
  have := depth_of sd
  exact PySem.W.lt_data r1 r2 al hn (by omega) ⟨.bl _, H, I, rfl, q⟩
theorem op_ordGt (hu : X.A.units + 64 < cLine) : OpR X (compareOp .Gt) (rOrd X.K fun a b => PySem.W.dataLt b a) := by
  intro pins s σ H x y v u Q I rx ry ⟨d, e, hd, he, hc, q⟩
  obtain ⟨sd, se, al, hn⟩ := ordC_of hc
  obtain ⟨as, r1⟩ := Dp.reads I d x v hd rx
  obtain ⟨bs, r2⟩ := Dp.reads I e y u he ry
  have := depth_of sd
  exact PySem.W.gt_data r1 r2 al hn (by omega) ⟨.bl _, H, I, rfl, q⟩
theorem op_ordLe (hu : X.A.units + 64 < cLine) : OpR X (compareOp .LtE) (rOrd X.K fun a b => !PySem.W.dataLt b a) := by
  intro pins s σ H x y v u Q I rx ry ⟨d, e, hd, he, hc, q⟩
  obtain ⟨sd, se, al, hn⟩ := ordC_of hc
  obtain ⟨as, r1⟩ := Dp.reads I d x v hd rx
  obtain ⟨bs, r2⟩ := Dp.reads I e y u he ry
  have := depth_of sd
  exact PySem.W.le_data r1 r2 al hn (by omega) ⟨.bl _, H, I, rfl, q⟩
theorem op_ordGe (hu : X.A.units + 64 < cLine) : OpR X (compareOp .GtE) (rOrd X.K fun a b => !PySem.W.dataLt a b) := by
  intro pins s σ H x y v u Q I rx ry ⟨d, e, hd, he, hc, q⟩
  obtain ⟨sd, se, al, hn⟩ := ordC_of hc
  obtain ⟨as, r1⟩ := Dp.reads I d x v hd rx
  obtain ⟨bs, r2⟩ := Dp.reads I e y u he ry
  have := depth_of sd
  exact PySem.W.ge_data r1 r2 al hn (by omega) ⟨.bl _, H, I, rfl, q⟩
/-- ints, else alike data -/
def ordD (gi : Int → Int → Bool) (g : D → D → Bool) : Op2 := fun u w S => match u, w with
  | .d (.int i), .d (.int j) => .ok (.d (.bool (gi i j))) S
  | .d a, .d b => if ordC a b = true then .ok (.d (.bool (g a b))) S else .bad
  | _, _ => .bad
def ltD : Op2 := ordD (fun i j => decide (i < j)) fun a b => PySem.W.dataLt a b
def leD : Op2 := ordD (fun i j => decide (i ≤ j)) fun a b => !PySem.W.dataLt b a
def gtD : Op2 := ordD (fun i j => decide (j < i)) fun a b => PySem.W.dataLt b a
def geD : Op2 := ordD (fun i j => decide (j ≤ i)) fun a b => !PySem.W.dataLt a b
abbrev rOrdA (K : PySem.W.Frag) (gi : Int → Int → Bool) (g : D → D → Bool) : R2 := fun x y H Q => rI0 (fun i j => .bl (gi i j)) x y H Q ∨ rOrd K g x y H Q
theorem lk_ord {gi : Int → Int → Bool} {g : D → D → Bool} : Lk2 K E (rOrdA K gi g) (ordD gi g) := by
  intro c x y u w Q o rx ry h
  unfold ordD at h
  split at h
  · rw [rInt rx, rInt ry]
    exact .inl ⟨_, _, rfl, rfl, Post.val h o (.bl _)⟩
  · split at h
    · rename_i hc
      obtain ⟨sd, se, _⟩ := ordC_of hc
      exact .inr ⟨_, _, Rep.dp rx (shaped_lay sd), Rep.dp ry (shaped_lay se), hc, Post.val h o (.bl _)⟩
    · exact h.elim
  · exact h.elim
theorem or_lt (hu : X.A.units + 64 < cLine) : OpR X (compareOp .Lt) (rOrdA X.K (fun i j => decide (i < j)) fun a b => PySem.W.dataLt a b) := op_lt.or (op_ordLt hu)
theorem or_le (hu : X.A.units + 64 < cLine) : OpR X (compareOp .LtE) (rOrdA X.K (fun i j => decide (i ≤ j)) fun a b => !PySem.W.dataLt b a) := op_le.or (op_ordLe hu)
theorem or_gt (hu : X.A.units + 64 < cLine) : OpR X (compareOp .Gt) (rOrdA X.K (fun i j => decide (j < i)) fun a b => PySem.W.dataLt b a) := op_gt.or (op_ordGt hu)
theorem or_ge (hu : X.A.units + 64 < cLine) : OpR X (compareOp .GtE) (rOrdA X.K (fun i j => decide (j ≤ i)) fun a b => !PySem.W.dataLt a b) := op_ge.or (op_ordGe hu)
/-! ### in, not in -/
def rInDT (K : PySem.W.Frag) (neg : Bool) : R2 := fun x y H Q => ∃ d e ds, Dp K H x d ∧ Dp K H y e ∧ (e = .list ds ∨ e = .tuple ds) ∧ SeqAt.shaped d = true ∧ SeqAt.shaped e = true ∧ Q (.bl (if neg = true then !(ds.any fun z => PyData.eqv z d) else ds.any fun z => PyData.eqv z d)) H
theorem op_inDT (hu : X.A.units + 65 < cLine) : OpR X (compareOp .In) (rInDT X.K false) := by
  intro pins s σ H x y v u Q I rx ry h
  obtain ⟨d, e, ds, hd, he, hk, sd, se, q⟩ := h
  obtain ⟨as, r1⟩ := Dp.reads I d x v hd rx
  obtain ⟨bs, r2⟩ := Dp.reads I e y u he ry
  rcases hk with rfl | rfl
  · exact SeqAt.in_list_reads r2 r1 (SeqAt.canLay_of_shaped se) (SeqAt.canLay_of_shaped sd) (room_in_shaped sd hu) ⟨.bl _, H, I, rfl, q⟩
  · exact SeqAt.in_tuple_reads r2 r1 (SeqAt.canLay_of_shaped se) (SeqAt.canLay_of_shaped sd) (room_in_shaped sd hu) ⟨.bl _, H, I, rfl, q⟩
theorem op_notInDT (hu : X.A.units + 65 < cLine) : OpR X (compareOp .NotIn) (rInDT X.K true) := by
  intro pins s σ H x y v u Q I rx ry h
  obtain ⟨d, e, ds, hd, he, hk, sd, se, q⟩ := h
  obtain ⟨as, r1⟩ := Dp.reads I d x v hd rx
  obtain ⟨bs, r2⟩ := Dp.reads I e y u he ry
  rcases hk with rfl | rfl
  · exact SeqAt.notIn_list_reads r2 r1 (SeqAt.canLay_of_shaped se) (SeqAt.canLay_of_shaped sd) (room_in_shaped sd hu) ⟨.bl _, H, I, rfl, q⟩
  · exact SeqAt.notIn_tuple_reads r2 r1 (SeqAt.canLay_of_shaped se) (SeqAt.canLay_of_shaped sd) (room_in_shaped sd hu) ⟨.bl _, H, I, rfl, q⟩
/-- x in a list or tuple, a text in a text (one sign) -/
def signIn (a b : Str) : Bool := !(Builtin.Str.occurrences b a 0 b.length 1).isEmpty
def inD (neg : Bool) : Op2 := fun u w S => match u, w with
  | .d (.str a), .d (.str b) => .ok (.d (.bool (if neg = true then !signIn a b else signIn a b))) S
  | u, w => match datOf u S, datOf w S with
    | some d, some (.list ds) => if SeqAt.shaped d = true ∧ SeqAt.shaped (.list ds) = true then .ok (.d (.bool (if neg = true then !(ds.any fun z => PyData.eqv z d) else ds.any fun z => PyData.eqv z d))) S else .bad
    | some d, some (.tuple ds) => if SeqAt.shaped d = true ∧ SeqAt.shaped (.tuple ds) = true then .ok (.d (.bool (if neg = true then !(ds.any fun z => PyData.eqv z d) else ds.any fun z => PyData.eqv z d))) S else .bad
    | _, _ => .bad
abbrev rInA (K : PySem.W.Frag) (neg : Bool) : R2 := fun x y H Q => (fun x y H Q => ∃ i j, x = .str i ∧ y = .str j ∧ Q (.bl (if neg = true then !signIn i j else signIn i j)) H) x y H Q ∨ rInDT K neg x y H Q
theorem or_in (hu : X.A.units + 65 < cLine) : OpR X (compareOp .In) (rInA X.K false) := OpR.or op_in_str (op_inDT hu)
theorem or_notIn (hu : X.A.units + 65 < cLine) : OpR X (compareOp .NotIn) (rInA X.K true) := OpR.or op_notin_str (op_notInDT hu)
theorem lk_in {neg : Bool} : Lk2 K E (rInA K neg) (inD neg) := by
  intro c x y u w Q o rx ry h
  unfold inD at h
  split at h
  · rw [rStr rx, rStr ry]
    exact .inl ⟨_, _, rfl, rfl, Post.val h o (.bl _)⟩
  · split at h
    · rename_i d ds h1 h2
      split at h
      · rename_i hs
        exact .inr ⟨d, _, ds, datOf_dp o rx h1 (shaped_lay hs.1), datOf_dp o ry h2 (shaped_lay hs.2), .inl rfl, hs.1, hs.2, Post.val h o (.bl _)⟩
      · exact h.elim
    · rename_i d ds h1 h2
      split at h
      · rename_i hs
        exact .inr ⟨d, _, ds, datOf_dp o rx h1 (shaped_lay hs.1), datOf_dp o ry h2 (shaped_lay hs.2), .inr rfl, hs.1, hs.2, Post.val h o (.bl _)⟩
      · exact h.elim
    · exact h.elim
/-! ### is -/
def isNo : D → Bool
  | .none => true
  | _ => false
def isD (neg : Bool) : Op2 := fun u w S => match u, w with
  | .d a, .d .none => .ok (.d (.bool (if neg = true then !isNo a else isNo a))) S
  | .d (.bool a), .d (.bool b) => .ok (.d (.bool (if neg = true then !decide (a = b) else decide (a = b)))) S
  | _, _ => .bad
theorem isN_rep {c : Cfg} {v : V} {a : D} (r : Rep K c v a) : decide (v = .non) = isNo a := by
  cases a <;> cases r <;> rfl
abbrev rIsA : R2 := fun x y H Q => (fun x y H Q => y = .non ∧ Q (.bl (decide (x = .non))) H) x y H Q ∨ rIsB x y H Q
abbrev rIsNotA : R2 := fun x y H Q => (fun x y H Q => y = .non ∧ Q (.bl (!decide (x = .non))) H) x y H Q ∨ rNotB x y H Q
theorem or_is : OpR X (compareOp .Is) rIsA := op_isN.or op_isBl
theorem or_isNot : OpR X (compareOp .IsNot) rIsNotA := op_notN.or op_notBl
theorem lk_is : Lk2 K E rIsA (isD false) := by
  intro c x y u w Q o rx ry h
  unfold isD at h
  split at h
  · refine .inl ⟨rNone ry, ?_⟩
    rw [isN_rep rx]
    exact Post.val h o (.bl _)
  · rw [rBool rx, rBool ry]
    exact .inr ⟨_, _, rfl, rfl, Post.val h o (.bl _)⟩
  · exact h.elim
theorem lk_isNot : Lk2 K E rIsNotA (isD true) := by
  intro c x y u w Q o rx ry h
  unfold isD at h
  split at h
  · refine .inl ⟨rNone ry, ?_⟩
    rw [isN_rep rx]
    exact Post.val h o (.bl _)
  · rw [rBool rx, rBool ry]
    exact .inr ⟨_, _, rfl, rfl, Post.val h o (.bl _)⟩
  · exact h.elim
end
end DL
namespace DL
open PySem PySem.Spec PyProof.Rows L2
section
variable {X : Cx} {E : EXW} {K : PySem.W.Frag} {a b : Expr} {es : List Expr} {f g : DE} {pos : Pos}
/-! ### arguments -/
def aNil : DA := fun _ S => .ok [] S
def aCons (f : DE) (t : DA) : DA := fun ρ S => (f ρ S).bind fun u S1 => (t ρ S1).bind fun us S2 => .ok (u :: us) S2
theorem ad_nil : PA X [] (tA X.K E aNil) := pa_nil.dimp fun σ H Q ⟨hd, ι, S, ρ, a, h⟩ => h [] ι H (Ext.refl _) a.ok .nil
theorem ad_cons {t : DA} (h1 : PE X a (tD X.K E f)) (h2 : PA X es (tA X.K E t)) (hs : starEach (a :: es) X.env = (false, eval a X.env) :: starEach es X.env := by rfl) : PA X (a :: es) (tA X.K E (aCons f t)) :=
  (pa_cons h1 h2 hs).dimp fun σ H Q ⟨hd, ι, S, ρ, at_, h⟩ => by
    refine tD_stepG (c := ⟨hd, ι, S, H⟩) at_ h fun u v c1 e1 a1 r1 h1 => ?_
    refine tA_stepG (c := c1) a1 h1 fun us vs c2 e2 a2 r2 h2 => ?_
    exact h2 (v :: vs) c2.ι c2.H (Ext.refl _) a2.ok (.cons (r1.ext e2) r2)
/-! ### a cell is kept as a datum -/
def toD (u : U) (S : Sto) : Rs D := match u with
  | .d x => .ok x S
  | .r n => match S[n]? with
    | some cl => .ok cl.dat (S.set n (.fz cl.dat))
    | none => .bad
  | .s _ => .bad
def toDs : List U → Sto → Rs (List D)
  | [], S => .ok [] S
  | u :: us, S => (toD u S).bind fun x S1 => (toDs us S1).bind fun xs S2 => .ok (x :: xs) S2
theorem toD_go {c : Cfg} {u : U} {v : V} {x : D} {S' : Sto} (o : OkC K c) (r : RepU K c v u) (h : toD u c.S = .ok x S') : Ext c ⟨c.hd, c.ι, S', c.H⟩ ∧ OkC K ⟨c.hd, c.ι, S', c.H⟩ ∧ Rep K ⟨c.hd, c.ι, S', c.H⟩ v x := by
  unfold toD at h
  split at h
  · cases h
    exact ⟨Ext.refl _, o, r⟩
  · rename_i n
    obtain ⟨a, h1, rfl⟩ := r
    split at h
    · rename_i cl e
      cases h
      obtain ⟨o', r'⟩ := ok_frz o h1 e
      exact ⟨ext_frz, o', r'⟩
    · cases h
  · cases h
theorem toD_noex {u : U} {S : Sto} {n : Str} {fs : List (Str × D)} {S' : Sto} (h : toD u S = .ex n fs S') : False := by
  unfold toD at h
  split at h
  · cases h
  · split at h <;> cases h
  · cases h
theorem toDs_go : ∀ {us : List U} {vs : List V} {c : Cfg} {xs : List D} {S' : Sto}, OkC K c → RepUs K c vs us → toDs us c.S = .ok xs S' → Ext c ⟨c.hd, c.ι, S', c.H⟩ ∧ OkC K ⟨c.hd, c.ι, S', c.H⟩ ∧ RepA K ⟨c.hd, c.ι, S', c.H⟩ vs xs
  | [], _, c, xs, S', o, r, h => by
    cases r
    cases h
    exact ⟨Ext.refl _, o, .nil⟩
  | u :: us, _, c, xs, S', o, r, h => by
    cases r with
    | cons r1 r2 =>
      unfold toDs at h
      cases h1 : toD u c.S with
      | ok x S1 =>
        rw [h1] at h
        obtain ⟨e1, o1, q1⟩ := toD_go o r1 h1
        have h : (toDs us S1).bind (fun xs S2 => .ok (x :: xs) S2) = .ok xs S' := h
        cases h2 : toDs us S1 with
        | ok ys S2 =>
          rw [h2] at h
          cases h
          obtain ⟨e2, o2, q2⟩ := toDs_go (c := ⟨c.hd, c.ι, S1, c.H⟩) o1 (RepUs.ext e1 r2) h2
          exact ⟨e1.trans e2, o2, .cons (q1.ext e2.toKeep) q2⟩
        | ex _ _ _ => rw [h2] at h; cases h
        | bad => rw [h2] at h; cases h
      | ex _ _ _ => rw [h1] at h; cases h
      | bad => rw [h1] at h; cases h
theorem toDs_noex : ∀ {us : List U} {S : Sto} {n : Str} {fs : List (Str × D)} {S' : Sto}, toDs us S = .ex n fs S' → False
  | [], _, _, _, _, h => by cases h
  | u :: us, S, n, fs, S', h => by
    unfold toDs at h
    cases h1 : toD u S with
    | ok x S1 =>
      rw [h1] at h
      have h : (toDs us S1).bind (fun xs S2 => .ok (x :: xs) S2) = .ex n fs S' := h
      cases h2 : toDs us S1 with
      | ok ys S2 => rw [h2] at h; cases h
      | ex _ _ _ => exact toDs_noex h2
      | bad => rw [h2] at h; cases h
    | ex _ _ _ => exact toD_noex h1
    | bad => rw [h1] at h; cases h
/-- a datum out of a value, then on -/
theorem toD_step {α β : Type} {R : Cfg → β → α → Prop} {c : Cfg} {u : U} {v : V} {Q : β → Hp → Prop} {k : D → Sto → Rs α} (o : OkC K c) (r : RepU K c v u) (h : PostG R K E c Q ((toD u c.S).bind k)) :
    ∃ x S', Ext c ⟨c.hd, c.ι, S', c.H⟩ ∧ OkC K ⟨c.hd, c.ι, S', c.H⟩ ∧ Rep K ⟨c.hd, c.ι, S', c.H⟩ v x ∧ PostG R K E ⟨c.hd, c.ι, S', c.H⟩ Q (k x S') := by
  cases h1 : toD u c.S with
  | ok x S1 =>
    rw [h1] at h
    obtain ⟨e1, o1, q1⟩ := toD_go o r h1
    exact ⟨x, S1, e1, o1, q1, PostG.step (r := k x S1) h e1⟩
  | ex _ _ _ => exact (toD_noex h1).elim
  | bad => rw [h1] at h; exact h.elim
theorem toDs_step {α β : Type} {R : Cfg → β → α → Prop} {c : Cfg} {u : List U} {v : List V} {Q : β → Hp → Prop} {k : List D → Sto → Rs α} (o : OkC K c) (r : RepUs K c v u) (h : PostG R K E c Q ((toDs u c.S).bind k)) :
    ∃ x S', Ext c ⟨c.hd, c.ι, S', c.H⟩ ∧ OkC K ⟨c.hd, c.ι, S', c.H⟩ ∧ RepA K ⟨c.hd, c.ι, S', c.H⟩ v x ∧ PostG R K E ⟨c.hd, c.ι, S', c.H⟩ Q (k x S') := by
  cases h1 : toDs u c.S with
  | ok x S1 =>
    rw [h1] at h
    obtain ⟨e1, o1, q1⟩ := toDs_go o r h1
    exact ⟨x, S1, e1, o1, q1, PostG.step (r := k x S1) h e1⟩
  | ex _ _ _ => exact (toDs_noex h1).elim
  | bad => rw [h1] at h; exact h.elim
/-! ### displays -/
def dTup (t : DA) : DE := fun ρ S => (t ρ S).bind fun us S1 => (toDs us S1).bind fun xs S2 => if xs.length ≤ 16777216 then .ok (.d (.tuple xs)) S2 else .bad
def dLst (t : DA) : DE := fun ρ S => (t ρ S).bind fun us S1 => (toDs us S1).bind fun xs S2 => if xs.length ≤ 16777216 then .ok (.d (.list xs)) S2 else .bad
/-- a list that will change: a new cell -/
def dCel (t : DA) : DE := fun ρ S => (t ρ S).bind fun us S1 => (toDs us S1).bind fun xs S2 => if xs.length ≤ 16777216 then .ok (.r S2.length) (S2 ++ [.lst xs]) else .bad
theorem pd_tup {x1} {t : DA} (h : PA X es (tA X.K E t)) : PE X (.Tuple es x1 pos) (tD X.K E (dTup t)) := (pe_tup h).dimp fun σ H Q ⟨hd, ι, S, ρ, at_, h⟩ => by
  refine tA_stepG (c := ⟨hd, ι, S, H⟩) at_ h fun us vs c1 e1 a1 r1 h1 => ?_
  obtain ⟨xs, S2, e2, o2, r2, h2⟩ := toDs_step a1.ok r1 h1
  split at h2
  · rename_i hl
    exact ⟨by rw [sizeLine_eq, r2.length]; exact hl, fun p hp => Post.new (c := ⟨c1.hd, c1.ι, S2, c1.H⟩) h2 o2 hp (rep_newT o2 hp r2)⟩
  · exact h2.elim
theorem pd_lst {t : DA} (h : PA X es (tA X.K E t)) : PE X (.List es pos) (tD X.K E (dLst t)) := (pe_lst h).dimp fun σ H Q ⟨hd, ι, S, ρ, at_, h⟩ => by
  refine tA_stepG (c := ⟨hd, ι, S, H⟩) at_ h fun us vs c1 e1 a1 r1 h1 => ?_
  obtain ⟨xs, S2, e2, o2, r2, h2⟩ := toDs_step a1.ok r1 h1
  split at h2
  · rename_i hl
    exact ⟨by rw [sizeLine_eq, r2.length]; exact hl, fun p hp => Post.new (c := ⟨c1.hd, c1.ι, S2, c1.H⟩) h2 o2 hp (rep_newL o2 hp r2)⟩
  · exact h2.elim
theorem Post.newCell {c : Cfg} {Q : V → Hp → Prop} {cl : Cell} {p : Addr} {u : HO} (h : Post K E c Q (.ok (.r c.S.length) (c.S ++ [cl]))) (o : OkC K c) (hp : c.H p = none) (hc : CellOk K ⟨c.hd, c.ι ++ [p], c.S ++ [cl], upd c.H p u⟩ p cl) : Q (.ref p) (upd c.H p u) := by
  refine h (.ref p) (c.ι ++ [p]) (upd c.H p u) (ext_cell o hp) (ok_cell o hp hc) ⟨p, ?_, rfl⟩
  show (c.ι ++ [p])[c.S.length]? = some p
  have := o.len
  rw [List.getElem?_append_right (by omega), show c.S.length - c.ι.length = 0 by omega]
  rfl
theorem pd_cel {t : DA} (h : PA X es (tA X.K E t)) : PE X (.List es pos) (tD X.K E (dCel t)) := (pe_lst h).dimp fun σ H Q ⟨hd, ι, S, ρ, at_, h⟩ => by
  refine tA_stepG (c := ⟨hd, ι, S, H⟩) at_ h fun us vs c1 e1 a1 r1 h1 => ?_
  obtain ⟨xs, S2, e2, o2, r2, h2⟩ := toDs_step a1.ok r1 h1
  split at h2
  · rename_i hl
    exact ⟨by rw [sizeLine_eq, r2.length]; exact hl, fun p hp => Post.newCell (c := ⟨c1.hd, c1.ι, S2, c1.H⟩) h2 o2 hp ⟨vs, upd_same, r2.ext (ext_cell o2 hp).toKeep⟩⟩
  · exact h2.elim
/-! ### items, slices -/
def ixD : Op2 := fun u w S => match u, w with
  | .d (.str z), .d (.int i) => if z.length ≤ 16777216 then (match atI z.cps.toList i with
    | some ch => .ok (.d (.str ⟨#[ch]⟩)) S
    | none => .bad) else .bad
  | .d (.tuple xs), .d (.int i) => (match atI xs i with
    | some x => .ok (.d x) S
    | none => .bad)
  | u, .d (.int i) => (match lstOf u S with
    | some xs => (match atI xs i with
      | some x => .ok (.d x) S
      | none => .bad)
    | none => (match u with
      | .s ns => (match atI ns i with
        | some n => .ok (.d (.int n)) S
        | none => .bad)
      | _ => .bad))
  | _, _ => .bad
theorem atI_rep {c : Cfg} {vs : List V} {xs : List D} {i : Int} {x : D} (r : RepA K c vs xs) (h : atI xs i = some x) : ∃ v, atI vs i = some v ∧ Rep K c v x := by
  unfold atI at h ⊢
  rw [r.length]
  cases hn : ixN xs.length i with
  | none => rw [hn] at h; cases h
  | some j =>
    rw [hn] at h
    exact r.get (i := j) h
theorem atI_map {ns : List Int} {i n : Int} (e : atI ns i = some n) : atI (ns.map V.int) i = some (.int n) := by
  unfold atI at e ⊢
  rw [List.length_map]
  cases hn : ixN ns.length i with
  | none => rw [hn] at e; cases e
  | some j =>
    rw [hn] at e
    show (ns.map V.int)[j]? = _
    rw [List.getElem?_map]
    have e : ns[j]? = some n := e
    rw [e]
    rfl
theorem lk_ix : Lk2 K E (rIx K) ixD := by
  intro c x y u w Q o rx ry h
  unfold ixD at h
  split at h
  · split at h
    · rename_i hl
      split at h
      · rename_i ch e
        rw [rStr rx, rInt ry]
        exact .inr (.inr ⟨_, _, ch, rfl, rfl, by rw [sizeLine_eq]; exact hl, e, Post.val h o (.str _)⟩)
      · exact h.elim
    · exact h.elim
  · split at h
    · rename_i x e
      obtain ⟨a, vs, rfl, h1, r1⟩ := sqT_of rx
      obtain ⟨v, e1, r2⟩ := atI_rep r1 e
      rw [rInt ry]
      exact .inr (.inl ⟨a, vs, _, v, rfl, rfl, h1, e1, Post.val h o r2⟩)
    · exact h.elim
  · split at h
    · rename_i hl
      split at h
      · rename_i x e
        obtain ⟨a, vs, rfl, h1, r1⟩ := lstOf_rep o rx hl
        obtain ⟨v, e1, r2⟩ := atI_rep r1 e
        rw [rInt ry]
        exact .inl ⟨a, vs, _, v, rfl, rfl, .inl (.inl h1), e1, Post.val h o r2⟩
      · exact h.elim
    · split at h
      · split at h
        · rename_i n e
          obtain ⟨a, rfl, h1⟩ := sc_of rx
          rw [rInt ry]
          exact .inl ⟨a, _, _, .int n, rfl, rfl, h1, atI_map e, Post.val h o (.int _)⟩
        · exact h.elim
      · exact h.elim
  · exact h.elim
theorem pd_ix (ha : PE X a (tD X.K E f)) (hb : PE X b (tD X.K E g)) (hs : PlainIx b := by exact fun _ _ => rfl) : PE X (.Subscript a b pos) (tD X.K E (dOp2 ixD f g)) := (pe_ix ix_seq ha hb hs).dimp fun _ _ _ h => t_op2 lk_ix h
/-- a part of a slice -/
abbrev DO := Rho → Sto → Rs (Option Int)
def oNo : DO := fun _ S => .ok none S
def oSo (f : DE) : DO := fun ρ S => (f ρ S).bind fun u S1 => match u with
  | .d (.int i) => .ok (some i) S1
  | _ => .bad
def tO (K : PySem.W.Frag) (E : EXW) (f : DO) : TO := fun σ H Q => ∃ hd ι S ρ, At K ⟨hd, ι, S, H⟩ σ ρ ∧ PostG (fun _ (b : Option Int) b' => b = b') K E ⟨hd, ι, S, H⟩ Q (f ρ S)
theorem _root_.L2.PO.dimp {X : Cx} {e : Option Expr} {t t' : TO} (h : PO X e t) (k : ∀ σ H Q, t' σ H Q → t σ H Q) : PO X e t' := ⟨fun pins s σ H Q I q => h.run pins s σ H Q I (k _ _ _ q)⟩
theorem od_no : PO X none (tO X.K E oNo) := po_none.dimp fun σ H Q ⟨hd, ι, S, ρ, a, h⟩ => h none ι H (Ext.refl _) a.ok rfl
theorem od_so (ha : PE X a (tD X.K E f)) : PO X (some a) (tO X.K E (oSo f)) := (po_some ha).dimp fun σ H Q ⟨hd, ι, S, ρ, at_, h⟩ => by
  refine tD_stepG (c := ⟨hd, ι, S, H⟩) at_ h fun u v c1 e1 a1 r1 h1 => ?_
  split at h1
  · rw [rInt r1]
    exact ⟨_, rfl, h1 _ c1.ι c1.H (Ext.refl _) a1.ok rfl⟩
  · exact h1.elim
def cutL {α : Type} (xs : List α) (lo hi : Option Int) : List α := (xs.drop (HT.sIx xs.length 0 lo)).take (HT.sIx xs.length xs.length hi - HT.sIx xs.length 0 lo)
def slD (u : U) (lo hi : Option Int) (S : Sto) : Rs U := match u with
  | .d (.tuple xs) => .ok (.d (.tuple (cutL xs lo hi))) S
  | .d (.str _) => .bad
  | u => match lstOf u S with
    | some xs => .ok (.d (.list (cutL xs lo hi))) S
    | none => .bad
def dSl (f : DE) (l h : DO) : DE := fun ρ S => (f ρ S).bind fun u S1 => (l ρ S1).bind fun lo S2 => (h ρ S2).bind fun hi S3 => slD u lo hi S3
theorem cut_rep {c : Cfg} {vs : List V} {xs : List D} (r : RepA K c vs xs) (lo hi : Option Int) : RepA K c (cutV vs lo hi) (cutL xs lo hi) := by
  unfold cutV cutL
  rw [r.length]
  exact (r.drop _).take _
theorem cut_whole {α : Type} (xs : List α) {lo hi : Option Int} (h : HT.sIx xs.length 0 lo = 0 ∧ HT.sIx xs.length xs.length hi = xs.length) : cutL xs lo hi = xs := by
  unfold cutL
  rw [h.1, h.2]
  simp
theorem tO_stepG {α β : Type} {R : Cfg → β → α → Prop} {f : DO} {σ : L2.St} {ρ : Rho} {c : Cfg} {Q : Option Int → Hp → Prop} {Q' : β → Hp → Prop} {k : Option Int → Sto → Rs α} (a : At K c σ ρ) (h : PostG R K E c Q' ((f ρ c.S).bind k))
    (go : ∀ u c1, Ext c c1 → At K c1 σ ρ → PostG R K E c1 Q' (k u c1.S) → Q u c1.H) : tO K E f σ c.H Q := by
  refine ⟨c.hd, c.ι, c.S, ρ, a, ?_⟩
  cases hf : f ρ c.S with
  | ok u S1 =>
    rw [hf] at h
    exact fun v ι' H' e o r => by
      subst r
      exact go v ⟨c.hd, ι', S1, H'⟩ e (a.ext e o) (PostG.step h e)
  | ex n fs S1 =>
    rw [hf] at h
    exact h
  | bad =>
    rw [hf] at h
    exact h
theorem pd_sl {lo hi : Option Expr} {p2 : Pos} {l h : DO} (ha : PE X a (tD X.K E f)) (hl : PO X lo (tO X.K E l)) (hh : PO X hi (tO X.K E h)) : PE X (.Subscript a (.Slice lo hi none p2) pos) (tD X.K E (dSl f l h)) :=
  (pe_slice (sl_list.or sl_tupA) ha hl hh).dimp fun σ H Q ⟨hd, ι, S, ρ, at_, h⟩ => by
    refine tD_stepG (c := ⟨hd, ι, S, H⟩) at_ h fun u v c1 e1 a1 r1 h1 => ?_
    refine tO_stepG (c := c1) a1 h1 fun lo c2 e2 a2 h2 => ?_
    refine tO_stepG (c := c2) a2 h2 fun hi c3 e3 a3 h3 => ?_
    have r3 := (r1.ext e2).ext e3
    unfold slD at h3
    split at h3
    · obtain ⟨p, vs, rfl, q1, q2⟩ := sqT_of r3
      refine .inr ⟨p, vs, rfl, q1, fun hw => ?_, fun hw q hq => ?_⟩
      · rw [q2.length] at hw
        rw [cut_whole _ hw] at h3
        exact Post.val h3 a3.ok r3
      · exact Post.new h3 a3.ok hq (rep_newT a3.ok hq (cut_rep q2 lo hi))
    · exact h3.elim
    · split at h3
      · rename_i hl
        obtain ⟨p, vs, rfl, q1, q2⟩ := lstOf_rep a3.ok r3 hl
        exact .inl ⟨p, vs, rfl, .inl (.inl q1), fun q hq => Post.new h3 a3.ok hq (rep_newL a3.ok hq (cut_rep q2 lo hi))⟩
      · exact h3.elim
/-- [::-1] of a list -/
def revD : Op1 := fun u S => match lstOf u S with
  | some xs => .ok (.d (.list xs.reverse)) S
  | none => .bad
theorem pd_revL {k : Nat} {p1 p2 p3 : Pos} (ha : PE X a (tD X.K E f)) : PE X (.Subscript a (.Slice none none (some (.UnaryOp .USub (.Constant (.int 1) k p1) p2)) p3) pos) (tD X.K E (dOp1 revD f)) := (pe_revL ha).dimp fun σ H Q ⟨hd, ι, S, ρ, at_, h⟩ => by
  refine tD_stepG (c := ⟨hd, ι, S, H⟩) at_ h fun u v c1 e1 a1 r1 h1 => ?_
  unfold revD at h1
  split at h1
  · rename_i hl
    obtain ⟨p, vs, rfl, q1, q2⟩ := lstOf_rep a1.ok r1 hl
    exact ⟨p, vs, rfl, .inl (.inl q1), fun q hq => Post.new h1 a1.ok hq (rep_newL a1.ok hq q2.reverse)⟩
  · exact h1.elim
/-! ### calls of built-ins -/
def dCall (op : OpN) (t : DA) : DE := fun ρ S => (t ρ S).bind op
theorem t_call {r : List V → Hp → VK → Prop} {op : OpN} (l : LkN K E r op) {t : DA} {σ : L2.St} {H : Hp} {Q : VK} (h : tD K E (dCall op t) σ H Q) : tCB r (tA K E t) σ H Q := by
  obtain ⟨hd, ι, S, ρ, a, h⟩ := h
  exact tA_stepG (c := ⟨hd, ι, S, H⟩) a h fun u v c1 e1 a1 r1 h1 => l c1 v u Q a1.ok r1 h1
theorem pd_callB {id : String} {r : List V → Hp → VK → Prop} {op : OpN} {x : Str} {p : Pos} {t : DA} (hc : CallR X (.builtin id) r) (l : LkN X.K E r op) (hg : Gl X x) (hm : X.mg x = none) (hv : bootBuiltins x = some (.builtin id)) (ha : PA X (a :: es) (tA X.K E t))
    (hn : x ≠ "__name__" := by decide) (hdb : (x == ("__debug__" : Str)) = false := by decide) (hs : starEach (a :: es) X.env = (false, eval a X.env) :: starEach es X.env := by rfl) (hpl : (backTo pos (starEach es X.env)).any (·.1) = false := by rfl) :
    PE X (.Call (.Name x p) (a :: es) [] pos) (tD X.K E (dCall op t)) := (pe_callB hc hg hm hv ha hn hdb hs hpl).dimp fun _ _ _ h => t_call l h
theorem pd_callTy {T : String} {r : List V → Hp → VK → Prop} {op : OpN} {x : Str} {p : Pos} {t : DA} (hc : CallR X (.type T) r) (l : LkN X.K E r op) (hg : Gl X x) (hm : X.mg x = none) (hv : bootBuiltins x = some (.type T)) (ha : PA X (a :: es) (tA X.K E t))
    (hn : x ≠ "__name__" := by decide) (hdb : (x == ("__debug__" : Str)) = false := by decide) (hs : starEach (a :: es) X.env = (false, eval a X.env) :: starEach es X.env := by rfl) (hpl : (backTo pos (starEach es X.env)).any (·.1) = false := by rfl) :
    PE X (.Call (.Name x p) (a :: es) [] pos) (tD X.K E (dCall op t)) := (pe_callTy hc hg hm hv ha hn hdb hs hpl).dimp fun _ _ _ h => t_call l h
theorem us1 {c : Cfg} {xs : List V} {u : U} (r : RepUs K c xs [u]) : ∃ x, xs = [x] ∧ RepU K c x u := by
  cases r with
  | cons h t => cases t; exact ⟨_, rfl, h⟩
theorem us2 {c : Cfg} {xs : List V} {u w : U} (r : RepUs K c xs [u, w]) : ∃ x y, xs = [x, y] ∧ RepU K c x u ∧ RepU K c y w := by
  cases r with
  | cons h t =>
    obtain ⟨y, rfl, h2⟩ := us1 t
    exact ⟨_, _, rfl, h, h2⟩
def lenN : OpN := fun us S => match us with
  | [.d (.str z)] => if z.length ≤ 16777216 then .ok (.d (.int z.length)) S else .bad
  | [.d (.tuple xs)] => .ok (.d (.int xs.length)) S
  | [u] => (match lstOf u S with
    | some xs => .ok (.d (.int xs.length)) S
    | none => .bad)
  | _ => .bad
theorem lk_len : LkN K E (fun xs H Q => ∃ x n, xs = [x] ∧ LenV K x H n ∧ Q (.int n) H) lenN := by
  intro c xs us Q o r h
  unfold lenN at h
  split at h
  · obtain ⟨x, rfl, r1⟩ := us1 r
    split at h
    · rename_i hl
      rw [rStr r1]
      exact ⟨_, _, rfl, ⟨by rw [sizeLine_eq]; exact hl, rfl⟩, Post.val h o (.int _)⟩
    · exact h.elim
  · obtain ⟨x, rfl, r1⟩ := us1 r
    obtain ⟨p, vs, rfl, q1, q2⟩ := sqT_of r1
    exact ⟨_, _, rfl, .inr ⟨_, q1, rfl⟩, by rw [q2.length]; exact Post.val h o (.int _)⟩
  · obtain ⟨x, rfl, r1⟩ := us1 r
    split at h
    · rename_i hl
      obtain ⟨p, vs, rfl, q1, q2⟩ := lstOf_rep o r1 hl
      exact ⟨_, _, rfl, .inl ⟨_, .inl (.inl q1), rfl⟩, by rw [q2.length]; exact Post.val h o (.int _)⟩
    · exact h.elim
  · exact h.elim
def absN : OpN := fun us S => match us with
  | [.d (.int i)] => .ok (.d (.int (if i < 0 then -i else i))) S
  | _ => .bad
theorem lk_abs : LkN K E (fun xs H Q => ∃ i, xs = [.int i] ∧ Q (.int (if i < 0 then -i else i)) H) absN := by
  intro c xs us Q o r h
  unfold absN at h
  split at h
  · obtain ⟨x, rfl, r1⟩ := us1 r
    rw [rInt r1]
    exact ⟨_, rfl, Post.val h o (.int _)⟩
  · exact h.elim
def intN : OpN := fun us S => match us with
  | [.d (.int i)] => .ok (.d (.int i)) S
  | [.d (.bool k)] => .ok (.d (.int (if k = true then 1 else 0))) S
  | _ => .bad
theorem lk_int : LkN K E (fun xs H Q => (∃ i, xs = [.int i] ∧ Q (.int i) H) ∨ ∃ k, xs = [.bl k] ∧ Q (.int (if k then 1 else 0)) H) intN := by
  intro c xs us Q o r h
  unfold intN at h
  split at h
  · obtain ⟨x, rfl, r1⟩ := us1 r
    rw [rInt r1]
    exact .inl ⟨_, rfl, Post.val h o (.int _)⟩
  · obtain ⟨x, rfl, r1⟩ := us1 r
    rw [rBool r1]
    exact .inr ⟨_, rfl, Post.val h o (.int _)⟩
  · exact h.elim
def maxN2 : OpN := fun us S => match us with
  | [.d (.int i), .d (.int j)] => .ok (.d (.int (if j > i then j else i))) S
  | _ => .bad
def minN2 : OpN := fun us S => match us with
  | [.d (.int i), .d (.int j)] => .ok (.d (.int (if j < i then j else i))) S
  | _ => .bad
theorem lk_max2 : LkN K E (fun xs H Q => ∃ i j, xs = [.int i, .int j] ∧ Q (.int (if j > i then j else i)) H) maxN2 := by
  intro c xs us Q o r h
  unfold maxN2 at h
  split at h
  · obtain ⟨x, y, rfl, r1, r2⟩ := us2 r
    rw [rInt r1, rInt r2]
    exact ⟨_, _, rfl, Post.val h o (.int _)⟩
  · exact h.elim
theorem lk_min2 : LkN K E (fun xs H Q => ∃ i j, xs = [.int i, .int j] ∧ Q (.int (if j < i then j else i)) H) minN2 := by
  intro c xs us Q o r h
  unfold minN2 at h
  split at h
  · obtain ⟨x, y, rfl, r1, r2⟩ := us2 r
    rw [rInt r1, rInt r2]
    exact ⟨_, _, rfl, Post.val h o (.int _)⟩
  · exact h.elim
/-- lists of bools, of intsL -/
def bools : List D → Option (List Bool)
  | [] => some []
  | .bool b :: r => (bools r).map (b :: ·)
  | _ :: _ => none
def intsL : List D → Option (List Int)
  | [] => some []
  | .int b :: r => (intsL r).map (b :: ·)
  | _ :: _ => none
theorem bools_rep {c : Cfg} : ∀ {ds : List D} {vs : List V} {bs : List Bool}, RepA K c vs ds → bools ds = some bs → vs = bs.map V.bl
  | [], _, _, r, h => by cases r; cases h; rfl
  | .bool b :: ds, _, bs, r, h => by
    cases r with
    | cons r1 r2 =>
      unfold bools at h
      cases h2 : bools ds with
      | none => rw [h2] at h; cases h
      | some cs =>
        rw [h2] at h
        cases h
        cases r1
        rw [bools_rep r2 h2]
        rfl
  | .none :: _, _, _, _, h => by cases h
  | .int _ :: _, _, _, _, h => by cases h
  | .str _ :: _, _, _, _, h => by cases h
  | .list _ :: _, _, _, _, h => by cases h
  | .tuple _ :: _, _, _, _, h => by cases h
  | .dict _ :: _, _, _, _, h => by cases h
theorem ints_rep {c : Cfg} : ∀ {ds : List D} {vs : List V} {bs : List Int}, RepA K c vs ds → intsL ds = some bs → vs = bs.map V.int
  | [], _, _, r, h => by cases r; cases h; rfl
  | .int b :: ds, _, bs, r, h => by
    cases r with
    | cons r1 r2 =>
      unfold intsL at h
      cases h2 : intsL ds with
      | none => rw [h2] at h; cases h
      | some cs =>
        rw [h2] at h
        cases h
        cases r1
        rw [ints_rep r2 h2]
        rfl
  | .none :: _, _, _, _, h => by cases h
  | .bool _ :: _, _, _, _, h => by cases h
  | .str _ :: _, _, _, _, h => by cases h
  | .list _ :: _, _, _, _, h => by cases h
  | .tuple _ :: _, _, _, _, h => by cases h
  | .dict _ :: _, _, _, _, h => by cases h
def onBools (g : List Bool → Bool) : OpN := fun us S => match us with
  | [u] => (match (lstOf u S).bind bools with
    | some bs => .ok (.d (.bool (g bs))) S
    | none => .bad)
  | _ => .bad
def allN : OpN := onBools fun bs => bs.all id
def anyN : OpN := onBools fun bs => bs.any id
theorem lk_bools {g : List Bool → Bool} : LkN K E (fun vs H Q => ∃ (a : Addr) (bs : List Bool), vs = [V.ref a] ∧ SqL K H a (bs.map V.bl) ∧ Q (.bl (g bs)) H) (onBools g) := by
  intro c xs us Q o r h
  unfold onBools at h
  split at h
  · obtain ⟨x, rfl, r1⟩ := us1 r
    split at h
    · rename_i hb
      obtain ⟨ds, hl, hb⟩ := Option.bind_eq_some_iff.mp hb
      obtain ⟨p, vs, rfl, q1, q2⟩ := lstOf_rep o r1 hl
      have e := bools_rep q2 hb
      subst e
      exact ⟨p, _, rfl, .inl (.inl q1), Post.val h o (.bl _)⟩
    · exact h.elim
  · exact h.elim
def sumN : OpN := fun us S => match us with
  | [u] => (match (lstOf u S).bind intsL with
    | some bs => .ok (.d (.int bs.sum)) S
    | none => .bad)
  | _ => .bad
theorem lk_sum : LkN K E (rSum K) sumN := by
  intro c xs us Q o r h
  unfold sumN at h
  split at h
  · obtain ⟨x, rfl, r1⟩ := us1 r
    split at h
    · rename_i hb
      obtain ⟨ds, hl, hb⟩ := Option.bind_eq_some_iff.mp hb
      obtain ⟨p, vs, rfl, q1, q2⟩ := lstOf_rep o r1 hl
      have e := ints_rep q2 hb
      subst e
      exact ⟨p, _, rfl, .inl (.inl q1), Post.val h o (.int _)⟩
    · exact h.elim
  · exact h.elim
/-- list(x), tuple(x) of a list, a tuple -/
def seqOf (u : U) (S : Sto) : Option (List D) := match u with
  | .d (.tuple xs) => some xs
  | .s ns => some (ns.map .int)
  | u => lstOf u S
theorem reps_ints {c : Cfg} : ∀ ns : List Int, RepA K c (ns.map V.int) (ns.map .int)
  | [] => .nil
  | n :: ns => .cons (.int n) (reps_ints ns)
theorem seqOf_rep {c : Cfg} {u : U} {v : V} {ds : List D} (o : OkC K c) (r : RepU K c v u) (h : seqOf u c.S = some ds) : ∃ a xs, v = .ref a ∧ (SqL K c.H a xs ∨ (SqT K c.H a xs ∧ u = .d (.tuple ds))) ∧ RepA K c xs ds := by
  unfold seqOf at h
  split at h
  · cases h
    obtain ⟨p, vs, rfl, q1, q2⟩ := sqT_of r
    exact ⟨p, vs, rfl, .inr ⟨q1, rfl⟩, q2⟩
  · cases h
    obtain ⟨p, rfl, q1⟩ := sc_of r
    exact ⟨p, _, rfl, .inl q1, reps_ints _⟩
  · obtain ⟨p, vs, rfl, q1, q2⟩ := lstOf_rep o r h
    exact ⟨p, vs, rfl, .inl (.inl (.inl q1)), q2⟩
def listN : OpN := fun us S => match us with
  | [u] => (match seqOf u S with
    | some xs => .ok (.d (.list xs)) S
    | none => .bad)
  | _ => .bad
def tupleN : OpN := fun us S => match us with
  | [u] => (match seqOf u S with
    | some xs => .ok (.d (.tuple xs)) S
    | none => .bad)
  | _ => .bad
theorem lk_list : LkN K E (fun xs H Q => ∃ p ys, xs = [.ref p] ∧ (SqL K H p ys ∨ SqT K H p ys) ∧ ∀ l, H l = none → Q (.ref l) (upd H l (.lst ys))) listN := by
  intro c xs us Q o r h
  unfold listN at h
  split at h
  · obtain ⟨x, rfl, r1⟩ := us1 r
    split at h
    · rename_i hb
      obtain ⟨p, vs, rfl, q1, q2⟩ := seqOf_rep o r1 hb
      exact ⟨p, vs, rfl, q1.imp id (·.1), fun l hl => Post.new h o hl (rep_newL o hl q2)⟩
    · exact h.elim
  · exact h.elim
theorem lk_tuple : LkN K E (fun xs H Q => ∃ p ys, xs = [.ref p] ∧ ((SqL K H p ys ∧ ∀ l, H l = none → Q (.ref l) (upd H l (.tup ys))) ∨ (SqT K H p ys ∧ Q (.ref p) H))) tupleN := by
  intro c xs us Q o r h
  unfold tupleN at h
  split at h
  · obtain ⟨x, rfl, r1⟩ := us1 r
    split at h
    · rename_i hb
      obtain ⟨p, vs, rfl, q1, q2⟩ := seqOf_rep o r1 hb
      rcases q1 with q1 | ⟨q1, rfl⟩
      · exact ⟨p, vs, rfl, .inl ⟨q1, fun l hl => Post.new h o hl (rep_newT o hl q2)⟩⟩
      · exact ⟨p, vs, rfl, .inr ⟨q1, Post.val h o r1⟩⟩
    · exact h.elim
  · exact h.elim
end
end DL
namespace DL
open PySem PySem.Spec PyProof.Rows L2
section
variable {X : Cx} {E : EXW} {K : PySem.W.Frag} {a b e : Expr} {es : List Expr} {f g : DE} {p : DT} {pos : Pos}
/-! ### a def -/
def finU (u : U) (S : Sto) (n : Nat) : Rs U := match u with
  | .d x => .ok (.d x) (S.take n)
  | .r k => if k < n then .ok (.r k) (S.take n) else (match S[k]? with
    | some cl => .ok (.d cl.dat) (S.take n)
    | none => .bad)
  | .s ns => .ok (.s ns) (S.take n)
def fnD (np N : Nat) (body : DS) : Fn := fun us S => if us.length = np then (match body (us.map some ++ List.replicate (N - np) none) S with
  | .nx _ S' => finU (.d .none) S' S.length
  | .rt u S' => finU u S' S.length
  | .ex n fs S' => .ex n fs (S'.take S.length)
  | _ => .bad) else .bad
def spD (K : PySem.W.Frag) (F : Fn) : Sp := fun vs H Q _ => ∃ hd ι S us, OkC K ⟨hd, ι, S, H⟩ ∧ RepUs K ⟨hd, ι, S, H⟩ vs us ∧ Post K E0W ⟨hd, ι, S, H⟩ Q (F us S)
theorem fin_go {c0 c : Cfg} {u : U} {v : V} {Q : V → Hp → Prop} (o0 : OkC K c0) (e : Ext c0 c) (o : OkC K c) (r : RepU K c v u) (h : Post K E c0 Q (finU u c.S c0.S.length)) : Q v c.H := by
  obtain ⟨h1, h2⟩ := ext_take e o0
  have ot := ok_take o c0.S.length
  have hs := e.same
  have hl := o0.len
  unfold finU at h
  split at h
  · have := h v (c.ι.take c0.S.length) c.H (by rw [← hs]; exact h2) (by rw [← hs]; exact ot)
    refine this ?_
    show Rep K _ v _
    rw [← hs]
    exact Rep.ext keep_take r
  · rename_i k
    obtain ⟨p, hp, rfl⟩ := r
    split at h
    · rename_i hk
      refine h (.ref p) (c.ι.take c0.S.length) c.H (by rw [← hs]; exact h2) (by rw [← hs]; exact ot) ⟨p, ?_, rfl⟩
      show (c.ι.take c0.S.length)[k]? = some p
      rw [List.getElem?_take, if_pos hk]
      exact hp
    · rename_i hk
      split at h
      · rename_i cl ec
        obtain ⟨p', hp', hc⟩ := o.cell k cl ec
        rw [hp] at hp'
        cases hp'
        refine h (.ref p) (c.ι.take c0.S.length) c.H (by rw [← hs]; exact h2) (by rw [← hs]; exact ot) ?_
        show Rep K _ _ _
        rw [← hs]
        refine hc.rep keep_take (.inl rfl) ?_
        rintro (hq | ⟨n, cl2, h3, h4, h5⟩)
        · exact (o.hid p hq).2 (List.mem_of_getElem? hp)
        · have h3 : (c.ι.take c0.S.length)[n]? = some p := h3
          rw [List.getElem?_take] at h3
          split at h3
          · have := nodup_idx o.nodup hp h3
            omega
          · cases h3
      · exact h.elim
  · have := h v (c.ι.take c0.S.length) c.H (by rw [← hs]; exact h2) (by rw [← hs]; exact ot)
    refine this ?_
    obtain ⟨a, h3, h4⟩ := r
    refine ⟨a, h3, ?_⟩
    rcases h4 with ⟨h4, n⟩ | h4
    · exact .inl ⟨h4, fun z => n (by rw [← hs] at z; exact live_take z)⟩
    · exact .inr h4
theorem slots_start {c : Cfg} : ∀ {vs : List V} {us : List U}, RepUs K c vs us → ∀ (i : Nat) (u : U), (us.map some)[i]? = some (some u) → ∃ v, (vs.map some)[i]? = some (some v) ∧ RepU K c v u
  | _, _, .nil, i, u, h => by simp at h
  | _, _, .cons r t, 0, u, h => by
    have h : some (some _) = some (some u) := h
    cases h
    exact ⟨_, rfl, r⟩
  | _, _, .cons r t, i + 1, u, h => slots_start t i u h
theorem at_start {c : Cfg} {N : List Str} {vs : List V} {us : List U} (o : OkC K c) (r : RepUs K c vs us) {np : Nat} (hn : us.length = np) : At K c (L2.start N vs) (us.map some ++ List.replicate (N.length - np) none) := by
  have hl := r.length
  refine ⟨o, ⟨fun i u h => ?_⟩, by unfold L2.start; simp; omega⟩
  by_cases hi : i < us.length
  · rw [List.getElem?_append_left (by simpa using hi)] at h
    obtain ⟨v, h1, h2⟩ := slots_start r i u h
    refine ⟨v, ?_, h2⟩
    unfold L2.start
    rw [List.getElem?_append_left (by simp; omega)]
    exact h1
  · rw [List.getElem?_append_right (by simp; omega)] at h
    rw [List.getElem?_replicate] at h
    split at h <;> cases h
/-- THE CONTRACT -/
theorem fn_ok {P : Program} {w : World} {mg : Str → Option Value} {base : Heap} {x qual : Str} {params : Arguments} {body : List Stmt} {scope : Scope} {f : Addr} {fd : FuncData} {N ps : List Str} {k np nN : Nat} {t : DS}
    (F : FunD K x qual params body scope [] [] f fd) (sc : FnScope N ps scope) (h1 : ps.length = np) (h2 : N.length = nN)
    (hb : ∀ (cdv : Value) (A : Around) (outer : List Env) (s : Shared) (H : Hp) (E : XK), Room k (A.deeper (envOfC qual scope s.heap.objs.size f cdv)) → PSs (cxOf CX0 P w K mg base N qual scope f cdv A outer s H E).nox body (tS K E0W t)) :
    FnOk P w K mg base CX0 (k + 1) f fd ps (spD K (fnD np nN t)) := by
  refine F.ok sc (fun vs H Q E h => ?_) fun cdv A outer s H vs Q E hr h => ⟨_, (hb cdv A outer s H E hr).nox, ?_⟩
  · obtain ⟨hd, ι, S, us, o, r, h⟩ := h
    unfold fnD at h
    split at h
    · rename_i hl
      rw [r.length, hl, h1]
    · exact h.elim
  · obtain ⟨hd, ι, S, us, o, r, h⟩ := h
    unfold fnD at h
    split at h
    · rename_i hl
      refine ⟨hd, ι, S, _, at_start (N := N) o r hl, ?_⟩
      rw [h2]
      generalize hres : t (us.map some ++ List.replicate (nN - np) none) S = res at h
      cases res with
      | nx ρ' S' => exact fun σ' ι' H' e' a' => fin_go (c := ⟨hd, ι', S', H'⟩) (u := .d .none) o e' a'.ok .non h
      | rt u S' => exact fun v ι' H' e' o' r' => fin_go (c := ⟨hd, ι', S', H'⟩) o e' o' r' h
      | bk ρ' S' => exact h.elim
      | ct ρ' S' => exact h.elim
      | ex n fs S' => exact h.elim
      | bad => exact h.elim
    · exact h.elim
/-- .. of a def that hands back a new list, which is to change -/
def finN (u : U) (S : Sto) (n : Nat) : Rs U := match u with
  | .r k => if n ≤ k then (match S[k]? with
    | some cl => if cl.isMut = true then .ok (.r n) (S.take n ++ [cl]) else .bad
    | none => .bad) else .bad
  | _ => .bad
def fnN (np N : Nat) (body : DS) : Fn := fun us S => if us.length = np then (match body (us.map some ++ List.replicate (N - np) none) S with
  | .rt u S' => finN u S' S.length
  | .ex n fs S' => .ex n fs (S'.take S.length)
  | _ => .bad) else .bad
theorem finN_go {c0 c : Cfg} {u : U} {v : V} {Q : V → Hp → Prop} (o0 : OkC K c0) (e : Ext c0 c) (o : OkC K c) (r : RepU K c v u) (h : Post K E c0 Q (finN u c.S c0.S.length)) : Q v c.H := by
  obtain ⟨h1, h2⟩ := ext_take e o0
  have ot := ok_take o c0.S.length
  have hs := e.same
  have hl := o0.len
  have hlc := o.len
  unfold finN at h
  split at h
  · rename_i k
    obtain ⟨p, hp, rfl⟩ := r
    split at h
    · rename_i hk
      split at h
      · rename_i cl ec
        split at h
        · rename_i hm
          obtain ⟨p', hp', hc⟩ := o.cell k cl ec
          rw [hp] at hp'
          cases hp'
          have hkl : k < c.S.length := (List.getElem?_eq_some_iff.mp ec).1
          have tl : (c.ι.take c0.S.length).length = c0.S.length := by rw [List.length_take]; omega
          have tS : (c.S.take c0.S.length).length = c0.S.length := by rw [List.length_take]; omega
          have nin : p ∉ c.ι.take c0.S.length := fun z => by
            obtain ⟨i, hi, ei⟩ := List.getElem_of_mem z
            have q : (c.ι.take c0.S.length)[i]? = some p := by rw [List.getElem?_eq_getElem hi, ei]
            rw [List.getElem?_take] at q
            split at q
            · have := nodup_idx o.nodup hp q
              omega
            · cases q
          have lv : ∀ b, live c.hd (c.ι.take c0.S.length ++ [p]) (c.S.take c0.S.length ++ [cl]) b → live c.hd c.ι c.S b := by
            rintro b (z | ⟨n, cl2, z1, z2, z3⟩)
            · exact .inl z
            · by_cases hn : n < c0.S.length
              · rw [List.getElem?_append_left (by omega), List.getElem?_take, if_pos hn] at z1
                rw [List.getElem?_append_left (by omega), List.getElem?_take, if_pos hn] at z2
                exact .inr ⟨n, cl2, z1, z2, z3⟩
              · rw [List.getElem?_append_right (by omega), tl] at z1
                have e0 : n - c0.S.length = 0 := by
                  by_cases q : n - c0.S.length = 0
                  · exact q
                  · rw [List.getElem?_eq_none (by simp; omega)] at z1
                    cases z1
                rw [e0] at z1
                cases z1
                exact .inr ⟨k, cl, hp, ec, hm⟩
          have kp : Keep c ⟨c.hd, c.ι.take c0.S.length ++ [p], c.S.take c0.S.length ++ [cl], c.H⟩ := ⟨fun b ob q n => ⟨kept.of_eq q, fun z => n (lv b z)⟩⟩
          have ok2 : OkC K ⟨c.hd, c.ι.take c0.S.length ++ [p], c.S.take c0.S.length ++ [cl], c.H⟩ := by
            refine ⟨fun a ha => ⟨(o.hid a ha).1, fun z => ?_⟩, by show (c.ι.take c0.S.length ++ [p]).length = (c.S.take c0.S.length ++ [cl]).length; simp; omega, ?_, fun n cl2 z2 => ?_⟩
            · rcases List.mem_append.mp (show a ∈ c.ι.take c0.S.length ++ [p] from z) with z | z
              · exact (o.hid a ha).2 (List.mem_of_mem_take z)
              · have : a = p := by simpa using z
                rw [this] at ha
                exact (o.hid p ha).2 (List.mem_of_getElem? hp)
            · refine List.nodup_append.mpr ⟨ot.nodup, by simp, fun a ha b hb => ?_⟩
              have hb : b = p := by simpa using hb
              rw [hb]
              exact fun z => nin (by rw [← z]; exact ha)
            · have z2 : (c.S.take c0.S.length ++ [cl])[n]? = some cl2 := z2
              by_cases hn : n < c0.S.length
              · rw [List.getElem?_append_left (by omega), List.getElem?_take, if_pos hn] at z2
                obtain ⟨a, w1, w2⟩ := o.cell n cl2 z2
                refine ⟨a, ?_, w2.ext kp fun _ => rfl⟩
                show (c.ι.take c0.S.length ++ [p])[n]? = some a
                rw [List.getElem?_append_left (by omega), List.getElem?_take, if_pos hn]
                exact w1
              · rw [List.getElem?_append_right (by omega), tS] at z2
                have e0 : n - c0.S.length = 0 := by
                  by_cases q : n - c0.S.length = 0
                  · exact q
                  · rw [List.getElem?_eq_none (by simp; omega)] at z2
                    cases z2
                rw [e0] at z2
                cases z2
                refine ⟨p, ?_, hc.ext kp fun _ => rfl⟩
                show (c.ι.take c0.S.length ++ [p])[n]? = some p
                rw [List.getElem?_append_right (by omega), tl, e0]
                rfl
          have ex2 : Ext c0 ⟨c.hd, c.ι.take c0.S.length ++ [p], c.S.take c0.S.length ++ [cl], c.H⟩ := ⟨e.toKeep.trans kp, by show c0.ι <+: c.ι.take c0.S.length ++ [p]; rw [h1]; exact List.prefix_append _ _, e.hid, e.same⟩
          refine h (.ref p) (c.ι.take c0.S.length ++ [p]) c.H (by rw [← hs]; exact ex2) (by rw [← hs]; exact ok2) ⟨p, ?_, rfl⟩
          show (c.ι.take c0.S.length ++ [p])[c0.S.length]? = some p
          rw [List.getElem?_append_right (by omega), tl, Nat.sub_self]
          rfl
        · exact h.elim
      · exact h.elim
    · exact h.elim
  · exact h.elim
theorem fn_okN {P : Program} {w : World} {mg : Str → Option Value} {base : Heap} {x qual : Str} {params : Arguments} {body : List Stmt} {scope : Scope} {f : Addr} {fd : FuncData} {N ps : List Str} {k np nN : Nat} {t : DS}
    (F : FunD K x qual params body scope [] [] f fd) (sc : FnScope N ps scope) (h1 : ps.length = np) (h2 : N.length = nN)
    (hb : ∀ (cdv : Value) (A : Around) (outer : List Env) (s : Shared) (H : Hp) (E : XK), Room k (A.deeper (envOfC qual scope s.heap.objs.size f cdv)) → PSs (cxOf CX0 P w K mg base N qual scope f cdv A outer s H E).nox body (tS K E0W t)) :
    FnOk P w K mg base CX0 (k + 1) f fd ps (spD K (fnN np nN t)) := by
  refine F.ok sc (fun vs H Q E h => ?_) fun cdv A outer s H vs Q E hr h => ⟨_, (hb cdv A outer s H E hr).nox, ?_⟩
  · obtain ⟨hd, ι, S, us, o, r, h⟩ := h
    unfold fnN at h
    split at h
    · rename_i hl
      rw [r.length, hl, h1]
    · exact h.elim
  · obtain ⟨hd, ι, S, us, o, r, h⟩ := h
    unfold fnN at h
    split at h
    · rename_i hl
      refine ⟨hd, ι, S, _, at_start (N := N) o r hl, ?_⟩
      rw [h2]
      generalize hres : t (us.map some ++ List.replicate (nN - np) none) S = res at h
      cases res with
      | rt u S' => exact fun v ι' H' e' o' r' => finN_go (c := ⟨hd, ι', S', H'⟩) o e' o' r' h
      | nx ρ' S' => exact h.elim
      | bk ρ' S' => exact h.elim
      | ct ρ' S' => exact h.elim
      | ex n fs S' => exact h.elim
      | bad => exact h.elim
    · exact h.elim
/-- a weaker contract: another function that is the same where it is asked -/
theorem FnOk.eqF {P : Program} {w : World} {mg : Str → Option Value} {base : Heap} {k : Nat} {f : Addr} {fd : FuncData} {ps : List Str} {F G : Fn} (h : FnOk P w K mg base CX0 k f fd ps (spD K F)) (e : F = G) : FnOk P w K mg base CX0 k f fd ps (spD K G) := by
  rw [← e]; exact h
def dFn (F : Fn) (t : DA) : DE := fun ρ S => (t ρ S).bind F
theorem pd_fn {k : Nat} {fa : Addr} {fd : FuncData} {ps : List Str} {F : Fn} {x : Str} {p : Pos} {t : DA} (G : FnOk X.prog X.w X.K X.mg X.base CX0 k fa fd ps (spD X.K F)) (hr : Room k X.A) (hg : Gl X x) (hm : X.mg x = some (.ref fa)) (hk : PySem.W.keepIn X.K (.ref fa) = true) (hb : Binds X.K fd ps [])
    (ha : PA X (a :: es) (tA X.K E0W t)) (hdb : (x == ("__debug__" : Str)) = false := by decide) (he : starEach (a :: es) X.env = (false, eval a X.env) :: starEach es X.env := by rfl) (hpl : (backTo pos (starEach es X.env)).any (·.1) = false := by rfl) :
    PE X (.Call (.Name x p) (a :: es) [] pos) (tD X.K E0W (dFn F t)) := (pe_call G hr hg hm hk hb .nil pass0 ha hdb he hpl).dimp fun σ H Q ⟨hd, ι, S, ρ, at_, h⟩ => by
  refine tA_stepG (c := ⟨hd, ι, S, H⟩) at_ h fun us vs c1 e1 a1 r1 h1 => ?_
  refine ⟨c1.hd, c1.ι, c1.S, us, a1.ok, ?_, h1⟩
  rw [List.append_nil]
  exact r1
theorem pd_fn0 {k : Nat} {fa : Addr} {fd : FuncData} {ps : List Str} {F : Fn} {x : Str} {p : Pos} (G : FnOk X.prog X.w X.K X.mg X.base CX0 k fa fd ps (spD X.K F)) (hr : Room k X.A) (hg : Gl X x) (hm : X.mg x = some (.ref fa)) (hk : PySem.W.keepIn X.K (.ref fa) = true) (hb : Binds X.K fd ps [])
    (hdb : (x == ("__debug__" : Str)) = false := by decide) :
    PE X (.Call (.Name x p) [] [] pos) (tD X.K E0W (dFn F aNil)) := (pe_call0 G hr hg hm hk hb .nil pass0 hdb).dimp fun σ H Q ⟨hd, ι, S, ρ, at_, h⟩ => ⟨hd, ι, S, [], at_.ok, .nil, h⟩
/-! ### statements -/
def Rs.toRt {α : Type} (m : Rs α) (k : α → Sto → Rt) : Rt := match m with
  | .ok a S => k a S
  | .ex n fs S => .ex n fs S
  | .bad => .bad
theorem tD_stepS {f : DE} {σ : L2.St} {ρ : Rho} {c : Cfg} {Q : V → Hp → Prop} {D : Ends} {k : U → Sto → Rt} (at_ : At K c σ ρ) (h : PostS K E c D ((f ρ c.S).toRt k))
    (go : ∀ u v c1, Ext c c1 → At K c1 σ ρ → RepU K c1 v u → PostS K E c1 D (k u c1.S) → Q v c1.H) : tD K E f σ c.H Q := by
  refine ⟨c.hd, c.ι, c.S, ρ, at_, ?_⟩
  cases hf : f ρ c.S with
  | ok u S1 =>
    rw [hf] at h
    exact fun v ι' H' e o r => go u v ⟨c.hd, ι', S1, H'⟩ e (at_.ext e o) r (PostS.step h e)
  | ex n fs S1 =>
    rw [hf] at h
    exact h
  | bad =>
    rw [hf] at h
    exact h
theorem tB_stepS {f : DT} {σ : L2.St} {ρ : Rho} {c : Cfg} {Q : Bool → Hp → Prop} {D : Ends} {k : Bool → Sto → Rt} (at_ : At K c σ ρ) (h : PostS K E c D ((f ρ c.S).toRt k))
    (go : ∀ u c1, Ext c c1 → At K c1 σ ρ → PostS K E c1 D (k u c1.S) → Q u c1.H) : tB K E f σ c.H Q := by
  refine ⟨c.hd, c.ι, c.S, ρ, at_, ?_⟩
  cases hf : f ρ c.S with
  | ok u S1 =>
    rw [hf] at h
    exact fun v ι' H' e o r => by
      subst r
      exact go v ⟨c.hd, ι', S1, H'⟩ e (at_.ext e o) (PostS.step h e)
  | ex n fs S1 =>
    rw [hf] at h
    exact h
  | bad =>
    rw [hf] at h
    exact h
theorem tA_stepS {f : DA} {σ : L2.St} {ρ : Rho} {c : Cfg} {Q : List V → Hp → Prop} {D : Ends} {k : List U → Sto → Rt} (at_ : At K c σ ρ) (h : PostS K E c D ((f ρ c.S).toRt k))
    (go : ∀ u v c1, Ext c c1 → At K c1 σ ρ → RepUs K c1 v u → PostS K E c1 D (k u c1.S) → Q v c1.H) : tA K E f σ c.H Q := by
  refine ⟨c.hd, c.ι, c.S, ρ, at_, ?_⟩
  cases hf : f ρ c.S with
  | ok u S1 =>
    rw [hf] at h
    exact fun v ι' H' e o r => go u v ⟨c.hd, ι', S1, H'⟩ e (at_.ext e o) r (PostS.step h e)
  | ex n fs S1 =>
    rw [hf] at h
    exact h
  | bad =>
    rw [hf] at h
    exact h
variable {st : Stmt} {rest : List Stmt} {t u : DS}
def sNil : DS := fun ρ S => .nx ρ S
def sSeq (t u : DS) : DS := fun ρ S => match t ρ S with
  | .nx ρ' S' => u ρ' S'
  | r => r
theorem PostS.nxt {c : Cfg} {D : Ends} {ρ : Rho} {σ : L2.St} (h : PostS K E c D (.nx ρ c.S)) (at_ : At K c σ ρ) : D.nx σ c.H := h σ c.ι c.H (Ext.refl _) at_
theorem sd_nil : PSs X [] (tS X.K E sNil) := pss_nil.dimp fun D σ H ⟨hd, ι, S, ρ, at_, h⟩ => PostS.nxt (c := ⟨hd, ι, S, H⟩) h at_
theorem sd_cons (h1 : PS X st (tS X.K E t)) (h2 : PSs X rest (tS X.K E u)) : PSs X (st :: rest) (tS X.K E (sSeq t u)) := (pss_cons h1 h2).dimp fun D σ H ⟨hd, ι, S, ρ, at_, h⟩ => by
  refine ⟨hd, ι, S, ρ, at_, ?_⟩
  have h : PostS X.K E ⟨hd, ι, S, H⟩ D (match t ρ S with
    | .nx ρ' S' => u ρ' S'
    | r => r) := h
  cases ht : t ρ S with
  | nx ρ' S' =>
    rw [ht] at h
    exact fun σ' ι' H' e' a' => ⟨hd, ι', S', ρ', a', PostS.step h e'⟩
  | rt _ _ => rw [ht] at h; exact h
  | bk _ _ => rw [ht] at h; exact h
  | ct _ _ => rw [ht] at h; exact h
  | ex _ _ _ => rw [ht] at h; exact h
  | bad => rw [ht] at h; exact h
theorem sd_one (h1 : PS X st (tS X.K E t)) : PSs X [st] (tS X.K E t) := pss_one h1
theorem sd_pass : PS X (.Pass pos) (tS X.K E sNil) := ps_pass.dimp fun D σ H ⟨hd, ι, S, ρ, at_, h⟩ => PostS.nxt (c := ⟨hd, ι, S, H⟩) h at_
theorem sd_doc {x j pos'} : PS X (.Expr (.Constant (.str x) j pos) pos') (tS X.K E sNil) := ps_doc.dimp fun D σ H ⟨hd, ι, S, ρ, at_, h⟩ => PostS.nxt (c := ⟨hd, ι, S, H⟩) h at_
def sBrk : DS := fun ρ S => .bk ρ S
def sCnt : DS := fun ρ S => .ct ρ S
def sNever : DS := fun _ _ => .bad
theorem sd_brk : PS X (.Break pos) (tS X.K E sBrk) := ps_break.dimp fun D σ H ⟨hd, ι, S, ρ, at_, h⟩ => h σ ι H (Ext.refl _) at_
theorem sd_cnt : PS X (.Continue pos) (tS X.K E sCnt) := ps_continue.dimp fun D σ H ⟨hd, ι, S, ρ, at_, h⟩ => h σ ι H (Ext.refl _) at_
theorem sd_never : PS X st (tS X.K E sNever) := ps_never.dimp fun D σ H ⟨hd, ι, S, ρ, at_, h⟩ => h.elim
def sExp (f : DE) : DS := fun ρ S => (f ρ S).toRt fun _ S' => .nx ρ S'
theorem sd_exp (h : PE X e (tD X.K E f)) (hs : swapsWith e none pos.line X.env = pure false := by rfl) : PS X (.Expr e pos) (tS X.K E (sExp f)) := (ps_expr h hs).dimp fun D σ H ⟨hd, ι, S, ρ, at_, h⟩ =>
  tD_stepS (c := ⟨hd, ι, S, H⟩) at_ h fun u v c1 e1 a1 r1 h1 => PostS.nxt h1 a1
def sRet (f : DE) : DS := fun ρ S => (f ρ S).toRt fun u S' => .rt u S'
theorem sd_ret (h : PE X e (tD X.K E f)) : PS X (.Return (some e) pos) (tS X.K E (sRet f)) := (ps_ret h).dimp fun D σ H ⟨hd, ι, S, ρ, at_, h⟩ =>
  tD_stepS (c := ⟨hd, ι, S, H⟩) at_ h fun u v c1 e1 a1 r1 h1 => h1 v c1.ι c1.H (Ext.refl _) a1.ok r1
def sRetN : DS := fun _ S => .rt (.d .none) S
theorem sd_retN : PS X (.Return none pos) (tS X.K E sRetN) := ps_retN.dimp fun D σ H ⟨hd, ι, S, ρ, at_, h⟩ => h .non ι H (Ext.refl _) at_.ok .non
def sIf (p : DT) (t u : DS) : DS := fun ρ S => (p ρ S).toRt fun b S' => if b = true then t ρ S' else u ρ S'
theorem sd_if {A B : List Stmt} (hp : PT X e (tB X.K E p)) (ha : PSs X A (tS X.K E t)) (hb : PSs X B (tS X.K E u)) : PS X (.If e A B pos) (tS X.K E (sIf p t u)) := (ps_if hp ha hb).dimp fun D σ H ⟨hd, ι, S, ρ, at_, h⟩ => by
  refine tB_stepS (c := ⟨hd, ι, S, H⟩) at_ h fun b c1 e1 a1 h1 => ?_
  cases b with
  | true => exact ⟨c1.hd, c1.ι, c1.S, ρ, a1, h1⟩
  | false => exact ⟨c1.hd, c1.ι, c1.S, ρ, a1, h1⟩
def sSet (i : Nat) (f : DE) : DS := fun ρ S => (f ρ S).toRt fun u S' => .nx (ρ.set i (some u)) S'
theorem At.set {c : Cfg} {σ : L2.St} {ρ : Rho} (h : At K c σ ρ) {i : Nat} {v : V} {u : U} (r : RepU K c v u) : At K c (σ.set i (some v)) (ρ.set i (some u)) := ⟨h.ok, h.sl.set h.len r, by rw [List.length_set, List.length_set]; exact h.len⟩
theorem sd_set {i : Nat} {x : Str} {pos' : Pos} (hN : X.N.Nodup) (hi : X.N[i]? = some x) (hx : Loc X.env.scope x) (he : PE X e (tD X.K E f)) (hs : swapsWith e (some (.Name x pos')) pos.line X.env = pure false := by rfl) (hf : X.fn x = true ∨ X.env.scope.names.lookup x = some .local := by first | exact .inl rfl | exact .inr rfl | assumption) :
    PS X (.Assign [.Name x pos'] e pos) (tS X.K E (sSet i f)) := (ps_set hN hi hx he hs hf).dimp fun D σ H ⟨hd, ι, S, ρ, at_, h⟩ =>
  tD_stepS (c := ⟨hd, ι, S, H⟩) at_ h fun u v c1 e1 a1 r1 h1 => PostS.nxt h1 (a1.set r1)
def sPar (i j : Nat) (t : DA) : DS := fun ρ S => (t ρ S).toRt fun us S' => match us with
  | [u, w] => .nx ((ρ.set i (some u)).set j (some w)) S'
  | _ => .bad
theorem sd_par {i j : Nat} {x y : Str} {px py pt : Pos} {kt k2 pt2} {t : DA} (hc : X.calm = true) (hN : X.N.Nodup) (hi : X.N[i]? = some x) (hj : X.N[j]? = some y) (hij : i ≠ j)
    (hx : X.env.scope.names.lookup x = some .local) (hy : X.env.scope.names.lookup y = some .local) (ha : PA X [a, b] (tA X.K E t))
    (hw : swappedStores [.Tuple [.Name x px, .Name y py] kt pt] (.Tuple [a, b] k2 pt2) X.env = pure (some [x, y]))
    (hs : swapsWithSole [.Tuple [.Name x px, .Name y py] kt pt] (.Tuple [a, b] k2 pt2) pos.line X.env = pure false := by rfl) :
    PS X (.Assign [.Tuple [.Name x px, .Name y py] kt pt] (.Tuple [a, b] k2 pt2) pos) (tS X.K E (sPar i j t)) := (ps_par hc hN hi hj hij hx hy ha hw hs).dimp fun D σ H ⟨hd, ι, S, ρ, at_, h⟩ => by
  refine tA_stepS (c := ⟨hd, ι, S, H⟩) at_ h fun us vs c1 e1 a1 r1 h1 => ?_
  split at h1
  · obtain ⟨v, w, rfl, r1, r2⟩ := us2 r1
    exact ⟨v, w, rfl, PostS.nxt h1 ((a1.set r1).set r2)⟩
  · exact h1.elim
/-- x op= e -/
def sAug (i : Nat) (op : Op2) (f : DE) : DS := fun ρ S => match ρ[i]? with
  | some (some u) => (f ρ S).toRt fun w S1 => (op u w S1).toRt fun z S2 => .nx (ρ.set i (some z)) S2
  | _ => .bad
theorem sd_aug {i : Nat} {x : Str} {o : Operator} {op : Op2} {r : R2} {pos' : Pos} (hN : X.N.Nodup) (hi : X.N[i]? = some x) (hx : Loc X.env.scope x) (ho : OpR X (inplaceOp o) r) (l : Lk2 X.K E r op) (he : PE X e (tD X.K E f)) (hf : X.fn x = true ∨ X.env.scope.names.lookup x = some .local := by first | exact .inl rfl | exact .inr rfl | assumption) :
    PS X (.AugAssign (.Name x pos') o e pos) (tS X.K E (sAug i op f)) := (ps_aug (ti := r) hN hi hx he (fun pins s σ H x y v u Q I r1 r2 h => ho pins s σ H x y v u Q I r1 r2 h) hf).dimp fun D σ H ⟨hd, ι, S, ρ, at_, h⟩ => by
  unfold sAug at h
  split at h
  · rename_i u eu
    obtain ⟨v, h1, h2⟩ := at_.sl.at_ i u eu
    refine ⟨v, h1, tD_stepS (c := ⟨hd, ι, S, H⟩) at_ h fun w y c1 e1 a1 r1 h3 => ?_⟩
    refine l c1 v y u w _ a1.ok (h2.ext e1) r1 ?_
    cases hop : op u w c1.S with
    | ok z S2 =>
      rw [hop] at h3
      exact fun z' ι' H' e' o' r' => PostS.nxt (c := ⟨c1.hd, ι', S2, H'⟩) (PostS.step h3 e') ((a1.ext e' o').set r')
    | ex n fs S2 => rw [hop] at h3; exact h3
    | bad => rw [hop] at h3; exact h3
  · exact h.elim
/-! ### targets of data -/
abbrev Tg := D → Rho → Option Rho
def tG (K : PySem.W.Frag) (sl : List Nat) (t : Tg) : TG := fun v σ H Q => ∃ hd ι S ρ d ρ', At K ⟨hd, ι, S, H⟩ σ ρ ∧ Rep K ⟨hd, ι, S, H⟩ v d ∧ t d ρ = some ρ' ∧ ∀ σ', At K ⟨hd, ι, S, H⟩ σ' ρ' → (∀ j, j ∉ sl → σ'[j]? = σ[j]?) → σ'.length = σ.length → Q σ' H
def gN (i : Nat) : Tg := fun d ρ => some (ρ.set i (some (.d d)))
theorem gd_name {i : Nat} {x : Str} (hN : X.N.Nodup) (hi : X.N[i]? = some x) (hx : Loc X.env.scope x) (hf : X.fn x = true ∨ X.env.scope.names.lookup x = some .local := by first | exact .inl rfl | exact .inr rfl | assumption) : PG X (.Name x pos) (tG X.K [i] (gN i)) := (pg_name hN hi hx hf).dimp fun v σ H Q ⟨hd, ι, S, ρ, d, ρ', at_, r, e, h⟩ => by
  cases e
  refine h _ (at_.set (u := .d d) r) (fun j hj => ?_) (by rw [List.length_set])
  rw [List.getElem?_set_ne (fun z => hj (by simp [z]))]
/-- a tuple of targets -/
abbrev Tgs := List D → Rho → Option Rho
def tGs (K : PySem.W.Frag) (sl : List Nat) (t : Tgs) : TGs := fun vs σ H Q => ∃ hd ι S ρ ds ρ', At K ⟨hd, ι, S, H⟩ σ ρ ∧ RepA K ⟨hd, ι, S, H⟩ vs ds ∧ t ds ρ = some ρ' ∧ ∀ σ', At K ⟨hd, ι, S, H⟩ σ' ρ' → (∀ j, j ∉ sl → σ'[j]? = σ[j]?) → σ'.length = σ.length → Q σ' H
theorem _root_.L2.PGs.dimp {X : Cx} {e : List Expr} {t t' : TGs} (h : PGs X e t) (k : ∀ v σ H Q, t' v σ H Q → t v σ H Q) : PGs X e t' := ⟨fun pins s σ H v u Q I r q => h.run pins s σ H v u Q I r (k _ _ _ _ q)⟩
def gsN : Tgs := fun ds ρ => match ds with
  | [] => some ρ
  | _ => none
def gsC (t : Tg) (u : Tgs) : Tgs := fun ds ρ => match ds with
  | d :: r => (t d ρ).bind fun ρ1 => u r ρ1
  | _ => none
theorem gsd_nil : PGs X [] (tGs X.K [] gsN) := pgs_nil.dimp fun vs σ H Q ⟨hd, ι, S, ρ, ds, ρ', at_, r, e, h⟩ => by
  cases r with
  | nil =>
    cases e
    exact ⟨rfl, h σ at_ (fun _ _ => rfl) rfl⟩
  | cons _ _ => cases e
theorem gsd_cons {sl sl' : List Nat} {t : Tg} {u : Tgs} (h1 : PG X a (tG X.K sl t)) (h2 : PGs X es (tGs X.K sl' u)) (hs : (assignEach (a :: es) X.env).map (·.2) = assign a X.env :: (assignEach es X.env).map (·.2) := by rfl) : PGs X (a :: es) (tGs X.K (sl ++ sl') (gsC t u)) := (pgs_cons h1 h2 hs).dimp fun vs σ H Q ⟨hd, ι, S, ρ, ds, ρ', at_, r, e, h⟩ => by
  cases r with
  | nil => cases e
  | cons r1 r2 =>
    rename_i v vs d ds _
    have e : (t d ρ).bind (fun ρ1 => u ds ρ1) = some ρ' := e
    obtain ⟨ρ1, e1, e2⟩ := Option.bind_eq_some_iff.mp e
    refine ⟨v, vs, rfl, hd, ι, S, ρ, d, ρ1, at_, r1, e1, fun σ1 a1 k1 l1 => ⟨hd, ι, S, ρ1, ds, ρ', a1, r2, e2, fun σ2 a2 k2 l2 => ?_⟩⟩
    exact h σ2 a2 (fun j hj => (k2 j fun z => hj (List.mem_append_right _ z)).trans (k1 j fun z => hj (List.mem_append_left _ z))) (l2.trans l1)
def gT (u : Tgs) : Tg := fun d ρ => match d with
  | .tuple ds => u ds ρ
  | _ => none
def gsLen : Tgs → Nat → Prop := fun u n => ∀ ds ρ ρ', u ds ρ = some ρ' → ds.length = n
theorem gsLen_nil : gsLen gsN 0 := fun ds ρ ρ' h => by
  cases ds with
  | nil => rfl
  | cons _ _ => cases h
theorem gsLen_cons {t : Tg} {u : Tgs} {n : Nat} (h : gsLen u n) : gsLen (gsC t u) (n + 1) := fun ds ρ ρ' e => by
  cases ds with
  | nil => cases e
  | cons d ds =>
    obtain ⟨ρ1, _, e2⟩ := Option.bind_eq_some_iff.mp (show (t d ρ).bind (fun ρ1 => u ds ρ1) = some ρ' from e)
    rw [List.length_cons, h _ _ _ e2]
theorem gd_tup {k n : Nat} {sl : List Nat} {u : Tgs} (hc : X.calm = true) (h : PGs X es (tGs X.K sl u)) (hl : gsLen u n) (hn : (assignEach es X.env).length = n := by rfl) (hst : (assignEach es X.env).findIdx? (·.1) = none := by rfl) : PG X (.Tuple es k pos) (tG X.K sl (gT u)) := (pg_tup hc h hn hst).dimp fun v σ H Q ⟨hd, ι, S, ρ, d, ρ', at_, r, e, h⟩ => by
  unfold gT at e
  split at e
  · rename_i ds
    obtain ⟨q, vs, rfl, q1, q2⟩ := sqT_of r
    exact ⟨q, vs, rfl, q1, q2.length.trans (hl _ _ _ e), hd, ι, S, ρ, ds, ρ', at_, q2, e, h⟩
  · cases e
/-! ### what is walked -/
structure ItOk (K : PySem.W.Frag) (c : Cfg) (J : It) (ds : List D) : Prop where
  ex : ∃ (G : Hp → Prop) (Y : Nat → Hp → V → Hp → Prop), Walk J ds.length G Y ∧ (∀ c1, Keep c c1 → OkC K c1 → G c1.H) ∧
    ∀ i x H2 c1, i < ds.length → Keep c c1 → OkC K c1 → Y i c1.H x H2 → ∃ d, ds[i]? = some d ∧ Ext c1 ⟨c1.hd, c1.ι, c1.S, H2⟩ ∧ OkC K ⟨c1.hd, c1.ι, c1.S, H2⟩ ∧ Rep K ⟨c1.hd, c1.ι, c1.S, H2⟩ x d
def tI (K : PySem.W.Frag) (E : EXW) (f : DI) : TI := fun σ H R => ∃ hd ι S ρ, At K ⟨hd, ι, S, H⟩ σ ρ ∧ PostG (fun c J ds => ItOk K c J ds) K E ⟨hd, ι, S, H⟩ R (f ρ S)
theorem _root_.L2.PI.dimp {X : Cx} {tg e : Expr} {t t' : TI} (h : PI X tg e t) (k : ∀ σ H Q, t' σ H Q → t σ H Q) : PI X tg e t' := ⟨fun pins s σ H R I q => h.run pins s σ H R I (k _ _ _ q)⟩
theorem it_list {c : Cfg} {q : Addr} {vs : List V} {ds : List D} (h : c.H q = some (.lst vs)) (n : ¬ live c.hd c.ι c.S q) (r : RepA K c vs ds) : ItOk K c (Itl K q) ds := by
  refine ⟨_, _, by rw [← r.length]; exact walk_list (K := K) (a := q), fun c1 k o => Or.inl (Or.inl (k.keep q _ h n).1), fun i x H2 c1 hlt k o y => ?_⟩
  obtain ⟨e, hx⟩ := y
  subst e
  have r1 := RepA.ext k r
  have hi : i < ds.length := by
    have := (List.getElem?_eq_some_iff.mp hx).1
    rw [r.length] at this
    exact this
  obtain ⟨v, h1, h2⟩ := r1.get (List.getElem?_eq_getElem hi)
  rw [hx] at h1
  cases h1
  exact ⟨_, List.getElem?_eq_getElem hi, Ext.refl _, o, h2⟩
theorem it_tup {c : Cfg} {v : V} {ds : List D} (r : Rep K c v (.tuple ds)) : ∃ q, v = .ref q ∧ (∃ xs, SqT K c.H q xs) ∧ ItOk K c (Itt K q) ds := by
  have key : ∀ {q : Addr} {vs : List V}, v = .ref q → SqT K c.H q vs → (∀ c1, Keep c c1 → OkC K c1 → SqT K c1.H q vs) → RepA K c vs ds → ∃ q, v = .ref q ∧ (∃ xs, SqT K c.H q xs) ∧ ItOk K c (Itt K q) ds := by
    intro q vs e h hk r
    refine ⟨q, e, ⟨vs, h⟩, _, _, by rw [← r.length]; exact walk_tup (K := K) (a := q), hk, fun i x H2 c1 hlt k o y => ?_⟩
    obtain ⟨e, hx⟩ := y
    subst e
    have r1 := RepA.ext k r
    have hi : i < ds.length := by
      have := (List.getElem?_eq_some_iff.mp hx).1
      rw [r.length] at this
      exact this
    obtain ⟨v, h1, h2⟩ := r1.get (List.getElem?_eq_getElem hi)
    rw [hx] at h1
    cases h1
    exact ⟨_, List.getElem?_eq_getElem hi, Ext.refl _, o, h2⟩
  cases r with
  | tup h n r => exact key rfl (.inl (.inl h)) (fun c1 k o => .inl (.inl (k.keep _ _ h n).1)) r
  | tupK h r => exact key rfl (.inr h) (fun _ _ _ => .inr h) r
/-- the items of a list or tuple value; a cell is kept as a datum -/
def itSeq (u : U) (S : Sto) : Rs (List D) := (toD u S).bind fun x S1 => match x with
  | .list xs => .ok xs S1
  | .tuple xs => .ok xs S1
  | _ => .bad
def dIt (f : DE) : DI := fun ρ S => (f ρ S).bind itSeq
theorem _root_.L2.PI.por {X : Cx} {tg e : Expr} {t t' : TI} (h : PI X tg e t) (h' : PI X tg e t') : PI X tg e (fun σ H R => t σ H R ∨ t' σ H R) := ⟨fun pins s σ H R I q => by
  rcases q with q | q
  · exact h.run pins s σ H R I q
  · exact h'.run pins s σ H R I q⟩
theorem id_seq {tg : Expr} (h : PE X e (tD X.K E f)) : PI X tg e (tI X.K E (dIt f)) := ((pi_list h).por (pi_tup h)).dimp fun σ H R ⟨hd, ι, S, ρ, at_, h⟩ => by
  have h : PostG (fun c J ds => ItOk X.K c J ds) X.K E ⟨hd, ι, S, H⟩ R ((f ρ S).bind itSeq) := h
  cases hf : f ρ S with
  | bad => rw [hf] at h; exact h.elim
  | ex n fs S1 =>
    rw [hf] at h
    exact .inl ⟨hd, ι, S, ρ, at_, by rw [hf]; exact h⟩
  | ok u S1 =>
    rw [hf] at h
    have h : PostG (fun c J ds => ItOk X.K c J ds) X.K E ⟨hd, ι, S, H⟩ R ((toD u S1).bind fun x S1 => match x with
      | .list xs => .ok xs S1
      | .tuple xs => .ok xs S1
      | _ => .bad) := h
    cases hd' : toD u S1 with
    | bad => rw [hd'] at h; exact h.elim
    | ex n fs S2 => exact (toD_noex hd').elim
    | ok x S2 =>
      rw [hd'] at h
      cases x with
      | list xs =>
        refine .inl ⟨hd, ι, S, ρ, at_, ?_⟩
        rw [hf]
        intro v ι' H' e' o' r'
        obtain ⟨e2, o2, q2⟩ := toD_go (c := ⟨hd, ι', S1, H'⟩) o' r' hd'
        cases q2 with
        | lst h1 n1 r1 => exact ⟨_, rfl, ⟨_, .inl (.inl h1)⟩, h _ ι' H' (e'.trans e2) o2 (it_list h1 n1 r1)⟩
      | tuple xs =>
        refine .inr ⟨hd, ι, S, ρ, at_, ?_⟩
        rw [hf]
        intro v ι' H' e' o' r'
        obtain ⟨e2, o2, q2⟩ := toD_go (c := ⟨hd, ι', S1, H'⟩) o' r' hd'
        obtain ⟨q, rfl, hx, it⟩ := it_tup q2
        exact ⟨q, rfl, hx, h _ ι' H' (e'.trans e2) o2 it⟩
      | _ => exact h.elim
/-- a text, sign by sign -/
def signs (z : Str) : List D := z.cps.toList.map fun ch => .str ⟨#[ch]⟩
def itStr (u : U) (S : Sto) : Rs (List D) := match u with
  | .d (.str z) => .ok (signs z) S
  | _ => .bad
def dItS (f : DE) : DI := fun ρ S => (f ρ S).bind itStr
theorem id_str {tg : Expr} (h : PE X e (tD X.K E f)) : PI X tg e (tI X.K E (dItS f)) := (pi_str h).dimp fun σ H R ⟨hd, ι, S, ρ, at_, h⟩ => by
  refine tD_stepG (c := ⟨hd, ι, S, H⟩) at_ h fun u v c1 e1 a1 r1 h1 => ?_
  unfold itStr at h1
  split at h1
  · rename_i z
    rw [rStr r1]
    refine ⟨z, rfl, h1 _ c1.ι c1.H (Ext.refl _) a1.ok ⟨_, _, by unfold signs; rw [List.length_map, Array.length_toList]; exact walk_str, fun _ _ _ => trivial, fun i x H2 c2 hlt k o y => ?_⟩⟩
    obtain ⟨e, ch, hch, rfl⟩ := y
    subst e
    refine ⟨_, ?_, Ext.refl _, o, .str _⟩
    unfold signs
    rw [List.getElem?_map, Array.getElem?_toList, hch]
    rfl
  · exact h1.elim
/-- range(n), range(a, b) -/
def rngL (lo : Int) (n : Nat) : List D := (List.range n).map fun i => .int (lo + (i : Nat))
def itR1 (us : List U) (S : Sto) : Rs (List D) := match us with
  | [.d (.int j)] => if -(2 ^ 62) ≤ j ∧ j < 2 ^ 62 then .ok (rngL 0 j.toNat) S else .bad
  | _ => .bad
def itR2 (us : List U) (S : Sto) : Rs (List D) := match us with
  | [.d (.int i), .d (.int j)] => if -(2 ^ 62) ≤ i ∧ i < 2 ^ 62 ∧ -(2 ^ 62) ≤ j ∧ j < 2 ^ 62 then .ok (rngL i (j - i).toNat) S else .bad
  | _ => .bad
def dItA (g : List U → Sto → Rs (List D)) (t : DA) : DI := fun ρ S => (t ρ S).bind g
theorem it_rng {c : Cfg} {lo : Int} {n : Nat} : ItOk K c (Itr lo n) (rngL lo n) := by
  refine ⟨_, _, by unfold rngL; rw [List.length_map, List.length_range]; exact walk_range, fun _ _ _ => trivial, fun i x H2 c1 hlt k o y => ?_⟩
  obtain ⟨e, rfl⟩ := y
  subst e
  have hi : i < n := by
    unfold rngL at hlt
    simpa using hlt
  refine ⟨_, ?_, Ext.refl _, o, .int _⟩
  unfold rngL
  rw [List.getElem?_map, List.getElem?_range hi]
  rfl
end
end DL
namespace DL
open PySem PySem.Spec PyProof.Rows L2
section
variable {X : Cx} {E : EXW} {K : PySem.W.Frag} {a b e : Expr} {es : List Expr} {f g : DE} {p : DT} {pos : Pos}
theorem id_rng1 {tg : Expr} {t : DA} {q : Pos} (hg : Gl X "range") (hm : X.mg "range" = none) (ha : PA X [a] (tA X.K E t)) (hs : starEach [a] X.env = [(false, eval a X.env)] := by rfl) : PI X tg (.Call (.Name "range" q) [a] [] pos) (tI X.K E (dItA itR1 t)) := (pi_range1 hg hm ha hs).dimp fun σ H R ⟨hd, ι, S, ρ, at_, h⟩ => by
  have h : PostG (fun c J ds => ItOk X.K c J ds) X.K E ⟨hd, ι, S, H⟩ R ((t ρ S).bind itR1) := h
  refine tA_stepG (c := ⟨hd, ι, S, H⟩) (Q := fun vs H1 => ∃ j : Int, vs = [.int j] ∧ -(2 ^ 62) ≤ j ∧ j < 2 ^ 62 ∧ R (Itr 0 j.toNat) H1) at_ (h) fun us vs c1 e1 a1 r1 h1 => ?_
  unfold itR1 at h1
  split at h1
  · split at h1
    · rename_i hj
      obtain ⟨x, rfl, r2⟩ := us1 r1
      rw [rInt r2]
      exact ⟨_, rfl, hj.1, hj.2, h1 _ c1.ι c1.H (Ext.refl _) a1.ok it_rng⟩
    · exact h1.elim
  · exact h1.elim
theorem id_rng2 {tg : Expr} {t : DA} {q : Pos} (hg : Gl X "range") (hm : X.mg "range" = none) (ha : PA X [a, b] (tA X.K E t)) (hs : starEach [a, b] X.env = [(false, eval a X.env), (false, eval b X.env)] := by rfl) (hs2 : starEach [b] X.env = [(false, eval b X.env)] := by rfl) : PI X tg (.Call (.Name "range" q) [a, b] [] pos) (tI X.K E (dItA itR2 t)) := (pi_range2 hg hm ha hs hs2).dimp fun σ H R ⟨hd, ι, S, ρ, at_, h⟩ => by
  have h : PostG (fun c J ds => ItOk X.K c J ds) X.K E ⟨hd, ι, S, H⟩ R ((t ρ S).bind itR2) := h
  refine tA_stepG (c := ⟨hd, ι, S, H⟩) (Q := fun vs H1 => ∃ i j : Int, vs = [.int i, .int j] ∧ (-(2 ^ 62) ≤ i ∧ i < 2 ^ 62 ∧ -(2 ^ 62) ≤ j ∧ j < 2 ^ 62) ∧ R (Itr i (j - i).toNat) H1) at_ (h) fun us vs c1 e1 a1 r1 h1 => ?_
  unfold itR2 at h1
  split at h1
  · split at h1
    · rename_i hj
      obtain ⟨x, y, rfl, r2, r3⟩ := us2 r1
      rw [rInt r2, rInt r3]
      exact ⟨_, _, rfl, hj, h1 _ c1.ι c1.H (Ext.refl _) a1.ok it_rng⟩
    · exact h1.elim
  · exact h1.elim
/-! ### pairs that are walked -/
def zipL (xs ys : List D) : List D := (xs.zip ys).map fun q => .tuple [q.1, q.2]
theorem zipL_get {xs ys : List D} {i : Nat} {x y : D} (h1 : xs[i]? = some x) (h2 : ys[i]? = some y) : (zipL xs ys)[i]? = some (.tuple [x, y]) := by
  unfold zipL
  rw [List.getElem?_map, (List.getElem?_zip_eq_some (z := (x, y))).mpr ⟨h1, h2⟩]
  rfl
theorem zipL_len (xs ys : List D) : (zipL xs ys).length = min xs.length ys.length := by unfold zipL; rw [List.length_map, List.length_zip]
theorem pair_new {c : Cfg} {T : Addr} {x y : V} {dx dy : D} (o : OkC K c) (hT : c.H T = none) (rx : Rep K c x dx) (ry : Rep K c y dy) : Ext c ⟨c.hd, c.ι, c.S, upd c.H T (.tup [x, y])⟩ ∧ OkC K ⟨c.hd, c.ι, c.S, upd c.H T (.tup [x, y])⟩ ∧ Rep K ⟨c.hd, c.ι, c.S, upd c.H T (.tup [x, y])⟩ (.ref T) (.tuple [dx, dy]) :=
  ⟨ext_new o hT, ok_new o hT, rep_newT o hT (.cons rx (.cons ry .nil))⟩
/-- zip of two lists -/
theorem it_zip {c : Cfg} {q q' : Addr} {vs ws : List V} {xs ys : List D} (h : c.H q = some (.lst vs)) (n : ¬ live c.hd c.ι c.S q) (r : RepA K c vs xs) (h' : c.H q' = some (.lst ws)) (n' : ¬ live c.hd c.ι c.S q') (r' : RepA K c ws ys) : ItOk K c (Itz K q q') (zipL xs ys) := by
  refine ⟨_, _, walk_zip (xs := vs) (ys := ws) (by rw [zipL_len, r.length, r'.length]), fun c1 k o => ⟨.inl (.inl (k.keep q _ h n).1), .inl (.inl (k.keep q' _ h' n').1)⟩, fun i x H2 c1 hlt k o y => ?_⟩
  obtain ⟨T, x1, y1, rfl, hT, rfl, e1, e2⟩ := y
  rw [zipL_len] at hlt
  obtain ⟨v, h1, h2⟩ := (RepA.ext k r).get (List.getElem?_eq_getElem (show i < xs.length by omega))
  obtain ⟨v', h1', h2'⟩ := (RepA.ext k r').get (List.getElem?_eq_getElem (show i < ys.length by omega))
  have e1 : vs[i]? = some x1 := e1
  have e2 : ws[i]? = some y1 := e2
  rw [e1] at h1
  rw [e2] at h1'
  cases h1
  cases h1'
  exact ⟨_, zipL_get (List.getElem?_eq_getElem _) (List.getElem?_eq_getElem _), pair_new o hT h2 h2'⟩
theorem walk_zipT {xs ys : List V} {a b : Addr} {n : Nat} (hn : n = min xs.length ys.length) : Walk (RZ.ItzT K a b) n (fun H => SqT K H a xs ∧ SqT K H b ys) (YPair (fun i => xs[i]?) (fun i => ys[i]?)) := by
  subst hn
  refine ⟨fun i _ hi q => ?_, fun _ q => ⟨xs, ys, q.1, q.2, by omega⟩, fun i H v H' _ q y => ?_⟩
  · have h1 : i < xs.length := by omega
    have h2 : i < ys.length := by omega
    exact ⟨xs, ys, xs[i], ys[i], q.1, q.2, by simp [h1], by simp [h2]⟩
  · obtain ⟨T, x, z, h1, h2, h3, h4, h5⟩ := y
    exact ⟨T, x, z, h1, h2, h3, h4 xs q.1, h5 ys q.2⟩
theorem sqT_stays {c : Cfg} {v : V} {ds : List D} (r : Rep K c v (.tuple ds)) : ∃ a xs, v = .ref a ∧ (∀ c1, Keep c c1 → SqT K c1.H a xs) ∧ RepA K c xs ds := by
  cases r with
  | tup h n r => exact ⟨_, _, rfl, fun c1 k => .inl (.inl (k.keep _ _ h n).1), r⟩
  | tupK h r => exact ⟨_, _, rfl, fun _ _ => .inr h, r⟩
theorem Keep.refl (c : Cfg) : Keep c c := (Ext.refl c).toKeep
theorem it_zipT {c : Cfg} {q q' : Addr} {vs ws : List V} {xs ys : List D} (h : ∀ c1, Keep c c1 → SqT K c1.H q vs) (r : RepA K c vs xs) (h' : ∀ c1, Keep c c1 → SqT K c1.H q' ws) (r' : RepA K c ws ys) : ItOk K c (RZ.ItzT K q q') (zipL xs ys) := by
  refine ⟨_, _, walk_zipT (xs := vs) (ys := ws) (by rw [zipL_len, r.length, r'.length]), fun c1 k o => ⟨h c1 k, h' c1 k⟩, fun i x H2 c1 hlt k o y => ?_⟩
  obtain ⟨T, x1, y1, rfl, hT, rfl, e1, e2⟩ := y
  rw [zipL_len] at hlt
  obtain ⟨v, h1, h2⟩ := (RepA.ext k r).get (List.getElem?_eq_getElem (show i < xs.length by omega))
  obtain ⟨v', h1', h2'⟩ := (RepA.ext k r').get (List.getElem?_eq_getElem (show i < ys.length by omega))
  have e1 : vs[i]? = some x1 := e1
  have e2 : ws[i]? = some y1 := e2
  rw [e1] at h1
  rw [e2] at h1'
  cases h1
  cases h1'
  exact ⟨_, zipL_get (List.getElem?_eq_getElem _) (List.getElem?_eq_getElem _), pair_new o hT h2 h2'⟩
/-- zip(x, y): two lists or two tuples -/
def itZip (us : List U) (S : Sto) : Rs (List D) := (toDs us S).bind fun xs S1 => match xs with
  | [.list xs, .list ys] => .ok (zipL xs ys) S1
  | [.tuple xs, .tuple ys] => .ok (zipL xs ys) S1
  | _ => .bad
theorem id_zip {t : DA} {q tpos : Pos} {elts : List Expr} {kk : Nat} (hg : Gl X "zip") (hm : X.mg "zip" = none) (ha : PA X [a, b] (tA X.K E t)) (hs : starEach [a, b] X.env = (false, eval a X.env) :: starEach [b] X.env := by rfl) (hpl : (backTo pos (starEach [b] X.env)).any (·.1) = false := by rfl) :
    PI X (.Tuple elts kk tpos) (.Call (.Name "zip" q) [a, b] [] pos) (tI X.K E (dItA itZip t)) := (RZ.pi_zipA hg hm ha hs hpl).dimp fun σ H R ⟨hd, ι, S, ρ, at_, h⟩ => by
  have h : PostG (fun c J ds => ItOk X.K c J ds) X.K E ⟨hd, ι, S, H⟩ R ((t ρ S).bind itZip) := h
  refine tA_stepG (c := ⟨hd, ι, S, H⟩) (Q := fun vs H1 => ∃ a b xs ys, vs = [.ref a, .ref b] ∧ ((SqL X.K H1 a xs ∧ SqL X.K H1 b ys ∧ R (Itz X.K a b) H1) ∨ (SqT X.K H1 a xs ∧ SqT X.K H1 b ys ∧ R (RZ.ItzT X.K a b) H1))) at_ h fun us vs c1 e1 a1 r1 h1 => ?_
  obtain ⟨xs, S2, e2, o2, r2, h2⟩ := toDs_step a1.ok r1 h1
  split at h2
  · rename_i xs ys
    cases r2 with
    | cons ra rt =>
      cases rt with
      | cons rb rt =>
        cases rt
        cases ra with
        | lst q1 n1 w1 =>
          cases rb with
          | lst q2 n2 w2 => exact ⟨_, _, _, _, rfl, .inl ⟨.inl (.inl q1), .inl (.inl q2), h2 _ c1.ι c1.H (Ext.refl _) o2 (it_zip q1 n1 w1 q2 n2 w2)⟩⟩
  · rename_i xs ys
    cases r2 with
    | cons ra rt =>
      cases rt with
      | cons rb rt =>
        cases rt
        obtain ⟨q1, vs, rfl, k1, w1⟩ := sqT_stays ra
        obtain ⟨q2, ws, rfl, k2, w2⟩ := sqT_stays rb
        exact ⟨_, _, vs, ws, rfl, Or.inr ⟨k1 ⟨c1.hd, c1.ι, S2, c1.H⟩ (Keep.refl _), k2 ⟨c1.hd, c1.ι, S2, c1.H⟩ (Keep.refl _), h2 _ c1.ι c1.H (Ext.refl _) o2 (it_zipT k1 w1 k2 w2)⟩⟩
  · exact h2.elim
/-! ### for, while -/
def forL (tg : Tg) (body : DS) : List D → Rho → Sto → Rt
  | [], ρ, S => .nx ρ S
  | d :: ds, ρ, S => match tg d ρ with
    | none => .bad
    | some ρ1 => match body ρ1 S with
      | .nx ρ' S' => forL tg body ds ρ' S'
      | .ct ρ' S' => forL tg body ds ρ' S'
      | .bk ρ' S' => .nx ρ' S'
      | r => r
def sFor (it : DI) (tg : Tg) (body : DS) : DS := fun ρ S => (it ρ S).toRt fun ds S1 => forL tg body ds ρ S1
theorem sd_for {tg iter : Expr} {body : List Stmt} {it : DI} {sl : List Nat} {g : Tg} {t : DS} (hp : PassesOwn (model X.prog X.w) X.A X.env X.xe) (hc : X.calm = true) (hi : PI X tg iter (tI X.K E it)) (hg : PG X tg (tG X.K sl g)) (hb : PSs X body (tS X.K E t))
    (hs : ∀ x, foldedSetIterable iter X.env x = pure x := by intro _; rfl) : PS X (.For tg iter body [] pos) (tS X.K E (sFor it g t)) := (ps_for hp hc hi hg hb hs).dimp fun D σ H ⟨hd, ι, S, ρ, at_, h⟩ => by
  have h : PostS X.K E ⟨hd, ι, S, H⟩ D ((it ρ S).toRt fun ds S1 => forL g t ds ρ S1) := h
  refine ⟨hd, ι, S, ρ, at_, ?_⟩
  cases hf : it ρ S with
  | bad => rw [hf] at h; exact h.elim
  | ex n fs S1 => rw [hf] at h; exact h
  | ok ds S1 =>
    rw [hf] at h
    intro J ι1 H1 e1 o1 ok
    have h1 : PostS X.K E ⟨hd, ι1, S1, H1⟩ D (forL g t ds ρ S1) := PostS.step h e1
    obtain ⟨G, Y, wk, hG, hY⟩ := ok.ex
    refine for_it wk (fun i σ H => ∃ ι2 S2 ρ2, Ext ⟨hd, ι1, S1, H1⟩ ⟨hd, ι2, S2, H⟩ ∧ At X.K ⟨hd, ι2, S2, H⟩ σ ρ2 ∧ PostS X.K E ⟨hd, ι2, S2, H⟩ D (forL g t (ds.drop i) ρ2 S2)) ⟨ι1, S1, ρ, Ext.refl _, at_.ext e1 o1, h1⟩ ?_ ?_ ?_
    · rintro i σ H _ ⟨ι2, S2, ρ2, e2, a2, _⟩
      exact hG _ e2.toKeep a2.ok
    · rintro i x σ2 H2 H3 hi ⟨ι2, S2, ρ2, e2, a2, h2⟩ y
      obtain ⟨d, hdx, e3, o3, r3⟩ := hY i x H3 ⟨hd, ι2, S2, H2⟩ hi e2.toKeep a2.ok y
      have ed : ds.drop i = d :: ds.drop (i + 1) := by
        obtain ⟨hlt, eq⟩ := List.getElem?_eq_some_iff.mp hdx
        rw [List.drop_eq_getElem_cons hlt, eq]
      rw [ed] at h2
      have h2 : PostS X.K E ⟨hd, ι2, S2, H2⟩ D (match g d ρ2 with
        | none => .bad
        | some ρ1 => match t ρ1 S2 with
          | .nx ρ' S' => forL g t (ds.drop (i + 1)) ρ' S'
          | .ct ρ' S' => forL g t (ds.drop (i + 1)) ρ' S'
          | .bk ρ' S' => .nx ρ' S'
          | r => r) := h2
      cases hgd : g d ρ2 with
      | none => rw [hgd] at h2; exact h2.elim
      | some ρ3 =>
        rw [hgd] at h2
        refine ⟨hd, ι2, S2, ρ2, d, ρ3, a2.ext e3 o3, r3, hgd, fun σ4 a4 _ _ => ⟨hd, ι2, S2, ρ3, a4, ?_⟩⟩
        have h2 : PostS X.K E ⟨hd, ι2, S2, H2⟩ D (match t ρ3 S2 with
          | .nx ρ' S' => forL g t (ds.drop (i + 1)) ρ' S'
          | .ct ρ' S' => forL g t (ds.drop (i + 1)) ρ' S'
          | .bk ρ' S' => .nx ρ' S'
          | r => r) := h2
        cases ht : t ρ3 S2 with
        | nx ρ' S' =>
          rw [ht] at h2
          exact fun σ5 ι5 H5 e5 a5 => ⟨ι5, S', ρ', (e2.trans e3).trans e5, a5, PostS.step h2 (e3.trans e5)⟩
        | ct ρ' S' =>
          rw [ht] at h2
          exact fun σ5 ι5 H5 e5 a5 => ⟨ι5, S', ρ', (e2.trans e3).trans e5, a5, PostS.step h2 (e3.trans e5)⟩
        | bk ρ' S' =>
          rw [ht] at h2
          exact fun σ5 ι5 H5 e5 a5 => h2 σ5 ι5 H5 (e3.trans e5) a5
        | rt u S' =>
          rw [ht] at h2
          exact fun v ι5 H5 e5 o5 r5 => h2 v ι5 H5 (e3.trans e5) o5 r5
        | ex n fs S' =>
          rw [ht] at h2
          exact EXW.step h2 e3
        | bad => rw [ht] at h2; exact h2.elim
    · rintro σ2 H2 ⟨ι2, S2, ρ2, e2, a2, h2⟩
      rw [List.drop_length] at h2
      exact PostS.nxt (c := ⟨hd, ι2, S2, H2⟩) h2 a2
def whileN (p : DT) (body : DS) : Nat → Rho → Sto → Rt
  | 0, _, _ => .bad
  | n + 1, ρ, S => (p ρ S).toRt fun b S1 => if b = true then (match body ρ S1 with
    | .nx ρ' S' => whileN p body n ρ' S'
    | .ct ρ' S' => whileN p body n ρ' S'
    | .bk ρ' S' => .nx ρ' S'
    | r => r) else .nx ρ S1
def fuel : Nat := 100000
def sWhile (p : DT) (body : DS) : DS := fun ρ S => whileN p body fuel ρ S
theorem sd_while {c : Expr} {body : List Stmt} {t : DS} (hp : PassesOwn (model X.prog X.w) X.A X.env X.xe) (hc : PT X c (tB X.K E p)) (hb : PSs X body (tS X.K E t)) : PS X (.While c body [] pos) (tS X.K E (sWhile p t)) := (ps_while hp hc hb).dimp fun D σ H ⟨hd, ι, S, ρ, at_, h⟩ => by
  have h : PostS X.K E ⟨hd, ι, S, H⟩ D (whileN p t fuel ρ S) := h
  refine ⟨fun m σ H => ∃ ι S ρ, At X.K ⟨hd, ι, S, H⟩ σ ρ ∧ PostS X.K E ⟨hd, ι, S, H⟩ D (whileN p t m ρ S), ⟨fuel, ι, S, ρ, at_, h⟩, ?_⟩
  rintro m σ H ⟨ι, S, ρ, at_, h⟩
  cases m with
  | zero => exact h.elim
  | succ m =>
    have h : PostS X.K E ⟨hd, ι, S, H⟩ D ((p ρ S).toRt fun b S1 => if b = true then (match t ρ S1 with
      | .nx ρ' S' => whileN p t m ρ' S'
      | .ct ρ' S' => whileN p t m ρ' S'
      | .bk ρ' S' => .nx ρ' S'
      | r => r) else .nx ρ S1) := h
    refine tB_stepS (c := ⟨hd, ι, S, H⟩) at_ h fun b c1 e1 a1 h1 => ?_
    have hs := e1.same
    obtain ⟨hd1, ι1, S1, H1⟩ := c1
    have hs : hd1 = hd := hs
    subst hs
    cases b with
    | false => exact PostS.nxt (c := ⟨hd1, ι1, S1, H1⟩) h1 a1
    | true =>
      rw [if_pos rfl] at h1 ⊢
      refine ⟨fun σ' H' => ∃ m', m' < m + 1 ∧ ∃ ι S ρ, At X.K ⟨hd1, ι, S, H'⟩ σ' ρ ∧ PostS X.K E ⟨hd1, ι, S, H'⟩ D (whileN p t m' ρ S), fun _ _ z => z, hd1, ι1, S1, ρ, a1, ?_⟩
      have h1 : PostS X.K E ⟨hd1, ι1, S1, H1⟩ D (match t ρ S1 with
        | .nx ρ' S' => whileN p t m ρ' S'
        | .ct ρ' S' => whileN p t m ρ' S'
        | .bk ρ' S' => .nx ρ' S'
        | r => r) := h1
      cases ht : t ρ S1 with
      | nx ρ' S' =>
        rw [ht] at h1
        exact fun σ5 ι5 H5 e5 a5 => ⟨m, Nat.lt_succ_self m, ι5, S', ρ', a5, PostS.step h1 e5⟩
      | ct ρ' S' =>
        rw [ht] at h1
        exact fun σ5 ι5 H5 e5 a5 => ⟨m, Nat.lt_succ_self m, ι5, S', ρ', a5, PostS.step h1 e5⟩
      | bk ρ' S' => rw [ht] at h1; exact h1
      | rt u S' => rw [ht] at h1; exact h1
      | ex n fs S' => rw [ht] at h1; exact h1
      | bad => rw [ht] at h1; exact h1.elim
/-! ### list comprehensions -/
def wipeR (ρ : Rho) : List Nat → Rho
  | [] => ρ
  | v :: vs => (wipeR ρ vs).set v none
theorem wipeR_len (ρ : Rho) : ∀ vs, (wipeR ρ vs).length = ρ.length
  | [] => rfl
  | v :: vs => by unfold wipeR; rw [List.length_set, wipeR_len ρ vs]
theorem wipeR_some {ρ : Rho} {i : Nat} {u : U} : ∀ {vs : List Nat}, (wipeR ρ vs)[i]? = some (some u) → ρ[i]? = some (some u) ∧ i ∉ vs
  | [], h => ⟨h, by simp⟩
  | v :: vs, h => by
    unfold wipeR at h
    by_cases hi : v = i
    · subst hi
      by_cases hv : v < (wipeR ρ vs).length
      · rw [List.getElem?_set_self hv] at h; cases h
      · rw [List.getElem?_eq_none (by simpa using hv)] at h; cases h
    · rw [List.getElem?_set_ne hi] at h
      obtain ⟨h1, h2⟩ := wipeR_some h
      exact ⟨h1, by simp only [List.mem_cons, not_or]; exact ⟨fun e => hi e.symm, h2⟩⟩
theorem wipe_in {σ : L2.St} {i : Nat} : ∀ {vs : List Nat}, i ∈ vs → (wipe σ vs)[i]? = if i < σ.length then some none else none
  | v :: vs, h => by
    unfold wipe
    by_cases hi : v = i
    · subst hi
      by_cases hv : v < σ.length
      · rw [List.getElem?_set_self (by rw [wipe_length]; exact hv), if_pos hv]
      · rw [List.getElem?_eq_none (by rw [List.length_set, wipe_length]; omega), if_neg hv]
    · rw [List.getElem?_set_ne hi]
      exact wipe_in ((List.mem_cons.mp h).resolve_left fun z => hi z.symm)
theorem wipe_eq {σ σ' : L2.St} {vs : List Nat} (hl : σ'.length = σ.length) (h : ∀ j, j ∉ vs → σ'[j]? = σ[j]?) : wipe σ' vs = wipe σ vs := by
  apply List.ext_getElem?
  intro j
  by_cases hj : j ∈ vs
  · rw [wipe_in hj, wipe_in hj, hl]
  · rw [wipe_out hj, wipe_out hj]
    exact h j hj
theorem wipe_wipe {σ : L2.St} {vs : List Nat} : wipe (wipe σ vs) vs = wipe σ vs := wipe_eq (wipe_length _ _) fun _ hj => wipe_out hj
/-- tests of a comprehension -/
def tstY : DT := fun _ S => .ok true S
theorem td_nil : PTs X [] (tB X.K E tstY) := ⟨fun pins s σ H Q I ⟨hd, ι, S, ρ, at_, h⟩ => pts_nil.run pins s σ H Q I (PostB.fin (c := ⟨hd, ι, S, H⟩) h at_.ok)⟩
theorem td_one (h : PT X a (tB X.K E p)) : PTs X [a] (tB X.K E p) := pts_one h
def compL (tg : Tg) (own : List Nat) (tst : DT) (el : DE) (ρ : Rho) : List D → Sto → Rs (List D)
  | [], S => .ok [] S
  | d :: ds, S => match tg d (wipeR ρ own) with
    | none => .bad
    | some ρ1 => (tst ρ1 S).bind fun b S1 => if b = true then (el ρ1 S1).bind fun u S2 => (toD u S2).bind fun y S3 => (compL tg own tst el ρ ds S3).bind fun ys S4 => .ok (y :: ys) S4 else compL tg own tst el ρ ds S1
def dComp (it : DI) (tg : Tg) (own : List Nat) (tst : DT) (el : DE) : DE := fun ρ S => (it ρ S).bind fun ds S1 => if ds.length ≤ 16777216 then (compL tg own tst el ρ ds S1).bind fun ys S2 => .ok (.d (.list ys)) S2 else .bad
/-- the list at D is being made -/
abbrev hide (D : Addr) (c : Cfg) : Cfg := ⟨D :: c.hd, c.ι, c.S, c.H⟩
theorem keep_unhide {c : Cfg} {D : Addr} : Keep (hide D c) c := ⟨fun a o e n => ⟨kept.of_eq e, fun h => n (by
  rcases h with h | h
  · exact .inl (List.mem_cons_of_mem _ h)
  · exact .inr h)⟩⟩
theorem ok_unhide {c : Cfg} {D : Addr} (o : OkC K (hide D c)) : OkC K c := ⟨fun a ha => o.hid a (List.mem_cons_of_mem _ ha), o.len, o.nodup, fun n cl e => by
  obtain ⟨a, h1, h2⟩ := o.cell n cl e
  exact ⟨a, h1, h2.ext keep_unhide fun _ => rfl⟩⟩
/-- .. it changes -/
theorem keep_made {c : Cfg} {D : Addr} {u : HO} : Keep (hide D c) (hide D ⟨c.hd, c.ι, c.S, upd c.H D u⟩) := ⟨fun a o e n => ⟨kept.of_eq (by
  show upd c.H D u a = _
  rw [upd_ne fun z => n (.inl (by rw [z]; exact List.mem_cons_self))]
  exact e), fun h => n h⟩⟩
theorem ok_made {c : Cfg} {D : Addr} {u : HO} (o : OkC K (hide D c)) : OkC K (hide D ⟨c.hd, c.ι, c.S, upd c.H D u⟩) := ⟨fun a ha => ⟨by
  by_cases hD : a = D
  · exact ⟨u, by rw [hD]; exact upd_same⟩
  · obtain ⟨ob, q⟩ := (o.hid a ha).1
    exact ⟨ob, (upd_ne hD).trans q⟩, (o.hid a ha).2⟩, o.len, o.nodup, fun n cl e => by
  obtain ⟨a, h1, h2⟩ := o.cell n cl e
  have hD : a ≠ D := fun z => (o.hid D List.mem_cons_self).2 (by rw [← z]; exact List.mem_of_getElem? h1)
  exact ⟨a, h1, h2.ext keep_made fun _ => upd_ne hD⟩⟩
/-- .. it begins -/
theorem keep_begin {c : Cfg} {D : Addr} {u : HO} (h : c.H D = none) : Keep c (hide D ⟨c.hd, c.ι, c.S, upd c.H D u⟩) := ⟨fun a o e n => by
  have hD := ne_of_none e h
  refine ⟨kept.of_eq (by show upd c.H D u a = _; rw [upd_ne hD]; exact e), fun z => n ?_⟩
  rcases z with z | z
  · exact .inl ((List.mem_cons.mp z).resolve_left hD)
  · exact .inr z⟩
theorem ok_begin {c : Cfg} {D : Addr} {u : HO} (o : OkC K c) (h : c.H D = none) : OkC K (hide D ⟨c.hd, c.ι, c.S, upd c.H D u⟩) := ⟨fun a ha => by
  rcases List.mem_cons.mp ha with e | ha
  · subst e
    refine ⟨⟨u, upd_same⟩, fun z => ?_⟩
    have z : a ∈ c.ι := z
    obtain ⟨i, hi, e⟩ := List.getElem_of_mem z
    have hl := o.len
    obtain ⟨q, h1, h2⟩ := o.cell i _ (List.getElem?_eq_getElem (by omega))
    rw [List.getElem?_eq_getElem hi, e] at h1
    cases h1
    cases hc : c.S[i] with
    | lst xs =>
      rw [hc] at h2
      obtain ⟨ob, q⟩ := h2.there rfl
      rw [h] at q
      cases q
    | dic xs =>
      rw [hc] at h2
      obtain ⟨ob, q⟩ := h2.there rfl
      rw [h] at q
      cases q
    | fz x =>
      rw [hc] at h2
      obtain ⟨ob, q⟩ := h2.2.1
      rw [h] at q
      cases q
  · obtain ⟨ob, q⟩ := (o.hid a ha).1
    exact ⟨⟨ob, (upd_ne (ne_of_none q h)).trans q⟩, (o.hid a ha).2⟩, o.len, o.nodup, fun n cl e => by
  obtain ⟨a, h1, h2⟩ := o.cell n cl e
  refine ⟨a, h1, h2.ext (keep_begin h) fun m => ?_⟩
  obtain ⟨ob, e1⟩ := h2.there m
  exact upd_ne (ne_of_none e1 h)⟩
/-- what the making of a list at D keeps of the configuration ahead of it -/
structure Mk (c1 : Cfg) (D : Addr) (c : Cfg) : Prop where
  keep : Keep c1 (hide D c)
  pre : c1.ι <+: c.ι
  hid : ∀ a, a ∈ c1.hd → c.H a = c1.H a
  same : c.hd = c1.hd
theorem Mk.ext {c1 c : Cfg} {D : Addr} (m : Mk c1 D c) : Ext c1 c := ⟨m.keep.trans keep_unhide, m.pre, m.hid, m.same⟩
theorem Mk.go {c1 c : Cfg} {D : Addr} (m : Mk c1 D c) {ι' : List Addr} {S' : Sto} {H' : Hp} (e : Ext (hide D c) ⟨D :: c.hd, ι', S', H'⟩) : Mk c1 D ⟨c.hd, ι', S', H'⟩ :=
  ⟨m.keep.trans e.toKeep, m.pre.trans e.pre, fun a ha => (e.hid a (List.mem_cons_of_mem _ (by rw [m.same]; exact ha))).trans (m.hid a ha), m.same⟩
theorem slots_wipe {c c' : Cfg} {σ : L2.St} {ρ : Rho} (h : Slots K c σ ρ) (k : Keep c c') (p : c.ι <+: c'.ι) (vs : List Nat) : Slots K c' (wipe σ vs) (wipeR ρ vs) := ⟨fun i u q => by
  obtain ⟨q1, q2⟩ := wipeR_some q
  obtain ⟨v, h1, h2⟩ := h.at_ i u q1
  exact ⟨v, by rw [wipe_out q2]; exact h1, RepU.keep k p h2⟩⟩
theorem t_lc {own : List (Str × Nat)} {it : DI} {sl : List Nat} {g : Tg} {tst : DT} {el : DE} {σ : L2.St} {H : Hp} {Q : VK} (hsl : ∀ i, i ∈ sl → i ∈ own.map (·.2)) (h0 : tD K E0W (dComp it g (own.map (·.2)) tst el) σ H Q) :
    tLc (tI K E0W it) (tG K sl g) (tB K E0W tst) (tD K E0W el) (own.map (·.2)) σ H Q := by
  obtain ⟨hd, ι, S, ρ, at_, h⟩ := h0
  have h : Post K E0W ⟨hd, ι, S, H⟩ Q ((it ρ S).bind fun ds S1 => if ds.length ≤ 16777216 then (compL g (own.map (·.2)) tst el ρ ds S1).bind fun ys S2 => .ok (.d (.list ys)) S2 else .bad) := h
  refine ⟨hd, ι, S, ρ, at_, ?_⟩
  cases hf : it ρ S with
  | bad => rw [hf] at h; exact h.elim
  | ex n fs S1 => rw [hf] at h; exact h
  | ok ds S1 =>
    rw [hf] at h
    intro J ι1 H1 e1 o1 ok D hD
    have h1 : Post K E0W ⟨hd, ι1, S1, H1⟩ Q (if ds.length ≤ 16777216 then (compL g (own.map (·.2)) tst el ρ ds S1).bind fun ys S2 => .ok (.d (.list ys)) S2 else .bad) := by
      have h : Post K E0W ⟨hd, ι, S, H⟩ Q (if ds.length ≤ 16777216 then (compL g (own.map (·.2)) tst el ρ ds S1).bind fun ys S2 => .ok (.d (.list ys)) S2 else .bad) := h
      exact PostG.step h e1
    split at h1
    case isFalse => exact h1.elim
    rename_i hlen
    obtain ⟨G, Y, wk, hG, hY⟩ := ok.ex
    have at1 := at_.ext e1 o1
    refine lc_it wk (fun i H => ∃ ι2 S2 acc done, Mk ⟨hd, ι1, S1, H1⟩ D ⟨hd, ι2, S2, H⟩ ∧ OkC K (hide D ⟨hd, ι2, S2, H⟩) ∧ H D = some (.lst acc) ∧ RepA K (hide D ⟨hd, ι2, S2, H⟩) acc done ∧ done.length ≤ i ∧
      Post K E0W ⟨hd, ι1, S1, H1⟩ Q ((compL g (own.map (·.2)) tst el ρ (ds.drop i) S2).bind fun ys S3 => .ok (.d (.list (done ++ ys))) S3)) ?_ ?_ ?_ ?_
    · exact ⟨ι1, S1, [], [], ⟨keep_begin hD, List.prefix_refl _, fun a ha => upd_ne (o1.hid_ne hD ha), rfl⟩, ok_begin o1 hD, upd_same, .nil, Nat.zero_le _, h1⟩
    · rintro i H _ ⟨ι2, S2, acc, done, m, o2, _⟩
      exact hG (hide D ⟨hd, ι2, S2, H⟩) m.keep o2
    · rintro i x H2 H3 hi ⟨ι2, S2, acc, done, m, o2, hacc, racc, hdn, hp⟩ y
      obtain ⟨d, hdx, e3, o3, r3⟩ := hY i x H3 (hide D ⟨hd, ι2, S2, H2⟩) hi m.keep o2 y
      have ed : ds.drop i = d :: ds.drop (i + 1) := by
        obtain ⟨hlt, eq⟩ := List.getElem?_eq_some_iff.mp hdx
        rw [List.drop_eq_getElem_cons hlt, eq]
      rw [ed] at hp
      have m3 := m.go (ι' := ι2) (S' := S2) (H' := H3) e3
      have hacc3 : H3 D = some (.lst acc) := (e3.hid D List.mem_cons_self).trans hacc
      unfold compL at hp
      cases hgd : g d (wipeR ρ (own.map (·.2))) with
      | none => rw [hgd] at hp; exact hp.elim
      | some ρ3 =>
        rw [hgd] at hp
        have hp : Post K E0W ⟨hd, ι1, S1, H1⟩ Q (((tst ρ3 S2).bind fun b S1 => if b = true then (el ρ3 S1).bind fun u S2 => (toD u S2).bind fun y S3 => (compL g (own.map (·.2)) tst el ρ (ds.drop (i + 1)) S3).bind fun ys S4 => .ok (y :: ys) S4 else compL g (own.map (·.2)) tst el ρ (ds.drop (i + 1)) S1).bind fun ys S3 => .ok (.d (.list (done ++ ys))) S3) := hp
        refine ⟨D :: hd, ι2, S2, wipeR ρ (own.map (·.2)), d, ρ3, ⟨o3, slots_wipe at1.sl m3.keep m3.pre _, by rw [wipeR_len, wipe_length]; exact at_.len⟩, r3, hgd, fun σ4 a4 k4 l4 => ⟨?_, ?_⟩⟩
        · rw [wipe_eq l4 fun j hj => k4 j fun z => hj (hsl j z), wipe_wipe]
        refine ⟨D :: hd, ι2, S2, ρ3, a4, ?_⟩
        cases ht : tst ρ3 S2 with
        | bad => rw [ht] at hp; exact hp.elim
        | ex n fs S' => rw [ht] at hp; exact hp.elim
        | ok bb S3 =>
          rw [ht] at hp
          intro b' ι4 H4 e4 o4 hb
          subst hb
          have m4 := m3.go (ι' := ι4) (S' := S3) (H' := H4) e4
          have hacc4 : H4 D = some (.lst acc) := (e4.hid D List.mem_cons_self).trans hacc3
          cases b' with
          | false =>
            exact ⟨ι4, S3, acc, done, m4, o4, hacc4, RepA.ext (e3.trans e4).toKeep racc, by omega, hp⟩
          | true =>
            rw [if_pos rfl]
            have hp : Post K E0W ⟨hd, ι1, S1, H1⟩ Q (((el ρ3 S3).bind fun u S2 => (toD u S2).bind fun y S3 => (compL g (own.map (·.2)) tst el ρ (ds.drop (i + 1)) S3).bind fun ys S4 => .ok (y :: ys) S4).bind fun ys S3 => .ok (.d (.list (done ++ ys))) S3) := hp
            refine ⟨D :: hd, ι4, S3, ρ3, a4.ext e4 o4, ?_⟩
            cases hel : el ρ3 S3 with
            | bad => rw [hel] at hp; exact hp.elim
            | ex n fs S' => rw [hel] at hp; exact hp.elim
            | ok u S4 =>
              rw [hel] at hp
              intro v ι5 H5 e5 o5 r5
              have m5 := m4.go (ι' := ι5) (S' := S4) (H' := H5) e5
              have hacc5 : H5 D = some (.lst acc) := (e5.hid D List.mem_cons_self).trans hacc4
              have hp : Post K E0W ⟨hd, ι1, S1, H1⟩ Q (((toD u S4).bind fun y S3 => (compL g (own.map (·.2)) tst el ρ (ds.drop (i + 1)) S3).bind fun ys S4 => .ok (y :: ys) S4).bind fun ys S3 => .ok (.d (.list (done ++ ys))) S3) := hp
              cases htd : toD u S4 with
              | bad => rw [htd] at hp; exact hp.elim
              | ex n fs S' => exact (toD_noex htd).elim
              | ok yd S5 =>
                rw [htd] at hp
                obtain ⟨e6, o6, r6⟩ := toD_go (c := ⟨D :: hd, ι5, S4, H5⟩) o5 r5 htd
                have m6 := m5.go (ι' := ι5) (S' := S5) (H' := H5) e6
                have hrep : RepA K (hide D ⟨hd, ι5, S5, H5⟩) acc done := RepA.ext ((e3.trans e4).trans (e5.trans e6)).toKeep racc
                have hal : acc.length = done.length := hrep.length
                refine ⟨acc, hacc5, by rw [sizeLine_eq]; omega, ι5, S5, acc ++ [v], done ++ [yd], ⟨m6.keep.trans (keep_made (c := ⟨hd, ι5, S5, H5⟩)), m6.pre, fun a ha => ?_, m6.same⟩, ok_made (c := ⟨hd, ι5, S5, H5⟩) o6, upd_same, RepA.ext (keep_made (c := ⟨hd, ι5, S5, H5⟩)) (hrep.append (.cons r6 .nil)), ?_, ?_⟩
                · show upd H5 D _ a = _
                  rw [upd_ne (o1.hid_ne hD ha)]
                  exact m6.hid a ha
                · rw [List.length_append]
                  show done.length + 1 ≤ i + 1
                  omega
                · have hp : Post K E0W ⟨hd, ι1, S1, H1⟩ Q (((compL g (own.map (·.2)) tst el ρ (ds.drop (i + 1)) S5).bind fun ys S4 => .ok (yd :: ys) S4).bind fun ys S3 => .ok (.d (.list (done ++ ys))) S3) := hp
                  cases hcl : compL g (own.map (·.2)) tst el ρ (ds.drop (i + 1)) S5 with
                  | bad => rw [hcl] at hp; exact hp.elim
                  | ex n fs S' => rw [hcl] at hp; exact hp.elim
                  | ok ys S6 =>
                    rw [hcl] at hp
                    show Post K E0W ⟨hd, ι1, S1, H1⟩ Q (.ok (.d (.list (done ++ [yd] ++ ys))) S6)
                    rw [List.append_assoc]
                    exact hp
    · rintro H2 ⟨ι2, S2, acc, done, m, o2, hacc, racc, hdn, hp⟩
      rw [List.drop_length] at hp
      have hp : Post K E0W ⟨hd, ι1, S1, H1⟩ Q (.ok (.d (.list (done ++ []))) S2) := hp
      rw [List.append_nil] at hp
      refine hp (.ref D) ι2 H2 m.ext (ok_unhide o2) ?_
      refine .lst hacc ?_ (RepA.ext keep_unhide racc)
      rintro (z | ⟨n, cl, z1, z2, z3⟩)
      · obtain ⟨ob, q⟩ := (o1.hid D z).1
        cases hD.symm.trans q
      · exact (o2.hid D List.mem_cons_self).2 (List.mem_of_getElem? z1)
theorem pd_lc {elt tg iter : Expr} {ifs : List Expr} {scope : Scope} {own : List (Str × Nat)} {it : DI} {sl : List Nat} {g : Tg} {tst : DT} {el : DE} (hc : X.calm = true) (hN : X.N.Nodup) (hi : PI X tg iter (tI X.K E0W it)) (ok : BlkOk X.N X.env.scope scope own) (hsl : ∀ i, i ∈ sl → i ∈ own.map (·.2))
    (hg : ∀ (s : Shared) (H : Hp) (C : Addr) (cl : List (Str × Addr)) (fp : List Addr), PG (X.blk s H scope (compEnvC scope cl C X.env) fp) tg (tG X.K sl g)) (ht : ∀ (s : Shared) (H : Hp) (C : Addr) (cl : List (Str × Addr)) (fp : List Addr), PTs (X.blk s H scope (compEnvC scope cl C X.env) fp) ifs (tB X.K E0W tst))
    (he : ∀ (s : Shared) (H : Hp) (C : Addr) (cl : List (Str × Addr)) (fp : List Addr), PE (X.blk s H scope (compEnvC scope cl C X.env) fp) elt (tD X.K E0W el)) (hs : ∀ x, foldedSetIterable iter X.env x = pure x := by intro _; rfl) :
    PE X (.ListComp elt [⟨tg, iter, ifs, 0⟩] scope pos) (tD X.K E0W (dComp it g (own.map (·.2)) tst el)) := (pe_lc hc hN hi ok hg ht he hs).dimp fun _ _ _ h => t_lc hsl h
/-- y = [..], on one line, y a local -/
theorem sd_setLc {i : Nat} {y : Str} {py spos : Pos} {elt tg iter : Expr} {ifs : List Expr} {scope : Scope} {own : List (Str × Nat)} {it : DI} {sl : List Nat} {g : Tg} {tst : DT} {el : DE} (hc : X.calm = true) (hN : X.N.Nodup) (hy : X.N[i]? = some y) (hyl : X.env.scope.names.lookup y = some .local)
    (hsw : swapsWith (.ListComp elt [⟨tg, iter, ifs, 0⟩] scope pos) (some (.Name y py)) spos.line X.env = pure true) (hi : PI X tg iter (tI X.K E0W it)) (ok : BlkOk X.N X.env.scope scope own) (hsl : ∀ i, i ∈ sl → i ∈ own.map (·.2))
    (hg : ∀ (s : Shared) (H : Hp) (C : Addr) (cl : List (Str × Addr)) (fp : List Addr), PG (X.blk s H scope (compEnvC scope cl C X.env) fp) tg (tG X.K sl g)) (ht : ∀ (s : Shared) (H : Hp) (C : Addr) (cl : List (Str × Addr)) (fp : List Addr), PTs (X.blk s H scope (compEnvC scope cl C X.env) fp) ifs (tB X.K E0W tst))
    (he : ∀ (s : Shared) (H : Hp) (C : Addr) (cl : List (Str × Addr)) (fp : List Addr), PE (X.blk s H scope (compEnvC scope cl C X.env) fp) elt (tD X.K E0W el)) (hs : ∀ x, foldedSetIterable iter X.env x = pure x := by intro _; rfl) :
    PS X (.Assign [.Name y py] (.ListComp elt [⟨tg, iter, ifs, 0⟩] scope pos) spos) (tS X.K E0W (sSet i (dComp it g (own.map (·.2)) tst el))) := (ps_setLc hc hN hy hyl hsw hi ok hg ht he hs).dimp fun D σ H ⟨hd, ι, S, ρ, at_, h⟩ =>
  t_lc hsl (tD_stepS (c := ⟨hd, ι, S, H⟩) at_ h fun u v c1 e1 a1 r1 h1 => PostS.nxt h1 (a1.set r1))
end
end DL
namespace DL
open PySem PySem.Spec PyProof.Rows L2
/-! ### sorted -/
def sortOk (ds : List D) : Bool := (ds.all fun a => ds.all fun b => PySem.W.alike a b) && ((ds.all fun d => match d with | .tuple (_ :: _) => true | _ => false) || (ds.all fun d => match d with | .none => false | .tuple _ => false | _ => true)) && ds.all SeqAt.shaped
def sortL (ds : List D) : List D := ds.mergeSort (PySem.W.dataLe false id)
theorem sortOk_alike {ds : List D} (h : sortOk ds = true) : PySem.W.AllAlike ds := by
  unfold sortOk at h
  rw [Bool.and_eq_true, Bool.and_eq_true] at h
  intro d hd d' hd'
  exact List.all_eq_true.mp (List.all_eq_true.mp h.1.1 d hd) d' hd'
theorem sortOk_able {ds : List D} (h : sortOk ds = true) : PySem.W.Sortable ds := by
  unfold sortOk at h
  rw [Bool.and_eq_true, Bool.and_eq_true, Bool.or_eq_true] at h
  rcases h.1.2 with h | h
  · refine .inl fun d hd => ?_
    have := List.all_eq_true.mp h d hd
    split at this
    · exact ⟨_, _, rfl⟩
    · cases this
  · refine .inr fun d hd => ?_
    have := List.all_eq_true.mp h d hd
    split at this
    · cases this
    · cases this
    · rename_i h1 h2
      exact ⟨fun e => h1 e, fun xs e => h2 xs e⟩
theorem sortOk_shaped {ds : List D} (h : sortOk ds = true) : ∀ d, d ∈ ds → SeqAt.shaped d = true := by
  unfold sortOk at h
  rw [Bool.and_eq_true] at h
  exact List.all_eq_true.mp h.2
section
open PySem.Calls
variable {prog : Program} {w : World} {A : Around} {E : Value → Shared → Prop} {s : Shared}
theorem collect_tup {l : Addr} {o : Obj} {n : Nat} {vs : List Value} {Q : List Value → Shared → Prop} (ho : s.heap.get? l = some o) (hc : o.cls = .type "tuple") (hd : o.data = .seq vs.toArray n)
    (h : Q vs { s with heap := (s.heap.push (seqObj "list" #[] 0)).update s.heap.objs.size (Obj.mapSeq (· ++ vs.toArray)) }) (hsz : vs.length ≤ sizeLine) :
    wpAny (model prog w) A (collect (.ref l)) Q E s := by
  unfold collect
  refine wpAny_bind (wpAny_runValue (codeAny_builtin entry_proto_collect' ?_))
  show wpAny _ _ (do again (.builtin "list.__iadd__" ⟨[← newList [], .ref l], []⟩)) _ _ s
  refine wpAny_bind (wpAny_newList (wpAny_pure ⟨Code.quiet_builtin _ (by decide +kernel), codeAny_builtin entry_list_iadd' ?_⟩))
  show wpAny _ _ (Builtin.List.listExtendWith (.ref s.heap.objs.size) (.ref l) (.ref s.heap.objs.size)) _ _ { s with heap := s.heap.push (seqObj "list" #[] 0) }
  unfold Builtin.List.listExtendWith
  have ho' : (s.heap.push (seqObj "list" #[] 0)).get? l = some o := Heap.get?_push_of_some _ ho
  refine wpAny_bind (wpAny_typeOf (T := "tuple") ⟨o, ho', hc⟩ ?_)
  have ht : (Value.type "tuple" == Value.type "tuple") = true := by rfl
  rw [if_pos (by rw [ht]; simp)]
  refine wpAny_bind (listItems_at ho' hd ?_)
  refine wpAny_bind (listItems_at (xs := #[]) (n := 0) (Heap.get?_push_size _ rfl) rfl ?_)
  rw [if_neg (by simp)]
  refine wpAny_bind (listUpdate_at (xs := #[]) (n := 0) (Heap.get?_push_size _ rfl) rfl ?_ (Nat.zero_le _) (by show (#[] ++ vs.toArray).size ≤ sizeLine + 1; simp only [Array.size_append, List.size_toArray, List.length_nil]; omega))
  refine wpAny_pure ?_
  show wpAny (model prog w) A (do
      let o ← load s.heap.objs.size
      match o.data with
      | .seq xs _ => pure xs.toList
      | _ => unsupported "internal:collect") Q E { s with heap := (s.heap.push (seqObj "list" #[] 0)).update s.heap.objs.size (Obj.mapSeq (· ++ vs.toArray)) }
  refine wpAny_bind (wpAny_load (get?_update_seq (Heap.get?_push_size _ rfl) _) ?_)
  show wpAny _ _ (pure ((#[] : Array Value) ++ vs.toArray).toList) Q E _
  have e : ((#[] : Array Value) ++ vs.toArray).toList = vs := by simp
  rw [e]
  exact wpAny_pure h
theorem sortedT_of_sort {l : Addr} {o : Obj} {n : Nat} {vs : List Value} {Q : Value → Shared → Prop} (ho : s.heap.get? l = some o) (hc : o.cls = .type "tuple") (hd : o.data = .seq vs.toArray n) (hL : vs.length ≤ sizeLine)
    (body : ∀ E' : Value → Shared → Prop, wpAny (model prog w) A.in1.in1 (Builtin.«list.sort» ⟨[.ref (s.heap.objs.size + 1)], []⟩) (fun f s' => f = .done (.ret .none) ∧ Q (.ref (s.heap.objs.size + 1)) s') E' { s with heap := PySem.W.copyHeap s.heap vs }) :
    wpAny (model prog w) A (call (.builtin "sorted") [.ref l] []) Q E s := by
  refine call_function_entry_kw kind_sorted plain_sorted entry_sorted (args_sorted1 _) ?_
  unfold Builtin.«sorted»
  refine wpAny_bind (m := checkCount "sorted" 1 1 _) (wpAny_pure ?_)
  refine wpAny_bind (collect_tup ho hc hd ?_ hL)
  refine wpAny_bind (wpAny_newList ?_ hL)
  have hsz : ((s.heap.push (seqObj "list" #[] 0)).update s.heap.objs.size (Obj.mapSeq (· ++ vs.toArray))).objs.size = s.heap.objs.size + 1 := by
    rw [Heap.size_update, size_push']
  show wpAny _ _ _ _ _ { s with heap := PySem.W.copyHeap s.heap vs }
  rw [hsz]
  refine wpAny_bind (wpAny_holding (wpAny_call_entry_kw slot_list_sort ⟨_, PySem.W.copyHeap_at s.heap vs, rfl⟩ entry_list_sort ?body (args_list_sort _)))
  case body =>
    show wpAny (model prog w) A.in1.in1 (Builtin.«list.sort» ⟨[.ref (s.heap.objs.size + 1)], []⟩) _ _ _
    refine wpAny_mono (body _) (fun f s' hf => ?_) fun _ _ e => e
    obtain ⟨rfl, hq⟩ := hf
    exact ⟨_, rfl, wpAny_pure ⟨_, rfl, hq⟩⟩
theorem sortedT_data {β : Type} {R : Value → β → Prop} {enc : β → PyData} {bs : List β} {l : Addr} {o : Obj} {n : Nat} {vs : List Value} {Q : Value → Shared → Prop} (ho : s.heap.get? l = some o) (hc : o.cls = .type "tuple") (hd : o.data = .seq vs.toArray n)
    (e : PySem.W.EachIs R vs bs) (er : PySem.W.EachIs (fun v b => ∃ as, Reads s.heap v (enc b) as) vs bs) (hal : PySem.W.AllAlike (bs.map enc)) (hk : PySem.W.Sortable (bs.map enc)) (hL : bs.length ≤ sizeLine)
    (hu : ∀ b, b ∈ bs → A.units + 2 + (enc b).depth < cLine) (h : ∀ out, out.length = bs.length → PySem.W.EachIs R out (bs.mergeSort (PySem.W.dataLe false enc)) → Q (.ref (s.heap.objs.size + 1)) { s with heap := sortedAll s.heap vs (List.toArray out) }) :
    wpAny (model prog w) A (call (.builtin "sorted") [.ref l]) Q E s := by
  have er' : PySem.W.EachIs (fun v b => ∃ as, Reads (PySem.W.sortingHeap (PySem.W.copyHeap s.heap vs) (s.heap.objs.size + 1) vs) v (enc b) as) vs bs := er.mono fun _ _ ⟨as, r⟩ => ⟨as, PyProof.Rows.Reads.keeps (fun _ _ => PySem.W.sorting_copy_old) r⟩
  refine sortedT_of_sort ho hc hd (by rw [e.length]; exact hL) fun _ => PySem.W.list_sort_vals (s := { s with heap := PySem.W.copyHeap s.heap vs }) (PySem.W.copyHeap_at s.heap vs)
    (PySem.W.SortsAt.data (s := { s with heap := PySem.W.sortingHeap (PySem.W.copyHeap s.heap vs) (s.heap.objs.size + 1) vs }) (PySem.W.each_map (R := fun v d => ∃ as, Reads (PySem.W.sortingHeap (PySem.W.copyHeap s.heap vs) (s.heap.objs.size + 1) vs) v d as) enc er') hal hk (PySem.W.bound_map hu)) (by rw [e.length]; exact hL) ⟨rfl, ?_⟩
  exact h _ (by rw [PySem.W.sortVals_length false rfl]; exact e.length) (PySem.W.sortVals_data false e er' hal)
end
section
variable {X : Cx} {E : EXW} {K : PySem.W.Frag} {a b e : Expr} {es : List Expr} {f g : DE} {p : DT} {pos : Pos}
def rSortV (K : PySem.W.Frag) : List V → Hp → VK → Prop := fun xs H Q => ∃ (q : Addr) (ps : List (V × D)), xs = [.ref q] ∧ (SqL K H q (ps.map Prod.fst) ∨ SqT K H q (ps.map Prod.fst)) ∧ (∀ z, z ∈ ps → Dp K H z.1 z.2) ∧ sortOk (ps.map Prod.snd) = true ∧
  ∀ l, H l = none → Q (.ref l) (upd H l (.lst ((ps.mergeSort (PySem.W.dataLe false Prod.snd)).map Prod.fst)))
theorem each_vals : ∀ {ps : List (V × D)} {us : List Value}, Vals (ps.map Prod.fst) us → PySem.W.EachIs (fun (u : Value) (z : V × D) => RelV z.1 u) us ps
  | [], _, r => by cases r; exact .nil
  | z :: ps, _, r => by
    cases r with
    | cons h t => exact .cons h (each_vals t)
theorem vals_each : ∀ {ps : List (V × D)} {us : List Value}, PySem.W.EachIs (fun (u : Value) (z : V × D) => RelV z.1 u) us ps → Vals (ps.map Prod.fst) us
  | _, _, .nil => .nil
  | _, _, .cons h t => .cons h (vals_each t)
theorem each_reads {pins : List (Addr × Obj)} {σ : L2.St} {H : Hp} {s : Shared} (I : Inv X pins σ H s) : ∀ {ps : List (V × D)} {us : List Value}, PySem.W.EachIs (fun (u : Value) (z : V × D) => RelV z.1 u) us ps → (∀ z, z ∈ ps → Dp X.K H z.1 z.2) → PySem.W.EachIs (fun (u : Value) (z : V × D) => ∃ as, Reads s.heap u z.2 as) us ps
  | _, _, .nil, _ => .nil
  | _, _, .cons h t, k => .cons (Dp.reads I _ _ _ (k _ List.mem_cons_self) h) (each_reads I t fun z hz => k z (List.mem_cons_of_mem _ hz))
theorem call_sortV (hu : X.A.units + 2 + 64 < cLine) : CallR X (.builtin "sorted") (rSortV X.K) := by
  intro pins s σ H xs us Q I r h
  obtain ⟨q, ps, rfl, hl, hd, hok, k⟩ := h
  obtain ⟨u, eu, rx⟩ := vals1 r
  subst eu
  cases rx
  rcases hl with hl | hl
  · obtain ⟨its, rv, pl, hz⟩ := I.list hl
    have e1 := each_vals rv
    refine PySem.W.sorted_data (enc := Prod.snd) (bs := ps) pl.isList e1 (each_reads I e1 hd) (sortOk_alike hok) (sortOk_able hok) (by rw [List.length_map] at hz; exact hz) (fun b hb => ?_) fun out hlen eo => ?_
    · have := depth_of (sortOk_shaped hok b.2 (List.mem_map.mpr ⟨b, hb, rfl⟩))
      omega
    · obtain ⟨en, hen⟩ := sortedAll_at s.heap its out.toArray
      have hf : H (s.heap.objs.size + 1) = none := I.hok.fresh (Nat.le_succ _)
      refine ⟨.ref (s.heap.objs.size + 1), upd H (s.heap.objs.size + 1) (.lst ((ps.mergeSort (PySem.W.dataLe false Prod.snd)).map Prod.fst)), I.laid (t' := s.toks) (fun b u e => sortedAll_old e) (Nat.le_succ _) ?_, rfl, k _ hf⟩
      refine ⟨?_, out, en, vals_each eo, hen⟩
      rw [List.length_map, List.length_mergeSort]
      rw [List.length_map] at hz
      exact hz
  · obtain ⟨its, rv, pl, hz⟩ := I.tuple hl
    obtain ⟨o, ho, hc, nn, hd'⟩ := pl
    have e1 := each_vals rv
    refine sortedT_data (enc := Prod.snd) (bs := ps) ho hc hd' e1 (each_reads I e1 hd) (sortOk_alike hok) (sortOk_able hok) (by rw [List.length_map] at hz; exact hz) (fun b hb => ?_) fun out hlen eo => ?_
    · have := depth_of (sortOk_shaped hok b.2 (List.mem_map.mpr ⟨b, hb, rfl⟩))
      omega
    · obtain ⟨en, hen⟩ := sortedAll_at s.heap its out.toArray
      have hf : H (s.heap.objs.size + 1) = none := I.hok.fresh (Nat.le_succ _)
      refine ⟨.ref (s.heap.objs.size + 1), upd H (s.heap.objs.size + 1) (.lst ((ps.mergeSort (PySem.W.dataLe false Prod.snd)).map Prod.fst)), I.laid (t' := s.toks) (fun b u e => sortedAll_old e) (Nat.le_succ _) ?_, rfl, k _ hf⟩
      refine ⟨?_, out, en, vals_each eo, hen⟩
      rw [List.length_map, List.length_mergeSort]
      rw [List.length_map] at hz
      exact hz
theorem reps_zip {c : Cfg} : ∀ {ds : List D} {vs : List V}, RepA K c vs ds → ((vs.zip ds).map Prod.fst = vs ∧ (vs.zip ds).map Prod.snd = ds) ∧ ∀ z, z ∈ vs.zip ds → Rep K c z.1 z.2
  | _, _, .nil => ⟨⟨rfl, rfl⟩, fun _ h => nomatch h⟩
  | _, _, .cons h t => by
    obtain ⟨⟨e1, e2⟩, k⟩ := reps_zip t
    refine ⟨⟨by rw [List.zip_cons_cons, List.map_cons, e1], by rw [List.zip_cons_cons, List.map_cons, e2]⟩, fun z hz => ?_⟩
    rcases List.mem_cons.mp hz with e | hz
    · rw [e]; exact h
    · exact k z hz
theorem reps_of {c : Cfg} : ∀ {ps : List (V × D)}, (∀ z, z ∈ ps → Rep K c z.1 z.2) → RepA K c (ps.map Prod.fst) (ps.map Prod.snd)
  | [], _ => .nil
  | z :: ps, h => .cons (h z List.mem_cons_self) (reps_of fun y hy => h y (List.mem_cons_of_mem _ hy))
def seqLT (u : U) (S : Sto) : Option (List D) := match u with
  | .d (.tuple xs) => some xs
  | u => lstOf u S
theorem seqLT_rep {c : Cfg} {u : U} {v : V} {ds : List D} (o : OkC K c) (r : RepU K c v u) (h : seqLT u c.S = some ds) : ∃ a xs, v = .ref a ∧ (SqL K c.H a xs ∨ SqT K c.H a xs) ∧ RepA K c xs ds := by
  unfold seqLT at h
  split at h
  · cases h
    obtain ⟨p, vs, rfl, q1, q2⟩ := sqT_of r
    exact ⟨p, vs, rfl, .inr q1, q2⟩
  · obtain ⟨p, vs, rfl, q1, q2⟩ := lstOf_rep o r h
    exact ⟨p, vs, rfl, .inl (.inl (.inl q1)), q2⟩
def sortedN : OpN := fun us S => match us with
  | [u] => (match seqLT u S with
    | some xs => if sortOk xs = true then .ok (.d (.list (sortL xs))) S else .bad
    | none => .bad)
  | _ => .bad
theorem lk_sorted : LkN K E (rSortV K) sortedN := by
  intro c xs us Q o r h
  unfold sortedN at h
  split at h
  · obtain ⟨x, rfl, r1⟩ := us1 r
    split at h
    · rename_i ds hl
      split at h
      · rename_i hok
        obtain ⟨q, vs, rfl, q1, q2⟩ := seqLT_rep o r1 hl
        obtain ⟨⟨z1, z2⟩, z3⟩ := reps_zip q2
        refine ⟨q, vs.zip ds, rfl, by rw [z1]; exact q1, fun z hz => ?_, by rw [z2]; exact hok, fun l hl => Post.new h o hl (rep_newL o hl ?_)⟩
        · have hm : z.2 ∈ ds := by rw [← z2]; exact List.mem_map.mpr ⟨z, hz, rfl⟩
          exact Rep.dp (z3 z hz) (shaped_lay (sortOk_shaped hok _ hm))
        · have := reps_of (K := K) (c := c) (ps := (vs.zip ds).mergeSort (PySem.W.dataLe false Prod.snd)) fun z hz => z3 z (List.mem_mergeSort.mp hz)
          have e : ((vs.zip ds).mergeSort (PySem.W.dataLe false Prod.snd)).map Prod.snd = sortL ds := by
            exact (PySem.W.sort_maps (r := PySem.W.dataLe false Prod.snd) (s := PySem.W.dataLe false id) Prod.snd (fun a _ b _ => rfl)).trans (by rw [z2]; rfl)
          rw [e] at this
          exact this
      · exact h.elim
    · exact h.elim
  · exact h.elim
/-! ### dicts -/
def keyOf : D → Option Key
  | .int i => some (.inl i)
  | .str s => some (.inr s)
  | _ => none
theorem keyOf_kD {d : D} {k : Key} (h : keyOf d = some k) : d = kD k := by
  cases d <;> cases h <;> rfl
theorem kD_inj {j k : Key} (h : kD j = kD k) : j = k := by
  cases j <;> cases k <;> cases h <;> rfl
theorem rep_key {c : Cfg} {v : V} {k : Key} (r : Rep K c v (kD k)) : v = kV k := by
  cases k <;> cases r <;> rfl
/-- pairs with int and text keys -/
def pairsK : List D → Option (List (Key × D))
  | [] => some []
  | .tuple [k, v] :: r => (match keyOf k with
    | some k => (pairsK r).map ((k, v) :: ·)
    | none => none)
  | _ :: _ => none
def putG {β : Type} (kvs : List (Key × β)) (k : Key) (v : β) : List (Key × β) := if (kvs.any fun kv => decide (kv.1 = k)) = true then kvs.map (fun kv => if kv.1 = k then (kv.1, v) else kv) else kvs ++ [(k, v)]
def mergeG {β : Type} (kvs more : List (Key × β)) : List (Key × β) := more.foldl (fun acc kv => putG acc kv.1 kv.2) kvs
def dictK (kvs : List (Key × D)) : D := .dict (kvs.map fun kv => (kD kv.1, kv.2))
inductive RepG (K : PySem.W.Frag) (c : Cfg) : List (Key × V) → List (Key × D) → Prop
  | nil : RepG K c [] []
  | cons {k : Key} {v : V} {vs : List (Key × V)} {d : D} {ds : List (Key × D)} : Rep K c v d → RepG K c vs ds → RepG K c ((k, v) :: vs) ((k, d) :: ds)
theorem RepG.repK {c : Cfg} : ∀ {vs : List (Key × V)} {ds : List (Key × D)}, RepG K c vs ds → RepK K c vs (ds.map fun kv => (kD kv.1, kv.2))
  | _, _, .nil => .nil
  | _, _, .cons h t => .cons h t.repK
theorem RepG.any {c : Cfg} (k : Key) : ∀ {vs : List (Key × V)} {ds : List (Key × D)}, RepG K c vs ds → (vs.any fun kv => decide (kv.1 = k)) = ds.any fun kv => decide (kv.1 = k)
  | _, _, .nil => rfl
  | _, _, .cons h t => by rw [List.any_cons, List.any_cons, RepG.any k t]
theorem RepG.repl {c : Cfg} (k : Key) {v : V} {d : D} (r : Rep K c v d) : ∀ {vs : List (Key × V)} {ds : List (Key × D)}, RepG K c vs ds → RepG K c (vs.map fun kv => if kv.1 = k then (kv.1, v) else kv) (ds.map fun kv => if kv.1 = k then (kv.1, d) else kv)
  | _, _, .nil => .nil
  | _, _, .cons (k := j) h t => by
    rw [List.map_cons, List.map_cons]
    by_cases e : j = k
    · rw [if_pos e, if_pos e]
      exact .cons r (RepG.repl k r t)
    · rw [if_neg e, if_neg e]
      exact .cons h (RepG.repl k r t)
theorem RepG.app {c : Cfg} {k : Key} {v : V} {d : D} (r : Rep K c v d) : ∀ {vs : List (Key × V)} {ds : List (Key × D)}, RepG K c vs ds → RepG K c (vs ++ [(k, v)]) (ds ++ [(k, d)])
  | _, _, .nil => .cons r .nil
  | _, _, .cons h t => .cons h (RepG.app r t)
theorem RepG.put {c : Cfg} {vs : List (Key × V)} {ds : List (Key × D)} (h : RepG K c vs ds) {k : Key} {v : V} {d : D} (r : Rep K c v d) : RepG K c (putK vs k v) (putG ds k d) := by
  unfold putK putG
  rw [h.any k]
  split
  · exact h.repl k r
  · exact h.app r
theorem RepG.merge {c : Cfg} : ∀ {more : List (Key × V)} {ms : List (Key × D)} {vs : List (Key × V)} {ds : List (Key × D)}, RepG K c more ms → RepG K c vs ds → RepG K c (mergeK vs more) (mergeG ds ms) := by
  intro more
  induction more with
  | nil => intro ms vs ds h1 h2; cases h1; exact h2
  | cons kv more ih =>
    intro ms vs ds h1 h2
    cases h1 with
    | cons r t =>
      rename_i k v d ds'
      have z := ih t (h2.put (k := k) r)
      exact z
theorem RepG.ext {c c' : Cfg} (e : Keep c c') : ∀ {vs : List (Key × V)} {ds : List (Key × D)}, RepG K c vs ds → RepG K c' vs ds
  | _, _, .nil => .nil
  | _, _, .cons h t => .cons (h.ext e) (t.ext e)
theorem pairsK_rep {c : Cfg} : ∀ {ds : List D} {vs : List V} {kvs : List (Key × D)}, RepA K c vs ds → pairsK ds = some kvs → ∃ ps kws, vs = ps.map V.ref ∧ Paired (fun p (kv : Key × V) => SqT K c.H p [kV kv.1, kv.2]) ps kws ∧ RepG K c kws kvs
  | [], _, _, r, h => by
    cases r
    cases h
    exact ⟨[], [], rfl, .nil, .nil⟩
  | .tuple [k, v] :: ds, _, kvs, r, h => by
    cases r with
    | cons r1 r2 =>
      unfold pairsK at h
      cases hk : keyOf k with
      | none => rw [hk] at h; cases h
      | some j =>
        rw [hk] at h
        obtain ⟨kvs', h1, h2⟩ := Option.map_eq_some_iff.mp (show (pairsK ds).map ((j, v) :: ·) = some kvs from h)
        subst h2
        obtain ⟨ps, kws, rfl, q1, q2⟩ := pairsK_rep r2 h1
        obtain ⟨q, us, rfl, w1, w2⟩ := sqT_of r1
        cases w2 with
        | cons ra rt =>
          cases rt with
          | cons rb rt =>
            cases rt
            have ek := keyOf_kD hk
            subst ek
            have ev := rep_key ra
            subst ev
            exact ⟨q :: ps, (j, _) :: kws, rfl, .cons w1 q1, .cons rb q2⟩
  | .none :: _, _, _, _, h => by cases h
  | .bool _ :: _, _, _, _, h => by cases h
  | .int _ :: _, _, _, _, h => by cases h
  | .str _ :: _, _, _, _, h => by cases h
  | .list _ :: _, _, _, _, h => by cases h
  | .dict _ :: _, _, _, _, h => by cases h
  | .tuple [] :: _, _, _, _, h => by cases h
  | .tuple [_] :: _, _, _, _, h => by cases h
  | .tuple (_ :: _ :: _ :: _) :: _, _, _, _, h => by cases h
theorem rep_newD {c : Cfg} {p : Addr} {kvs : List (Key × V)} {ds : List (Key × D)} (o : OkC K c) (hp : c.H p = none) (r : RepG K c kvs ds) : Rep K ⟨c.hd, c.ι, c.S, upd c.H p (.dK kvs)⟩ (.ref p) (dictK ds) :=
  .dK (.inl upd_same) (o.notlive hp) (r.ext (ext_new o hp).toKeep).repK
/-- dict(pairs) -/
def dictN : OpN := fun us S => match us with
  | [u] => (match (lstOf u S).bind pairsK with
    | some kvs => .ok (.d (dictK (mergeG [] kvs))) S
    | none => .bad)
  | _ => .bad
theorem lk_dict : LkN K E (fun xs H Q => ∃ (a : Addr) (ps : List Addr) (kvs : List (Key × V)), xs = [.ref a] ∧ SqL K H a (ps.map V.ref) ∧ Paired (fun p kv => SqT K H p [kV kv.1, kv.2]) ps kvs ∧ ∀ p, H p = none → Q (.ref p) (upd H p (.dK (mergeK [] kvs)))) dictN := by
  intro c xs us Q o r h
  unfold dictN at h
  split at h
  · obtain ⟨x, rfl, r1⟩ := us1 r
    split at h
    · rename_i kvs hb
      obtain ⟨ds, hl, hb⟩ := Option.bind_eq_some_iff.mp hb
      obtain ⟨q, vs, rfl, q1, q2⟩ := lstOf_rep o r1 hl
      obtain ⟨ps, kws, rfl, w1, w2⟩ := pairsK_rep q2 hb
      exact ⟨q, ps, kws, rfl, .inl (.inl q1), w1, fun l hl => Post.new h o hl (rep_newD o hl (RepG.merge w2 .nil))⟩
    · exact h.elim
  · exact h.elim
/-- sorted(d), d with int keys (fewer than 64) -/
def intKeys : List (D × D) → Option (List Int)
  | [] => some []
  | (.int i, _) :: r => (intKeys r).map (i :: ·)
  | _ :: _ => none
def sortI (ns : List Int) : List Int := ns.mergeSort (fun a b => decide (a ≤ b))
def sortedDI : OpN := fun us S => match us with
  | [.d (.dict kvs)] => (match intKeys kvs with
    | some ns => if ns.length < 64 then .ok (.d (.list ((sortI ns).map .int))) S else .bad
    | none => .bad)
  | _ => .bad
theorem intKeys_rep {c : Cfg} : ∀ {ds : List (D × D)} {vs : List (Key × V)} {ns : List Int}, RepK K c vs ds → intKeys ds = some ns → vs.map (·.1) = ns.map Sum.inl
  | [], _, _, r, h => by
    cases r
    cases h
    rfl
  | (kd, d) :: ds, _, ns, r, h => by
    cases r with
    | cons r1 r2 =>
      rename_i k v vs
      cases k with
      | inl i =>
        obtain ⟨ns', h1, h2⟩ := Option.map_eq_some_iff.mp (show (intKeys ds).map (i :: ·) = some ns from h)
        subst h2
        rw [List.map_cons, List.map_cons, intKeys_rep r2 h1]
      | inr s => cases h
theorem sortI_unique {ns ys : List Int} (h1 : ys.Perm ns) (h2 : ys.Pairwise (· ≤ ·)) : ys = sortI ns := by
  have tr : ∀ a b c : Int, decide (a ≤ b) = true → decide (b ≤ c) = true → decide (a ≤ c) = true := fun a b c h k => by
    simp only [decide_eq_true_eq] at h k ⊢
    omega
  have to : ∀ a b : Int, (decide (a ≤ b) || decide (b ≤ a)) = true := fun a b => by
    simp only [Bool.or_eq_true, decide_eq_true_eq]
    omega
  have h3 : (sortI ns).Pairwise (· ≤ ·) := (List.pairwise_mergeSort (le := fun a b : Int => decide (a ≤ b)) tr to ns).imp fun h => of_decide_eq_true h
  have h4 : ys.Perm (sortI ns) := h1.trans (List.mergeSort_perm _ _).symm
  exact h4.eq_of_pairwise (fun a b _ _ h k => by omega) h2 h3
theorem lk_sortedDI : LkN K E (fun xs H Q => ∃ (a : Addr) (kvs : List (Key × V)) (ks : List Int), xs = [.ref a] ∧ Rd H a (.dK kvs) ∧ kvs.map (·.1) = ks.map Sum.inl ∧ ks.length < 64 ∧
    ∀ (ys : List Int) (p : Addr), ys.Perm ks → ys.Pairwise (· ≤ ·) → H p = none → Q (.ref p) (upd H p (.lst (ys.map V.int)))) sortedDI := by
  intro c xs us Q o r h
  unfold sortedDI at h
  split at h
  · obtain ⟨x, rfl, r1⟩ := us1 r
    split at h
    · rename_i kvs ns hk
      split at h
      · rename_i hl
        have fin : ∀ (ys : List Int) (p : Addr), ys.Perm ns → ys.Pairwise (· ≤ ·) → c.H p = none → Q (.ref p) (upd c.H p (.lst (ys.map V.int))) := fun ys p h1 h2 hp => by
          have e := sortI_unique h1 h2
          rw [e]
          exact Post.new h o hp (rep_newL o hp (reps_ints _))
        cases r1 with
        | dK h1 n1 r1 => exact ⟨_, _, ns, rfl, h1, intKeys_rep r1 hk, hl, fin⟩
        | dT h1 n1 z r1 =>
          cases r1 with
          | nil => exact absurd rfl z
          | cons r2 r3 => cases hk
      · exact h.elim
    · exact h.elim
  · exact h.elim
end
end DL
namespace DL
open PySem PySem.Spec PyProof.Rows L2
section
variable {X : Cx} {E : EXW} {K : PySem.W.Frag} {a b e o : Expr} {es : List Expr} {f g : DE} {p : DT} {pos : Pos}
/-! ### isinstance -/
inductive Ty where
  | non | bool | int | str | list | tuple | dict
  deriving DecidableEq
def Ty.nm : Ty → String
  | .non => "NoneType"
  | .bool => "bool"
  | .int => "int"
  | .str => "str"
  | .list => "list"
  | .tuple => "tuple"
  | .dict => "dict"
def tyOf (u : U) (S : Sto) : Option Ty := match u with
  | .d .none => some .non
  | .d (.bool _) => some .bool
  | .d (.int _) => some .int
  | .d (.str _) => some .str
  | .d (.list _) => some .list
  | .d (.tuple _) => some .tuple
  | .d (.dict _) => none
  | .r n => (match S[n]? with
    | some (.lst _) => some .list
    | _ => none)
  | .s _ => some .list
def isiB (t T : Ty) : Bool := decide (t = T) || (decide (t = .bool) && decide (T = .int))
def isiD (T : Ty) : Op1 := fun u S => match tyOf u S with
  | some t => .ok (.d (.bool (isiB t T))) S
  | none => .bad
theorem kitB_ty : ∀ t T : Ty, T ≠ .non → kitB t.nm T.nm = some (isiB t T) := by
  intro t T h
  cases t <;> cases T <;> first | exact absurd rfl h | decide +kernel
theorem tyOf_ok {c : Cfg} {u : U} {v : V} {t : Ty} (o : OkC K c) (r : RepU K c v u) (h : tyOf u c.S = some t) : TyX K c.H v (.type t.nm) := by
  unfold tyOf at h
  split at h
  · cases h; cases r; exact .base .non
  · cases h; cases r; exact .base (.bl _)
  · cases h; cases r; exact .base (.int _)
  · cases h; cases r; exact .base (.str _)
  · cases h
    obtain ⟨a, xs, rfl, h1, h2⟩ := lst_of r
    exact .base (.lst h1)
  · cases h
    cases r with
    | tup h n r => exact .base (.tup h)
    | tupK h r =>
      obtain ⟨ob, its, n, h1, h2, _⟩ := h
      exact .kTuple h1 h2
  · cases h
  · split at h
    · rename_i n xs e
      cases h
      obtain ⟨a, vs, rfl, h4, h5⟩ := lstOf_rep (ds := xs) o r (by simp only [lstOf, e])
      exact .base (.lst h4)
    · cases h
  · cases h
    obtain ⟨a, rfl, h2⟩ := r
    rcases h2 with ⟨h2 | ⟨ob, h2⟩, _⟩ | ⟨ob, its, n, h1, h2, _⟩
    · exact .base (.lst h2)
    · exact .base (.frz h2)
    · exact .kList h1 h2
theorem pd_isi (T : Ty) {x : Str} {q q2 : Pos} (hT : T ≠ .non) (he : PE X e (tD X.K E f)) (hg : Gl X "isinstance") (hm : X.mg "isinstance" = none) (hg2 : Gl X x) (hm2 : X.mg x = none) (hv2 : bootBuiltins x = some (.type T.nm)) (hv : bootBuiltins "isinstance" = some (.builtin "isinstance"))
    (hn : x ≠ "__name__" := by decide) (hdb : (x == ("__debug__" : Str)) = false := by decide)
    (hs : starEach [e, .Name x q2] X.env = (false, eval e X.env) :: starEach [.Name x q2] X.env := by rfl) (hs2 : starEach [.Name x q2] X.env = (false, eval (.Name x q2) X.env) :: starEach [] X.env := by rfl) (hpl : (backTo pos (starEach [.Name x q2] X.env)).any (·.1) = false := by rfl) :
    PE X (.Call (.Name "isinstance" q) [e, .Name x q2] [] pos) (tD X.K E (dOp1 (isiD T) f)) :=
  (pe_callB call_isi hg hm hv (pa_cons he (pa_cons (pe_bltn (v := .ty T.nm) hg2 hm2 hv2 rfl hn hdb) pa_nil hs2) hs) (he := hs) (hpl := hpl)).dimp fun σ H Q ⟨hd, ι, S, ρ, at_, h⟩ => by
    refine tD_stepG (c := ⟨hd, ι, S, H⟩) at_ h fun u v c1 e1 a1 r1 h1 => ?_
    unfold isiD at h1
    split at h1
    · rename_i t ht
      exact ⟨v, .ty T.nm, _, _, _, rfl, .ty _, tyOf_ok a1.ok r1 ht, kit_ty (kitB_ty t T hT), Post.val h1 a1.ok (.bl _)⟩
    · exact h1.elim
/-! ### stores -/
/-- xs.append(e), xs a cell -/
def appN (n : Nat) (w : U) (S : Sto) : Rs U := (toD w S).bind fun x S1 => (match S1[n]? with
  | some (.lst xs) => if xs.length < 16777216 then .ok (.d .none) (S1.set n (.lst (xs ++ [x]))) else .bad
  | _ => .bad)
def isLst (n : Nat) (S : Sto) : Bool := match S[n]? with
  | some (.lst _) => true
  | _ => false
def dApp (f g : DE) : DE := fun ρ S => (f ρ S).bind fun u S1 => (match u with
  | .r n => if isLst n S1 = true then (g ρ S1).bind fun w S2 => appN n w S2 else .bad
  | _ => .bad)
theorem isLst_of {n : Nat} {S : Sto} (h : isLst n S = true) : ∃ xs, S[n]? = some (.lst xs) := by
  unfold isLst at h
  split at h
  · rename_i xs e
    exact ⟨xs, e⟩
  · cases h
theorem cell_lst {c : Cfg} {n : Nat} {v : V} {xs : List D} (o : OkC K c) (r : RepU K c v (.r n)) (h : c.S[n]? = some (.lst xs)) : ∃ a vs, v = .ref a ∧ c.ι[n]? = some a ∧ c.H a = some (.lst vs) ∧ RepA K c vs xs := by
  obtain ⟨a, h1, rfl⟩ := r
  obtain ⟨a', h3, vs, h4, h5⟩ := o.cell n _ h
  rw [h1] at h3
  cases h3
  exact ⟨a, vs, rfl, h1, h4, h5⟩
theorem pd_app {apos : Pos} (ho : PE X o (tD X.K E f)) (he : PE X e (tD X.K E g)) (hbase : attributeBase o "append" X.env (eval o X.env) = eval o X.env := by rfl)
    (hfew : ((backTo pos (starEach [e] X.env)).all (fun x => !x.1) && (backToKw pos (keywordEach [] X.env)).all (fun x => x.1.isSome)
      && decide ([e].length + ([] : List Keyword).length + (if ([] : List Keyword).isEmpty then 0 else 1) < 30)) = true := by rfl)
    (hline : (apos.endLine == pos.line) = true := by rfl) (hs : starEach [e] X.env = (false, eval e X.env) :: starEach [] X.env := by rfl) (hplain : (backTo pos (starEach [] X.env)).any (·.1) = false := by rfl) :
    PE X (.Call (.Attribute o "append" apos) [e] [] pos) (tD X.K E (dApp f g)) :=
  (pe_bm (r := rAppend) PySem.F.plainAttrs_list PySem.F.slot_list_append PySem.F.type_list_append mt_append ho (pa_cons he pa_nil hs) hbase hfew hline hs hplain).dimp fun σ H Q ⟨hd, ι, S, ρ, at_, h⟩ => by
    refine tD_stepG (c := ⟨hd, ι, S, H⟩) at_ h fun u v c1 e1 a1 r1 h1 => ?_
    cases u with
    | d x => exact h1.elim
    | s ns => exact h1.elim
    | r n =>
      have h1 : Post X.K E c1 Q (if isLst n c1.S = true then (g ρ c1.S).bind fun w S2 => appN n w S2 else .bad) := h1
      split at h1
      · rename_i hl
        obtain ⟨xs, hx⟩ := isLst_of hl
        obtain ⟨q, vs, rfl, q1, q2, q3⟩ := cell_lst a1.ok r1 hx
        refine ⟨.inl ⟨rfl, vs, .inl (.inl q2)⟩, tD_stepG (c := c1) a1 h1 fun w y c2 e2 a2 r2 h2 => ?_⟩
        obtain ⟨yd, S3, e3, o3, r3, h3⟩ := toD_step a2.ok r2 h2
        split at h3
        · rename_i ys hy
          split at h3
          · rename_i hlen
            have hι : c2.ι[n]? = some q := pre_get e2.pre q1
            obtain ⟨q', ws, eq, w1, w2, w3⟩ := cell_lst (c := ⟨c2.hd, c2.ι, S3, c2.H⟩) (v := .ref q) o3 ⟨q, hι, rfl⟩ hy
            cases eq
            refine ⟨q, ws, y, rfl, rfl, w2, by rw [sizeLine_eq, w3.length]; exact hlen, ?_⟩
            have hc : CellOk X.K ⟨c2.hd, c2.ι, S3.set n (.lst (ys ++ [yd])), upd c2.H q (.lst (ws ++ [y]))⟩ q (.lst (ys ++ [yd])) :=
              ⟨_, upd_same, RepA.ext (ext_set (c := ⟨c2.hd, c2.ι, S3, c2.H⟩) o3 hι hy rfl).toKeep (w3.append (.cons r3 .nil))⟩
            exact h3 .non c2.ι _ (ext_set (c := ⟨c2.hd, c2.ι, S3, c2.H⟩) o3 hι hy rfl) (ok_set (c := ⟨c2.hd, c2.ι, S3, c2.H⟩) o3 hι hy rfl hc) .non
          · exact h3.elim
        · exact h3.elim
      · exact h1.elim
/-- xs[i] = e, xs a cell that is a list -/
def setN (u w : U) (x : D) (S : Sto) : Rs U := match u, w with
  | .r n, .d (.int i) => (match S[n]? with
    | some (.lst xs) => (match ixN xs.length i with
      | some j => .ok (.d .none) (S.set n (.lst (xs.set j x)))
      | none => .bad)
    | _ => .bad)
  | _, _ => .bad
def sSetI (f g k : DE) : DS := fun ρ S => (k ρ S).toRt fun u S1 => (toD u S1).toRt fun x S2 => (f ρ S2).toRt fun w S3 => (g ρ S3).toRt fun y S4 => (setN w y x S4).toRt fun _ S5 => .nx ρ S5
theorem Rs.toRt_bind {α β : Type} (m : Rs α) (k : α → Sto → Rs β) (l : β → Sto → Rt) : (m.bind k).toRt l = m.toRt fun a S => (k a S).toRt l := by
  cases m <;> rfl
theorem sd_setI {value : Expr} {k : DE} {pos' : Pos} (ho : PE X o (tD X.K E f)) (hi : PE X a (tD X.K E g)) (hv : PE X value (tD X.K E k))
    (ha : ∀ v, assign (.Subscript o a pos') X.env v = (do
      let ov ← holding [v] (eval o X.env)
      let iv ← holding [v, ov] (eval a X.env)
      standAt pos'
      holding [v, ov, iv] (setItem ov iv v)
      release [v, ov, iv] []) := by intro _; rfl)
    (hs : swapsWithSole [.Subscript o a pos'] value pos.line X.env = pure false := by rfl) (hw : swappedStores [.Subscript o a pos'] value X.env = pure none := by rfl)
    (h1 : (assignEach [.Subscript o a pos'] X.env).map (·.2) = [assign (.Subscript o a pos') X.env] := by rfl) : PS X (.Assign [.Subscript o a pos'] value pos) (tS X.K E (sSetI f g k)) :=
  (ps_asg hv (pg_sub ho hi set_list ha) hs hw h1).dimp fun D σ H ⟨hd, ι, S, ρ, at_, h⟩ => by
    refine tD_stepS (c := ⟨hd, ι, S, H⟩) at_ h fun u v c1 e1 a1 r1 h1 => ?_
    cases htd : toD u c1.S with
    | bad => rw [htd] at h1; exact h1.elim
    | ex n fs S' => exact (toD_noex htd).elim
    | ok x S2 =>
      rw [htd] at h1
      obtain ⟨e2, o2, r2⟩ := toD_go a1.ok r1 htd
      have h2 : PostS X.K E ⟨c1.hd, c1.ι, S2, c1.H⟩ D ((f ρ S2).toRt fun w S3 => (g ρ S3).toRt fun y S4 => (setN w y x S4).toRt fun _ S5 => .nx ρ S5) := PostS.step h1 e2
      refine tD_stepS (c := ⟨c1.hd, c1.ι, S2, c1.H⟩) (a1.ext e2 o2) h2 fun w ov c3 e3 a3 r3 h3 => ?_
      refine tD_stepS (c := c3) a3 h3 fun y iv c4 e4 a4 r4 h4 => ?_
      unfold setN at h4
      split at h4
      · split at h4
        · rename_i xs hx
          split at h4
          · rename_i j hj
            rw [rInt r4]
            obtain ⟨q, vs, eq, q1, q2, q3⟩ := cell_lst a4.ok (r3.ext e4) hx
            refine ⟨q, vs, _, j, eq, rfl, q2, by rw [q3.length]; exact hj, ?_⟩
            have hc : CellOk X.K ⟨c4.hd, c4.ι, c4.S.set _ (.lst (xs.set j x)), upd c4.H q (.lst (vs.set j v))⟩ q (.lst (xs.set j x)) :=
              ⟨_, upd_same, RepA.ext (ext_set a4.ok q1 hx rfl).toKeep (RepA.set (Rep.ext (e3.trans e4).toKeep r2) j q3)⟩
            exact h4 σ c4.ι _ (ext_set a4.ok q1 hx rfl) (a4.ext (ext_set a4.ok q1 hx rfl) (ok_set a4.ok q1 hx rfl hc))
          · exact h4.elim
        · exact h4.elim
      · exact h4.elim
/-! ### list(range(..)), tuple(range(..)) -/
def rgOk (us : List U) : Option (List D) := match us with
  | [.d (.int n)] => if -(2 ^ 62) ≤ n ∧ n < 16777216 then some (rngL 0 n.toNat) else none
  | [.d (.int i), .d (.int j)] => if -(2 ^ 62) ≤ i ∧ i < 2 ^ 62 ∧ -(2 ^ 62) ≤ j ∧ j < 2 ^ 62 ∧ (j - i).toNat ≤ 16777216 then some (rngL i (j - i).toNat) else none
  | _ => none
def lstRg (us : List U) (S : Sto) : Rs U := match rgOk us with
  | some xs => .ok (.d (.list xs)) S
  | none => .bad
def tupRg (us : List U) (S : Sto) : Rs U := match rgOk us with
  | some xs => .ok (.d (.tuple xs)) S
  | none => .bad
theorem rng_reps {c : Cfg} (i : Int) (n : Nat) : RepA K c ((List.range n).map fun k => V.int (i + (k : Nat))) (rngL i n) := by
  unfold rngL
  generalize List.range n = l
  induction l with
  | nil => exact .nil
  | cons k l ih => exact .cons (.int _) ih
theorem rgV_reps {c : Cfg} (i j : Int) : RepA K c (rgV i j) (rngL i (j - i).toNat) := rng_reps i _
theorem rg1 {c : Cfg} {u : U} {v : V} {xs : List D} (r : RepU K c v u) (h : rgOk [u] = some xs) : ∃ n, v = .int n ∧ RgOk 0 n ∧ RepA K c (rgV 0 n) xs := by
  unfold rgOk at h
  split at h
  · rename_i n e
    cases e
    split at h
    · rename_i hn
      cases h
      rw [rInt r]
      refine ⟨n, rfl, ⟨by omega, by omega, hn.1, by omega, by omega⟩, ?_⟩
      have := rgV_reps (K := K) (c := c) 0 n
      rwa [Int.sub_zero] at this
    · cases h
  · rename_i e
    cases e
  · cases h
theorem rg2 {c : Cfg} {u w : U} {v y : V} {xs : List D} (r : RepU K c v u) (r' : RepU K c y w) (h : rgOk [u, w] = some xs) : ∃ i j, v = .int i ∧ y = .int j ∧ RgOk i j ∧ RepA K c (rgV i j) xs := by
  unfold rgOk at h
  split at h
  · rename_i e
    cases e
  · rename_i i j e
    cases e
    split at h
    · rename_i hn
      cases h
      rw [rInt r, rInt r']
      exact ⟨i, j, rfl, rfl, ⟨hn.1, hn.2.1, hn.2.2.1, hn.2.2.2.1, by have := hn.2.2.2.2; omega⟩, rgV_reps i j⟩
    · cases h
  · cases h
section
variable {q q2 p0 : Pos}
theorem pd_lrg1 (hc : X.calm = true) (hg : Gl X "list") (hm : X.mg "list" = none) (hg2 : Gl X "range") (hm2 : X.mg "range" = none) (ha : PE X a (tD X.K E f)) (na : starEach [a] X.env = (false, eval a X.env) :: starEach [] X.env := by rfl)
    (nb : starEach [.Call (.Name "range" q) [a] [] q2] X.env = (false, eval (.Call (.Name "range" q) [a] [] q2) X.env) :: starEach [] X.env := by rfl) : PE X (.Call (.Name "list" p0) [.Call (.Name "range" q) [a] [] q2] [] pos) (tD X.K E (dCall lstRg (aCons f aNil))) :=
  (pe_listRg hc hg hm (prg_1 hg2 hm2 ha na) nb).dimp fun σ H Q ⟨hd, ι, S, ρ, at_, h⟩ => by
    have h : Post X.K E ⟨hd, ι, S, H⟩ Q (((f ρ S).bind fun u S1 => .ok [u] S1).bind lstRg) := h
    refine ⟨hd, ι, S, ρ, at_, ?_⟩
    cases hf : f ρ S with
    | bad => rw [hf] at h; exact h.elim
    | ex _ _ _ => rw [hf] at h; exact h
    | ok u S1 =>
      rw [hf] at h
      intro v ι1 H1 e1 o1 r1
      have h : Post X.K E ⟨hd, ι, S, H⟩ Q (match rgOk [u] with
        | some xs => .ok (.d (.list xs)) S1
        | none => .bad) := h
      split at h
      · rename_i xs hx
        obtain ⟨n, rfl, ok, rr⟩ := rg1 r1 hx
        exact ⟨n, rfl, ok, fun l hl => Post.new (c := ⟨hd, ι1, S1, H1⟩) (PostG.step h e1) o1 hl (rep_newL o1 hl rr)⟩
      · exact h.elim
theorem pd_trg1 (hc : X.calm = true) (hg : Gl X "tuple") (hm : X.mg "tuple" = none) (hg2 : Gl X "range") (hm2 : X.mg "range" = none) (ha : PE X a (tD X.K E f)) (na : starEach [a] X.env = (false, eval a X.env) :: starEach [] X.env := by rfl)
    (nb : starEach [.Call (.Name "range" q) [a] [] q2] X.env = (false, eval (.Call (.Name "range" q) [a] [] q2) X.env) :: starEach [] X.env := by rfl) : PE X (.Call (.Name "tuple" p0) [.Call (.Name "range" q) [a] [] q2] [] pos) (tD X.K E (dCall tupRg (aCons f aNil))) :=
  (pe_tupRg hc hg hm (prg_1 hg2 hm2 ha na) nb).dimp fun σ H Q ⟨hd, ι, S, ρ, at_, h⟩ => by
    have h : Post X.K E ⟨hd, ι, S, H⟩ Q (((f ρ S).bind fun u S1 => .ok [u] S1).bind tupRg) := h
    refine ⟨hd, ι, S, ρ, at_, ?_⟩
    cases hf : f ρ S with
    | bad => rw [hf] at h; exact h.elim
    | ex _ _ _ => rw [hf] at h; exact h
    | ok u S1 =>
      rw [hf] at h
      intro v ι1 H1 e1 o1 r1
      have h : Post X.K E ⟨hd, ι, S, H⟩ Q (match rgOk [u] with
        | some xs => .ok (.d (.tuple xs)) S1
        | none => .bad) := h
      split at h
      · rename_i xs hx
        obtain ⟨n, rfl, ok, rr⟩ := rg1 r1 hx
        exact ⟨n, rfl, ok, fun l hl => Post.new (c := ⟨hd, ι1, S1, H1⟩) (PostG.step h e1) o1 hl (rep_newT o1 hl rr)⟩
      · exact h.elim
theorem pd_lrg2 (hc : X.calm = true) (hg : Gl X "list") (hm : X.mg "list" = none) (hg2 : Gl X "range") (hm2 : X.mg "range" = none) (ha : PE X a (tD X.K E f)) (hb : PE X b (tD X.K E g)) (na : starEach [a, b] X.env = (false, eval a X.env) :: starEach [b] X.env := by rfl) (nb1 : starEach [b] X.env = (false, eval b X.env) :: starEach [] X.env := by rfl)
    (hp : (backTo q2 (starEach [b] X.env)).any (·.1) = false := by rfl) (nb : starEach [.Call (.Name "range" q) [a, b] [] q2] X.env = (false, eval (.Call (.Name "range" q) [a, b] [] q2) X.env) :: starEach [] X.env := by rfl) : PE X (.Call (.Name "list" p0) [.Call (.Name "range" q) [a, b] [] q2] [] pos) (tD X.K E (dCall lstRg (aCons f (aCons g aNil)))) :=
  (pe_listRg hc hg hm (prg_2 hg2 hm2 ha hb na nb1 hp) nb).dimp fun σ H Q ⟨hd, ι, S, ρ, at_, h⟩ => by
    have h : Post X.K E ⟨hd, ι, S, H⟩ Q (((f ρ S).bind fun u S1 => ((g ρ S1).bind fun w S2 => .ok [w] S2).bind fun us S2 => .ok (u :: us) S2).bind lstRg) := h
    refine ⟨hd, ι, S, ρ, at_, ?_⟩
    cases hf : f ρ S with
    | bad => rw [hf] at h; exact h.elim
    | ex _ _ _ => rw [hf] at h; exact h
    | ok u S1 =>
      rw [hf] at h
      intro v ι1 H1 e1 o1 r1
      have h : Post X.K E ⟨hd, ι, S, H⟩ Q ((((g ρ S1).bind fun w S2 => .ok [w] S2).bind fun us S2 => .ok (u :: us) S2).bind lstRg) := h
      refine ⟨hd, ι1, S1, ρ, at_.ext e1 o1, ?_⟩
      cases hf2 : g ρ S1 with
      | bad => rw [hf2] at h; exact h.elim
      | ex _ _ _ => rw [hf2] at h; exact EXW.step h e1
      | ok w S2 =>
        rw [hf2] at h
        intro v2 ι2 H2 e2 o2 r2
        have h : Post X.K E ⟨hd, ι, S, H⟩ Q (match rgOk [u, w] with
          | some xs => .ok (.d (.list xs)) S2
          | none => .bad) := h
        split at h
        · rename_i xs hx
          obtain ⟨i, j, rfl, rfl, ok, rr⟩ := rg2 (r1.ext e2) r2 hx
          exact ⟨i, j, rfl, rfl, ok, fun l hl => Post.new (c := ⟨hd, ι2, S2, H2⟩) (PostG.step h (e1.trans e2)) o2 hl (rep_newL o2 hl rr)⟩
        · exact h.elim
end
/-! ### texts -/
def strN : OpN := fun us S => match us with
  | [.d (.int i)] => if i.natAbs.log2 < 1920 then .ok (.d (.str (toString i))) S else .bad
  | [.d (.str s)] => .ok (.d (.str s)) S
  | _ => .bad
theorem cr_str : CallR X (.type "str") (fun xs H Q => (∃ i : Int, xs = [.int i] ∧ i.natAbs.log2 < 1920 ∧ Q (.str (toString i)) H) ∨ ∃ a, xs = [.str a] ∧ Q (.str a) H) := call_str_int.or SkE.call_str_str
theorem lk_str : LkN K E (fun xs H Q => (∃ i : Int, xs = [.int i] ∧ i.natAbs.log2 < 1920 ∧ Q (.str (toString i)) H) ∨ ∃ a, xs = [.str a] ∧ Q (.str a) H) strN := by
  intro c xs us Q o r h
  unfold strN at h
  split at h
  · obtain ⟨x, rfl, r1⟩ := us1 r
    split at h
    · rename_i hl
      rw [rInt r1]
      exact .inl ⟨_, rfl, hl, Post.val h o (.str _)⟩
    · exact h.elim
  · obtain ⟨x, rfl, r1⟩ := us1 r
    rw [rStr r1]
    exact .inr ⟨_, rfl, Post.val h o (.str _)⟩
  · exact h.elim
/-- text * int -/
def repS (z : Str) (k : Int) : Str := if k < 1 then Str.empty else if (k == 1 || z.length == 0) = true then z else ⟨(List.replicate k.toNat z.cps).foldl (· ++ ·) #[]⟩
def rMulS : R2 := fun x y H Q => ∃ (z : Str) (k : Int), x = .str z ∧ y = .int k ∧ (0 ≤ k ∧ k < 100000 ∧ z.length ≤ 100 ∧ (repS z k).length ≤ sizeLine) ∧ Q (.str (repS z k)) H
theorem op_mulS : OpR X (binaryOp .Mult) rMulS := by
  intro pins s σ H x y v u Q I rx ry ⟨z, k, e1, e2, hk, q⟩
  subst e1 e2
  obtain ⟨t, rfl⟩ := rx
  obtain ⟨t', rfl⟩ := ry
  have hlen : z.length * k.toNat ≤ 10000000 := by
    have h1 : k.toNat ≤ 100000 := by omega
    calc z.length * k.toNat ≤ 100 * 100000 := Nat.mul_le_mul hk.2.2.1 h1
      _ = 10000000 := by decide
  refine PySem.P.mul_str (by rw [decide_eq_false (by omega), decide_eq_false (by omega)]; rfl) (fun h1 _ => ?_) (fun h1 h2 => ?_) ?_
  · intro hgt
    have h3 : (2 ^ 63 - 1) / k ≥ 100000000 := by
      refine (Int.le_ediv_iff_mul_le (by omega)).mpr ?_
      calc (100000000 : Int) * k ≤ 100000000 * 100000 := Int.mul_le_mul_of_nonneg_left (by omega) (by decide)
        _ ≤ 2 ^ 63 - 1 := by decide
    have := hk.2.2.1
    omega
  · show Builtin.Str.tooLong _ = false
    unfold Builtin.Str.tooLong
    rw [decide_eq_false]
    rw [sizeLine_eq]
    omega
  · have hz := hk.2.2.2
    unfold repS at q hz
    by_cases h1 : k < 1
    · rw [if_pos h1] at q hz ⊢
      exact ⟨hz, .str _, H, I.tok _, ⟨_, rfl⟩, q⟩
    · rw [if_neg h1] at q hz ⊢
      by_cases h2 : (k == 1 || z.length == 0) = true
      · rw [if_pos h2] at q ⊢
        exact ⟨.str _, H, I, ⟨_, rfl⟩, q⟩
      · rw [if_neg h2] at q hz ⊢
        exact ⟨hz, .str _, H, I.tok _, ⟨_, rfl⟩, q⟩
def mulD' : Op2 := fun u w S => match u, w with
  | .d (.int i), .d (.int j) => if CMul i j then .ok (.d (.int (i * j))) S else .bad
  | .d (.str z), .d (.int k) => if 0 ≤ k ∧ k < 100000 ∧ z.length ≤ 100 ∧ (repS z k).length ≤ 16777216 then .ok (.d (.str (repS z k))) S else .bad
  | u, .d (.int k) => (match lstOf u S with
    | some xs => if -(2 ^ 63) ≤ k ∧ k < 2 ^ 63 ∧ xs.length * k.toNat ≤ 16777216 then .ok (.d (.list (List.replicate k.toNat xs).flatten)) S else .bad
    | none => .bad)
  | _, _ => .bad
abbrev rMulA : R2 := fun x y H Q => rI CMul (fun i j => .int (i * j)) x y H Q ∨ (rMulS x y H Q ∨ rRep x y H Q)
theorem or_mul : OpR X (binaryOp .Mult) rMulA := op_mul.or (op_mulS.or op_rep)
theorem reps_flat {c : Cfg} {vs : List V} {xs : List D} (r : RepA K c vs xs) : ∀ n : Nat, RepA K c (List.replicate n vs).flatten (List.replicate n xs).flatten
  | 0 => .nil
  | n + 1 => by
    rw [List.replicate_succ, List.replicate_succ, List.flatten_cons, List.flatten_cons]
    exact r.append (reps_flat r n)
theorem lk_mul : Lk2 K E rMulA mulD' := by
  intro c x y u w Q o rx ry h
  unfold mulD' at h
  split at h
  · split at h
    · rename_i hC
      rw [rInt rx, rInt ry]
      exact .inl ⟨_, _, rfl, rfl, hC, Post.val h o (.int _)⟩
    · exact h.elim
  · split at h
    · rename_i hC
      rw [rStr rx, rInt ry]
      exact .inr (.inl ⟨_, _, rfl, rfl, ⟨hC.1, hC.2.1, hC.2.2.1, by rw [sizeLine_eq]; exact hC.2.2.2⟩, Post.val h o (.str _)⟩)
    · exact h.elim
  · split at h
    · rename_i xs hl
      split at h
      · rename_i hC
        obtain ⟨q, vs, rfl, q1, q2⟩ := lstOf_rep o rx hl
        rw [rInt ry]
        exact .inr (.inr ⟨q, _, vs, rfl, rfl, q1, hC.1, hC.2.1, by rw [sizeLine_eq, q2.length]; exact hC.2.2, fun p hp => Post.new h o hp (rep_newL o hp (reps_flat q2 _))⟩)
      · exact h.elim
    · exact h.elim
  · exact h.elim
end
end DL
namespace DL
open PySem PySem.Spec PyProof.Rows L2 HT
section
variable {prog : Program} {w : World} {A : Around} {E : Value → Shared → Prop} {s : Shared}
theorem adjust_rev (n : Nat) : Builtin.Slice.sliceAdjust none none (-1) (n : Int) = ((n : Int) - 1, -1) := by
  unfold Builtin.Slice.sliceAdjust
  have h1 : ((-1 : Int) < 0) := by omega
  simp only [h1, if_true]
theorem places_rev (n : Nat) : Builtin.Slice.slicePlaces ((n : Int) - 1) (-1) (-1) = n := by
  unfold Builtin.Slice.slicePlaces
  have h1 : ¬ ((-1 : Int) > 0) := by omega
  simp only [h1, if_false]
  split
  · have : ((n : Int) - 1 - -1 - 1) / (- -1) = (n : Int) - 1 := by
      rw [Int.neg_neg, Int.ediv_one]
      omega
    rw [this]
    omega
  · omega
theorem sliceApplied_rev {sl : Addr} {vs : Value} {n : Nat} {Q : Int × Int × Nat → Shared → Prop} (hs : s.heap.IsSliceOf sl .none .none vs) (ps : IsPart vs (some (-1)))
    (h : Q ((n : Int) - 1, -1, n) s) : wpAny (model prog w) A (Builtin.Slice.sliceApplied (.ref sl) (pure (n : Int))) Q E s := by
  obtain ⟨os, hos, hcs, hds⟩ := id hs
  unfold Builtin.Slice.sliceApplied Builtin.Slice.sliceFields
  refine wpAny_bind (wpAny_bind (wpAny_field hos hds (x := .none) rfl (wpAny_bind (wpAny_field hos hds (x := .none) rfl (wpAny_bind (wpAny_field hos hds (x := vs) rfl (wpAny_pure ?_)))))))
  refine wpAny_bind (slicePart_ ps ?_)
  show wpAny _ _ (if ((-1 : Int) == 0) = true then _ else _) _ _ s
  rw [if_neg (by decide)]
  refine wpAny_bind (slicePart_none (wpAny_bind (slicePart_none (wpAny_bind (wpAny_pure ?_)))))
  show wpAny _ _ (match Builtin.Slice.sliceAdjust none none (-1) (n : Int) with | (lo, hi) => pure (lo, (-1 : Int), Builtin.Slice.slicePlaces lo hi (-1))) _ _ s
  rw [adjust_rev n]
  show wpAny _ _ (pure ((n : Int) - 1, (-1 : Int), Builtin.Slice.slicePlaces ((n : Int) - 1) (-1) (-1))) _ _ s
  rw [places_rev]
  exact wpAny_pure h
theorem pick_rev (xs : Array Value) : ((List.range xs.size).filterMap fun (m : Nat) => xs[((xs.size : Int) - 1 + (m : Int) * (-1)).toNat]?).toArray = xs.toList.reverse.toArray := by
  have e : (List.range xs.size).filterMap (fun (m : Nat) => xs[((xs.size : Int) - 1 + (m : Int) * (-1)).toNat]?) = xs.toList.reverse := by
    have e1 : ∀ (k : Nat), k ≤ xs.size → (List.range k).filterMap (fun (m : Nat) => xs[((xs.size : Int) - 1 + (m : Int) * (-1)).toNat]?) = xs.toList.reverse.take k := by
      intro k
      induction k with
      | zero => intro _; rfl
      | succ k ih =>
        intro hk
        rw [List.range_succ, List.filterMap_append, ih (by omega), List.take_add_one]
        congr 1
        have e2 : ((xs.size : Int) - 1 + (k : Int) * (-1)).toNat = xs.size - 1 - k := by omega
        have h3 : xs.size - 1 - k < xs.size := by omega
        have h4 : xs.toList.reverse[k]? = some xs[xs.size - 1 - k] := by
          rw [List.getElem?_reverse (by simpa using (show k < xs.size by omega))]
          simp [h3]
        rw [h4, List.filterMap_cons, e2, Array.getElem?_eq_getElem h3]
        rfl
    rw [e1 xs.size (Nat.le_refl _), List.take_of_length_le (by simp)]
  rw [e]
theorem getItem_tuple_rev {t sl : Addr} {items : Array Value} {vs : Value} {Q : Value → Shared → Prop} (ht : IsTup s.heap t items) (hs : s.heap.IsSliceOf sl .none .none vs) (ps : IsPart vs (some (-1)))
    (h : Q (.ref s.heap.objs.size) { s with heap := s.heap.push { cls := .type "tuple", data := .seq items.toList.reverse.toArray } })
    (hsz : items.size ≤ sizeLine) : wpAny (model prog w) A (getItem (.ref t) (.ref sl)) Q E s := by
  have htake : sizeOk (.seq items.toList.reverse.toArray) := by
    show items.toList.reverse.toArray.size ≤ sizeLine
    rw [List.size_toArray, List.length_reverse, Array.length_toList]
    exact hsz
  obtain ⟨os, hos, hcs, hds⟩ := id hs
  have hTs : s.TypeIs (.ref sl) "slice" := ⟨os, hos, hcs⟩
  unfold getItem
  try with_reducible refine wpAny_holding ?_
  first | refine wpAny_bind (wpAny_pure ?_) | skip
  refine wpAny_bind (wpAny_sequenceKey ht.typeIs (by decide) ?_)
  refine wpAny_bind (wpAny_callSpecial?_slot (name := Str.ofString "__getitem__") ht.typeIs PyProof.Rows.slot_tuple_getitem
    (wpAny_call_entry PyProof.Rows.slot_tuple_getitem ht.typeIs entry_tuple_getitem ?_ (args_tuple_getitem _ _)))
  show wpAny _ _ (Builtin.Tuple.tupleItemsOf (.ref t) >>= _) _ _ s
  refine wpAny_bind (tupleItemsOf_ ht ?_)
  refine wpAny_bind (wpAny_typeOf hTs ?_)
  rw [if_pos (by decide)]
  refine wpAny_bind (sliceApplied_rev hs ps ?_)
  have hno : ¬ ((((items.size : Int) - 1) == 0 && (-1 : Int) == 1 && items.size == items.size) = true) := by
    intro q
    rw [Bool.and_eq_true, Bool.and_eq_true] at q
    have q1 : (-1 : Int) = 1 := eq_of_beq q.1.2
    omega
  show wpAny _ _ (if (((items.size : Int) - 1) == 0 && (-1 : Int) == 1 && items.size == items.size) = true then _ else _) _ _ s
  rw [if_neg hno, pick_rev]
  first
    | exact wpAny_bind (m := Builtin.Tuple.tupleExact _) (wpAny_newObj_type (wpAny_pure ⟨_, rfl, wpAny_pure h⟩) htake)
    | exact wpAny_bind (m := Builtin.Tuple.tupleExact _) (wpAny_newObj_type (wpAny_bind (wpAny_pure (wpAny_pure ⟨_, rfl, wpAny_pure h⟩))) htake)
    | exact wpAny_bind (wpAny_bind (m := Builtin.Tuple.tupleExact _) (wpAny_newObj_type (wpAny_pure (wpAny_pure ⟨_, rfl, wpAny_pure h⟩)) htake))
    | exact wpAny_bind (wpAny_bind (m := Builtin.Tuple.tupleExact _) (wpAny_newObj_type (wpAny_pure ⟨_, rfl, wpAny_pure h⟩) htake))
end
section
variable {X : Cx} {E : EXW} {K : PySem.W.Frag} {a b e o : Expr} {f g : DE} {pos : Pos}
/-- [::-1] of a list or of a tuple -/
def tRevA (K : PySem.W.Frag) (te : TE) : TE := fun σ H Q => te σ H fun x H1 => ∃ a xs, x = .ref a ∧ ((SqL K H1 a xs ∧ ∀ p, H1 p = none → Q (.ref p) (upd H1 p (.lst xs.reverse))) ∨ (SqT K H1 a xs ∧ ∀ p, H1 p = none → Q (.ref p) (upd H1 p (.tup xs.reverse))))
theorem pe_revA {e : Expr} {te : TE} {k : Nat} {p1 p2 p3 pos : Pos} (he : PE X e te) : PE X (.Subscript e (.Slice none none (some (.UnaryOp .USub (.Constant (.int 1) k p1) p2)) p3) pos) (tRevA X.K te) := by
  refine ⟨fun pins s σ H Q I h => ?_⟩
  refine Subscript_ (thn (he.run pins s σ H _ I h) fun v s1 ⟨x, H1, I1, r1, q1⟩ => ?_)
  obtain ⟨a, xs, ex, q⟩ := q1
  subst ex
  cases r1
  have hst : PO X (some (.UnaryOp .USub (.Constant (.int 1) k p1) p2)) (tPart (tUn (rU fun i => .int (-i)) (tC (.int 1)))) := po_some (pe_un un_neg pe_int)
  refine wpAny_Slice (thn (po_none.run pins s1 σ H1 (fun o H2 => o = none ∧ H2 = H1) I1 ⟨rfl, rfl⟩) fun vl s2 ⟨l, H2, I2, pl, el, e2⟩ => ?_)
  subst el e2
  refine thn (po_none.run pins s2 σ H2 (fun o H3 => o = none ∧ H3 = H2) I2 ⟨rfl, rfl⟩) fun vu s3 ⟨u, H3, I3, pu, eu, e3⟩ => ?_
  subst eu e3
  refine thn (hst.run pins s3 σ H3 (fun o H4 => o = some (-1) ∧ H4 = H3) I3 ⟨1, rfl, -1, rfl, rfl, rfl⟩) fun vs s4 ⟨o, H4, I4, ps, eo, e4⟩ => ?_
  subst eo e4
  have I5 : Inv X pins σ H4 { s4 with heap := s4.heap.push { cls := .type "slice", data := .fields #[vl, vu, vs] } } := I4.kept (t' := s4.toks) fun b ob q => Heap.get?_push_of_some _ q
  rcases q with ⟨hx, q⟩ | ⟨hx, q⟩
  · obtain ⟨its, r, ht, hz⟩ := I5.list hx
    have hlen := r.length
    show wpAny (model X.prog X.w) X.A (subscriptTail e (.Slice none none (some (.UnaryOp .USub (.Constant (.int 1) k p1) p2)) p3) (.ref a) (.ref s4.heap.objs.size)) (EP X pins σ Q) X.xe { s4 with heap := s4.heap.push { cls := .type "slice", data := .fields #[vl, vu, vs] } }
    refine tail_any (ops := [.ref a, .ref s4.heap.objs.size]) ht.isList.typeIs (PySem.slot_list_getitem.lookup) ?_ (by with_unfolding_all rfl)
    refine wpAny_getItem_list_slice ht.isList (Heap.IsSliceOf.new _ vl vu vs) pl pu ps (by decide) ?_ (by rw [List.size_toArray]; omega)
    rw [PySem.W.krv_pick]
    refine ⟨.ref _, _, I5.laid (t' := s4.toks) (o := .lst xs.reverse) (fun b ob q => Heap.get?_push_of_some _ q) (Nat.le_refl _) ?_, rfl, q _ (I5.hok.fresh (Nat.le_refl _))⟩
    exact ⟨by rw [List.length_reverse]; exact hz, _, 0, r.reverse, Heap.get?_push_size _ rfl⟩
  · obtain ⟨its, r, ht, hz⟩ := I5.tuple hx
    have hlen := r.length
    cases pl
    cases pu
    show wpAny (model X.prog X.w) X.A (subscriptTail e (.Slice none none (some (.UnaryOp .USub (.Constant (.int 1) k p1) p2)) p3) (.ref a) (.ref s4.heap.objs.size)) (EP X pins σ Q) X.xe { s4 with heap := s4.heap.push { cls := .type "slice", data := .fields #[.none, .none, vs] } }
    refine tail_any (ops := [.ref a, .ref s4.heap.objs.size]) ht.typeIs (PyProof.Rows.slot_tuple_getitem.lookup) ?_ (by with_unfolding_all rfl)
    refine getItem_tuple_rev ht (Heap.IsSliceOf.new _ .none .none vs) ps ?_ (by rw [List.size_toArray]; omega)
    refine ⟨.ref _, _, I5.laid (t' := s4.toks) (o := .tup xs.reverse) (fun b ob q => Heap.get?_push_of_some _ q) (Nat.le_refl _) ?_, rfl, q _ (I5.hok.fresh (Nat.le_refl _))⟩
    exact ⟨by rw [List.length_reverse]; exact hz, _, r.reverse, ⟨_, Heap.get?_push_size _ rfl, rfl, _, rfl⟩⟩
def revA : Op1 := fun u S => match u with
  | .d (.tuple xs) => .ok (.d (.tuple xs.reverse)) S
  | u => match lstOf u S with
    | some xs => .ok (.d (.list xs.reverse)) S
    | none => .bad
theorem pd_rev {k : Nat} {p1 p2 p3 : Pos} (ha : PE X a (tD X.K E f)) : PE X (.Subscript a (.Slice none none (some (.UnaryOp .USub (.Constant (.int 1) k p1) p2)) p3) pos) (tD X.K E (dOp1 revA f)) := (pe_revA ha).dimp fun σ H Q ⟨hd, ι, S, ρ, at_, h⟩ => by
  refine tD_stepG (c := ⟨hd, ι, S, H⟩) at_ h fun u v c1 e1 a1 r1 h1 => ?_
  unfold revA at h1
  split at h1
  · obtain ⟨p, vs, rfl, q1, q2⟩ := sqT_of r1
    exact ⟨p, vs, rfl, .inr ⟨q1, fun q hq => Post.new h1 a1.ok hq (rep_newT a1.ok hq q2.reverse)⟩⟩
  · split at h1
    · rename_i hl
      obtain ⟨p, vs, rfl, q1, q2⟩ := lstOf_rep a1.ok r1 hl
      exact ⟨p, vs, rfl, .inl ⟨.inl (.inl q1), fun q hq => Post.new h1 a1.ok hq (rep_newL a1.ok hq q2.reverse)⟩⟩
    · exact h1.elim
end
end DL
namespace DL
open PySem PySem.Spec PyProof.Rows L2
/-! ### the text's facts -/
structure Tx (fa : List He.Fa) (fn : List He.DefD) (K : PySem.W.Frag) (mg : Str → Option Value) : Prop where
  gl : ∃ h : Heap, K.In h ∧ h.Ns mainGlobals mg
  c : He.SaysD fa fn K
section
variable {fa : List He.Fa} {fn : List He.DefD} {K : PySem.W.Frag} {mg : Str → Option Value}
theorem Tx.free (T : Tx fa fn K mg) (i : Nat) {x : Str} (h : fa[i]? = some (.free x) := by rfl) : mg x = none := by
  obtain ⟨hp, X, G⟩ := T.gl
  exact He.free_ok X G (T.c.fact i h)
theorem Tx.glo (T : Tx fa fn K mg) (i : Nat) {x : Str} (h : fa[i]? = some (.glo x) := by rfl) : mg x = some (.ref (He.ga K x)) := by
  obtain ⟨hp, X, G⟩ := T.gl
  exact He.glo_ok X G (T.c.fact i h)
theorem Tx.int (T : Tx fa fn K mg) (i : Nat) {x : Str} {n : Int} (h : fa[i]? = some (.int x n) := by rfl) : ∃ t, mg x = some (.int n t) := by
  obtain ⟨hp, X, G⟩ := T.gl
  exact He.int_ok X G (T.c.fact i h)
theorem Tx.str (T : Tx fa fn K mg) (i : Nat) {x z : Str} (h : fa[i]? = some (.str x z) := by rfl) : ∃ t, mg x = some (.str z t) := by
  obtain ⟨hp, X, G⟩ := T.gl
  exact He.str_ok X G (T.c.fact i h)
end
theorem _root_.L2.FunD.at_ {K : PySem.W.Frag} {x qual : Str} {params : Arguments} {body : List Stmt} {scope : Scope} {dvs : List V} {kws : List (Str × V)} {f : Addr} {fd : FuncData} (F : FunD K x qual params body scope dvs kws f fd) : ∃ oc od osl, K.lookup f = some ⟨oc, od, .func fd, osl⟩ := by
  obtain ⟨oc, od, dV, kV, doc, pm, an, cdv, ct, osl, rfl, lk, _⟩ := F.ex
  exact ⟨oc, od, osl, lk⟩
/-- the def x is there and does what F says -/
structure Has (P : Program) (w : World) (K : PySem.W.Frag) (mg : Str → Option Value) (base : Heap) (k : Nat) (x : Str) (ps : List Str) (F : Fn) : Prop where
  gl : mg x = some (.ref (He.ga K x))
  ex : ∃ fd, FnOk P w K mg base CX0 k (He.ga K x) fd ps (spD K F) ∧ PySem.W.keepIn K (.ref (He.ga K x)) = true ∧ Binds K fd ps [] ∧ ∃ oc od osl, K.lookup (He.ga K x) = some ⟨oc, od, .func fd, osl⟩
section
variable {fa : List He.Fa} {fn : List He.DefD} {P : Program} {w : World} {K : PySem.W.Frag} {mg : Str → Option Value} {base : Heap}
theorem has_of (T : Tx fa fn K mg) (i j : Nat) {x : Str} {d : He.DefD} {N ps : List Str} {k np nN : Nat} {t : DS} (hd : fn[i]? = some d) (hx : d.at_ = (x, none)) (hdf : d.dfl = []) (hkw : d.kwd = []) (hg : fa[j]? = some (.glo x))
    (sc : FnScope N ps d.scope) (h1 : ps.length = np) (h2 : N.length = nN)
    (hbind : ∀ (kV doc pm : Value) (an : Option Addr) (cdv ct : Value) (us : List Value), us.length = ps.length → bindArgs (PySem.W.fnOf d.name d.qual d.params d.body d.scope .none kV doc pm an cdv ct) ⟨us, []⟩ = pure (ps.zip us))
    (hb : ∀ (f : Addr) (cdv : Value) (A : Around) (outer : List Env) (s : Shared) (H : Hp) (E : XK), Room k (A.deeper (envOfC d.qual d.scope s.heap.objs.size f cdv)) → PSs (cxOf CX0 P w K mg base N d.qual d.scope f cdv A outer s H E).nox d.body (tS K E0W t)) :
    Has P w K mg base (k + 1) x ps (fnD np nN t) := by
  obtain ⟨fd, F⟩ := T.c.def_ i hd
  have e : He.fAd K d.at_ = He.ga K x := by rw [hx]; rfl
  rw [e] at F
  have e1 : d.dvs K = [] := by unfold He.DefD.dvs; rw [hdf]; rfl
  have e2 : d.kws K = [] := by unfold He.DefD.kws; rw [hkw]; rfl
  rw [e1, e2] at F
  exact ⟨T.glo j hg, fd, fn_ok F sc h1 h2 (hb _), F.kp, F.bindsN hbind, F.at_⟩
theorem Has.mono {j k : Nat} {x : Str} {ps : List Str} {F : Fn} (h : Has P w K mg base j x ps F) (l : j ≤ k) : Has P w K mg base k x ps F := by
  obtain ⟨fd, a, b, c⟩ := h.ex
  exact ⟨h.gl, fd, a.mono l, b, c⟩
/-- .. a def that hands back a new list -/
theorem has_new (T : Tx fa fn K mg) (i j : Nat) {x : Str} {d : He.DefD} {N ps : List Str} {k np nN : Nat} {t : DS} (hd : fn[i]? = some d) (hx : d.at_ = (x, none)) (hdf : d.dfl = []) (hkw : d.kwd = []) (hg : fa[j]? = some (.glo x))
    (sc : FnScope N ps d.scope) (h1 : ps.length = np) (h2 : N.length = nN)
    (hbind : ∀ (kV doc pm : Value) (an : Option Addr) (cdv ct : Value) (us : List Value), us.length = ps.length → bindArgs (PySem.W.fnOf d.name d.qual d.params d.body d.scope .none kV doc pm an cdv ct) ⟨us, []⟩ = pure (ps.zip us))
    (hb : ∀ (f : Addr) (cdv : Value) (A : Around) (outer : List Env) (s : Shared) (H : Hp) (E : XK), Room k (A.deeper (envOfC d.qual d.scope s.heap.objs.size f cdv)) → PSs (cxOf CX0 P w K mg base N d.qual d.scope f cdv A outer s H E).nox d.body (tS K E0W t)) :
    Has P w K mg base (k + 1) x ps (fnN np nN t) := by
  obtain ⟨fd, F⟩ := T.c.def_ i hd
  have e : He.fAd K d.at_ = He.ga K x := by rw [hx]; rfl
  rw [e] at F
  have e1 : d.dvs K = [] := by unfold He.DefD.dvs; rw [hdf]; rfl
  have e2 : d.kws K = [] := by unfold He.DefD.kws; rw [hkw]; rfl
  rw [e1, e2] at F
  exact ⟨T.glo j hg, fd, fn_okN F sc h1 h2 (hb _), F.kp, F.bindsN hbind, F.at_⟩
theorem has_fd {k : Nat} {x qual : Str} {ps : List Str} {F : Fn} {params : Arguments} {body : List Stmt} {scope : Scope} {dvs : List V} {kws : List (Str × V)} {f : Addr} {fd : FuncData} (h : Has P w K mg base k x ps F) (D : FunD K x qual params body scope dvs kws f fd) (e : f = He.ga K x) :
    FnOk P w K mg base CX0 k f fd ps (spD K F) := by
  subst e
  obtain ⟨fd', h1, _, _, oc, od, osl, l⟩ := h.ex
  obtain ⟨oc', od', osl', l'⟩ := D.at_
  rw [l] at l'
  cases l'
  exact h1
/-- a def that calls itself: at depth 0 nothing is said -/
theorem has_bad (T : Tx fa fn K mg) (i j : Nat) {x : Str} {d : He.DefD} {ps : List Str} (k : Nat) (hd : fn[i]? = some d) (hx : d.at_ = (x, none)) (hdf : d.dfl = []) (hkw : d.kwd = []) (hg : fa[j]? = some (.glo x))
    (hbind : ∀ (kV doc pm : Value) (an : Option Addr) (cdv ct : Value) (us : List Value), us.length = ps.length → bindArgs (PySem.W.fnOf d.name d.qual d.params d.body d.scope .none kV doc pm an cdv ct) ⟨us, []⟩ = pure (ps.zip us)) :
    Has P w K mg base k x ps (fun _ _ => .bad) := by
  obtain ⟨fd, F⟩ := T.c.def_ i hd
  have e : He.fAd K d.at_ = He.ga K x := by rw [hx]; rfl
  rw [e] at F
  have e1 : d.dvs K = [] := by unfold He.DefD.dvs; rw [hdf]; rfl
  have e2 : d.kws K = [] := by unfold He.DefD.kws; rw [hkw]; rfl
  rw [e1, e2] at F
  exact ⟨T.glo j hg, fd, ⟨fun _ _ _ _ ⟨_, _, _, _, _, _, h⟩ => h.elim, fun _ _ _ _ _ _ _ _ _ _ _ _ _ ⟨_, _, _, _, _, _, h⟩ => h.elim⟩, F.kp, F.bindsN hbind, F.at_⟩
end
section
variable {X : Cx} {a : Expr} {es : List Expr} {pos : Pos}
theorem pd_fnH {k j : Nat} {ps : List Str} {F : Fn} {x : Str} {p : Pos} {t : DA} (G : Has X.prog X.w X.K X.mg X.base k x ps F) (hr : Room j X.A) (hkj : k ≤ j) (hg : Gl X x)
    (ha : PA X (a :: es) (tA X.K E0W t)) (hdb : (x == ("__debug__" : Str)) = false := by decide) (he : starEach (a :: es) X.env = (false, eval a X.env) :: starEach es X.env := by rfl) (hpl : (backTo pos (starEach es X.env)).any (·.1) = false := by rfl) :
    PE X (.Call (.Name x p) (a :: es) [] pos) (tD X.K E0W (dFn F t)) := by
  obtain ⟨fd, h1, h2, h3, _⟩ := G.ex
  exact pd_fn h1 (hr.mono hkj) hg G.gl h2 h3 ha hdb he hpl
theorem pd_fnH0 {k j : Nat} {ps : List Str} {F : Fn} {x : Str} {p : Pos} (G : Has X.prog X.w X.K X.mg X.base k x ps F) (hr : Room j X.A) (hkj : k ≤ j) (hg : Gl X x) (hdb : (x == ("__debug__" : Str)) = false := by decide) :
    PE X (.Call (.Name x p) [] [] pos) (tD X.K E0W (dFn F aNil)) := by
  obtain ⟨fd, h1, h2, h3, _⟩ := G.ex
  exact pd_fn0 h1 (hr.mono hkj) hg G.gl h2 h3 hdb
end
theorem u64 {k : Nat} {A : Around} (r : Room k A) : A.units + 64 < cLine := r.units
theorem u65 {k : Nat} {A : Around} (r : Room k A) : A.units + 65 < cLine := by have := r.un; omega
theorem u66 {k : Nat} {A : Around} (r : Room k A) : A.units + 2 + 64 < cLine := by have := r.un; omega
theorem u1 {k : Nat} {A : Around} (r : Room k A) : A.units + 1 < cLine := by have := r.un; omega
/-- what the law is to give -/
theorem law_sp {K : PySem.W.Frag} {F : Fn} (hF : ∀ ns : List Int, ns.length ≤ 63 → ∃ S', F [.s ns] [] = .ok (.d (.bool true)) S') (H : Hp) (a : Addr) (ns : List Int) (hl : ns.length ≤ 63) (hS : SqL K H a (ns.map V.int)) : spD K F [.ref a] H (fun v _ => v = .bl true) fun _ _ _ => False := by
  obtain ⟨S', e⟩ := hF ns hl
  refine ⟨[], [], [], [.s ns], ⟨(fun _ h => by cases h), rfl, List.nodup_nil, (fun n cl h => by simp at h)⟩, .cons ⟨a, rfl, ?_⟩ .nil, ?_⟩
  · rcases hS with h | h
    · refine .inl ⟨h, ?_⟩
      rintro (q | ⟨n, cl, q, _⟩)
      · cases q
      · simp at q
    · exact .inr h
  · rw [e]
    intro v ι' H' _ _ r
    cases r
    rfl
end DL
namespace DL
open PySem PySem.Spec PyProof.Rows L2
/-! ### a list or a tuple that is walked -/
/-- the sequence at a, a list or a tuple -/
def SqB (K : PySem.W.Frag) (b : Bool) (H : Hp) (a : Addr) (xs : List V) : Prop := match b with
  | true => SqL K H a xs
  | false => SqT K H a xs
def IterB (b : Bool) (h : Heap) (it a : Addr) (i : Nat) : Prop := match b with
  | true => h.IsListIter it a i
  | false => h.IsTupleIter it a i
def IsB (b : Bool) (h : Heap) (a : Addr) (its : Array Value) : Prop := match b with
  | true => h.IsList a its
  | false => h.IsTuple a its
section
variable {X : Cx} {pins : List (Addr × Obj)} {σ : L2.St} {H : Hp} {s : Shared} {b : Bool} {a it : Addr} {xs ys : List V}
theorem inv_seq (I : Inv X pins σ H s) (h : SqB X.K b H a xs) : ∃ its : List Value, Vals xs its ∧ IsB b s.heap a its.toArray ∧ xs.length ≤ sizeLine := by
  cases b with
  | true => obtain ⟨its, r, p, z⟩ := I.list h; exact ⟨its, r, p.isList, z⟩
  | false => obtain ⟨its, r, p, z⟩ := I.tuple h; exact ⟨its, r, p, z⟩
theorem inv_inj (I : Inv X pins σ H s) (h : SqB X.K b H a xs) (h' : SqB X.K b H a ys) : xs = ys := by
  cases b with
  | true => exact I.list_inj h h'
  | false => exact I.tuple_inj h h'
theorem IterB.obj {h : Heap} {i : Nat} (st : IterB b h it a i) : ∃ o, h.get? it = some o ∧ ∀ v, o.data ≠ .cell v := by
  cases b <;> (obtain ⟨o, e, _, d⟩ := st; exact ⟨o, e, fun v q => by rw [d] at q; cases q⟩)
theorem IterB.keep {h h' : Heap} {i : Nat} (st : IterB b h it a i) (k : ∀ o, h.get? it = some o → h'.get? it = some o) : IterB b h' it a i := by
  cases b with
  | true => exact Heap.IsListIter.at st k
  | false => exact Heap.IsTupleIter.at st k
theorem IsB.keep {h h' : Heap} {its : Array Value} (st : IsB b h a its) (k : ∀ o, h.get? a = some o → h'.get? a = some o) : IsB b h' a its := by
  cases b with
  | true => exact Heap.IsList.at st k
  | false => exact Heap.IsTuple.at st k
theorem IsB.lt {h : Heap} {its : Array Value} (st : IsB b h a its) : a < h.objs.size := by
  cases b <;> (obtain ⟨o, e, _⟩ := st; exact Heap.lt_size e)
theorem draws_seq {prog : Program} {w : World} {A : Around} (hh : A.handled = none) (hne : a ≠ it) (items : Array Value) :
    Draws prog w A it [it, a] items.size (fun i v => items[i]? = some v) (fun i h => IterB b h it a i ∧ IsB b h a items) := by
  cases b with
  | true => exact Draws.list hh it a hne items
  | false => exact Draws.tuple hh it a hne items
def begO (b : Bool) (a : Addr) : Obj := match b with
  | true => { cls := .type "list_iterator", data := .fields #[.ref a, .int 0 0] }
  | false => { cls := .type "tuple_iterator", data := .fields #[.ref a, .int 0 0] }
theorem begins_seq (items : Array Value) : Begins (.ref a) (begO b a) fun h => IsB b h a items := by
  cases b with
  | true => exact begins_list a items
  | false => exact begins_tuple a items
theorem begO_iter {h : Heap} (e : h.get? it = some (begO b a)) : IterB b h it a 0 := by
  cases b with
  | true => exact ⟨_, e, rfl, rfl⟩
  | false => exact ⟨_, e, rfl, rfl⟩
end
/-! ### enumerate -/
def IteB (K : PySem.W.Frag) (b : Bool) (a : Addr) : It :=
  ⟨fun i H => ∃ (xs : List V) (x : V), SqB K b H a xs ∧ xs[i]? = some x, fun i H v H' => ∃ T x, v = .ref T ∧ H T = none ∧ H' = upd H T (.tup [.int (i : Nat), x]) ∧ ∀ xs, SqB K b H a xs → xs[i]? = some x, fun i H => ∃ xs : List V, SqB K b H a xs ∧ xs.length = i⟩
theorem turn_enumB {P : Program} {w : World} {K : PySem.W.Frag} {elts : List Expr} {kk : Nat} {tpos : Pos} (b : Bool) (a e it : Addr) :
    Turn P w K (.Tuple elts kk tpos) (IteB K b a) [e, it] e (fun i h => (∃ old, IsEnum h e it ((i : Nat) : Int) old) ∧ IterB b h it a i ∧ e ≠ it ∧ e ≠ a ∧ a ≠ it) where
  mem := by simp
  obj := fun i h st c hc => by
    obtain ⟨⟨old, he⟩, hi, _⟩ := st
    have e' : c = e ∨ c = it := by simpa using hc
    rcases e' with z | z
    · rw [z]; exact ⟨_, he, fun v q => nomatch q⟩
    · rw [z]; exact hi.obj
  keep := fun i h h' st k => let ⟨⟨old, he⟩, hi, hne⟩ := st; ⟨⟨old, k e (by simp) _ he⟩, hi.keep fun o q => k it (by simp) o q, hne⟩
  item := by
    intro X hP hw hK hc i pins s σ H E I hf st hg
    subst hP hw hK
    obtain ⟨⟨old, he⟩, hit, hne, hea, hai⟩ := st
    obtain ⟨xs, x, hq, hx⟩ := hg
    obtain ⟨its, rv, p, hz⟩ := inv_seq I hq
    obtain ⟨u, hu, ru⟩ := rv.get hx
    have hel : e < s.heap.objs.size := Heap.lt_size he
    have hil : it < s.heap.objs.size := by obtain ⟨_, q, _⟩ := hit.obj; exact Heap.lt_size q
    have hlt : i < its.toArray.size := by
      have := (List.getElem?_eq_some_iff.mp hu).1
      simpa using this
    have hh : X.A.in1.handled = none := I.ok.hd hc
    refine wpAny_pyNext_enum_itemD (draws_seq hh hai its.toArray) he ⟨hit, p⟩ hlt hne (by simp [hne, hea]) fun y h' tk hy ho hst hT hsz hk => ?_
    have hyu : y = u := by
      have : its.toArray[i]? = some u := by simpa using hu
      rw [this] at hy
      exact (Option.some.inj hy).symm
    subst hyu
    refine ⟨_, rfl, wpAny_letOwnedTupleGo_enum (s := { s with heap := h', toks := tk + 1 }) ho fun h'' he' sb => ?_⟩
    have hT2 : h''.get? s.heap.objs.size = some { cls := .type "tuple", data := .seq #[.int i tk, y] } := (sb.2 _ (Nat.ne_of_gt hel)).trans hT
    have new : ObjOk X.prog X.w (upd H s.heap.objs.size (.tup [.int (i : Nat), x])) h'' s.heap.objs.size (.tup [.int (i : Nat), x]) :=
      ⟨by show 2 ≤ sizeLine; decide, [.int i tk, y], .cons ⟨_, rfl⟩ (.cons ru .nil), ⟨_, hT2, rfl, _, rfl⟩⟩
    have I1 : Inv X pins σ (upd H s.heap.objs.size (.tup [.int (i : Nat), x])) { s with heap := h'', toks := tk + 1 } :=
      I.turnedNew (ch := [e, it]) (fun c ob hb q => (sb.2 c (fun z => hb (by simp [z]))).trans (hk c ob (fun z => hb (by simp [z])) (fun z => hb (by simp [z])) q)) hf (Nat.le_refl _) new
    refine ⟨.ref s.heap.objs.size, _, I1, rfl, ⟨_, x, rfl, I.hok.fresh (Nat.le_refl _), rfl, fun ys hy => by rw [inv_inj I hy hq]; exact hx⟩, ⟨⟨y, ?_⟩, hst.1.keep fun o q => (sb.2 it (Ne.symm hne)).trans q, hne, hea, hai⟩, fun c hc' => ?_⟩
    · have e1 : ((i + 1 : Nat) : Int) = (i : Int) + 1 := by omega
      rw [e1]; exact he'
    · have hb' : c < s.heap.objs.size := by
        have e' : c = e ∨ c = it := by simpa using hc'
        rcases e' with z | z
        · rw [z]; exact hel
        · rw [z]; exact hil
      rw [upd_ne (Nat.ne_of_lt hb')]
      exact (hf c hc').1
  done := by
    intro X hP hw hK hc i pins s σ H E I hf st hg
    subst hP hw hK
    obtain ⟨⟨old, he⟩, hit, hne, hea, hai⟩ := st
    obtain ⟨xs, hq, hx⟩ := hg
    obtain ⟨its, rv, p, hz⟩ := inv_seq I hq
    obtain ⟨f0, f1, f2, f3, f4, f5⟩ := hf it (by simp)
    have hl := rv.length
    have hi : i = its.toArray.size := by simp; omega
    subst hi
    have hh : X.A.in1.handled = none := I.ok.hd hc
    exact wpAny_pyNext_enum_endD (draws_seq hh hai its.toArray) he ⟨hit, p⟩ fun h' eb => ⟨rfl, I.turned (t' := s.toks) (fun c o hb q => eb c o hb q) f0 f1 f3 f4 f5⟩
  self := fun A i s Q E st h => let ⟨⟨_, he⟩, _⟩ := st; wpAny_pyIter_enum he h
section
variable {prog : Program} {w : World} {A : Around} {E : Value → Shared → Prop} {s : Shared}
theorem meets_enum1 {v : Value} {o : Obj} {H : Heap → Prop} (B : Begins v o H) :
    Meets (Builtin.«enumerate.__new__» ⟨[.type "enumerate", v], []⟩) (fun _ R s => H s.heap ∧
      R (.ok (.ret (.ref (s.heap.push o).objs.size))) { s with heap := (s.heap.push o).push { cls := .type "enumerate", data := .fields #[.none, .bool false, .ref s.heap.objs.size, rawInt 0, .none, .none] } }) :=
  .of_wp fun prog w A R s h => by
    obtain ⟨hp, g, d, tk, os⟩ := s; obtain ⟨h1, h⟩ := h
    have hsub := sub_enumerate
    have q1 : ∀ {A' : Around} {E : Value → Shared → Prop} {Q : Value → Shared → Prop}, Q (.ref hp.objs.size) ⟨hp.push o, g, d, tk, os⟩ → wpAny (model prog w) A' (pyIter v) Q E ⟨hp, g, d, tk, os⟩ :=
      fun q => B.iter prog w _ _ ⟨hp, g, d, tk, os⟩ _ h1 q
    wp_walk using q1
    refine wpAny_stack_any fun st => wpAny_pure ?_
    split
    · rename_i c _ _ _ _ _
      cases (c == Value.type "enumerate")
      · wp_walk using q1
        exact ⟨_, rfl, h⟩
      · wp_walk using q1
        exact ⟨_, rfl, h⟩
    · wp_walk using q1
      exact ⟨_, rfl, h⟩
theorem call_enumB {v : Value} {o : Obj} {H : Heap → Prop} {Q : Value → Shared → Prop} (B : Begins v o H) (h1 : H s.heap)
    (h : ∀ h', IsEnum h' (s.heap.objs.size + 1) s.heap.objs.size 0 .none → h'.get? s.heap.objs.size = some o → h'.objs.size = s.heap.objs.size + 2 →
      (∀ b o, s.heap.get? b = some o → h'.get? b = some o) → Q (.ref (s.heap.objs.size + 1)) { s with heap := h' }) :
    wpAny (model prog w) A (call (.type "enumerate") [v]) Q E s := by
  refine callType_new F.called_enumerate (by decide) (F.typeCall_enumerate_1 _) (F.newCall_enumerate_1 _) (fun obj => F.args_object_init_2 obj _) F.entry_enumerate_new
    (meets_enum1 B) ⟨h1, ?_⟩
  have hz : (s.heap.push o).objs.size = s.heap.objs.size + 1 := Heap.size_push ..
  show _ ∧ _
  rw [hz]
  have he : IsEnum ((s.heap.push o).push { cls := .type "enumerate", data := .fields #[.none, .bool false, .ref s.heap.objs.size, rawInt 0, .none, .none] }) (s.heap.objs.size + 1) s.heap.objs.size 0 .none := by
    have := Heap.get?_push_size (s.heap.push o) (o := { cls := .type "enumerate", data := .fields #[.none, .bool false, .ref s.heap.objs.size, rawInt 0, .none, .none] }) rfl
    rw [hz] at this; exact this
  refine ⟨⟨_, he, rfl⟩, h _ he (Heap.get?_push_of_some _ (Heap.get?_push_size _ B.free)) (by rw [Heap.size_push, hz]) fun b o x => Heap.get?_push_of_some _ (Heap.get?_push_of_some _ x)⟩
end
def iEnumB (K : PySem.W.Frag) (ta : TA) : TI := fun σ H R => ta σ H fun vs H1 => ∃ b a xs, vs = [.ref a] ∧ SqB K b H1 a xs ∧ R (IteB K b a) H1
theorem pi_enumB {X : Cx} {e : Expr} {ta : TA} {p pos tpos : Pos} {elts : List Expr} {kk : Nat} (hg : Gl X "enumerate") (hm : X.mg "enumerate" = none) (ha : PA X [e] ta) (hs : starEach [e] X.env = [(false, eval e X.env)] := by rfl) :
    PI X (.Tuple elts kk tpos) (.Call (.Name "enumerate" p) [e] [] pos) (iEnumB X.K ta) := by
  refine ⟨fun pins s σ H R I h => ?_⟩
  refine Call_ (ld_blt I hg hm boot_enumerate (PyProof.Rows.callWith_type1 (thn (ha.run pos pins s σ H _ I h) fun us s1 ⟨vs, H1, I1, r1, q1⟩ => ?_) hs rfl))
  obtain ⟨b, a, xs, ex, hq, q⟩ := q1
  subst ex
  cases r1 with
  | cons r rr =>
    cases rr
    cases r
    obtain ⟨its, rv, p', hz⟩ := inv_seq I1 hq
    have hal := p'.lt
    refine call_enumB (begins_seq its.toArray) p' fun h' he hit hsz hk => wpAny_pyIter_enum he ?_
    have I2 : Inv X pins σ H1 { s1 with heap := h' } := I1.kept (t' := s1.toks) hk
    refine ⟨s1.heap.objs.size + 1, [s1.heap.objs.size + 1, s1.heap.objs.size], _, _, H1, rfl, I2, turn_enumB b a (s1.heap.objs.size + 1) s1.heap.objs.size, ⟨⟨.none, he⟩, begO_iter hit, Nat.succ_ne_self _, Nat.ne_of_gt (Nat.lt_succ_of_lt hal), Nat.ne_of_lt hal⟩, fun c hc => ?_, q⟩
    have e' : c = s1.heap.objs.size + 1 ∨ c = s1.heap.objs.size := by simpa using hc
    have hle : s1.heap.objs.size ≤ c := by
      rcases e' with z | z
      · rw [z]; exact Nat.le_add_right _ _
      · rw [z]; exact Nat.le_refl _
    exact I1.fpOk hle (I1.hok.fresh hle)
/-! .. in the D layer -/
def enumL (xs : List D) : List D := xs.zipIdx.map fun q => .tuple [.int (q.2 : Nat), q.1]
theorem enumL_len (xs : List D) : (enumL xs).length = xs.length := by simp [enumL]
theorem enumL_get {xs : List D} {i : Nat} {x : D} (h : xs[i]? = some x) : (enumL xs)[i]? = some (.tuple [.int (i : Nat), x]) := by
  unfold enumL
  rw [List.getElem?_map, List.getElem?_zipIdx, h]
  simp
section
variable {X : Cx} {E : EXW} {K : PySem.W.Frag} {a b : Expr} {f g : DE} {pos : Pos}
theorem seq_stays {c : Cfg} {v : V} {ds : List D} (r : Rep K c v (.list ds) ∨ Rep K c v (.tuple ds)) : ∃ b a xs, v = .ref a ∧ (∀ c1, Keep c c1 → SqB K b c1.H a xs) ∧ RepA K c xs ds := by
  rcases r with r | r
  · cases r with
    | lst h n r => exact ⟨true, _, _, rfl, fun c1 k => .inl (.inl (k.keep _ _ h n).1), r⟩
  · obtain ⟨a, xs, rfl, k, r⟩ := sqT_stays r
    exact ⟨false, a, xs, rfl, k, r⟩
theorem walk_enumB {b : Bool} {a : Addr} {xs : List V} : Walk (IteB K b a) xs.length (fun H => SqB K b H a xs) (YPair (fun i => some (.int (i : Nat))) (fun i => xs[i]?)) := by
  refine ⟨fun i _ hi q => ⟨xs, xs[i], q, by simp [hi]⟩, fun _ q => ⟨xs, q, rfl⟩, fun i H v H' _ q y => ?_⟩
  obtain ⟨T, x, h1, h2, h3, h4⟩ := y
  exact ⟨T, .int (i : Nat), x, h1, h2, h3, rfl, h4 xs q⟩
theorem it_enum {c : Cfg} {bb : Bool} {q : Addr} {vs : List V} {xs : List D} (h : ∀ c1, Keep c c1 → SqB K bb c1.H q vs) (r : RepA K c vs xs) : ItOk K c (IteB K bb q) (enumL xs) := by
  refine ⟨_, _, by rw [enumL_len, ← r.length]; exact walk_enumB (xs := vs), fun c1 k o => h c1 k, fun i x H2 c1 hlt k o y => ?_⟩
  obtain ⟨T, x1, y1, rfl, hT, rfl, e1, e2⟩ := y
  rw [enumL_len] at hlt
  obtain ⟨v, h1, h2⟩ := (RepA.ext k r).get (List.getElem?_eq_getElem hlt)
  have e2 : vs[i]? = some y1 := e2
  rw [e2] at h1
  cases h1
  cases e1
  exact ⟨_, enumL_get (List.getElem?_eq_getElem _), pair_new o hT (.int _) h2⟩
/-- enumerate(x) over a list or a tuple -/
def itEnum (us : List U) (S : Sto) : Rs (List D) := (toDs us S).bind fun xs S1 => match xs with
  | [.list xs] => .ok (enumL xs) S1
  | [.tuple xs] => .ok (enumL xs) S1
  | _ => .bad
theorem id_enum {t : DA} {q tpos : Pos} {elts : List Expr} {kk : Nat} (hg : Gl X "enumerate") (hm : X.mg "enumerate" = none) (ha : PA X [a] (tA X.K E t)) (hs : starEach [a] X.env = [(false, eval a X.env)] := by rfl) :
    PI X (.Tuple elts kk tpos) (.Call (.Name "enumerate" q) [a] [] pos) (tI X.K E (dItA itEnum t)) := (pi_enumB hg hm ha hs).dimp fun σ H R ⟨hd, ι, S, ρ, at_, h⟩ => by
  have h : PostG (fun c J ds => ItOk X.K c J ds) X.K E ⟨hd, ι, S, H⟩ R ((t ρ S).bind itEnum) := h
  refine tA_stepG (c := ⟨hd, ι, S, H⟩) (Q := fun vs H1 => ∃ b a xs, vs = [.ref a] ∧ SqB X.K b H1 a xs ∧ R (IteB X.K b a) H1) at_ h fun us vs c1 e1 a1 r1 h1 => ?_
  obtain ⟨xs, S2, e2, o2, r2, h2⟩ := toDs_step a1.ok r1 h1
  have key : ∀ {x : V} {ds : List D}, vs = [x] → (Rep X.K ⟨c1.hd, c1.ι, S2, c1.H⟩ x (.list ds) ∨ Rep X.K ⟨c1.hd, c1.ι, S2, c1.H⟩ x (.tuple ds)) → PostG (fun c J ds => ItOk X.K c J ds) X.K E ⟨c1.hd, c1.ι, S2, c1.H⟩ R (.ok (enumL ds) S2) → ∃ b a xs, vs = [.ref a] ∧ SqB X.K b c1.H a xs ∧ R (IteB X.K b a) c1.H := by
    intro x ds e r h
    obtain ⟨b, a, ws, rfl, k, w⟩ := seq_stays r
    exact ⟨b, a, ws, e, k ⟨c1.hd, c1.ι, S2, c1.H⟩ (Keep.refl _), h _ c1.ι c1.H (Ext.refl _) o2 (it_enum k w)⟩
  split at h2
  · cases r2 with
    | cons ra rt => cases rt; exact key rfl (.inl ra) h2
  · cases r2 with
    | cons ra rt => cases rt; exact key rfl (.inr ra) h2
  · exact h2.elim
end
end DL
namespace DL
open PySem PySem.Spec PyProof.Rows L2
section
variable {X : Cx} {E : EXW} {K : PySem.W.Frag} {a b e : Expr} {es : List Expr} {f g : DE} {pos : Pos}
/-! ### targets that are tuples -/
/-- t = e: the value is kept as a datum, then told apart -/
def sUnp (f : DE) (t : Tg) : DS := fun ρ S => (f ρ S).toRt fun u S1 => (toD u S1).toRt fun d S2 => match t d ρ with
  | some ρ' => .nx ρ' S2
  | none => .bad
theorem sd_unp {tg : Expr} {sl : List Nat} {t : Tg} (he : PE X e (tD X.K E f)) (hg : PG X tg (tG X.K sl t)) (hs : swapsWithSole [tg] e pos.line X.env = pure false := by rfl) (hw : swappedStores [tg] e X.env = pure none := by rfl)
    (h1 : (assignEach [tg] X.env).map (·.2) = [assign tg X.env] := by rfl) : PS X (.Assign [tg] e pos) (tS X.K E (sUnp f t)) := (ps_asg he hg hs hw h1).dimp fun D σ H ⟨hd, ι, S, ρ, at_, h⟩ => by
  refine tD_stepS (c := ⟨hd, ι, S, H⟩) at_ h fun u v c1 e1 a1 r1 h1 => ?_
  cases hd2 : toD u c1.S with
  | bad => rw [hd2] at h1; exact h1.elim
  | ex c fs S =>
    exfalso
    unfold toD at hd2
    split at hd2
    · cases hd2
    · split at hd2 <;> cases hd2
    · cases hd2
  | ok d S2 =>
    rw [hd2] at h1
    obtain ⟨e2, o2, r2⟩ := toD_go a1.ok r1 hd2
    have h1 : PostS X.K E c1 D (match t d ρ with
      | some ρ' => .nx ρ' S2
      | none => .bad) := h1
    split at h1
    · rename_i ρ' ht
      have a2 : At X.K ⟨c1.hd, c1.ι, S2, c1.H⟩ σ ρ := a1.ext e2 o2
      refine ⟨c1.hd, c1.ι, S2, ρ, d, ρ', a2, r2, ht, fun σ' at' _ _ => ?_⟩
      exact h1 σ' c1.ι c1.H e2 at'
    · exact h1.elim
theorem us3 {c : Cfg} {xs : List V} {u w z : U} (r : RepUs K c xs [u, w, z]) : ∃ x y q, xs = [x, y, q] ∧ RepU K c x u ∧ RepU K c y w ∧ RepU K c q z := by
  cases r with
  | cons h t =>
    obtain ⟨y, q, rfl, h1, h2⟩ := us2 t
    exact ⟨_, y, q, rfl, h, h1, h2⟩
def sPar3 (i j l : Nat) (t : DA) : DS := fun ρ S => (t ρ S).toRt fun us S' => match us with
  | [u, w, z] => .nx (((ρ.set i (some u)).set j (some w)).set l (some z)) S'
  | _ => .bad
theorem sd_par3 {i j l : Nat} {x y z : Str} {c : Expr} {px py pz pt : Pos} {kt k2 pt2} {t : DA} (hc : X.calm = true) (hN : X.N.Nodup) (hi : X.N[i]? = some x) (hj : X.N[j]? = some y) (hl : X.N[l]? = some z) (hij : i ≠ j) (hil : i ≠ l) (hjl : j ≠ l)
    (hx : X.env.scope.names.lookup x = some .local) (hy : X.env.scope.names.lookup y = some .local) (hz : X.env.scope.names.lookup z = some .local) (ha : PA X [a, b, c] (tA X.K E t))
    (hw : swappedStores [.Tuple [.Name x px, .Name y py, .Name z pz] kt pt] (.Tuple [a, b, c] k2 pt2) X.env = pure (some [x, y, z]))
    (hs : swapsWithSole [.Tuple [.Name x px, .Name y py, .Name z pz] kt pt] (.Tuple [a, b, c] k2 pt2) pos.line X.env = pure false := by rfl) :
    PS X (.Assign [.Tuple [.Name x px, .Name y py, .Name z pz] kt pt] (.Tuple [a, b, c] k2 pt2) pos) (tS X.K E (sPar3 i j l t)) := (ps_par3 hc hN hi hj hl hij hil hjl hx hy hz ha hw hs).dimp fun D σ H ⟨hd, ι, S, ρ, at_, h⟩ => by
  refine tA_stepS (c := ⟨hd, ι, S, H⟩) at_ h fun us vs c1 e1 a1 r1 h1 => ?_
  split at h1
  · obtain ⟨v, w, q, rfl, r1, r2, r3⟩ := us3 r1
    exact ⟨v, w, q, rfl, PostS.nxt h1 (((a1.set r1).set r2).set r3)⟩
  · exact h1.elim
/-! ### max, min of a list -/
def maxI : List Int → Int
  | [] => 0
  | [x] => x
  | x :: y :: r => max x (maxI (y :: r))
def minI : List Int → Int
  | [] => 0
  | [x] => x
  | x :: y :: r => min x (minI (y :: r))
theorem maxI_ok : ∀ {ns : List Int}, ns ≠ [] → maxI ns ∈ ns ∧ ∀ y, y ∈ ns → y ≤ maxI ns
  | [], h => absurd rfl h
  | [x], _ => by simp [maxI]
  | x :: y :: r, _ => by
    obtain ⟨h1, h2⟩ := maxI_ok (ns := y :: r) (by simp)
    constructor
    · show max x (maxI (y :: r)) ∈ _
      rcases Int.le_total x (maxI (y :: r)) with h | h
      · rw [Int.max_eq_right h]; exact List.mem_cons_of_mem _ h1
      · rw [Int.max_eq_left h]; exact List.mem_cons_self
    · intro z hz
      show z ≤ max x (maxI (y :: r))
      rcases List.mem_cons.mp hz with rfl | hz
      · omega
      · have := h2 z hz
        omega
theorem minI_ok : ∀ {ns : List Int}, ns ≠ [] → minI ns ∈ ns ∧ ∀ y, y ∈ ns → minI ns ≤ y
  | [], h => absurd rfl h
  | [x], _ => by simp [minI]
  | x :: y :: r, _ => by
    obtain ⟨h1, h2⟩ := minI_ok (ns := y :: r) (by simp)
    constructor
    · show min x (minI (y :: r)) ∈ _
      rcases Int.le_total x (minI (y :: r)) with h | h
      · rw [Int.min_eq_left h]; exact List.mem_cons_self
      · rw [Int.min_eq_right h]; exact List.mem_cons_of_mem _ h1
    · intro z hz
      show min x (minI (y :: r)) ≤ z
      rcases List.mem_cons.mp hz with rfl | hz
      · omega
      · have := h2 z hz
        omega
def maxN1 : OpN := fun us S => match us with
  | [u] => (match (lstOf u S).bind intsL with
    | some (n :: ns) => .ok (.d (.int (maxI (n :: ns)))) S
    | _ => .bad)
  | _ => .bad
def minN1 : OpN := fun us S => match us with
  | [u] => (match (lstOf u S).bind intsL with
    | some (n :: ns) => .ok (.d (.int (minI (n :: ns)))) S
    | _ => .bad)
  | _ => .bad
theorem lk_max1 : LkN K E (rMax K) maxN1 := by
  intro c xs us Q o r h
  unfold maxN1 at h
  split at h
  · obtain ⟨x, rfl, r1⟩ := us1 r
    split at h
    · rename_i n ns e
      cases hl : lstOf ‹U› c.S with
      | none => rw [hl] at e; cases e
      | some ds =>
        rw [hl] at e
        obtain ⟨q, vs, rfl, q1, q2⟩ := lstOf_rep o r1 hl
        have ev := ints_rep q2 e
        refine ⟨q, n :: ns, rfl, .inl (.inl (by rw [← ev]; exact q1)), by simp, fun m hm hy => ?_⟩
        have h1 := maxI_ok (ns := n :: ns) (by simp)
        have : m = maxI (n :: ns) := Int.le_antisymm (h1.2 m hm) (hy _ h1.1)
        rw [this]
        exact Post.val h o (.int _)
    · exact h.elim
  · exact h.elim
theorem lk_min1 : LkN K E (rMin K) minN1 := by
  intro c xs us Q o r h
  unfold minN1 at h
  split at h
  · obtain ⟨x, rfl, r1⟩ := us1 r
    split at h
    · rename_i n ns e
      cases hl : lstOf ‹U› c.S with
      | none => rw [hl] at e; cases e
      | some ds =>
        rw [hl] at e
        obtain ⟨q, vs, rfl, q1, q2⟩ := lstOf_rep o r1 hl
        have ev := ints_rep q2 e
        refine ⟨q, n :: ns, rfl, .inl (.inl (by rw [← ev]; exact q1)), by simp, fun m hm hy => ?_⟩
        have h1 := minI_ok (ns := n :: ns) (by simp)
        have : m = minI (n :: ns) := Int.le_antisymm (hy _ h1.1) (h1.2 m hm)
        rw [this]
        exact Post.val h o (.int _)
    · exact h.elim
  · exact h.elim
end
end DL
namespace DL
open PySem PySem.Spec PyProof.Rows L2
/-! ### a tuple times a number -/
theorem tuple_mul1 (l : Addr) (items : Array Value) (n : Nat) (dd : Option Addr) (sl : Array (Option Value)) (u : Tok) :
    Meets (Builtin.«tuple.__mul__» ⟨[.ref l, .int 1 u], []⟩) (fun _ R s => s.heap.get? l = some { cls := .type "tuple", dict := dd, data := .seq items n, slots := sl } ∧
      R (.ok (.ret (Value.ref l))) s) :=
  .of_wp fun prog w A R s h => by
    obtain ⟨hp, g, d, tk, os⟩ := s
    obtain ⟨hl, h⟩ := h
    have f1 := AutoSeq1.idx_int
    have c0 : (decide ((1 : Int) < -(2 ^ 63)) || decide ((1 : Int) ≥ 2 ^ 63)) = false := by decide
    have c1 : (items.isEmpty || (1 : Int) == 1) = true := by simp
    wp_walk using wpAny_loadPart' hl
    repeat (first
      | (refine wpAny_ite_false (decide_eq_false (by rw [c0]; exact Bool.false_ne_true)) ?_; wp_walk using wpAny_loadPart' hl)
      | (refine wpAny_ite_true (decide_eq_true (by rw [c1])) ?_; wp_walk using wpAny_loadPart' hl))
    exact ⟨_, rfl, h⟩
def rRepT1 (K : PySem.W.Frag) : R2 := fun x y H Q => ∃ l xs, x = .ref l ∧ y = .int 1 ∧ SqT K H l xs ∧ Q (.ref l) H
section
variable {X : Cx} {E : EXW} {K : PySem.W.Frag}
theorem op_repT1 : OpR X (binaryOp .Mult) (rRepT1 X.K) := by
  intro pins s σ H x y v u Q I rx ry h
  obtain ⟨l, xs, rfl, rfl, hT, q⟩ := h
  cases rx
  obtain ⟨t, rfl⟩ := ry
  obtain ⟨its, r, ⟨⟨cls, dd, data, sl⟩, ho, hc, n, hd⟩, hs⟩ := I.tuple hT
  simp only at hc hd
  subst hc hd
  refine wpAny_binaryOp_repeat_ref (T := "tuple") (U := "int") (by decide) ⟨_, ho, rfl⟩ (fun s' => typeIs_int s' 1 t) noFill_tuple_mul F.fills_int_mul F.slot_int_rmul repeat_tuple F.slot_int_index.lookup
    (call_meets F.slot_int_rmul (typeIs_int s 1 t) F.entry_int_rmul (F.args_int_rmul_2 _ _) (int_rmul_tuple 1 t l its.toArray n dd sl)
      ⟨ho, rfl, ⟨_, ho, rfl⟩, call_meets F.slot_tuple_mul ⟨_, ho, rfl⟩ F.entry_tuple_mul (F.args_tuple_mul_2 _ _) (tuple_mul1 l its.toArray n dd sl t) ⟨ho, ?_⟩⟩)
  exact ⟨.ref l, H, I, rfl, q⟩
/-- i * j, a text, a list or a tuple so many times -/
def mulT : Op2 := fun u w S => match u, w with
  | .d (.tuple xs), .d (.int k) => if k = 1 then .ok (.d (.tuple xs)) S else if xs ≠ [] ∧ 2 ≤ k ∧ k ≤ 1000 ∧ xs.length ≤ 1000 then .ok (.d (.tuple (List.replicate k.toNat xs).flatten)) S else .bad
  | u, w => mulD' u w S
abbrev rMulT (K : PySem.W.Frag) : R2 := fun x y H Q => rMulA x y H Q ∨ (rRepT1 K x y H Q ∨ rRepT K x y H Q)
theorem or_mulT : OpR X (binaryOp .Mult) (rMulT X.K) := or_mul.or (op_repT1.or op_repT)
theorem lk_mulT : Lk2 K E (rMulT K) mulT := by
  intro c x y u w Q o rx ry h
  unfold mulT at h
  split at h
  · rename_i xs k
    obtain ⟨a, vs, rfl, q1, q2⟩ := sqT_of rx
    rw [rInt ry]
    split at h
    · rename_i hk
      subst hk
      exact .inr (.inl ⟨a, vs, rfl, rfl, q1, Post.val h o rx⟩)
    · split at h
      · rename_i hC
        exact .inr (.inr ⟨a, k, vs, rfl, rfl, q1, fun e => by subst e; cases q2; exact hC.1 rfl, hC.2.1, hC.2.2.1, by rw [q2.length]; exact hC.2.2.2, fun p hp => Post.new h o hp (rep_newT o hp (reps_flat q2 _))⟩)
      · exact h.elim
  · exact .inl (lk_mul c x y _ _ Q o rx ry h)
end
end DL
namespace DL
open PySem PySem.Spec PyProof.Rows L2
/-! ### dicts that are walked: from then on they stay as they are -/
def tFrz (td : TE) : TE := fun σ H Q => td σ H fun x H1 => ∃ d u, x = .ref d ∧ ((∃ o, H1 d = some (.frz o u) ∧ Q x H1) ∨ (H1 d = some u ∧ Mut (some u) ∧ ∀ o, Q x (upd H1 d (.frz o u))))
theorem pe_frz {X : Cx} {e : Expr} {td : TE} (h : PE X e td) : PE X e (tFrz td) := by
  refine ⟨fun pins s σ H Q I hw => ?_⟩
  refine thn (h.run pins s σ H _ I hw) fun v s1 ⟨x, H1, I1, r, d, u, ex, q⟩ => ?_
  rcases q with ⟨o, _, q⟩ | ⟨hd, mu, q⟩
  · exact ⟨x, H1, I1, r, q⟩
  · obtain ⟨od, I2⟩ := I1.lock hd mu
    exact ⟨x, _, I2, r, q od⟩
section
variable {K : PySem.W.Frag} {c : Cfg}
/-- to lock a dict that is kept -/
theorem ext_lock {d : Addr} {o : Obj} {kvs : List (Key × V)} (h : c.H d = some (.dK kvs)) (n : ¬ live c.hd c.ι c.S d) : Ext c ⟨c.hd, c.ι, c.S, upd c.H d (.frz o (.dK kvs))⟩ := by
  refine ⟨⟨fun a ob e nl => ⟨?_, nl⟩⟩, List.prefix_refl _, fun a ha => upd_ne fun z => n (.inl (z ▸ ha)), rfl⟩
  by_cases hz : a = d
  · subst hz
    rw [h] at e
    cases e
    exact .inr ⟨o, upd_same⟩
  · exact kept.of_eq ((upd_ne hz).trans e)
theorem ok_lock (ok : OkC K c) {d : Addr} {o : Obj} {kvs : List (Key × V)} (h : c.H d = some (.dK kvs)) (n : ¬ live c.hd c.ι c.S d) : OkC K ⟨c.hd, c.ι, c.S, upd c.H d (.frz o (.dK kvs))⟩ :=
  ⟨fun a ha => ⟨by obtain ⟨ob, q⟩ := (ok.hid a ha).1; exact ⟨ob, (upd_ne (fun z : a = d => n (.inl (by rw [← z]; exact ha)))).trans q⟩, (ok.hid a ha).2⟩, ok.len, ok.nodup, fun m cl e => by
    obtain ⟨a, h1, h2⟩ := ok.cell m cl e
    refine ⟨a, h1, h2.ext (ext_lock h n).toKeep fun mu => ?_⟩
    exact upd_ne (fun z : a = d => n (.inr ⟨m, cl, by rw [← z]; exact h1, e, mu⟩))⟩
theorem kV_rep (k : Key) : Rep K c (kV k) (kD k) := by
  cases k with
  | inl i => exact .int i
  | inr x => exact .str x
theorem repK_get : ∀ {kvs : List (Key × V)} {ds : List (D × D)}, RepK K c kvs ds → ds.map Prod.fst = kvs.map fun kv => kD kv.1
  | _, _, .nil => rfl
  | _, _, .cons h t => by simp [repK_get t]
theorem it_keys {d : Addr} {o : Obj} {kvs : List (Key × V)} {ds : List (D × D)} (h : c.H d = some (.frz o (.dK kvs))) (n : ¬ live c.hd c.ι c.S d) (r : RepK K c kvs ds) : ItOk K c (Itk d o kvs) (ds.map Prod.fst) := by
  have hl : (ds.map Prod.fst).length = kvs.length := by rw [repK_get r, List.length_map]
  refine ⟨_, _, by rw [hl]; exact walk_keys, fun c1 k _ => (k.keep _ _ h n).1, fun i x H2 c1 hlt k ok y => ?_⟩
  obtain ⟨rfl, kk, v, hk, rfl⟩ := y
  refine ⟨kD kk, ?_, Ext.refl _, ok, kV_rep kk⟩
  rw [repK_get r, List.getElem?_map, hk]
  rfl
end
/-- the keys of a dict: it stays as it is from then on */ -/
def itKeys (u : U) (S : Sto) : Rs (List D) := match u with
  | .d (.dict ((k, v) :: kvs)) => (match k with
    | .tuple _ => .bad
    | _ => .ok (((k, v) :: kvs).map Prod.fst) S)
  | .d (.dict []) => .ok [] S
  | _ => .bad
def dItK (f : DE) : DI := fun ρ S => (f ρ S).bind itKeys
theorem id_keys {X : Cx} {E : EXW} {e tg : Expr} {f : DE} (he : PE X e (tD X.K E f)) : PI X tg e (tI X.K E (dItK f)) := (pi_keys (pe_frz he)).dimp fun σ H R ⟨hd, ι, S, ρ, at_, h⟩ => by
  have h : PostG (fun c J ds => ItOk X.K c J ds) X.K E ⟨hd, ι, S, H⟩ R ((f ρ S).bind itKeys) := h
  refine tD_stepG (c := ⟨hd, ι, S, H⟩) at_ h fun u v c1 e1 a1 r1 h1 => ?_
  have key : ∀ {ds : List (D × D)} {d : Addr} {kvs : List (Key × V)}, v = .ref d → Rd c1.H d (.dK kvs) → ¬ live c1.hd c1.ι c1.S d → RepK X.K c1 kvs ds → PostG (fun c J ds => ItOk X.K c J ds) X.K E c1 R (.ok (ds.map Prod.fst) c1.S) →
      ∃ d u, v = .ref d ∧ ((∃ o, c1.H d = some (.frz o u) ∧ ∃ d o, v = .ref d ∧ ((∃ kvs, c1.H d = some (.frz o (.dK kvs)) ∧ R (Itk d o kvs) c1.H) ∨ ∃ kvs, c1.H d = some (.frz o (.dT kvs)) ∧ R (Itkt d o kvs) c1.H)) ∨
        (c1.H d = some u ∧ Mut (some u) ∧ ∀ o, ∃ d' o', v = .ref d' ∧ ((∃ kvs, (upd c1.H d (.frz o u)) d' = some (.frz o' (.dK kvs)) ∧ R (Itk d' o' kvs) (upd c1.H d (.frz o u))) ∨ ∃ kvs, (upd c1.H d (.frz o u)) d' = some (.frz o' (.dT kvs)) ∧ R (Itkt d' o' kvs) (upd c1.H d (.frz o u))))) := by
    intro ds d kvs ev hr hn rk hp
    refine ⟨d, .dK kvs, ev, ?_⟩
    rcases hr with hr | ⟨o, hr⟩
    · refine .inr ⟨hr, trivial, fun o => ⟨d, o, ev, .inl ⟨kvs, upd_same, ?_⟩⟩⟩
      have e2 : Ext c1 ⟨c1.hd, c1.ι, c1.S, upd c1.H d (.frz o (.dK kvs))⟩ := ext_lock hr hn
      have o2 : OkC X.K ⟨c1.hd, c1.ι, c1.S, upd c1.H d (.frz o (.dK kvs))⟩ := ok_lock a1.ok hr hn
      exact hp _ c1.ι _ e2 o2 (it_keys (c := ⟨c1.hd, c1.ι, c1.S, upd c1.H d (.frz o (.dK kvs))⟩) upd_same hn (RepK.ext e2.toKeep rk))
    · exact .inl ⟨o, hr, d, o, ev, .inl ⟨kvs, hr, hp _ c1.ι c1.H (Ext.refl _) a1.ok (it_keys hr hn rk)⟩⟩
  unfold itKeys at h1
  split at h1
  · rename_i k v' kvs
    split at h1
    · exact h1.elim
    · rename_i hnt
      cases r1 with
      | dK hr hn rk => exact key rfl hr hn rk h1
      | dT hr hn hne rk =>
        cases rk with
        | cons a b => exact (hnt _ rfl).elim
  · cases r1 with
    | dK hr hn rk => exact key rfl hr hn rk h1
    | dT hr hn hne rk =>
      cases rk
      exact (hne rfl).elim
  · exact h1.elim
end DL
namespace DL
open PySem PySem.Spec PyProof.Rows L2
def eqKey : D → D → Bool
  | .int i, .int j => decide (i = j)
  | .str x, .str y => decide (x = y)
  | _, _ => false
def getK (kvs : List (D × D)) (k : D) : Option D := (kvs.find? fun kv => eqKey kv.1 k).map (·.2)
section
variable {K : PySem.W.Frag} {c : Cfg}
theorem eqKey_kD (k k' : Key) : eqKey (kD k) (kD k') = decide (k = k') := by
  cases k <;> cases k' <;> simp [eqKey, kD]
theorem getK_rep {k : Key} : ∀ {kvs : List (Key × V)} {ds : List (D × D)} {x : D}, RepK K c kvs ds → getK ds (kD k) = some x → ∃ v, valV kvs k = some v ∧ Rep K c v x
  | _, _, x, .nil, h => by cases h
  | _, _, x, .cons (k := k1) (v := v1) (d := d1) (vs := vs) (ds := ds) r t, h => by
    unfold getK at h
    rw [List.find?_cons, eqKey_kD] at h
    by_cases e : k1 = k
    · subst e
      simp at h
      subst h
      exact ⟨v1, by simp [valV], r⟩
    · simp only [e, decide_false] at h
      obtain ⟨v, h1, h2⟩ := getK_rep (k := k) t h
      refine ⟨v, ?_, h2⟩
      unfold valV at h1 ⊢
      rw [List.find?_cons]
      simpa [e] using h1
theorem getK_T {k : Key} : ∀ {kvs : List (List Key × V)} {ds : List (D × D)}, RepT K c kvs ds → getK ds (kD k) = none
  | _, _, .nil => rfl
  | _, _, .cons (k := k1) r t => by
    unfold getK
    rw [List.find?_cons]
    have : eqKey (.tuple (k1.map kD)) (kD k) = false := by cases k <;> rfl
    simp only [this]
    exact getK_T t
/-- d[k] of a dict that is kept, k a number or a text -/
def getD' : Op2 := fun u w S => match u, w with
  | .d (.dict kvs), .d k => (match keyOf k, getK kvs k with
    | some _, some x => .ok (.d x) S
    | _, _ => .bad)
  | _, _ => .bad
theorem keyOf_kD' {d : D} {k : Key} (h : keyOf d = some k) : d = kD k := by
  cases d <;> simp [keyOf] at h <;> subst h <;> rfl
theorem kV_of {v : V} {k : Key} (r : Rep K c v (kD k)) : v = kV k := by
  cases k with
  | inl i => cases r; rfl
  | inr x => cases r; rfl
theorem lk_get {E : EXW} : Lk2 K E (fun x y H Q => ∃ a v, x = .ref a ∧ DGet H a y (some v) ∧ Q v H) getD' := by
  intro c x y u w Q o rx ry h
  unfold getD' at h
  split at h
  · rename_i kvs k
    split at h
    · rename_i kk x' e1 e2
      have ek := keyOf_kD' e1
      subst ek
      have ey := kV_of ry
      cases rx with
      | dK hr hn rk =>
        obtain ⟨v, h1, h2⟩ := getK_rep rk e2
        exact ⟨_, v, rfl, .inl ⟨_, kk, hr, ey, h1.symm⟩, Post.val h o h2⟩
      | dT hr hn hne rk =>
        rw [getK_T rk] at e2
        cases e2
    · exact h.elim
  · exact h.elim
end
theorem _root_.L2.PE.por {X : Cx} {e : Expr} {t t' : TE} (h : PE X e t) (h' : PE X e t') : PE X e (fun σ H Q => t σ H Q ∨ t' σ H Q) := ⟨fun pins s σ H Q I q => by
  rcases q with q | q
  · exact h.run pins s σ H Q I q
  · exact h'.run pins s σ H Q I q⟩
/-- a[i], of a sequence or of a dict that is kept -/
def ixA : Op2 := fun u w S => match u with
  | .d (.dict kvs) => getD' (.d (.dict kvs)) w S
  | u => ixD u w S
theorem pd_ixA {X : Cx} {E : EXW} {a b : Expr} {f g : DE} {pos : Pos} (hu : X.A.units + 1 < cLine) (ha : PE X a (tD X.K E f)) (hb : PE X b (tD X.K E g)) (hs : PlainIx b := by exact fun _ _ => rfl) (hn : NoSl b := by exact fun _ _ => rfl) :
    PE X (.Subscript a b pos) (tD X.K E (dOp2 ixA f g)) := ((pe_ix ix_seq ha hb hs).por (pe_dget hu ha hb hn)).dimp fun σ H Q ⟨hd, ι, S, ρ, at_, h⟩ => by
  have h : Post X.K E ⟨hd, ι, S, H⟩ Q ((f ρ S).bind fun u S1 => (g ρ S1).bind fun w S2 => ixA u w S2) := h
  cases hf : f ρ S with
  | bad => rw [hf] at h; exact h.elim
  | ex n fs S1 => exact .inl (t_op2 lk_ix ⟨hd, ι, S, ρ, at_, by show Post X.K E ⟨hd, ι, S, H⟩ Q ((f ρ S).bind fun u S1 => (g ρ S1).bind fun w S2 => ixD u w S2); rw [hf] at h ⊢; exact h⟩)
  | ok u S1 =>
    rw [hf] at h
    by_cases hd2 : ∃ kvs, u = .d (.dict kvs)
    · obtain ⟨kvs, rfl⟩ := hd2
      have := t_op2 (K := X.K) (E := E) (f := f) (g := g) (σ := σ) (H := H) (Q := Q) lk_get ⟨hd, ι, S, ρ, at_, by
        show Post X.K E ⟨hd, ι, S, H⟩ Q ((f ρ S).bind fun u S1 => (g ρ S1).bind fun w S2 => getD' u w S2)
        rw [hf]
        exact h⟩
      exact .inr this
    · refine .inl (t_op2 lk_ix ⟨hd, ι, S, ρ, at_, ?_⟩)
      show Post X.K E ⟨hd, ι, S, H⟩ Q ((f ρ S).bind fun u S1 => (g ρ S1).bind fun w S2 => ixD u w S2)
      rw [hf]
      have e : ∀ w S2, ixA u w S2 = ixD u w S2 := by
        intro w S2
        unfold ixA
        split
        · exact (hd2 ⟨_, rfl⟩).elim
        · rfl
      simp only [Rs.bind, e] at h ⊢
      exact h
/-! k in d of a dict that is kept -/
def rInDict (neg : Bool) : R2 := fun y x H Q => ∃ a o, x = .ref a ∧ DGet H a y o ∧ Q (.bl (if neg = true then !o.isSome else o.isSome)) H
theorem op_inDict {X : Cx} (hu : X.A.units + 1 < cLine) : OpR X (compareOp .In) (rInDict false) := by
  intro pins s σ H y x iv u Q I ry rx h
  obtain ⟨a, o, rfl, g, q⟩ := h
  obtain rfl : u = Value.ref a := rx
  exact d_in hu I g ry fun s3 I3 => ⟨.bl o.isSome, H, I3, rfl, q⟩
theorem op_notInDict {X : Cx} (hu : X.A.units + 1 < cLine) : OpR X (compareOp .NotIn) (rInDict true) := by
  intro pins s σ H y x iv u Q I ry rx h
  obtain ⟨a, o, rfl, g, q⟩ := h
  obtain rfl : u = Value.ref a := rx
  exact d_notIn hu I g ry fun s3 I3 => ⟨.bl (!o.isSome), H, I3, rfl, q⟩
section
variable {K : PySem.W.Frag} {c : Cfg} {E : EXW}
theorem getK_none {k : Key} : ∀ {kvs : List (Key × V)} {ds : List (D × D)}, RepK K c kvs ds → (valV kvs k).isSome = (getK ds (kD k)).isSome
  | _, _, .nil => rfl
  | _, _, .cons (k := k1) (v := v1) (d := d1) (vs := vs) (ds := ds) r t => by
    have ih := getK_none (k := k) t
    unfold getK valV at ih ⊢
    rw [List.find?_cons, List.find?_cons, eqKey_kD]
    by_cases e : k1 = k
    · simp [e]
    · simpa [e] using ih
/-- in: of a text, a list, a tuple, or of a dict that is kept with numbers and texts as keys -/
def inA (neg : Bool) : Op2 := fun u w S => match u, w with
  | .d k, .d (.dict ((k0, v0) :: kvs)) => (match keyOf k, keyOf k0 with
    | some _, some _ => .ok (.d (.bool (if neg = true then !(getK ((k0, v0) :: kvs) k).isSome else (getK ((k0, v0) :: kvs) k).isSome))) S
    | _, _ => .bad)
  | u, w => inD neg u w S
theorem lk_inA {neg : Bool} : Lk2 K E (fun x y H Q => rInA K neg x y H Q ∨ rInDict neg x y H Q) (inA neg) := by
  intro c x y u w Q o rx ry h
  unfold inA at h
  split at h
  · rename_i k k0 v0 kvs
    split at h
    · rename_i kk kk0 e1 e2
      have ek := keyOf_kD' e1
      have ek0 := keyOf_kD' e2
      subst ek
      have ex := kV_of rx
      cases ry with
      | dK hr hn rk =>
        have h1 := getK_none (k := kk) rk
        rw [← h1] at h
        exact .inr ⟨_, valV _ kk, rfl, .inl ⟨_, kk, hr, ex, rfl⟩, Post.val h o (.bl _)⟩
      | dT hr hn hne rk =>
        cases rk with
        | cons a b => cases kk0 <;> cases ek0
    · exact h.elim
  · exact .inl (lk_in c x y _ _ Q o rx ry h)
end
theorem or_inA {X : Cx} (hu : X.A.units + 65 < cLine) : OpR X (compareOp .In) (fun x y H Q => rInA X.K false x y H Q ∨ rInDict false x y H Q) := (or_in hu).or (op_inDict (by omega))
theorem or_notInA {X : Cx} (hu : X.A.units + 65 < cLine) : OpR X (compareOp .NotIn) (fun x y H Q => rInA X.K true x y H Q ∨ rInDict true x y H Q) := (or_notIn hu).or (op_notInDict (by omega))
end DL
namespace DL
open PySem PySem.Spec PyProof.Rows L2
/-! ### dict comprehensions, keys that are numbers or texts -/
def dcL (tg : Tg) (own : List Nat) (tst : DT) (kx vx : DE) (ρ : Rho) : List D → List (Key × D) → Sto → Rs (List (Key × D))
  | [], acc, S => .ok acc S
  | d :: ds, acc, S => match tg d (wipeR ρ own) with
    | none => .bad
    | some ρ1 => (tst ρ1 S).bind fun b S1 => if b = true then (kx ρ1 S1).bind fun u S2 => (match u with
      | .d k => (match keyOf k with
        | some kk => (vx ρ1 S2).bind fun w S3 => (toD w S3).bind fun y S4 => dcL tg own tst kx vx ρ ds (putG acc kk y) S4
        | none => .bad)
      | _ => .bad) else dcL tg own tst kx vx ρ ds acc S1
def dDComp (it : DI) (tg : Tg) (own : List Nat) (tst : DT) (kx vx : DE) : DE := fun ρ S => (it ρ S).bind fun ds S1 => if ds.length ≤ 16777216 then (dcL tg own tst kx vx ρ ds [] S1).bind fun kvs S2 => .ok (.d (dictK kvs)) S2 else .bad
theorem dc_it {J : It} {n : Nat} {G : Hp → Prop} {Y : Nat → Hp → V → Hp → Prop} (w : Walk J n G Y) {g : TG} {tt : TT} {tk tv : TE} {vs : List Nat} {σ : L2.St} {H1 : Hp} {D : Addr} {Qd : Hp → Prop} (Pv : Nat → Hp → Prop) (h0 : Pv 0 (upd H1 D (.dK []))) (hG : ∀ i H, i ≤ n → Pv i H → G H)
    (hs : ∀ i x H H', i < n → Pv i H → Y i H x H' → g x (wipe σ vs) H' fun σ2 H2 => wipe σ2 vs = wipe σ vs ∧ tt σ2 H2 fun b H3 =>
      if b = true then tk σ2 H3 fun y H4 => tv σ2 H4 fun z H5 => ∃ kvs k, y = kV k ∧ H5 D = some (.dK kvs) ∧ kvs.length < sizeLine ∧ Pv (i + 1) (upd H5 D (.dK (putK kvs k z))) else Pv (i + 1) H3) (hd : ∀ H, Pv n H → Qd H) :
    ∃ W : Nat → Nat → Hp → Prop, (∃ m, W 0 m (upd H1 D (.dK []))) ∧ ∀ i m H, W i m H →
      (J.stop i H ∧ Qd H) ∨ (J.go i H ∧ ∃ Nx : Hp → Prop, (∀ H', Nx H' → ∃ m', m' < m ∧ W (i + 1) m' H') ∧ ∀ x H', J.yld i H x H' → g x (wipe σ vs) H' fun σ2 H2 => wipe σ2 vs = wipe σ vs ∧ tt σ2 H2 fun b H3 =>
        if b = true then tk σ2 H3 fun y H4 => tv σ2 H4 fun z H5 => ∃ kvs k, y = kV k ∧ H5 D = some (.dK kvs) ∧ kvs.length < sizeLine ∧ Nx (upd H5 D (.dK (putK kvs k z))) else Nx H3) := by
  refine ⟨fun i m H => m = n - i ∧ i ≤ n ∧ Pv i H, ⟨n, by simp, Nat.zero_le _, h0⟩, ?_⟩
  rintro i m H ⟨rfl, hi, p⟩
  have q := hG i H hi p
  by_cases hlt : i < n
  · refine .inr ⟨w.goes i H hlt q, Pv (i + 1), fun H' p' => ⟨n - (i + 1), by omega, rfl, hlt, p'⟩, fun x H' y => hs i x H H' hlt p (w.yields i H x H' hlt q y)⟩
  · have : i = n := by omega
    subst this
    exact .inl ⟨w.stops H q, hd H p⟩
section
variable {K : PySem.W.Frag}
theorem RepG.len {c : Cfg} : ∀ {vs : List (Key × V)} {ds : List (Key × D)}, RepG K c vs ds → vs.length = ds.length
  | _, _, .nil => rfl
  | _, _, .cons _ t => by simp [t.len]
theorem putG_len {β : Type} (kvs : List (Key × β)) (k : Key) (v : β) : (putG kvs k v).length ≤ kvs.length + 1 := by
  unfold putG
  split <;> simp
theorem t_dc {own : List (Str × Nat)} {it : DI} {sl : List Nat} {g : Tg} {tst : DT} {kx vx : DE} {σ : L2.St} {H : Hp} {Q : VK} (hsl : ∀ i, i ∈ sl → i ∈ own.map (·.2)) (h0 : tD K E0W (dDComp it g (own.map (·.2)) tst kx vx) σ H Q) :
    tDc (tI K E0W it) (tG K sl g) (tB K E0W tst) (tD K E0W kx) (tD K E0W vx) (own.map (·.2)) σ H Q := by
  obtain ⟨hd, ι, S, ρ, at_, h⟩ := h0
  have h : Post K E0W ⟨hd, ι, S, H⟩ Q ((it ρ S).bind fun ds S1 => if ds.length ≤ 16777216 then (dcL g (own.map (·.2)) tst kx vx ρ ds [] S1).bind fun kvs S2 => .ok (.d (dictK kvs)) S2 else .bad) := h
  refine ⟨hd, ι, S, ρ, at_, ?_⟩
  cases hf : it ρ S with
  | bad => rw [hf] at h; exact h.elim
  | ex n fs S1 => rw [hf] at h; exact h
  | ok ds S1 =>
    rw [hf] at h
    intro J ι1 H1 e1 o1 ok D hD
    have h1 : Post K E0W ⟨hd, ι1, S1, H1⟩ Q (if ds.length ≤ 16777216 then (dcL g (own.map (·.2)) tst kx vx ρ ds [] S1).bind fun kvs S2 => .ok (.d (dictK kvs)) S2 else .bad) := by
      have h : Post K E0W ⟨hd, ι, S, H⟩ Q (if ds.length ≤ 16777216 then (dcL g (own.map (·.2)) tst kx vx ρ ds [] S1).bind fun kvs S2 => .ok (.d (dictK kvs)) S2 else .bad) := h
      exact PostG.step h e1
    split at h1
    case isFalse => exact h1.elim
    rename_i hlen
    obtain ⟨G, Y, wk, hG, hY⟩ := ok.ex
    have at1 := at_.ext e1 o1
    refine dc_it wk (fun i H => ∃ ι2 S2 acc done, Mk ⟨hd, ι1, S1, H1⟩ D ⟨hd, ι2, S2, H⟩ ∧ OkC K (hide D ⟨hd, ι2, S2, H⟩) ∧ H D = some (.dK acc) ∧ RepG K (hide D ⟨hd, ι2, S2, H⟩) acc done ∧ done.length ≤ i ∧
      Post K E0W ⟨hd, ι1, S1, H1⟩ Q ((dcL g (own.map (·.2)) tst kx vx ρ (ds.drop i) done S2).bind fun kvs S3 => .ok (.d (dictK kvs)) S3)) ?_ ?_ ?_ ?_
    · exact ⟨ι1, S1, [], [], ⟨keep_begin hD, List.prefix_refl _, fun a ha => upd_ne (o1.hid_ne hD ha), rfl⟩, ok_begin o1 hD, upd_same, .nil, Nat.zero_le _, h1⟩
    · rintro i H _ ⟨ι2, S2, acc, done, m, o2, _⟩
      exact hG (hide D ⟨hd, ι2, S2, H⟩) m.keep o2
    · rintro i x H2 H3 hi ⟨ι2, S2, acc, done, m, o2, hacc, racc, hdn, hp⟩ y
      obtain ⟨d, hdx, e3, o3, r3⟩ := hY i x H3 (hide D ⟨hd, ι2, S2, H2⟩) hi m.keep o2 y
      have ed : ds.drop i = d :: ds.drop (i + 1) := by
        obtain ⟨hlt, eq⟩ := List.getElem?_eq_some_iff.mp hdx
        rw [List.drop_eq_getElem_cons hlt, eq]
      rw [ed] at hp
      have m3 := m.go (ι' := ι2) (S' := S2) (H' := H3) e3
      have hacc3 : H3 D = some (.dK acc) := (e3.hid D List.mem_cons_self).trans hacc
      unfold dcL at hp
      cases hgd : g d (wipeR ρ (own.map (·.2))) with
      | none => rw [hgd] at hp; exact hp.elim
      | some ρ3 =>
        rw [hgd] at hp
        refine ⟨D :: hd, ι2, S2, wipeR ρ (own.map (·.2)), d, ρ3, ⟨o3, slots_wipe at1.sl m3.keep m3.pre _, by rw [wipeR_len, wipe_length]; exact at_.len⟩, r3, hgd, fun σ4 a4 k4 l4 => ⟨?_, ?_⟩⟩
        · rw [wipe_eq l4 fun j hj => k4 j fun z => hj (hsl j z), wipe_wipe]
        refine ⟨D :: hd, ι2, S2, ρ3, a4, ?_⟩
        cases ht : tst ρ3 S2 with
        | bad => simp only [ht, Rs.bind] at hp; exact hp.elim
        | ex n fs S' => simp only [ht, Rs.bind] at hp; exact hp.elim
        | ok bb S3 =>
          simp only [ht] at hp
          intro b' ι4 H4 e4 o4 hb
          subst hb
          have m4 := m3.go (ι' := ι4) (S' := S3) (H' := H4) e4
          have hacc4 : H4 D = some (.dK acc) := (e4.hid D List.mem_cons_self).trans hacc3
          cases b' with
          | false =>
            exact ⟨ι4, S3, acc, done, m4, o4, hacc4, RepG.ext (e3.trans e4).toKeep racc, by omega, hp⟩
          | true =>
            rw [if_pos rfl]
            refine ⟨D :: hd, ι4, S3, ρ3, a4.ext e4 o4, ?_⟩
            cases hel : kx ρ3 S3 with
            | bad => simp only [hel, Rs.bind, if_true] at hp; exact hp.elim
            | ex n fs S' => simp only [hel, Rs.bind, if_true] at hp; exact hp.elim
            | ok u S4 =>
              intro v ι5 H5 e5 o5 r5
              have m5 := m4.go (ι' := ι5) (S' := S4) (H' := H5) e5
              have hacc5 : H5 D = some (.dK acc) := (e5.hid D List.mem_cons_self).trans hacc4
              simp only [Rs.bind, if_true, hel] at hp
              refine ⟨D :: hd, ι5, S4, ρ3, (a4.ext e4 o4).ext e5 o5, ?_⟩
              cases u with
              | r n => exact hp.elim
              | s ns => exact hp.elim
              | d kd =>
                cases hk : keyOf kd with
                | none => simp only [hk] at hp; exact hp.elim
                | some kk =>
                  simp only [hk] at hp
                  have ek := keyOf_kD' hk
                  subst ek
                  have ev := kV_of r5
                  cases hvx : vx ρ3 S4 with
                  | bad => simp only [hvx] at hp; exact hp.elim
                  | ex n fs S' => simp only [hvx] at hp; exact hp.elim
                  | ok w6 S6 =>
                    simp only [hvx] at hp
                    intro z ι6 H6 e6 o6 r6
                    cases htd : toD w6 S6 with
                    | bad => simp only [htd] at hp; exact hp.elim
                    | ex n fs S' => exact (toD_noex htd).elim
                    | ok yd S7 =>
                      simp only [htd] at hp
                      obtain ⟨e7, o7, r7⟩ := toD_go (c := ⟨D :: hd, ι6, S6, H6⟩) o6 r6 htd
                      have m6 := m5.go (ι' := ι6) (S' := S6) (H' := H6) e6
                      have m7 := m6.go (ι' := ι6) (S' := S7) (H' := H6) e7
                      have hacc6 : H6 D = some (.dK acc) := (e6.hid D List.mem_cons_self).trans hacc5
                      have hrep : RepG K (hide D ⟨hd, ι6, S7, H6⟩) acc done := RepG.ext (((e3.trans e4).trans (e5.trans e6)).trans e7).toKeep racc
                      have hal := hrep.len
                      have hpl := putG_len done kk yd
                      refine ⟨acc, kk, ev, hacc6, by rw [sizeLine_eq]; omega, ι6, S7, putK acc kk z, putG done kk yd, ⟨m7.keep.trans (keep_made (c := ⟨hd, ι6, S7, H6⟩)), m7.pre, fun a ha => ?_, m7.same⟩, ok_made (c := ⟨hd, ι6, S7, H6⟩) o7, upd_same, RepG.ext (keep_made (c := ⟨hd, ι6, S7, H6⟩)) (hrep.put r7), by omega, hp⟩
                      show upd H6 D _ a = _
                      rw [upd_ne (o1.hid_ne hD ha)]
                      exact m7.hid a ha
    · rintro H2 ⟨ι2, S2, acc, done, m, o2, hacc, racc, hdn, hp⟩
      rw [List.drop_length] at hp
      have hp : Post K E0W ⟨hd, ι1, S1, H1⟩ Q (.ok (.d (dictK done)) S2) := hp
      refine hp (.ref D) ι2 H2 m.ext (ok_unhide o2) ?_
      refine .dK (.inl hacc) ?_ (RepG.ext keep_unhide racc).repK
      rintro (z | ⟨n, cl, z1, z2, z3⟩)
      · obtain ⟨ob, q⟩ := (o1.hid D z).1
        cases hD.symm.trans q
      · exact (o2.hid D List.mem_cons_self).2 (List.mem_of_getElem? z1)
theorem pd_dc {X : Cx} {kx vx tg iter : Expr} {ifs : List Expr} {scope : Scope} {own : List (Str × Nat)} {pos : Pos} {it : DI} {sl : List Nat} {g : Tg} {tst : DT} {ek ev : DE} (hc : X.calm = true) (hN : X.N.Nodup) (hi : PI X tg iter (tI X.K E0W it)) (ok : BlkOk X.N X.env.scope scope own) (hsl : ∀ i, i ∈ sl → i ∈ own.map (·.2))
    (hg : ∀ (s : Shared) (H : Hp) (C : Addr) (cl : List (Str × Addr)) (fp : List Addr), PG (X.blk s H scope (compEnvC scope cl C X.env) fp) tg (tG X.K sl g)) (ht : ∀ (s : Shared) (H : Hp) (C : Addr) (cl : List (Str × Addr)) (fp : List Addr), PTs (X.blk s H scope (compEnvC scope cl C X.env) fp) ifs (tB X.K E0W tst))
    (hk : ∀ (s : Shared) (H : Hp) (C : Addr) (cl : List (Str × Addr)) (fp : List Addr), PE (X.blk s H scope (compEnvC scope cl C X.env) fp) kx (tD X.K E0W ek))
    (he : ∀ (s : Shared) (H : Hp) (C : Addr) (cl : List (Str × Addr)) (fp : List Addr), PE (X.blk s H scope (compEnvC scope cl C X.env) fp) vx (tD X.K E0W ev)) (hs : ∀ x, foldedSetIterable iter X.env x = pure x := by intro _; rfl) :
    PE X (.DictComp kx vx [⟨tg, iter, ifs, 0⟩] scope pos) (tD X.K E0W (dDComp it g (own.map (·.2)) tst ek ev)) := (pe_dc hc hN hi ok hg ht hk he hs).dimp fun _ _ _ h => t_dc hsl h
end
end DL
namespace DL
open PySem PySem.Spec PyProof.Rows L2
/-! ### list comprehensions of two clauses -/
def comp2L (tg : Tg) (own : List Nat) (tst : DT) (it1 : DI) (tg1 : Tg) (own1 : List Nat) (tst1 : DT) (el : DE) (ρ : Rho) : List D → List D → Sto → Rs (List D)
  | [], acc, S => .ok acc S
  | d :: ds, acc, S => match tg d (wipeR ρ own) with
    | none => .bad
    | some ρ1 => (tst ρ1 S).bind fun b S1 => if b = true then (it1 ρ1 S1).bind fun ds1 S2 => if acc.length + ds1.length ≤ 16777216 then (compL tg1 own1 tst1 el ρ1 ds1 S2).bind fun ys S3 => comp2L tg own tst it1 tg1 own1 tst1 el ρ ds (acc ++ ys) S3 else .bad
      else comp2L tg own tst it1 tg1 own1 tst1 el ρ ds acc S1
def dComp2 (it : DI) (tg : Tg) (own : List Nat) (tst : DT) (it1 : DI) (tg1 : Tg) (own1 : List Nat) (tst1 : DT) (el : DE) : DE := fun ρ S => (it ρ S).bind fun ds S1 => (comp2L tg own tst it1 tg1 own1 tst1 el ρ ds [] S1).bind fun ys S2 => .ok (.d (.list ys)) S2
/-- the walk of the clause within -/
theorem lc2_in {J : It} {n : Nat} {G : Hp → Prop} {Y : Nat → Hp → V → Hp → Prop} (w : Walk J n G Y) {g : TG} {tt : TT} {te : TE} {vs : List Nat} {σ : L2.St} {H1 : Hp} {D : Addr} {Nd : Hp → Prop} (Pv : Nat → Hp → Prop) (h0 : Pv 0 H1) (hG : ∀ i H, i ≤ n → Pv i H → G H)
    (hs : ∀ i x H H', i < n → Pv i H → Y i H x H' → g x (wipe σ vs) H' fun σ2 H2 => wipe σ2 vs = wipe σ vs ∧ tt σ2 H2 fun b H3 =>
      if b = true then te σ2 H3 fun y H4 => ∃ acc, H4 D = some (.lst acc) ∧ acc.length < sizeLine ∧ Pv (i + 1) (upd H4 D (.lst (acc ++ [y]))) else Pv (i + 1) H3) (hd : ∀ H, Pv n H → Nd H) :
    ∃ W : Nat → Nat → Hp → Prop, (∃ m, W 0 m H1) ∧ ∀ i m H, W i m H →
      (J.stop i H ∧ Nd H) ∨ (J.go i H ∧ ∃ Nx : Hp → Prop, (∀ H', Nx H' → ∃ m', m' < m ∧ W (i + 1) m' H') ∧ ∀ x H', J.yld i H x H' → g x (wipe σ vs) H' fun σ2 H2 => wipe σ2 vs = wipe σ vs ∧ tt σ2 H2 fun b H3 =>
        if b = true then te σ2 H3 fun y H4 => ∃ acc, H4 D = some (.lst acc) ∧ acc.length < sizeLine ∧ Nx (upd H4 D (.lst (acc ++ [y]))) else Nx H3) := by
  refine ⟨fun i m H => m = n - i ∧ i ≤ n ∧ Pv i H, ⟨n, by simp, Nat.zero_le _, h0⟩, ?_⟩
  rintro i m H ⟨rfl, hi, p⟩
  have q := hG i H hi p
  by_cases hlt : i < n
  · refine .inr ⟨w.goes i H hlt q, Pv (i + 1), fun H' p' => ⟨n - (i + 1), by omega, rfl, hlt, p'⟩, fun x H' y => hs i x H H' hlt p (w.yields i H x H' hlt q y)⟩
  · have e : i = n := by omega
    subst e
    exact .inl ⟨w.stops H q, hd H p⟩
theorem lc2_it {J : It} {n : Nat} {G : Hp → Prop} {Y : Nat → Hp → V → Hp → Prop} (w : Walk J n G Y) {g : TG} {tt : TT} {wi1 : TI} {R : (Hp → Prop) → L2.St → It → Hp → Prop} {vs : List Nat} {σ : L2.St} {H1 : Hp} {D : Addr} {Qd : Hp → Prop} (Pv : Nat → Hp → Prop) (h0 : Pv 0 (upd H1 D (.lst []))) (hG : ∀ i H, i ≤ n → Pv i H → G H)
    (hs : ∀ i x H H', i < n → Pv i H → Y i H x H' → g x (wipe σ vs) H' fun σ2 H2 => wipe σ2 vs = wipe σ vs ∧ tt σ2 H2 fun b H3 =>
      if b = true then wi1 σ2 H3 (fun J1 H4 => R (Pv (i + 1)) σ2 J1 H4) else Pv (i + 1) H3) (hd : ∀ H, Pv n H → Qd H) :
    ∃ W : Nat → Nat → Hp → Prop, (∃ m, W 0 m (upd H1 D (.lst []))) ∧ ∀ i m H, W i m H →
      (J.stop i H ∧ Qd H) ∨ (J.go i H ∧ ∃ Nx : Hp → Prop, (∀ H', Nx H' → ∃ m', m' < m ∧ W (i + 1) m' H') ∧ ∀ x H', J.yld i H x H' → g x (wipe σ vs) H' fun σ2 H2 => wipe σ2 vs = wipe σ vs ∧ tt σ2 H2 fun b H3 =>
        if b = true then wi1 σ2 H3 (fun J1 H4 => R Nx σ2 J1 H4) else Nx H3) := by
  refine ⟨fun i m H => m = n - i ∧ i ≤ n ∧ Pv i H, ⟨n, by simp, Nat.zero_le _, h0⟩, ?_⟩
  rintro i m H ⟨rfl, hi, p⟩
  have q := hG i H hi p
  by_cases hlt : i < n
  · refine .inr ⟨w.goes i H hlt q, Pv (i + 1), fun H' p' => ⟨n - (i + 1), by omega, rfl, hlt, p'⟩, fun x H' y => hs i x H H' hlt p (w.yields i H x H' hlt q y)⟩
  · have e : i = n := by omega
    subst e
    exact .inl ⟨w.stops H q, hd H p⟩
section
variable {K : PySem.W.Frag}
theorem slots_wipe' {c c' : Cfg} {σ : L2.St} {ρ : Rho} (h : Slots K c σ ρ) (k : Keep c c') (p : c.ι <+: c'.ι) (vs : List Nat) : Slots K c' (wipe σ vs) (wipeR ρ vs) := slots_wipe h k p vs
theorem t_lc2 {own : List (Str × Nat)} {vs1 : List Nat} {it it1 : DI} {sl sl1 : List Nat} {g g1 : Tg} {tst tst1 : DT} {el : DE} {σ : L2.St} {H : Hp} {Q : VK} (hsl : ∀ i, i ∈ sl → i ∈ own.map (·.2)) (hsl1 : ∀ i, i ∈ sl1 → i ∈ vs1) (h0 : tD K E0W (dComp2 it g (own.map (·.2)) tst it1 g1 vs1 tst1 el) σ H Q) :
    tLc2 (tI K E0W it) (tG K sl g) (tB K E0W tst) (tI K E0W it1) (tG K sl1 g1) (tB K E0W tst1) (tD K E0W el) (own.map (·.2)) vs1 σ H Q := by
  obtain ⟨hd, ι, S, ρ, at_, h⟩ := h0
  have h : Post K E0W ⟨hd, ι, S, H⟩ Q ((it ρ S).bind fun ds S1 => (comp2L g (own.map (·.2)) tst it1 g1 vs1 tst1 el ρ ds [] S1).bind fun ys S2 => .ok (.d (.list ys)) S2) := h
  refine ⟨hd, ι, S, ρ, at_, ?_⟩
  cases hf : it ρ S with
  | bad => rw [hf] at h; exact h.elim
  | ex n fs S1 => rw [hf] at h; exact h
  | ok ds S1 =>
    rw [hf] at h
    intro J ι1 H1 e1 o1 ok D hD
    have h1 : Post K E0W ⟨hd, ι1, S1, H1⟩ Q ((comp2L g (own.map (·.2)) tst it1 g1 vs1 tst1 el ρ ds [] S1).bind fun ys S2 => .ok (.d (.list ys)) S2) := by
      have h : Post K E0W ⟨hd, ι, S, H⟩ Q ((comp2L g (own.map (·.2)) tst it1 g1 vs1 tst1 el ρ ds [] S1).bind fun ys S2 => .ok (.d (.list ys)) S2) := h
      exact PostG.step h e1
    obtain ⟨G, Y, wk, hG, hY⟩ := ok.ex
    have at1 := at_.ext e1 o1
    refine lc2_it wk (R := fun Nx σ2 J1 H4 => ∃ W1 : Nat → Nat → Hp → Prop, (∃ m, W1 0 m H4) ∧ ∀ j k H, W1 j k H →
      (J1.stop j H ∧ Nx H) ∨ (J1.go j H ∧ ∃ Nx1 : Hp → Prop, (∀ H', Nx1 H' → ∃ k', k' < k ∧ W1 (j + 1) k' H') ∧ ∀ x H', J1.yld j H x H' → tG K sl1 g1 x (wipe σ2 vs1) H' fun σ3 H5 => wipe σ3 vs1 = wipe σ2 vs1 ∧ tB K E0W tst1 σ3 H5 fun b H6 =>
        if b = true then tD K E0W el σ3 H6 fun y H7 => ∃ acc, H7 D = some (.lst acc) ∧ acc.length < sizeLine ∧ Nx1 (upd H7 D (.lst (acc ++ [y]))) else Nx1 H6))
      (fun i H => ∃ ι2 S2 acc done, Mk ⟨hd, ι1, S1, H1⟩ D ⟨hd, ι2, S2, H⟩ ∧ OkC K (hide D ⟨hd, ι2, S2, H⟩) ∧ H D = some (.lst acc) ∧ RepA K (hide D ⟨hd, ι2, S2, H⟩) acc done ∧
      Post K E0W ⟨hd, ι1, S1, H1⟩ Q ((comp2L g (own.map (·.2)) tst it1 g1 vs1 tst1 el ρ (ds.drop i) done S2).bind fun ys S3 => .ok (.d (.list ys)) S3)) ?_ ?_ ?_ ?_
    · exact ⟨ι1, S1, [], [], ⟨keep_begin hD, List.prefix_refl _, fun a ha => upd_ne (o1.hid_ne hD ha), rfl⟩, ok_begin o1 hD, upd_same, .nil, h1⟩
    · rintro i H _ ⟨ι2, S2, acc, done, m, o2, _⟩
      exact hG (hide D ⟨hd, ι2, S2, H⟩) m.keep o2
    · rintro i x H2 H3 hi ⟨ι2, S2, acc, done, m, o2, hacc, racc, hp⟩ y
      obtain ⟨d, hdx, e3, o3, r3⟩ := hY i x H3 (hide D ⟨hd, ι2, S2, H2⟩) hi m.keep o2 y
      have ed : ds.drop i = d :: ds.drop (i + 1) := by
        obtain ⟨hlt, eq⟩ := List.getElem?_eq_some_iff.mp hdx
        rw [List.drop_eq_getElem_cons hlt, eq]
      rw [ed] at hp
      have m3 := m.go (ι' := ι2) (S' := S2) (H' := H3) e3
      have hacc3 : H3 D = some (.lst acc) := (e3.hid D List.mem_cons_self).trans hacc
      unfold comp2L at hp
      cases hgd : g d (wipeR ρ (own.map (·.2))) with
      | none => rw [hgd] at hp; exact hp.elim
      | some ρ3 =>
        rw [hgd] at hp
        simp only [] at hp
        refine ⟨D :: hd, ι2, S2, wipeR ρ (own.map (·.2)), d, ρ3, ⟨o3, slots_wipe at1.sl m3.keep m3.pre _, by rw [wipeR_len, wipe_length]; exact at_.len⟩, r3, hgd, fun σ4 a4 k4 l4 => ⟨?_, ?_⟩⟩
        · rw [wipe_eq l4 fun j hj => k4 j fun z => hj (hsl j z), wipe_wipe]
        refine ⟨D :: hd, ι2, S2, ρ3, a4, ?_⟩
        cases ht : tst ρ3 S2 with
        | bad => simp only [ht, Rs.bind] at hp; exact hp.elim
        | ex n fs S' => simp only [ht, Rs.bind] at hp; exact hp.elim
        | ok bb S3 =>
          simp only [ht] at hp
          intro b' ι4 H4 e4 o4 hb
          subst hb
          have m4 := m3.go (ι' := ι4) (S' := S3) (H' := H4) e4
          have hacc4 : H4 D = some (.lst acc) := (e4.hid D List.mem_cons_self).trans hacc3
          cases b' with
          | false =>
            exact ⟨ι4, S3, acc, done, m4, o4, hacc4, RepA.ext (e3.trans e4).toKeep racc, hp⟩
          | true =>
            rw [if_pos rfl]
            refine ⟨D :: hd, ι4, S3, ρ3, a4.ext e4 o4, ?_⟩
            cases hel : it1 ρ3 S3 with
            | bad => simp only [hel, Rs.bind, if_true] at hp; exact hp.elim
            | ex n fs S' => simp only [hel, Rs.bind, if_true] at hp; exact hp.elim
            | ok ds1 S4 =>
              intro J5 ι5 H5 e5 o5 ok5
              have m5 := m4.go (ι' := ι5) (S' := S4) (H' := H5) e5
              have hacc5 : H5 D = some (.lst acc) := (e5.hid D List.mem_cons_self).trans hacc4
              have a5 := (a4.ext e4 o4).ext e5 o5
              have rep5 : RepA K (hide D ⟨hd, ι5, S4, H5⟩) acc done := RepA.ext ((e3.trans e4).trans e5).toKeep racc
              simp only [Rs.bind, if_true, hel] at hp
              by_cases hlen : done.length + ds1.length ≤ 16777216
              case neg => rw [if_neg hlen] at hp; exact hp.elim
              rw [if_pos hlen] at hp
              obtain ⟨G5, Y5, wk5, hG5, hY5⟩ := ok5.ex
              refine lc2_in wk5 (fun j H => ∃ ι6 S6 acc6 done6, Mk ⟨hd, ι1, S1, H1⟩ D ⟨hd, ι6, S6, H⟩ ∧ Keep (hide D ⟨hd, ι5, S4, H5⟩) (hide D ⟨hd, ι6, S6, H⟩) ∧ ι5 <+: ι6 ∧ OkC K (hide D ⟨hd, ι6, S6, H⟩) ∧ H D = some (.lst acc6) ∧ RepA K (hide D ⟨hd, ι6, S6, H⟩) acc6 done6 ∧ done6.length ≤ done.length + j ∧
                Post K E0W ⟨hd, ι1, S1, H1⟩ Q (((compL g1 vs1 tst1 el ρ3 (ds1.drop j) S6).bind fun ys S3 => comp2L g (own.map (·.2)) tst it1 g1 vs1 tst1 el ρ (ds.drop (i + 1)) (done6 ++ ys) S3).bind fun ys S3 => .ok (.d (.list ys)) S3)) ?_ ?_ ?_ ?_
              · exact ⟨ι5, S4, acc, done, m5, Keep.refl _, List.prefix_refl _, o5, hacc5, rep5, by omega, hp⟩
              · rintro j H _ ⟨ι6, S6, acc6, done6, m6, k6, p6, o6, _⟩
                exact hG5 (hide D ⟨hd, ι6, S6, H⟩) k6 o6
              · rintro j x6 H6 H7 hj ⟨ι6, S6, acc6, done6, m6, k6, p6, o6, hacc6, racc6, hdn6, hp6⟩ y6
                obtain ⟨d7, hd7, e7, o7, r7⟩ := hY5 j x6 H7 (hide D ⟨hd, ι6, S6, H6⟩) hj k6 o6 y6
                have ed7 : ds1.drop j = d7 :: ds1.drop (j + 1) := by
                  obtain ⟨hlt, eq⟩ := List.getElem?_eq_some_iff.mp hd7
                  rw [List.drop_eq_getElem_cons hlt, eq]
                have hj1 : j < ds1.length := (List.getElem?_eq_some_iff.mp hd7).1
                rw [ed7] at hp6
                have m7 := m6.go (ι' := ι6) (S' := S6) (H' := H7) e7
                have k7 : Keep (hide D ⟨hd, ι5, S4, H5⟩) (hide D ⟨hd, ι6, S6, H7⟩) := k6.trans e7.toKeep
                have hacc7 : H7 D = some (.lst acc6) := (e7.hid D List.mem_cons_self).trans hacc6
                unfold compL at hp6
                cases hgd7 : g1 d7 (wipeR ρ3 vs1) with
                | none => rw [hgd7] at hp6; exact hp6.elim
                | some ρ7 =>
                  rw [hgd7] at hp6
                  simp only [] at hp6
                  refine ⟨D :: hd, ι6, S6, wipeR ρ3 vs1, d7, ρ7, ⟨o7, slots_wipe a5.sl k7 p6 _, by rw [wipeR_len, wipe_length]; exact a5.len⟩, r7, hgd7, fun σ8 a8 k8 l8 => ⟨?_, ?_⟩⟩
                  · rw [wipe_eq l8 fun j hj => k8 j fun z => hj (hsl1 j z), wipe_wipe]
                  refine ⟨D :: hd, ι6, S6, ρ7, a8, ?_⟩
                  cases ht8 : tst1 ρ7 S6 with
                  | bad => simp only [ht8, Rs.bind] at hp6; exact hp6.elim
                  | ex n fs S' => simp only [ht8, Rs.bind] at hp6; exact hp6.elim
                  | ok bb8 S8 =>
                    simp only [ht8] at hp6
                    intro b8 ι8 H8 e8 o8 hb8
                    subst hb8
                    have m8 := m7.go (ι' := ι8) (S' := S8) (H' := H8) e8
                    have k8' : Keep (hide D ⟨hd, ι5, S4, H5⟩) (hide D ⟨hd, ι8, S8, H8⟩) := k7.trans e8.toKeep
                    have p8 : ι5 <+: ι8 := p6.trans e8.pre
                    have hacc8 : H8 D = some (.lst acc6) := (e8.hid D List.mem_cons_self).trans hacc7
                    cases b8 with
                    | false =>
                      exact ⟨ι8, S8, acc6, done6, m8, k8', p8, o8, hacc8, RepA.ext (e7.trans e8).toKeep racc6, by omega, hp6⟩
                    | true =>
                      rw [if_pos rfl]
                      refine ⟨D :: hd, ι8, S8, ρ7, a8.ext e8 o8, ?_⟩
                      cases he9 : el ρ7 S8 with
                      | bad => simp only [he9, Rs.bind, if_true] at hp6; exact hp6.elim
                      | ex n fs S' => simp only [he9, Rs.bind, if_true] at hp6; exact hp6.elim
                      | ok u S9 =>
                        intro v ι9 H9 e9 o9 r9
                        have m9 := m8.go (ι' := ι9) (S' := S9) (H' := H9) e9
                        have k9 : Keep (hide D ⟨hd, ι5, S4, H5⟩) (hide D ⟨hd, ι9, S9, H9⟩) := k8'.trans e9.toKeep
                        have p9 : ι5 <+: ι9 := p8.trans e9.pre
                        have hacc9 : H9 D = some (.lst acc6) := (e9.hid D List.mem_cons_self).trans hacc8
                        simp only [Rs.bind, if_true, he9] at hp6
                        cases htd : toD u S9 with
                        | bad => simp only [htd] at hp6; exact hp6.elim
                        | ex n fs S' => exact (toD_noex htd).elim
                        | ok yd S10 =>
                          simp only [htd] at hp6
                          obtain ⟨e10, o10, r10⟩ := toD_go (c := ⟨D :: hd, ι9, S9, H9⟩) o9 r9 htd
                          have m10 := m9.go (ι' := ι9) (S' := S10) (H' := H9) e10
                          have k10 : Keep (hide D ⟨hd, ι5, S4, H5⟩) (hide D ⟨hd, ι9, S10, H9⟩) := k9.trans e10.toKeep
                          have hrep : RepA K (hide D ⟨hd, ι9, S10, H9⟩) acc6 done6 := RepA.ext ((e7.trans e8).trans (e9.trans e10)).toKeep racc6
                          have hal : acc6.length = done6.length := hrep.length
                          refine ⟨acc6, hacc9, by rw [sizeLine_eq]; omega, ι9, S10, acc6 ++ [v], done6 ++ [yd], ⟨m10.keep.trans (keep_made (c := ⟨hd, ι9, S10, H9⟩)), m10.pre, fun a ha => ?_, m10.same⟩, k10.trans (keep_made (c := ⟨hd, ι9, S10, H9⟩)), p9, ok_made (c := ⟨hd, ι9, S10, H9⟩) o10, upd_same, RepA.ext (keep_made (c := ⟨hd, ι9, S10, H9⟩)) (hrep.append (.cons r10 .nil)), ?_, ?_⟩
                          · show upd H9 D _ a = _
                            rw [upd_ne (o1.hid_ne hD ha)]
                            exact m10.hid a ha
                          · rw [List.length_append]
                            show done6.length + 1 ≤ done.length + (j + 1)
                            omega
                          · cases hcl : compL g1 vs1 tst1 el ρ3 (ds1.drop (j + 1)) S10 with
                            | bad => simp only [hcl] at hp6; exact hp6.elim
                            | ex n fs S' => simp only [hcl, Rs.bind] at hp6 ⊢; exact hp6
                            | ok ys S11 =>
                              simp only [hcl] at hp6
                              show Post K E0W ⟨hd, ι1, S1, H1⟩ Q (Rs.bind (comp2L g (own.map (·.2)) tst it1 g1 vs1 tst1 el ρ (ds.drop (i + 1)) (done6 ++ [yd] ++ ys) S11) _)
                              rw [List.append_assoc]
                              exact hp6
              · rintro H6 ⟨ι6, S6, acc6, done6, m6, k6, p6, o6, hacc6, racc6, hdn6, hp6⟩
                rw [List.drop_length] at hp6
                have hp6 : Post K E0W ⟨hd, ι1, S1, H1⟩ Q ((comp2L g (own.map (·.2)) tst it1 g1 vs1 tst1 el ρ (ds.drop (i + 1)) (done6 ++ []) S6).bind fun ys S3 => .ok (.d (.list ys)) S3) := hp6
                rw [List.append_nil] at hp6
                exact ⟨ι6, S6, acc6, done6, m6, o6, hacc6, racc6, hp6⟩
    · rintro H2 ⟨ι2, S2, acc, done, m, o2, hacc, racc, hp⟩
      rw [List.drop_length] at hp
      have hp : Post K E0W ⟨hd, ι1, S1, H1⟩ Q (.ok (.d (.list done)) S2) := hp
      refine hp (.ref D) ι2 H2 m.ext (ok_unhide o2) ?_
      refine .lst hacc ?_ (RepA.ext keep_unhide racc)
      rintro (z | ⟨n, cl, z1, z2, z3⟩)
      · obtain ⟨ob, q⟩ := (o1.hid D z).1
        cases hD.symm.trans q
      · exact (o2.hid D List.mem_cons_self).2 (List.mem_of_getElem? z1)
section
variable {X : Cx} {elt tg iter tg1 iter1 : Expr} {ifs ifs1 : List Expr} {scope : Scope} {own : List (Str × Nat)} {vs1 : List Nat} {pos : Pos} {it it1 : DI} {sl sl1 : List Nat} {g g1 : Tg} {tst tst1 : DT} {el : DE}
theorem pd_lc2 (hc : X.calm = true) (hN : X.N.Nodup) (hi : PI X tg iter (tI X.K E0W it)) (ok : BlkOk X.N X.env.scope scope own) (hv : ∀ i ∈ vs1, i ∈ own.map (·.2)) (hsl : ∀ i, i ∈ sl → i ∈ own.map (·.2)) (hsl1 : ∀ i, i ∈ sl1 → i ∈ vs1)
    (hg : ∀ (s : Shared) (H : Hp) (C : Addr) (cl : List (Str × Addr)) (fp : List Addr), PG (X.blk s H scope (compEnvC scope cl C X.env) fp) tg (tG X.K sl g)) (ht : ∀ (s : Shared) (H : Hp) (C : Addr) (cl : List (Str × Addr)) (fp : List Addr), PTs (X.blk s H scope (compEnvC scope cl C X.env) fp) ifs (tB X.K E0W tst))
    (hi1 : ∀ (s : Shared) (H : Hp) (C : Addr) (cl : List (Str × Addr)) (fp : List Addr), PI (X.blk s H scope (compEnvC scope cl C X.env) fp) tg1 iter1 (tI X.K E0W it1))
    (hg1 : ∀ (s : Shared) (H : Hp) (C : Addr) (cl : List (Str × Addr)) (fp : List Addr), PG (X.blk s H scope (compEnvC scope cl C X.env) fp) tg1 (tG X.K sl1 g1)) (ht1 : ∀ (s : Shared) (H : Hp) (C : Addr) (cl : List (Str × Addr)) (fp : List Addr), PTs (X.blk s H scope (compEnvC scope cl C X.env) fp) ifs1 (tB X.K E0W tst1))
    (he : ∀ (s : Shared) (H : Hp) (C : Addr) (cl : List (Str × Addr)) (fp : List Addr), PE (X.blk s H scope (compEnvC scope cl C X.env) fp) elt (tD X.K E0W el)) (hs : ∀ x, foldedSetIterable iter X.env x = pure x := by intro _; rfl) (hs1 : ∀ env x, foldedSetIterable iter1 env x = pure x := by intro _ _; rfl) :
    PE X (.ListComp elt [⟨tg, iter, ifs, 0⟩, ⟨tg1, iter1, ifs1, 0⟩] scope pos) (tD X.K E0W (dComp2 it g (own.map (·.2)) tst it1 g1 vs1 tst1 el)) := (pe_lc2 hc hN hi ok hv hg ht hi1 hg1 ht1 he hs hs1).dimp fun _ _ _ h => t_lc2 hsl hsl1 h
theorem sd_setLc2 {i : Nat} {y : Str} {py spos : Pos} (hc : X.calm = true) (hN : X.N.Nodup) (hy : X.N[i]? = some y) (hyl : X.env.scope.names.lookup y = some .local)
    (hsw : swapsWith (.ListComp elt [⟨tg, iter, ifs, 0⟩, ⟨tg1, iter1, ifs1, 0⟩] scope pos) (some (.Name y py)) spos.line X.env = pure true) (hi : PI X tg iter (tI X.K E0W it)) (ok : BlkOk X.N X.env.scope scope own) (hv : ∀ i ∈ vs1, i ∈ own.map (·.2)) (hsl : ∀ i, i ∈ sl → i ∈ own.map (·.2)) (hsl1 : ∀ i, i ∈ sl1 → i ∈ vs1)
    (hg : ∀ (s : Shared) (H : Hp) (C : Addr) (cl : List (Str × Addr)) (fp : List Addr), PG (X.blk s H scope (compEnvC scope cl C X.env) fp) tg (tG X.K sl g)) (ht : ∀ (s : Shared) (H : Hp) (C : Addr) (cl : List (Str × Addr)) (fp : List Addr), PTs (X.blk s H scope (compEnvC scope cl C X.env) fp) ifs (tB X.K E0W tst))
    (hi1 : ∀ (s : Shared) (H : Hp) (C : Addr) (cl : List (Str × Addr)) (fp : List Addr), PI (X.blk s H scope (compEnvC scope cl C X.env) fp) tg1 iter1 (tI X.K E0W it1))
    (hg1 : ∀ (s : Shared) (H : Hp) (C : Addr) (cl : List (Str × Addr)) (fp : List Addr), PG (X.blk s H scope (compEnvC scope cl C X.env) fp) tg1 (tG X.K sl1 g1)) (ht1 : ∀ (s : Shared) (H : Hp) (C : Addr) (cl : List (Str × Addr)) (fp : List Addr), PTs (X.blk s H scope (compEnvC scope cl C X.env) fp) ifs1 (tB X.K E0W tst1))
    (he : ∀ (s : Shared) (H : Hp) (C : Addr) (cl : List (Str × Addr)) (fp : List Addr), PE (X.blk s H scope (compEnvC scope cl C X.env) fp) elt (tD X.K E0W el)) (hs : ∀ x, foldedSetIterable iter X.env x = pure x := by intro _; rfl) (hs1 : ∀ env x, foldedSetIterable iter1 env x = pure x := by intro _ _; rfl) :
    PS X (.Assign [.Name y py] (.ListComp elt [⟨tg, iter, ifs, 0⟩, ⟨tg1, iter1, ifs1, 0⟩] scope pos) spos) (tS X.K E0W (sSet i (dComp2 it g (own.map (·.2)) tst it1 g1 vs1 tst1 el))) := (ps_setLc2 hc hN hy hyl hsw hi ok hv hg ht hi1 hg1 ht1 he hs hs1).dimp fun D σ H ⟨hd, ι, S, ρ, at_, h⟩ =>
  t_lc2 hsl hsl1 (tD_stepS (c := ⟨hd, ι, S, H⟩) at_ h fun u v c1 e1 a1 r1 h1 => PostS.nxt h1 (a1.set r1))
end
end
end DL
namespace DL
open PySem PySem.Spec PyProof.Rows L2
/-! ### list(zip(..)) of two lists: each pair is kept, so each is a new tuple -/
theorem zip_noLen : typeLookup (.type "zip") "__len__" = pure none := am_miss_of_fast (by decide +kernel)
theorem zip_noHint : typeLookup (.type "zip") "__length_hint__" = pure none := am_miss_of_fast (by decide +kernel)
section
variable {prog : Program} {w : World}
/-- the loop that draws: what stands ahead of each draw, with a number that goes down -/
theorem drawn_all {A : Around} {R : Result → Shared → Prop} {L z : Addr} {res : Value} (Iv : Nat → Shared → Prop)
    (turn : ∀ n s, Iv n s → wpAny (model prog w) A.in1 (pyNext (.ref z)) (fun r s1 => match r with
      | none => R (.ok (.ret res)) s1
      | some v => wpAny (model prog w) A.in1 (Builtin.List.listUpdate (.ref L) (·.push v)) (fun _ s2 => ∃ m, m < n ∧ Iv m s2) (fun _ _ => False) s1) (fun _ _ => False) s) :
    ∀ (n : Nat) (s : Shared), Iv n s → codeAny (model prog w) A (.builtin "list.extend.loop" ⟨[.ref L, .ref z, res], []⟩) R s := by
  intro n
  induction n using Nat.strongRecOn with
  | ind n ih =>
    intro s hI
    refine codeAny_builtin F.entry_extend_loop ?_
    rw [Around.under_plainId F.plain_extend_loop _]
    show wpAny _ A.in1 (pyNext (.ref z) >>= _) _ _ s
    refine wpAny_bind (wpAny_mono (turn n s hI) (fun r s1 hr => ?_) fun _ _ no => no.elim)
    cases r with
    | none => exact wpAny_pure hr
    | some v =>
      show wpAny _ A.in1 (Builtin.List.listUpdate (.ref L) (·.push v) >>= _) _ _ _
      exact wpAny_bind (wpAny_mono hr (fun _ s2 ⟨m, hm, q⟩ => wpAny_pure ⟨plainId_quiet F.plain_extend_loop _, ih m hm s2 q⟩) fun _ _ no => no.elim)
/-- list(z), z a zip -/
theorem call_list_zip {A : Around} {E : Value → Shared → Prop} {s : Shared} {z TI TO : Addr} {f0 : Value} {Q : Value → Shared → Prop} (hz : IsZip s.heap z TI TO f0) (Iv : Nat → Shared → Prop) (n0 : Nat)
    (start : ∀ h' c, (∀ b o, s.heap.get? b = some o → h'.get? b = some o) → h'.get? s.heap.objs.size = some { cls := .type "list", dict := none, data := .seq #[] c, slots := #[] } → Iv n0 { s with heap := h' })
    (turn : ∀ n s', Iv n s' → wpAny (model prog w) A.in1.in1 (pyNext (.ref z)) (fun r s1 => match r with
      | none => Q (.ref s.heap.objs.size) s1
      | some v => wpAny (model prog w) A.in1.in1 (Builtin.List.listUpdate (.ref s.heap.objs.size) (·.push v)) (fun _ s2 => ∃ m, m < n ∧ Iv m s2) (fun _ _ => False) s1) (fun _ _ => False) s') :
    wpAny (model prog w) A (call (.type "list") [.ref z]) Q E s := by
  have hlt : z < s.heap.objs.size := Heap.lt_size hz
  generalize hL : s.heap.objs.size = L at start turn
  refine callType_codes (Q₁ := fun obj s₁ => obj = .ref L ∧ s₁ = { s with heap := s.heap.push { cls := .type "list", data := .seq #[] } }) F.called_list (F.typeCall_list_1 _) F.entry_list_init
    (code_list_new _ ⟨by rw [hL], rfl⟩) fun obj s₁ h₁ => ?_
  obtain ⟨rfl, rfl⟩ := h₁
  have at0 : (s.heap.push { cls := .type "list", data := .seq #[] }).get? L = some { cls := .type "list", data := .seq #[] } := by rw [← hL]; exact Heap.get?_push_size _ rfl
  have zL : z ≠ L := by rw [← hL]; exact Nat.ne_of_lt hlt
  have k0 : ∀ b o, s.heap.get? b = some o → b ≠ L ∧ (s.heap.push { cls := .type "list", data := .seq #[] }).get? b = some o := fun b o e => ⟨by rw [← hL]; exact Nat.ne_of_lt (Heap.lt_size e), Heap.get?_push_of_some _ e⟩
  refine ⟨⟨_, at0, rfl⟩, F.args_list_init_2 _ _, ?_⟩
  show wpAny _ _ (do let old ← Builtin.List.listItems (.ref L); Builtin.List.listUpdate (.ref L) (fun _ => #[]); letGo old.toList.reverse; Builtin.List.listExtendWith (.ref L) (.ref z) .none) _ _ _
  refine wpAny_bind ?_
  unfold Builtin.List.listItems
  refine wpAny_bind (wpAny_seqItems at0 rfl (wpAny_pure ?_))
  show wpAny _ _ (updateSeq L (fun _ => #[]) >>= fun _ => letGo (#[] : Array Value).toList.reverse >>= fun _ => Builtin.List.listExtendWith (.ref L) (.ref z) .none) _ _ _
  refine wpAny_bind (wpAny_updateSeq at0 rfl ?_)
  have at1 := Heap.get?_update_self (Obj.mapSeq (fun _ => (#[] : Array Value))) at0 rfl
  generalize hg1 : (s.heap.push { cls := .type "list", data := .seq #[] }).update L (Obj.mapSeq (fun _ => (#[] : Array Value))) = g1 at at1 ⊢
  have k1 : ∀ b o, s.heap.get? b = some o → b ≠ L ∧ g1.get? b = some o := fun b o e => ⟨(k0 b o e).1, by rw [← hg1]; exact (Heap.get?_update_other _ _ (Ne.symm (k0 b o e).1)).trans (k0 b o e).2⟩
  refine wpAny_bind (wpAny_letGo ?_)
  have tz : ∀ h : Heap, (∀ b o, s.heap.get? b = some o → b ≠ L ∧ h.get? b = some o) → ({ s with heap := h } : Shared).TypeIs (.ref z) "zip" := fun h k => ⟨_, (k _ _ hz).2, rfl⟩
  unfold Builtin.List.listExtendWith
  refine wpAny_bind (wpAny_typeOf (tz _ k1) ?_)
  have r1 : Builtin.List.listSameRef (.ref L) (.ref z) = false := by simp [Builtin.List.listSameRef, zL.symm]
  have r2 : (Value.type "zip" == Value.type "list") = false := by decide
  have r3 : (Value.type "zip" == Value.type "tuple") = false := by decide
  simp only [r1, r2, r3, Bool.or_false, Bool.false_eq_true, if_false]
  refine wpAny_bind (wpAny_pyIter_zip (k1 _ _ hz).2 ?_)
  refine wpAny_bind (wpAny_holding ?_)
  unfold Builtin.List.listLengthHint
  refine wpAny_bind (wpAny_specialOf (tz _ k1) zip_noLen ?_)
  show wpAny _ _ (specialOf (Value.ref z) (Str.ofString "__length_hint__") >>= _) _ _ _
  refine wpAny_bind (wpAny_specialOf (tz _ k1) zip_noHint ?_)
  refine wpAny_pure ?_
  show wpAny _ _ (rule "list.extend.makes-room" >>= fun _ => Builtin.List.listTouch (.ref L) >>= fun _ => again (.builtin "list.extend.loop" ⟨[.ref L, .ref z, .none], []⟩)) _ _ _
  refine wpAny_bind (wpAny_rule ?_)
  refine wpAny_bind ?_
  show wpAny _ _ (updateSeq L (·.push .none) >>= fun _ => updateSeq L (·.pop)) _ _ _
  refine wpAny_bind (wpAny_updateSeq at1 rfl ?_)
  have at2 := Heap.get?_update_self (Obj.mapSeq (·.push Value.none)) at1 rfl
  refine wpAny_updateSeq (hz := by seq_fits) at2 rfl ?_
  have at3 := Heap.get?_update_self (Obj.mapSeq (·.pop)) at2 rfl
  refine wpAny_pure ⟨plainId_quiet F.plain_extend_loop _, drawn_all Iv (fun n s' hI => wpAny_mono (turn n s' hI) (fun r s1 hr => ?_) fun _ _ no => no) n0 _ (start _ _ (fun b o e => ?_) at3)⟩
  · cases r with
    | none => exact ⟨rfl, hr⟩
    | some v => exact hr
  · exact (Heap.get?_update_other _ _ (Ne.symm (k1 b o e).1)).trans ((Heap.get?_update_other _ _ (Ne.symm (k1 b o e).1)).trans (k1 b o e).2)
/-- the zip ahead of its turn i, its last tuple kept by others -/
def ZAt (xs ys : Array Value) (z TI TO i1 i2 l1 l2 L : Addr) (i : Nat) (h : Heap) : Prop :=
  IsPair h TI (.ref i1) (.ref i2) ∧ h.IsListIter i1 l1 i ∧ h.IsListIter i2 l2 i ∧ h.IsList l1 xs ∧ h.IsList l2 ys ∧
    ((IsZip h z TI TO .none ∧ ∃ a b, IsPair h TO a b) ∨ ∃ T f oT, IsZipHeld h z TI TO T f ∧ h.get? T = some oT ∧ T ≠ z ∧ T ≠ i1 ∧ T ≠ i2 ∧ T ≠ L)
section
variable {A : Around} {E : Value → Shared → Prop} {s : Shared} {xs ys : Array Value} {z TI TO i1 i2 l1 l2 L : Addr} {i : Nat} {Q : Option Value → Shared → Prop}
theorem zat_keep {h h' : Heap} (st : ZAt xs ys z TI TO i1 i2 l1 l2 L i h) (a1 : L ≠ TI) (a2 : L ≠ i1) (a3 : L ≠ i2) (a4 : L ≠ l1) (a5 : L ≠ l2) (a6 : L ≠ z) (a7 : L ≠ TO) (k : ∀ b o, b ≠ L → h.get? b = some o → h'.get? b = some o) : ZAt xs ys z TI TO i1 i2 l1 l2 L i h' := by
  obtain ⟨p1, p2, p3, p4, p5, p6⟩ := st
  refine ⟨k _ _ a1.symm p1, p2.at fun o => k _ o a2.symm, p3.at fun o => k _ o a3.symm, p4.at fun o => k _ o a4.symm, p5.at fun o => k _ o a5.symm, ?_⟩
  rcases p6 with ⟨q, a, b, q2⟩ | ⟨T, f, oT, q, q2, b1, b2, b3, b4⟩
  · exact .inl ⟨k _ _ a6.symm q, a, b, k _ _ a7.symm q2⟩
  · exact .inr ⟨T, f, oT, k _ _ a6.symm q, k _ _ b4 q2, b1, b2, b3, b4⟩
theorem zat_item (D : ZipApart z TI TO i1 i2 l1 l2) {x y : Value} (st : ZAt xs ys z TI TO i1 i2 l1 l2 L i s.heap) (ex : xs[i]? = some x) (ey : ys[i]? = some y) (hL : L < s.heap.objs.size)
    (hQ : ∀ h', ZAt xs ys z TI TO i1 i2 l1 l2 L (i + 1) h' → IsPair h' s.heap.objs.size x y → (∀ c o, c ∉ [z, TO, i1, i2] → s.heap.get? c = some o → h'.get? c = some o) → Q (some (.ref s.heap.objs.size)) { s with heap := h' }) :
    wpAny (model prog w) A (pyNext (.ref z)) Q E s := by
  obtain ⟨p1, p2, p3, p4, p5, p6⟩ := st
  have far : ∀ {c o}, s.heap.get? c = some o → s.heap.objs.size ≠ c := fun q => Nat.ne_of_gt (Heap.lt_size q)
  have f1 : s.heap.objs.size ≠ i1 := let ⟨_, q, _⟩ := p2; far q
  have f2 : s.heap.objs.size ≠ i2 := let ⟨_, q, _⟩ := p3; far q
  have fL : s.heap.objs.size ≠ L := Nat.ne_of_gt hL
  rcases p6 with ⟨q, a, b, q2⟩ | ⟨T, f, oT, q, q2, b1, b2, b3, b4⟩
  · refine wpAny_pyNext_zip_item D q p1 q2 p2 p3 p4 p5 ex ey fun h' c1 c2 c3 c4 c5 c6 ck => ?_
    refine hQ h' ⟨ck _ _ D.TIz D.TITO D.TIi1 D.TIi2 p1, c3, c4, p4.at fun o => ck _ o D.l1z D.l1TO D.l1i1 D.l1i2, p5.at fun o => ck _ o D.l2z D.l2TO D.l2i1 D.l2i2, .inr ⟨s.heap.objs.size, false, _, c1, c5, far q, f1, f2, fL⟩⟩ c5 fun c o hc => ?_
    simp only [List.mem_cons, List.not_mem_nil, or_false, not_or] at hc
    exact ck c o hc.1 hc.2.1 hc.2.2.1 hc.2.2.2
  · refine wpAny_pyNext_zip_item_held D q q2 p1 p2 p3 p4 p5 ex ey fun h' c1 c3 c4 c5 c6 ck => ?_
    refine hQ h' ⟨ck _ _ D.TIz D.TIi1 D.TIi2 p1, c3, c4, p4.at fun o => ck _ o D.l1z D.l1i1 D.l1i2, p5.at fun o => ck _ o D.l2z D.l2i1 D.l2i2, .inr ⟨T, true, oT, c1, ck _ _ b1 b2 b3 q2, b1, b2, b3, b4⟩⟩ c5 fun c o hc => ?_
    simp only [List.mem_cons, List.not_mem_nil, or_false, not_or] at hc
    exact ck c o hc.1 hc.2.2.1 hc.2.2.2
theorem zat_done (hh : A.handled = none) (D : ZipApart z TI TO i1 i2 l1 l2) (st : ZAt xs ys z TI TO i1 i2 l1 l2 L i s.heap) (ends : xs[i]? = none ∨ ys[i]? = none)
    (hQ : ∀ h', (∀ c o, c ∉ [z, TO, i1, i2] → s.heap.get? c = some o → h'.get? c = some o) → Q none { s with heap := h' }) : wpAny (model prog w) A (pyNext (.ref z)) Q E s := by
  obtain ⟨p1, p2, p3, p4, p5, p6⟩ := st
  rcases p6 with ⟨q, a, b, q2⟩ | ⟨T, f, oT, q, q2, b1, b2, b3, b4⟩
  · refine wpAny_pyNext_zip_end hh D q p1 q2 p2 p3 p4 p5 ends fun h' ck => hQ h' fun c o hc => ?_
    simp only [List.mem_cons, List.not_mem_nil, or_false, not_or] at hc
    exact ck c o hc.1 hc.2.1 hc.2.2.1 hc.2.2.2
  · refine wpAny_pyNext_zip_end_held hh D q q2 p1 p2 p3 p4 p5 ends fun h' ck => hQ h' fun c o hc => ?_
    simp only [List.mem_cons, List.not_mem_nil, or_false, not_or] at hc
    exact ck c o hc.1 hc.2.2.1 hc.2.2.2
end
end
/-- the list at L grows by pairs -/
def Zw (Q : VK) (L : Addr) : List V → List V → List V → Hp → Prop
  | x :: xs, y :: ys, acc, H => ∀ T, H T = none → Zw Q L xs ys (acc ++ [.ref T]) (upd (upd H T (.tup [x, y])) L (.lst (acc ++ [.ref T])))
  | _, _, _, H => Q (.ref L) H
theorem zw_end {Q : VK} {L : Addr} {xs ys acc : List V} {H : Hp} (h : Zw Q L xs ys acc H) (e : xs = [] ∨ ys = []) : Q (.ref L) H := by
  rcases e with rfl | rfl
  · exact h
  · cases xs <;> exact h
def tZipL (K : PySem.W.Frag) (ta : TA) : TE := fun σ H Q => ta σ H fun vs H1 => ∃ a b xs ys, vs = [.ref a, .ref b] ∧ SqL K H1 a xs ∧ SqL K H1 b ys ∧ ∀ L, H1 L = none → Zw Q L xs ys [] (upd H1 L (.lst []))
section
variable {X : Cx} {a b : Expr} {ta : TA}
theorem vals_get {xs : List V} {us : List Value} (r : Vals xs us) {i : Nat} {x : V} (h : xs[i]? = some x) : ∃ u, us[i]? = some u ∧ RelV x u := by
  induction r generalizing i with
  | nil => cases h
  | cons q _ ih =>
    cases i with
    | zero => cases h; exact ⟨_, rfl, q⟩
    | succ i => exact ih h
theorem pe_listZip {p q pos pos2 : Pos} (hc : X.calm = true) (hg : Gl X "list") (hm : X.mg "list" = none) (hg2 : Gl X "zip") (hm2 : X.mg "zip" = none) (ha : PA X [a, b] ta)
    (hs : starEach [a, b] X.env = (false, eval a X.env) :: starEach [b] X.env := by rfl) (hpl : (backTo pos2 (starEach [b] X.env)).any (·.1) = false := by rfl)
    (na : starEach [.Call (.Name "zip" q) [a, b] [] pos2] X.env = (false, eval (.Call (.Name "zip" q) [a, b] [] pos2) X.env) :: starEach [] X.env := by rfl) :
    PE X (.Call (.Name "list" p) [.Call (.Name "zip" q) [a, b] [] pos2] [] pos) (tZipL X.K ta) := by
  refine ⟨fun pins s σ H Q I h => ?_⟩
  refine Call_ (ld_blt I hg hm boot_list (PyProof.Rows.callWith_type1 (args_cons (Q := _) ?_ na) na))
  refine Call_ (ld_blt I hg2 hm2 PyProof.Rows.boot_zip (PyProof.Rows.callWith_type1 (thn (ha.run pos2 pins s σ H _ I h) fun us s1 ⟨vs, H1, I1, r1, q1⟩ => ?_) hs hpl))
  obtain ⟨la, lb, xs, ys, rfl, hqx, hqy, hw⟩ := q1
  cases r1 with
  | cons r rr =>
  cases rr with
  | cons r' rr =>
  cases rr
  cases r
  cases r'
  obtain ⟨its, rv, g1, zx⟩ := I1.list hqx
  obtain ⟨its2, rv2, g2, zy⟩ := I1.list hqy
  have ltA : la < s1.heap.objs.size := g1.lt
  have ltB : lb < s1.heap.objs.size := g2.lt
  refine call_zip_2 g1.isList g2.isList fun h' hz hTI hTO j1 j2 hsz hk => args_nil ?_
  have D := PySem.W.ktu_apart s1.heap.objs.size la lb ltA ltB
  have I2 : Inv X pins σ H1 { s1 with heap := h' } := I1.kept (t' := s1.toks) hk
  have far : ∀ c, c ∈ [s1.heap.objs.size + 4, s1.heap.objs.size + 3, s1.heap.objs.size, s1.heap.objs.size + 1] → FpOk X pins H1 c := fun c hcm => by
    have hle : s1.heap.objs.size ≤ c := by
      simp only [List.mem_cons, List.not_mem_nil, or_false] at hcm
      rcases hcm with z | z | z | z <;> (rw [z]; first | exact Nat.le_refl _ | exact Nat.le_add_right _ _)
    exact I1.fpOk hle (I1.hok.fresh hle)
  have ne5 : ∀ c, c < s1.heap.objs.size + 5 → h'.objs.size ≠ c := fun c hc => by rw [hsz]; exact Nat.ne_of_gt hc
  have nTI := ne5 (s1.heap.objs.size + 2) (by exact Nat.add_lt_add_left (by decide) _)
  have ni1 := ne5 s1.heap.objs.size (Nat.lt_add_of_pos_right (by decide))
  have ni2 := ne5 (s1.heap.objs.size + 1) (by exact Nat.add_lt_add_left (by decide) _)
  have nz := ne5 (s1.heap.objs.size + 4) (by exact Nat.add_lt_add_left (by decide) _)
  have nTO := ne5 (s1.heap.objs.size + 3) (by exact Nat.add_lt_add_left (by decide) _)
  have nla := ne5 la (Nat.lt_of_lt_of_le ltA (Nat.le_add_right _ _))
  have nlb := ne5 lb (Nat.lt_of_lt_of_le ltB (Nat.le_add_right _ _))
  have freshL : H1 h'.objs.size = none := I2.hok.fresh (Nat.le_refl _)
  have st0 : ZAt its.toArray its2.toArray (s1.heap.objs.size + 4) (s1.heap.objs.size + 2) (s1.heap.objs.size + 3) s1.heap.objs.size (s1.heap.objs.size + 1) la lb h'.objs.size 0 h' :=
    ⟨hTI, j1, j2, g1.isList.at fun o e => hk _ o e, g2.isList.at fun o e => hk _ o e, .inl ⟨hz, _, _, hTO⟩⟩
  have lx := rv.length
  have ly := rv2.length
  refine call_list_zip (s := { s1 with heap := h' }) hz (fun n s' => ∃ H' acc i, n = min xs.length ys.length - i ∧ i ≤ min xs.length ys.length ∧ Inv X pins σ H' s' ∧ ZAt its.toArray its2.toArray (s1.heap.objs.size + 4) (s1.heap.objs.size + 2) (s1.heap.objs.size + 3) s1.heap.objs.size (s1.heap.objs.size + 1) la lb h'.objs.size i s'.heap ∧ H' h'.objs.size = some (.lst acc) ∧ acc.length = i ∧ h'.objs.size < s'.heap.objs.size ∧
      Zw Q h'.objs.size (xs.drop i) (ys.drop i) acc H' ∧ ∀ c, c ∈ [s1.heap.objs.size + 4, s1.heap.objs.size + 3, s1.heap.objs.size, s1.heap.objs.size + 1] → FpOk X pins H' c) (min xs.length ys.length) (fun g c kp e => ?_) ?_
  · refine ⟨upd H1 h'.objs.size (.lst []), [], 0, rfl, Nat.zero_le _, I2.laid (t' := s1.toks) kp (Nat.le_refl _) (show ObjOk X.prog X.w _ _ _ (.lst []) from ⟨Nat.zero_le _, [], c, .nil, e⟩), zat_keep st0 nTI ni1 ni2 nla nlb nz nTO (fun b o _ e => kp b o e), upd_same, rfl, Heap.lt_size e, hw _ freshL, fun c hcm => ?_⟩
    obtain ⟨f0, fr⟩ := far c hcm
    refine ⟨?_, fr⟩
    rw [upd_ne fun e => ?_]
    · exact f0
    · subst e
      simp only [List.mem_cons, List.not_mem_nil, or_false] at hcm
      rcases hcm with z | z | z | z
      · exact nz z
      · exact nTO z
      · exact ni1 z
      · exact ni2 z
  · rintro n s' ⟨H', acc, i, rfl, hi, I', st, hD, hacc, hlt, zw, fp⟩
    by_cases hin : i < min xs.length ys.length
    · have hix : i < xs.length := by omega
      have hiy : i < ys.length := by omega
      obtain ⟨u1, eu1, ru1⟩ := vals_get rv (List.getElem?_eq_getElem hix)
      obtain ⟨u2, eu2, ru2⟩ := vals_get rv2 (List.getElem?_eq_getElem hiy)
      refine zat_item D st (x := u1) (y := u2) (by simpa using eu1) (by simpa using eu2) hlt fun g st' hp kp => ?_
      have hfT : H' s'.heap.objs.size = none := I'.hok.fresh (Nat.le_refl _)
      have I3 : Inv X pins σ (upd H' s'.heap.objs.size (.tup [xs[i], ys[i]])) { s' with heap := g } := I'.turnedNew (t' := s'.toks) kp fp (Nat.le_refl _) (show ObjOk X.prog X.w _ _ _ (.tup [xs[i], ys[i]]) from ⟨by rw [sizeLine_eq]; simp, [u1, u2], .cons ru1 (.cons ru2 .nil), ⟨_, hp, rfl, _, rfl⟩⟩)
      have hDT : h'.objs.size ≠ s'.heap.objs.size := Nat.ne_of_lt hlt
      have hD3 : upd H' s'.heap.objs.size (.tup [xs[i], ys[i]]) h'.objs.size = some (.lst acc) := (upd_ne hDT).trans hD
      obtain ⟨hz', itsL, nL, rL, eL⟩ := I3.hok _ _ hD3
      have hlL := rL.length
      have e1 := zx
      have hszl : acc.length < sizeLine := by omega
      show wpAny _ _ (updateSeq h'.objs.size (·.push (.ref s'.heap.objs.size))) _ _ _
      refine wpAny_updateSeq (s := { s' with heap := g }) eL rfl ?_ (by rw [List.size_toArray]; omega) (by rw [Array.size_push, List.size_toArray]; omega)
      have new := Heap.get?_update_self (Obj.mapSeq (·.push (.ref s'.heap.objs.size))) eL rfl
      have oth : ∀ b u, b ≠ h'.objs.size → g.get? b = some u → (g.update h'.objs.size (Obj.mapSeq (·.push (.ref s'.heap.objs.size)))).get? b = some u := fun b u hb e => (Heap.get?_update_other _ _ (Ne.symm hb)).trans e
      refine ⟨min xs.length ys.length - (i + 1), by omega, upd (upd H' s'.heap.objs.size (.tup [xs[i], ys[i]])) h'.objs.size (.lst (acc ++ [.ref s'.heap.objs.size])), acc ++ [.ref s'.heap.objs.size], i + 1, rfl, by omega, ?_, ?_, upd_same, by simp [hacc], Heap.lt_size new, ?_, fun c hcm => ?_⟩
      · refine I3.write (t' := s'.toks) (by rw [hD3]; trivial) (.inl rfl) oth ⟨_, new⟩ ⟨by rw [List.length_append]; exact hszl, itsL ++ [.ref s'.heap.objs.size], nL + 1, rL.append (.cons (show RelV (.ref s'.heap.objs.size) (.ref s'.heap.objs.size) from rfl) .nil), ?_⟩
        rw [new]
        simp [Obj.mapSeq]
      · exact zat_keep st' nTI ni1 ni2 nla nlb nz nTO oth
      · have ex : xs.drop i = xs[i] :: xs.drop (i + 1) := List.drop_eq_getElem_cons hix
        have ey : ys.drop i = ys[i] :: ys.drop (i + 1) := List.drop_eq_getElem_cons hiy
        rw [ex, ey] at zw
        exact zw _ hfT
      · obtain ⟨f0, fr⟩ := fp c hcm
        refine ⟨?_, fr⟩
        rw [upd_ne fun e => ?_, upd_ne fun e => ?_]
        · exact f0
        · rw [e] at hcm
          have zlt : s'.heap.objs.size < s'.heap.objs.size := by
            obtain ⟨p1, ⟨_, p2, _⟩, ⟨_, p3, _⟩, _, _, p6⟩ := st
            simp only [List.mem_cons, List.not_mem_nil, or_false] at hcm
            have lz : s1.heap.objs.size + 4 < s'.heap.objs.size := by
              rcases p6 with ⟨q, _⟩ | ⟨_, _, _, q, _⟩ <;> exact Heap.lt_size q
            have l1 := Heap.lt_size p2
            have l2 := Heap.lt_size p3
            have ls : s1.heap.objs.size + 3 < s1.heap.objs.size + 4 := Nat.lt_succ_self _
            rcases hcm with z | z | z | z
            · rwa [← z] at lz
            · exact absurd (Nat.lt_trans ls lz) (by rw [← z]; exact Nat.lt_irrefl _)
            · rwa [← z] at l1
            · rwa [← z] at l2
          exact Nat.lt_irrefl _ zlt
        · rw [e, hD] at f0
          cases f0
    · refine zat_done (I'.ok.hd hc) D st ?_ fun g kp => ?_
      · by_cases hx : i < xs.length
        · exact .inr (by rw [List.getElem?_toArray, List.getElem?_eq_none (by omega)])
        · exact .inl (by rw [List.getElem?_toArray, List.getElem?_eq_none (by omega)])
      · refine ⟨.ref h'.objs.size, H', I'.turnedL (t' := s'.toks) kp fp, rfl, zw_end zw ?_⟩
        by_cases hx : i < xs.length
        · exact .inr (List.drop_eq_nil_of_le (by omega))
        · exact .inl (List.drop_eq_nil_of_le (by omega))
end
section
variable {K : PySem.W.Frag}
theorem zw_go {Q : VK} {L : Addr} {c0 : Cfg} (oL : c0.H L = none) (o0 : OkC K c0) (dd : List D) (fin : ∀ H, Ext c0 ⟨c0.hd, c0.ι, c0.S, H⟩ → OkC K ⟨c0.hd, c0.ι, c0.S, H⟩ → Rep K ⟨c0.hd, c0.ι, c0.S, H⟩ (.ref L) (.list dd) → Q (.ref L) H) :
    ∀ (xs ys : List V) (dx dy : List D) (acc : List V) (done : List D) (H : Hp), RepA K (hide L ⟨c0.hd, c0.ι, c0.S, H⟩) xs dx → RepA K (hide L ⟨c0.hd, c0.ι, c0.S, H⟩) ys dy → Mk c0 L ⟨c0.hd, c0.ι, c0.S, H⟩ → OkC K (hide L ⟨c0.hd, c0.ι, c0.S, H⟩) → H L = some (.lst acc) → RepA K (hide L ⟨c0.hd, c0.ι, c0.S, H⟩) acc done → dd = done ++ zipL dx dy → Zw Q L xs ys acc H := by
  have ends : ∀ (acc : List V) (H : Hp), Mk c0 L ⟨c0.hd, c0.ι, c0.S, H⟩ → OkC K (hide L ⟨c0.hd, c0.ι, c0.S, H⟩) → H L = some (.lst acc) → RepA K (hide L ⟨c0.hd, c0.ι, c0.S, H⟩) acc dd → Q (.ref L) H := fun acc H m o hacc racc => by
    refine fin H m.ext (ok_unhide o) (.lst hacc ?_ (RepA.ext keep_unhide racc))
    rintro (z | ⟨n, cl, z1, z2, z3⟩)
    · obtain ⟨ob, q⟩ := (o0.hid L z).1
      cases oL.symm.trans q
    · exact (o.hid L List.mem_cons_self).2 (List.mem_of_getElem? z1)
  intro xs
  induction xs with
  | nil =>
    intro ys dx dy acc done H rx ry m o hacc racc e
    cases rx
    have e' : dd = done := by rw [e]; simp [zipL]
    subst e'
    exact ends acc H m o hacc racc
  | cons x xs ih =>
    intro ys dx dy acc done H rx ry m o hacc racc e
    cases ry with
    | nil =>
      have e' : dd = done := by rw [e]; simp [zipL]
      subst e'
      exact ends acc H m o hacc racc
    | cons r2 ry =>
      cases rx with
      | cons r1 rx =>
      rename_i y ys d2 dy d1 dx
      intro T hT
      obtain ⟨e1, o1, p1⟩ := pair_new (c := hide L ⟨c0.hd, c0.ι, c0.S, H⟩) o hT r1 r2
      have hLT : L ≠ T := fun z => by rw [← z, hacc] at hT; cases hT
      have m1 : Mk c0 L ⟨c0.hd, c0.ι, c0.S, upd H T (.tup [x, y])⟩ := m.go (c := ⟨c0.hd, c0.ι, c0.S, H⟩) e1
      have hacc1 : upd H T (.tup [x, y]) L = some (.lst acc) := (upd_ne hLT).trans hacc
      have km := keep_made (c := ⟨c0.hd, c0.ι, c0.S, upd H T (.tup [x, y])⟩) (D := L) (u := .lst (acc ++ [.ref T]))
      refine ih ys dx dy (acc ++ [.ref T]) (done ++ [.tuple [d1, d2]]) (upd (upd H T (.tup [x, y])) L (.lst (acc ++ [.ref T]))) (RepA.ext (e1.toKeep.trans km) rx) (RepA.ext (e1.toKeep.trans km) ry)
        ⟨m1.keep.trans km, m1.pre, fun a ha => ?_, m1.same⟩ (ok_made (c := ⟨c0.hd, c0.ι, c0.S, upd H T (.tup [x, y])⟩) o1) upd_same (RepA.ext km ((RepA.ext e1.toKeep racc).append (.cons p1 .nil))) ?_
      · show upd (upd H T (.tup [x, y])) L _ a = _
        rw [upd_ne (o0.hid_ne oL ha)]
        exact m1.hid a ha
      · rw [e]
        simp [zipL]
def listZip : OpN := fun us S => (toDs us S).bind fun ds S1 => match ds with
  | [.list xs, .list ys] => .ok (.d (.list (zipL xs ys))) S1
  | _ => .bad
theorem pd_lzip {X : Cx} {E : EXW} {a b : Expr} {t : DA} {p q pos pos2 : Pos} (hc : X.calm = true) (hg : Gl X "list") (hm : X.mg "list" = none) (hg2 : Gl X "zip") (hm2 : X.mg "zip" = none) (ha : PA X [a, b] (tA X.K E t))
    (hs : starEach [a, b] X.env = (false, eval a X.env) :: starEach [b] X.env := by rfl) (hpl : (backTo pos2 (starEach [b] X.env)).any (·.1) = false := by rfl)
    (na : starEach [.Call (.Name "zip" q) [a, b] [] pos2] X.env = (false, eval (.Call (.Name "zip" q) [a, b] [] pos2) X.env) :: starEach [] X.env := by rfl) :
    PE X (.Call (.Name "list" p) [.Call (.Name "zip" q) [a, b] [] pos2] [] pos) (tD X.K E (dCall listZip t)) := (pe_listZip hc hg hm hg2 hm2 ha hs hpl na).dimp fun σ H Q ⟨hd, ι, S, ρ, at_, h⟩ => by
  have h : Post X.K E ⟨hd, ι, S, H⟩ Q ((t ρ S).bind listZip) := h
  refine tA_stepG (c := ⟨hd, ι, S, H⟩) at_ h fun us vs c1 e1 a1 r1 h1 => ?_
  obtain ⟨ds, S2, e2, o2, r2, h2⟩ := toDs_step a1.ok r1 h1
  split at h2
  · rename_i xs ys
    cases r2 with
    | cons ra rt =>
    cases rt with
    | cons rb rt =>
    cases rt
    cases ra with
    | lst q1 n1 w1 =>
    cases rb with
    | lst q2 n2 w2 =>
    refine ⟨_, _, _, _, rfl, .inl (.inl q1), .inl (.inl q2), fun L hL => ?_⟩
    have kb := keep_begin (c := ⟨c1.hd, c1.ι, S2, c1.H⟩) (D := L) (u := .lst []) hL
    exact zw_go (c0 := ⟨c1.hd, c1.ι, S2, c1.H⟩) hL o2 (zipL xs ys) (fun H eH oH rH => h2 (.ref L) c1.ι H eH oH rH) _ _ xs ys [] [] (upd c1.H L (.lst [])) (RepA.ext kb w1) (RepA.ext kb w2) ⟨kb, List.prefix_refl _, fun a ha => upd_ne (o2.hid_ne hL ha), rfl⟩ (ok_begin o2 hL) upd_same .nil rfl
  · exact h2.elim
end
end DL
namespace DL
open PySem PySem.Spec PyProof.Rows L2
section
variable {X : Cx} {E : EXW} {K : PySem.W.Frag} {a b d e : Expr} {f g : DE} {pos : Pos}
/-! ### x, y = e, e2 by way of a tuple (a name that a comprehension reads is a cell of the def) -/
theorem sd_parU {i j : Nat} {x y : Str} {px py pt : Pos} {kt k2 : Nat} {pt2 : Pos} {t : DA} (hc : X.calm = true) (hN : X.N.Nodup) (hi : X.N[i]? = some x) (hj : X.N[j]? = some y)
    (hx : Loc X.env.scope x) (hy : Loc X.env.scope y) (ha : PA X [a, b] (tA X.K E t))
    (hs : swapsWithSole [.Tuple [.Name x px, .Name y py] kt pt] (.Tuple [a, b] k2 pt2) pos.line X.env = pure false := by rfl) (hw : swappedStores [.Tuple [.Name x px, .Name y py] kt pt] (.Tuple [a, b] k2 pt2) X.env = pure none := by rfl)
    (h1 : (assignEach [.Tuple [.Name x px, .Name y py] kt pt] X.env).map (·.2) = [assign (.Tuple [.Name x px, .Name y py] kt pt) X.env] := by rfl)
    (hn : (assignEach [.Name x px, .Name y py] X.env).length = 2 := by rfl) (hst : (assignEach [.Name x px, .Name y py] X.env).findIdx? (·.1) = none := by rfl)
    (c1 : (assignEach [.Name x px, .Name y py] X.env).map (·.2) = assign (.Name x px) X.env :: (assignEach [.Name y py] X.env).map (·.2) := by rfl) (c2 : (assignEach [.Name y py] X.env).map (·.2) = assign (.Name y py) X.env :: (assignEach [] X.env).map (·.2) := by rfl)
    (hf : X.fn x = true ∨ X.env.scope.names.lookup x = some .local := by first | exact .inl rfl | exact .inr rfl | assumption) (hf2 : X.fn y = true ∨ X.env.scope.names.lookup y = some .local := by first | exact .inl rfl | exact .inr rfl | assumption) :
    PS X (.Assign [.Tuple [.Name x px, .Name y py] kt pt] (.Tuple [a, b] k2 pt2) pos) (tS X.K E (sPar i j t)) :=
  (ps_asg (pe_tup ha) (pg_tup hc (pgs_cons (pg_name hN hi hx hf) (pgs_cons (pg_name hN hj hy hf2) pgs_nil c2) c1) hn hst) hs hw h1).dimp fun D σ H ⟨hd, ι, S, ρ, at_, h⟩ => by
  have h : PostS X.K E ⟨hd, ι, S, H⟩ D ((t ρ S).toRt fun us S' => match us with
    | [u, w] => .nx ((ρ.set i (some u)).set j (some w)) S'
    | _ => .bad) := h
  refine tA_stepS (c := ⟨hd, ι, S, H⟩) at_ h fun us vs c1 e1 a1 r1 h1 => ?_
  split at h1
  · obtain ⟨v, w, rfl, r1, r2⟩ := us2 r1
    refine ⟨by rw [sizeLine_eq]; simp, fun q hq => ⟨q, [v, w], rfl, .inl (.inl upd_same), rfl, v, [w], rfl, w, [], rfl, rfl, ?_⟩⟩
    have ex := ext_new (c := c1) (u := .tup [v, w]) a1.ok hq
    have oo := ok_new (c := c1) (u := .tup [v, w]) a1.ok hq
    exact PostS.nxt (c := ⟨c1.hd, c1.ι, c1.S, upd c1.H q (.tup [v, w])⟩) (PostS.step h1 ex) (((a1.ext ex oo).set (r1.ext ex)).set (r2.ext ex))
  · exact h1.elim
/-! ### slices, of texts too -/
def slA (u : U) (lo hi : Option Int) (S : Sto) : Rs U := match u with
  | .d (.str z) => if z.length ≤ 16777216 then .ok (.d (.str (cutS z lo hi))) S else .bad
  | u => slD u lo hi S
def dSlA (f : DE) (l h : DO) : DE := fun ρ S => (f ρ S).bind fun u S1 => (l ρ S1).bind fun lo S2 => (h ρ S2).bind fun hi S3 => slA u lo hi S3
theorem pd_slA {lo hi : Option Expr} {p2 : Pos} {l h : DO} (ha : PE X a (tD X.K E f)) (hl : PO X lo (tO X.K E l)) (hh : PO X hi (tO X.K E h)) : PE X (.Subscript a (.Slice lo hi none p2) pos) (tD X.K E (dSlA f l h)) :=
  (pe_slice ((sl_list.or sl_tupA).or sl_str) ha hl hh).dimp fun σ H Q ⟨hd, ι, S, ρ, at_, h⟩ => by
    refine tD_stepG (c := ⟨hd, ι, S, H⟩) at_ h fun u v c1 e1 a1 r1 h1 => ?_
    refine tO_stepG (c := c1) a1 h1 fun lo c2 e2 a2 h2 => ?_
    refine tO_stepG (c := c2) a2 h2 fun hi c3 e3 a3 h3 => ?_
    have r3 := (r1.ext e2).ext e3
    unfold slA at h3
    split at h3
    · rename_i z
      split at h3
      · rename_i hz
        rw [rStr r3]
        exact .inr ⟨z, rfl, by rw [sizeLine_eq]; exact hz, Post.val h3 a3.ok (.str _)⟩
      · exact h3.elim
    · unfold slD at h3
      split at h3
      · obtain ⟨p, vs, rfl, q1, q2⟩ := sqT_of r3
        refine .inl (.inr ⟨p, vs, rfl, q1, fun hw => ?_, fun hw q hq => ?_⟩)
        · rw [q2.length] at hw
          rw [cut_whole _ hw] at h3
          exact Post.val h3 a3.ok r3
        · exact Post.new h3 a3.ok hq (rep_newT a3.ok hq (cut_rep q2 lo hi))
      · exact h3.elim
      · split at h3
        · rename_i hl
          obtain ⟨p, vs, rfl, q1, q2⟩ := lstOf_rep a3.ok r3 hl
          exact .inl (.inl ⟨p, vs, rfl, .inl (.inl q1), fun q hq => Post.new h3 a3.ok hq (rep_newL a3.ok hq (cut_rep q2 lo hi))⟩)
        · exact h3.elim
end
end DL
namespace DL
open PySem PySem.Spec PyProof.Rows L2
/-! ### to compute a denotation -/
section
variable {α β : Type} {m m' : Rs α} {k : α → Sto → Rs β} {k' : α → Sto → Rt} {a : α} {S : Sto} {ρ : Rho}
/-- a result's type, told with what goes on behind it: a simp then leaves that alone until it is reached -/
abbrev RsOf {γ : Type} (β : Type) (_ : γ) : Type := Rs β
abbrev RtOf {γ : Type} (_ : γ) : Type := Rt
def Rs.bnd {α β : Type} (m : Rs α) (k : α → Sto → Rs β) : RsOf β k := m.bind k
def Rs.goR {α : Type} (m : Rs α) (k : α → Sto → Rt) : RtOf k := m.toRt k
@[simp] theorem bnd_ok : (Rs.ok a S).bnd k = k a S := rfl
@[simp] theorem bnd_bad : (Rs.bad (α := α)).bnd k = .bad := rfl
@[simp] theorem goR_ok : (Rs.ok a S).goR k' = k' a S := rfl
@[simp] theorem goR_bad : (Rs.bad (α := α)).goR k' = .bad := rfl
@[simp] theorem bind_ok : (Rs.ok a S).bind k = k a S := rfl
@[simp] theorem bind_bad : (Rs.bad (α := α)).bind k = .bad := rfl
@[simp] theorem toRt_ok : (Rs.ok a S).toRt k' = k' a S := rfl
@[simp] theorem toRt_bad : (Rs.bad (α := α)).toRt k' = .bad := rfl
def Rt.thn (m : Rt) (k : Rho → Sto → Rt) : RtOf k := match m with
  | .nx ρ S => k ρ S
  | r => r
def Rt.fin (m : Rt) (n : Nat) : Rs U := match m with
  | .nx _ S' => finU (.d .none) S' n
  | .rt u S' => finU u S' n
  | .ex c fs S' => .ex c fs (S'.take n)
  | _ => .bad
@[simp] theorem thn_nx {k : Rho → Sto → Rt} : (Rt.nx ρ S).thn k = k ρ S := rfl
@[simp] theorem thn_rt {k : Rho → Sto → Rt} {u : U} : (Rt.rt u S).thn k = .rt u S := rfl
@[simp] theorem thn_bk {k : Rho → Sto → Rt} : (Rt.bk ρ S).thn k = .bk ρ S := rfl
@[simp] theorem thn_ct {k : Rho → Sto → Rt} : (Rt.ct ρ S).thn k = .ct ρ S := rfl
@[simp] theorem thn_bad {k : Rho → Sto → Rt} : (Rt.bad).thn k = .bad := rfl
@[simp] theorem fin_nx {n : Nat} : (Rt.nx ρ S).fin n = .ok (.d .none) (S.take n) := rfl
@[simp] theorem fin_rt {n : Nat} {x : D} : (Rt.rt (.d x) S).fin n = .ok (.d x) (S.take n) := rfl
@[simp] theorem fin_rtr {n k : Nat} : (Rt.rt (.r k) S).fin n = if k < n then .ok (.r k) (S.take n) else (match S[k]? with
    | some cl => .ok (.d cl.dat) (S.take n)
    | none => .bad) := rfl
@[simp] theorem fin_bad {n : Nat} : (Rt.bad).fin n = .bad := rfl
def slotU (o : Option (Option U)) (S : Sto) : Rs U := match o with
  | some (some u) => .ok u S
  | _ => .bad
@[simp] theorem slotU_s {u : U} : slotU (some (some u)) S = .ok u S := rfl
@[simp] theorem dVar_ap {i : Nat} : dVar i ρ S = slotU ρ[i]? S := rfl
@[simp] theorem dC_ap {d : D} : dC d ρ S = .ok (.d d) S := rfl
section
variable {op op' : Op2} {o1 : Op1} {f g k : DE} {p q : DT}
@[simp] theorem dOp2_ap : dOp2 op f g ρ S = (f ρ S).bnd fun u S1 => (g ρ S1).bnd fun w S2 => op u w S2 := rfl
@[simp] theorem dOp1_ap : dOp1 o1 f ρ S = (f ρ S).bnd o1 := rfl
@[simp] theorem asB_b {b : Bool} : asB (.d (.bool b)) S = .ok b S := rfl
@[simp] theorem dTest_ap : dTest f ρ S = (f ρ S).bnd asB := rfl
@[simp] theorem dChain_ap : dChain op op' f g k ρ S = (f ρ S).bnd fun u S1 => (g ρ S1).bnd fun w S2 => (op u w S2).bnd fun z S3 => (asB z S3).bnd fun b S4 =>
  if b = true then (k ρ S4).bnd fun y S5 => op' w y S5 else .ok (.d (.bool false)) S4 := rfl
@[simp] theorem dTru_ap : dTru f ρ S = (f ρ S).bnd truU := rfl
@[simp] theorem dAndT_ap : dAndT p q ρ S = (p ρ S).bnd fun b S1 => if b = true then q ρ S1 else .ok false S1 := rfl
@[simp] theorem dOrT_ap : dOrT p q ρ S = (p ρ S).bnd fun b S1 => if b = true then .ok true S1 else q ρ S1 := rfl
@[simp] theorem dNotT_ap : dNotT p ρ S = (p ρ S).bnd fun b S1 => .ok (!b) S1 := rfl
@[simp] theorem dAndV_ap : dAndV f g ρ S = (f ρ S).bnd fun u S1 => (asB u S1).bnd fun b S2 => if b = true then g ρ S2 else .ok (.d (.bool false)) S2 := rfl
@[simp] theorem dOrV_ap : dOrV f g ρ S = (f ρ S).bnd fun u S1 => (asB u S1).bnd fun b S2 => if b = true then .ok (.d (.bool true)) S2 else g ρ S2 := rfl
@[simp] theorem dNotV_ap : dNotV f ρ S = (f ρ S).bnd fun u S1 => (asB u S1).bnd fun b S2 => .ok (.d (.bool (!b))) S2 := rfl
@[simp] theorem dIf_ap : dIf p f g ρ S = (p ρ S).bnd fun b S1 => if b = true then f ρ S1 else g ρ S1 := rfl
@[simp] theorem truU_non : truU (.d .none) S = .ok false S := rfl
@[simp] theorem truU_b {b : Bool} : truU (.d (.bool b)) S = .ok b S := rfl
@[simp] theorem truU_i {i : Int} : truU (.d (.int i)) S = .ok (i != 0) S := rfl
@[simp] theorem truU_l {xs : List D} : truU (.d (.list xs)) S = .ok (!xs.isEmpty) S := rfl
@[simp] theorem truU_t {xs : List D} : truU (.d (.tuple xs)) S = .ok (!xs.isEmpty) S := rfl
@[simp] theorem aNil_ap : aNil ρ S = .ok [] S := rfl
@[simp] theorem aCons_ap {t : DA} : aCons f t ρ S = (f ρ S).bnd fun u S1 => (t ρ S1).bnd fun us S2 => .ok (u :: us) S2 := rfl
@[simp] theorem toD_d {x : D} : toD (.d x) S = .ok x S := rfl
@[simp] theorem toDs_nil : toDs [] S = .ok [] S := rfl
@[simp] theorem toDs_cons {u : U} {us : List U} : toDs (u :: us) S = (toD u S).bnd fun x S1 => (toDs us S1).bnd fun xs S2 => .ok (x :: xs) S2 := rfl
@[simp] theorem dTup_ap {t : DA} : dTup t ρ S = (t ρ S).bnd fun us S1 => (toDs us S1).bnd fun xs S2 => if xs.length ≤ 16777216 then .ok (.d (.tuple xs)) S2 else .bad := rfl
@[simp] theorem dLst_ap {t : DA} : dLst t ρ S = (t ρ S).bnd fun us S1 => (toDs us S1).bnd fun xs S2 => if xs.length ≤ 16777216 then .ok (.d (.list xs)) S2 else .bad := rfl
@[simp] theorem dCel_ap {t : DA} : dCel t ρ S = (t ρ S).bnd fun us S1 => (toDs us S1).bnd fun xs S2 => if xs.length ≤ 16777216 then .ok (.r S2.length) (S2 ++ [.lst xs]) else .bad := rfl
@[simp] theorem oNo_ap : oNo ρ S = .ok none S := rfl
@[simp] theorem oSo_ap : oSo f ρ S = (f ρ S).bnd fun u S1 => match u with
  | .d (.int i) => .ok (some i) S1
  | _ => .bad := rfl
@[simp] theorem dSl_ap {l h : DO} : dSl f l h ρ S = (f ρ S).bnd fun u S1 => (l ρ S1).bnd fun lo S2 => (h ρ S2).bnd fun hi S3 => slD u lo hi S3 := rfl
@[simp] theorem dCall_ap {o : OpN} {t : DA} : dCall o t ρ S = (t ρ S).bnd o := rfl
@[simp] theorem dFn_ap {F : Fn} {t : DA} : dFn F t ρ S = (t ρ S).bnd F := rfl
@[simp] theorem dIt_ap : dIt f ρ S = (f ρ S).bnd itSeq := rfl
@[simp] theorem dItS_ap : dItS f ρ S = (f ρ S).bnd itStr := rfl
@[simp] theorem dItA_ap {h : List U → Sto → Rs (List D)} {t : DA} : dItA h t ρ S = (t ρ S).bnd h := rfl
@[simp] theorem dComp_ap {it : DI} {tg : Tg} {own : List Nat} {tst : DT} {el : DE} : dComp it tg own tst el ρ S = (it ρ S).bnd fun ds S1 => if ds.length ≤ 16777216 then (compL tg own tst el ρ ds S1).bnd fun ys S2 => .ok (.d (.list ys)) S2 else .bad := rfl
@[simp] theorem tstY_ap : tstY ρ S = .ok true S := rfl
@[simp] theorem dApp_ap : dApp f g ρ S = (f ρ S).bnd fun u S1 => (match u with
  | .r n => if isLst n S1 = true then (g ρ S1).bnd fun w S2 => appN n w S2 else .bad
  | _ => .bad) := rfl
/-! statements -/
variable {t u : DS}
@[simp] theorem sNil_ap : sNil ρ S = .nx ρ S := rfl
@[simp] theorem sSeq_ap : sSeq t u ρ S = (t ρ S).thn u := rfl
@[simp] theorem sBrk_ap : sBrk ρ S = .bk ρ S := rfl
@[simp] theorem sCnt_ap : sCnt ρ S = .ct ρ S := rfl
@[simp] theorem sNever_ap : sNever ρ S = .bad := rfl
@[simp] theorem sExp_ap : sExp f ρ S = (f ρ S).goR fun _ S' => .nx ρ S' := rfl
@[simp] theorem sRet_ap : sRet f ρ S = (f ρ S).goR fun u S' => .rt u S' := rfl
@[simp] theorem sRetN_ap : sRetN ρ S = .rt (.d .none) S := rfl
@[simp] theorem sIf_ap : sIf p t u ρ S = (p ρ S).goR fun b S' => if b = true then t ρ S' else u ρ S' := rfl
@[simp] theorem sSet_ap {i : Nat} : sSet i f ρ S = (f ρ S).goR fun u S' => .nx (ρ.set i (some u)) S' := rfl
@[simp] theorem sPar_ap {i j : Nat} {a : DA} : sPar i j a ρ S = (a ρ S).goR fun us S' => match us with
  | [u, w] => .nx ((ρ.set i (some u)).set j (some w)) S'
  | _ => .bad := rfl
@[simp] theorem sFor_ap {it : DI} {tg : Tg} : sFor it tg t ρ S = (it ρ S).goR fun ds S1 => forL tg t ds ρ S1 := rfl
@[simp] theorem sSetI_ap : sSetI f g k ρ S = (k ρ S).goR fun u S1 => (toD u S1).goR fun x S2 => (f ρ S2).goR fun w S3 => (g ρ S3).goR fun y S4 => (setN w y x S4).goR fun _ S5 => .nx ρ S5 := rfl
@[simp] theorem gN_ap {i : Nat} {d : D} : gN i d ρ = some (ρ.set i (some (.d d))) := rfl
@[simp] theorem gT_ap {tt : Tgs} {ds : List D} : gT tt (.tuple ds) ρ = tt ds ρ := rfl
@[simp] theorem gsN_ap : gsN [] ρ = some ρ := rfl
@[simp] theorem gsC_ap {tt : Tgs} {g1 : Tg} {d : D} {ds : List D} : gsC g1 tt (d :: ds) ρ = (g1 d ρ).bind fun ρ1 => tt ds ρ1 := rfl
@[simp] theorem wipe_nil : wipeR ρ [] = ρ := rfl
@[simp] theorem wipe_cons {v : Nat} {vs : List Nat} : wipeR ρ (v :: vs) = (wipeR ρ vs).set v none := rfl
theorem fnD_ap {np N : Nat} {us : List U} : fnD np N t us S = if us.length = np then (t (us.map some ++ List.replicate (N - np) none) S).fin S.length else .bad := by
  unfold fnD Rt.fin
  rfl
end
/-! operators -/
section
variable {i j : Int} {x y : Str} {xs ys : List D} {b c : Bool} {d e : D}
@[simp] theorem addD_i : addD (.d (.int i)) (.d (.int j)) S = .ok (.d (.int (i + j))) S := rfl
@[simp] theorem addD_t : addD (.d (.tuple xs)) (.d (.tuple ys)) S = if xs.length + ys.length ≤ 16777216 then .ok (.d (.tuple (xs ++ ys))) S else .bad := rfl
@[simp] theorem addD_l : addD (.d (.list xs)) (.d (.list ys)) S = if xs.length + ys.length ≤ 16777216 then .ok (.d (.list (xs ++ ys))) S else .bad := rfl
@[simp] theorem addD_s : addD (.d (.str x)) (.d (.str y)) S = if x.length + y.length ≤ 16777216 then .ok (.d (.str (x ++ y))) S else .bad := rfl
@[simp] theorem subD_i : subD (.d (.int i)) (.d (.int j)) S = .ok (.d (.int (i - j))) S := rfl
@[simp] theorem mulD_i : mulD' (.d (.int i)) (.d (.int j)) S = if CMul i j then .ok (.d (.int (i * j))) S else .bad := rfl
@[simp] theorem mulD_s {z : Str} {k : Int} : mulD' (.d (.str z)) (.d (.int k)) S = if 0 ≤ k ∧ k < 100000 ∧ z.length ≤ 100 ∧ (repS z k).length ≤ 16777216 then .ok (.d (.str (repS z k))) S else .bad := rfl
@[simp] theorem fdivD_i : fdivD (.d (.int i)) (.d (.int j)) S = if CDiv i j then .ok (.d (.int (i / j))) S else .bad := rfl
@[simp] theorem modD_i : modD (.d (.int i)) (.d (.int j)) S = if 0 < j then .ok (.d (.int (i % j))) S else .bad := rfl
@[simp] theorem powD_i : powD (.d (.int i)) (.d (.int j)) S = if CPow i j then .ok (.d (.int (i ^ j.toNat))) S else .bad := rfl
@[simp] theorem negD_i : negD (.d (.int i)) S = .ok (.d (.int (-i))) S := rfl
@[simp] theorem ltD_i : ltD (.d (.int i)) (.d (.int j)) S = .ok (.d (.bool (decide (i < j)))) S := rfl
@[simp] theorem leD_i : leD (.d (.int i)) (.d (.int j)) S = .ok (.d (.bool (decide (i ≤ j)))) S := rfl
@[simp] theorem gtD_i : gtD (.d (.int i)) (.d (.int j)) S = .ok (.d (.bool (decide (j < i)))) S := rfl
@[simp] theorem geD_i : geD (.d (.int i)) (.d (.int j)) S = .ok (.d (.bool (decide (j ≤ i)))) S := rfl
@[simp] theorem eqD_d : eqD (.d d) (.d e) S = if SeqAt.shaped d = true ∧ SeqAt.shaped e = true then .ok (.d (.bool (PyData.eqv d e))) S else .bad := rfl
@[simp] theorem neD_d : neD (.d d) (.d e) S = if SeqAt.shaped d = true ∧ SeqAt.shaped e = true then .ok (.d (.bool (!PyData.eqv d e))) S else .bad := rfl
@[simp] theorem isD_n {neg : Bool} : isD neg (.d d) (.d .none) S = .ok (.d (.bool (if neg = true then !isNo d else isNo d))) S := by
  cases d <;> rfl
@[simp] theorem isD_b {neg : Bool} : isD neg (.d (.bool b)) (.d (.bool c)) S = .ok (.d (.bool (if neg = true then !decide (b = c) else decide (b = c)))) S := rfl
@[simp] theorem inD_s {neg : Bool} : inD neg (.d (.str x)) (.d (.str y)) S = .ok (.d (.bool (if neg = true then !signIn x y else signIn x y))) S := rfl
@[simp] theorem lenN_t : lenN [.d (.tuple xs)] S = .ok (.d (.int xs.length)) S := rfl
@[simp] theorem lenN_l : lenN [.d (.list xs)] S = .ok (.d (.int xs.length)) S := rfl
@[simp] theorem intN_i : intN [.d (.int i)] S = .ok (.d (.int i)) S := rfl
@[simp] theorem absN_i : absN [.d (.int i)] S = .ok (.d (.int (i.natAbs : Int))) S := by
  have e : (if i < 0 then -i else i) = (i.natAbs : Int) := by split <;> omega
  show Rs.ok (U.d (.int (if i < 0 then -i else i))) S = _
  rw [e]
@[simp] theorem maxN_i : maxN2 [.d (.int i), .d (.int j)] S = .ok (.d (.int (max i j))) S := by
  have e : (if j > i then j else i) = max i j := by split <;> omega
  show Rs.ok (U.d (.int (if j > i then j else i))) S = _
  rw [e]
@[simp] theorem minN_i : minN2 [.d (.int i), .d (.int j)] S = .ok (.d (.int (min i j))) S := by
  have e : (if j < i then j else i) = min i j := by split <;> omega
  show Rs.ok (U.d (.int (if j < i then j else i))) S = _
  rw [e]
@[simp] theorem listN_t : listN [.d (.tuple xs)] S = .ok (.d (.list xs)) S := rfl
@[simp] theorem listN_l : listN [.d (.list xs)] S = .ok (.d (.list xs)) S := rfl
@[simp] theorem listN_s {ns : List Int} : listN [.s ns] S = .ok (.d (.list (ns.map .int))) S := rfl
@[simp] theorem tupleN_t : tupleN [.d (.tuple xs)] S = .ok (.d (.tuple xs)) S := rfl
@[simp] theorem tupleN_l : tupleN [.d (.list xs)] S = .ok (.d (.tuple xs)) S := rfl
@[simp] theorem itSeq_t : itSeq (.d (.tuple xs)) S = .ok xs S := rfl
@[simp] theorem itSeq_l : itSeq (.d (.list xs)) S = .ok xs S := rfl
@[simp] theorem itStr_s : itStr (.d (.str x)) S = .ok (signs x) S := rfl
@[simp] theorem itZip_t : itZip [.d (.tuple xs), .d (.tuple ys)] S = .ok (zipL xs ys) S := rfl
@[simp] theorem itZip_l : itZip [.d (.list xs), .d (.list ys)] S = .ok (zipL xs ys) S := rfl
@[simp] theorem itR1_i : itR1 [.d (.int j)] S = if -(2 ^ 62) ≤ j ∧ j < 2 ^ 62 then .ok (rngL 0 j.toNat) S else .bad := rfl
@[simp] theorem itR2_i : itR2 [.d (.int i), .d (.int j)] S = if -(2 ^ 62) ≤ i ∧ i < 2 ^ 62 ∧ -(2 ^ 62) ≤ j ∧ j < 2 ^ 62 then .ok (rngL i (j - i).toNat) S else .bad := rfl
@[simp] theorem ixD_t : ixD (.d (.tuple xs)) (.d (.int i)) S = (match atI xs i with
    | some x => .ok (.d x) S
    | none => .bad) := rfl
@[simp] theorem ixD_l : ixD (.d (.list xs)) (.d (.int i)) S = (match atI xs i with
    | some x => .ok (.d x) S
    | none => .bad) := rfl
@[simp] theorem slD_t {lo hi : Option Int} : slD (.d (.tuple xs)) lo hi S = .ok (.d (.tuple (cutL xs lo hi))) S := rfl
@[simp] theorem slD_l {lo hi : Option Int} : slD (.d (.list xs)) lo hi S = .ok (.d (.list (cutL xs lo hi))) S := rfl
@[simp] theorem revA_t : revA (.d (.tuple xs)) S = .ok (.d (.tuple xs.reverse)) S := rfl
@[simp] theorem revA_l : revA (.d (.list xs)) S = .ok (.d (.list xs.reverse)) S := rfl
@[simp] theorem atI_0 {α : Type} {x : α} {xs : List α} : atI (x :: xs) 0 = some x := by
  unfold atI ixN
  rw [if_pos (by decide), if_pos (by simp only [List.length_cons]; omega)]
  rfl
theorem atI_nat {α : Type} {xs : List α} {n : Nat} (h : n < xs.length) : atI xs (n : Int) = xs[n]? := by
  unfold atI ixN
  rw [if_pos (by omega), if_pos (by omega)]
  rfl
theorem atI_m1 {α : Type} {xs : List α} (h : 0 < xs.length) : atI xs (-1) = xs[xs.length - 1]? := by
  unfold atI ixN
  rw [if_neg (by decide), if_pos (by omega)]
  show xs[(-1 + (xs.length : Int)).toNat]? = _
  congr 1
  omega
theorem all_b {bs : List Bool} : allN [.d (.list (bs.map .bool))] S = .ok (.d (.bool (bs.all id))) S := by
  have e : bools (bs.map .bool) = some bs := by
    induction bs with
    | nil => rfl
    | cons b r ih => simp only [List.map_cons, bools, ih, Option.map_some]
  unfold allN onBools
  simp only [lstOf, Option.bind_some, e]
theorem any_b {bs : List Bool} : anyN [.d (.list (bs.map .bool))] S = .ok (.d (.bool (bs.any id))) S := by
  have e : bools (bs.map .bool) = some bs := by
    induction bs with
    | nil => rfl
    | cons b r ih => simp only [List.map_cons, bools, ih, Option.map_some]
  unfold anyN onBools
  simp only [lstOf, Option.bind_some, e]
end
end
/-! ### comprehensions and loops -/
theorem compL_map {α : Type} {tg : Tg} {own : List Nat} {tst : DT} {el : DE} {ρ : Rho} {S : Sto} (g : α → D) (p : α → Bool) (f : α → D) : ∀ (xs : List α),
    (∀ x, x ∈ xs → ∃ ρ1, tg (g x) (wipeR ρ own) = some ρ1 ∧ tst ρ1 S = .ok (p x) S ∧ (p x = true → el ρ1 S = .ok (.d (f x)) S)) →
    compL tg own tst el ρ (xs.map g) S = .ok ((xs.filter p).map f) S
  | [], _ => rfl
  | x :: xs, h => by
    obtain ⟨ρ1, h1, h2, h3⟩ := h x List.mem_cons_self
    have ih := compL_map (tg := tg) (own := own) (tst := tst) (el := el) (ρ := ρ) (S := S) g p f xs fun y hy => h y (List.mem_cons_of_mem _ hy)
    rw [List.map_cons]
    unfold compL
    simp only [h1, h2, bind_ok]
    cases e : p x with
    | true =>
      rw [if_pos rfl, h3 e]
      simp only [bind_ok, toD_d, ih, List.filter_cons, e, if_true, List.map_cons]
    | false =>
      rw [if_neg (by decide), ih, List.filter_cons, e]
      rfl
theorem compL_id {tg : Tg} {own : List Nat} {tst : DT} {el : DE} {ρ : Rho} {S : Sto} (p : D → Bool) (f : D → D) (xs : List D)
    (h : ∀ x, x ∈ xs → ∃ ρ1, tg x (wipeR ρ own) = some ρ1 ∧ tst ρ1 S = .ok (p x) S ∧ (p x = true → el ρ1 S = .ok (.d (f x)) S)) :
    compL tg own tst el ρ xs S = .ok ((xs.filter p).map f) S := by
  have := compL_map (tg := tg) (own := own) (tst := tst) (el := el) (ρ := ρ) (S := S) id p f xs h
  rwa [List.map_id] at this
/-- no test -/
theorem compL_mapY {α : Type} {tg : Tg} {own : List Nat} {el : DE} {ρ : Rho} {S : Sto} (g : α → D) (f : α → D) (xs : List α)
    (h : ∀ x, x ∈ xs → ∃ ρ1, tg (g x) (wipeR ρ own) = some ρ1 ∧ el ρ1 S = .ok (.d (f x)) S) : compL tg own tstY el ρ (xs.map g) S = .ok (xs.map f) S := by
  have := compL_map (tg := tg) (own := own) (tst := tstY) (el := el) (ρ := ρ) (S := S) g (fun _ => true) f xs fun x hx => by
    obtain ⟨ρ1, a, b⟩ := h x hx
    exact ⟨ρ1, a, rfl, fun _ => b⟩
  rwa [List.filter_eq_self.mpr fun _ _ => rfl] at this
theorem compL_idY {tg : Tg} {own : List Nat} {el : DE} {ρ : Rho} {S : Sto} (f : D → D) (xs : List D)
    (h : ∀ x, x ∈ xs → ∃ ρ1, tg x (wipeR ρ own) = some ρ1 ∧ el ρ1 S = .ok (.d (f x)) S) : compL tg own tstY el ρ xs S = .ok (xs.map f) S := by
  have := compL_mapY (tg := tg) (own := own) (el := el) (ρ := ρ) (S := S) id f xs h
  rwa [List.map_id] at this
/-- one that passes nothing -/
theorem compL_none {tg : Tg} {own : List Nat} {tst : DT} {el : DE} {ρ : Rho} {S : Sto} (xs : List D)
    (h : ∀ x, x ∈ xs → ∃ ρ1, tg x (wipeR ρ own) = some ρ1 ∧ tst ρ1 S = .ok false S) :
    compL tg own tst el ρ xs S = .ok [] S := by
  have := compL_id (tg := tg) (own := own) (tst := tst) (el := el) (ρ := ρ) (S := S) (fun _ => false) id xs fun x hx => by
    obtain ⟨ρ1, a, b⟩ := h x hx
    exact ⟨ρ1, a, b, fun z => by cases z⟩
  rw [this]
  simp
/-- one that draws -/
theorem compL_inv {tg : Tg} {own : List Nat} {tst : DT} {el : DE} {ρ : Rho} (I : Sto → Prop) (φ : D → Prop) : ∀ (xs : List D) (S : Sto), I S →
    (∀ x, x ∈ xs → ∀ S, I S → ∃ ρ1, tg x (wipeR ρ own) = some ρ1 ∧ tst ρ1 S = .ok true S ∧ ∃ y S', el ρ1 S = .ok (.d y) S' ∧ I S' ∧ φ y) →
    ∃ ys S', compL tg own tst el ρ xs S = .ok ys S' ∧ I S' ∧ ys.length = xs.length ∧ ∀ y, y ∈ ys → φ y
  | [], S, i, _ => ⟨[], S, rfl, i, rfl, fun _ h => by cases h⟩
  | x :: xs, S, i, h => by
    obtain ⟨ρ1, h1, h2, y, S1, h3, i1, hy⟩ := h x List.mem_cons_self S i
    obtain ⟨ys, S2, h4, i2, l, hys⟩ := compL_inv (tg := tg) (own := own) (tst := tst) (el := el) (ρ := ρ) I φ xs S1 i1 fun y hy => h y (List.mem_cons_of_mem _ hy)
    refine ⟨y :: ys, S2, ?_, i2, by simp [l], fun z hz => ?_⟩
    · unfold compL
      simp only [h1, h2, bind_ok, if_true, h3, toD_d, h4]
    · rcases List.mem_cons.mp hz with rfl | hz
      · exact hy
      · exact hys z hz
/-- what a statement comes to: it goes on, or hands back -/
def Rt.To (m : Rt) (N : Rho → Sto → Prop) (R : U → Sto → Prop) : Prop := match m with
  | .nx ρ S => N ρ S
  | .rt u S => R u S
  | _ => False
/-- .. of a loop's body -/
def Rt.ToB (m : Rt) (N B : Rho → Sto → Prop) (R : U → Sto → Prop) : Prop := match m with
  | .nx ρ S => N ρ S
  | .ct ρ S => N ρ S
  | .bk ρ S => B ρ S
  | .rt u S => R u S
  | _ => False
@[simp] theorem To_nx {N : Rho → Sto → Prop} {R : U → Sto → Prop} {ρ : Rho} {S : Sto} : (Rt.nx ρ S).To N R ↔ N ρ S := Iff.rfl
@[simp] theorem To_rt {N : Rho → Sto → Prop} {R : U → Sto → Prop} {u : U} {S : Sto} : (Rt.rt u S).To N R ↔ R u S := Iff.rfl
@[simp] theorem ToB_nx {N B : Rho → Sto → Prop} {R : U → Sto → Prop} {ρ : Rho} {S : Sto} : (Rt.nx ρ S).ToB N B R ↔ N ρ S := Iff.rfl
@[simp] theorem ToB_ct {N B : Rho → Sto → Prop} {R : U → Sto → Prop} {ρ : Rho} {S : Sto} : (Rt.ct ρ S).ToB N B R ↔ N ρ S := Iff.rfl
@[simp] theorem ToB_bk {N B : Rho → Sto → Prop} {R : U → Sto → Prop} {ρ : Rho} {S : Sto} : (Rt.bk ρ S).ToB N B R ↔ B ρ S := Iff.rfl
@[simp] theorem ToB_rt {N B : Rho → Sto → Prop} {R : U → Sto → Prop} {u : U} {S : Sto} : (Rt.rt u S).ToB N B R ↔ R u S := Iff.rfl
theorem forL_to {tg : Tg} {body : DS} {B : Rho → Sto → Prop} {R : U → Sto → Prop} (ds0 : List D) (I : Nat → Rho → Sto → Prop) (hI : ∀ ρ S, I ds0.length ρ S → B ρ S)
    (step : ∀ i d ρ S, ds0[i]? = some d → I i ρ S → ∃ ρ1, tg d ρ = some ρ1 ∧ (body ρ1 S).ToB (I (i + 1)) B R) :
    ∀ (n : Nat) (ds : List D) (i : Nat) (ρ : Rho) (S : Sto), ds.length = n → ds0.drop i = ds → i ≤ ds0.length → I i ρ S → (forL tg body ds ρ S).To B R
  | 0, ds, i, ρ, S, hn, hd, hi, h => by
    have : ds = [] := List.length_eq_zero_iff.mp hn
    subst this
    have : i = ds0.length := by
      have := congrArg List.length hd
      simp at this
      omega
    subst this
    exact hI _ _ h
  | n + 1, [], i, ρ, S, hn, hd, hi, h => by cases hn
  | n + 1, d :: ds, i, ρ, S, hn, hd, hi, h => by
    have hlt : i < ds0.length := by
      have := congrArg List.length hd
      simp at this
      omega
    have h1 : ds0[i]? = some d := by
      have := congrArg (·[0]?) hd
      simpa using this
    have h2 : ds0.drop (i + 1) = ds := by
      have := congrArg List.tail hd
      simpa using this
    obtain ⟨ρ1, e, hb⟩ := step i d ρ S h1 h
    unfold forL
    rw [e]
    show Rt.To (match body ρ1 S with
      | .nx ρ' S' => forL tg body ds ρ' S'
      | .ct ρ' S' => forL tg body ds ρ' S'
      | .bk ρ' S' => .nx ρ' S'
      | r => r) B R
    revert hb
    cases body ρ1 S with
    | nx ρ' S' => exact fun hb => forL_to ds0 I hI step n ds (i + 1) ρ' S' (by simpa using hn) h2 hlt hb
    | ct ρ' S' => exact fun hb => forL_to ds0 I hI step n ds (i + 1) ρ' S' (by simpa using hn) h2 hlt hb
    | bk ρ' S' => exact fun hb => hb
    | rt u S' => exact fun hb => hb
    | ex _ _ _ => exact fun hb => hb.elim
    | bad => exact fun hb => hb.elim
/-- a for: an invariant over how many were taken -/
theorem for_to {tg : Tg} {body : DS} {B : Rho → Sto → Prop} {R : U → Sto → Prop} {ds : List D} {ρ : Rho} {S : Sto} (I : Nat → Rho → Sto → Prop) (h0 : I 0 ρ S) (hI : ∀ ρ S, I ds.length ρ S → B ρ S)
    (step : ∀ i d ρ S, ds[i]? = some d → I i ρ S → ∃ ρ1, tg d ρ = some ρ1 ∧ (body ρ1 S).ToB (I (i + 1)) B R) : (forL tg body ds ρ S).To B R :=
  forL_to ds I hI step _ ds 0 ρ S rfl rfl (Nat.zero_le _) h0
/-- a while: a measure -/
theorem while_to {p : DT} {body : DS} {B : Rho → Sto → Prop} {R : U → Sto → Prop} (I : Nat → Rho → Sto → Prop)
    (step : ∀ m ρ S, I m ρ S → ∃ b S1, p ρ S = .ok b S1 ∧ (b = true → (body ρ S1).ToB (fun ρ' S' => ∃ m', m' < m ∧ I m' ρ' S') B R) ∧ (b = false → B ρ S1)) :
    ∀ (n m : Nat) (ρ : Rho) (S : Sto), m < n → I m ρ S → (whileN p body n ρ S).To B R
  | 0, m, ρ, S, h, _ => by omega
  | n + 1, m, ρ, S, h, i => by
    obtain ⟨b, S1, e, h1, h2⟩ := step m ρ S i
    unfold whileN
    rw [e]
    show Rt.To (if b = true then _ else _) B R
    cases b with
    | false => rw [if_neg (by decide)]; exact h2 rfl
    | true =>
      rw [if_pos rfl]
      have hb := h1 rfl
      revert hb
      cases body ρ S1 with
      | nx ρ' S' => exact fun ⟨m', l, hi⟩ => while_to I step n m' ρ' S' (by omega) hi
      | ct ρ' S' => exact fun ⟨m', l, hi⟩ => while_to I step n m' ρ' S' (by omega) hi
      | bk ρ' S' => exact fun hb => hb
      | rt u S' => exact fun hb => hb
      | ex _ _ _ => exact fun hb => hb.elim
      | bad => exact fun hb => hb.elim
theorem To_nx_inv {m : Rt} {N : Rho → Sto → Prop} (h : m.To N fun _ _ => False) : ∃ ρ S, m = .nx ρ S ∧ N ρ S := by
  cases m with
  | nx ρ S => exact ⟨ρ, S, rfl, h⟩
  | rt u S => exact h.elim
  | bk _ _ => exact h.elim
  | ct _ _ => exact h.elim
  | ex _ _ _ => exact h.elim
  | bad => exact h.elim
theorem To_cases {m : Rt} {N : Rho → Sto → Prop} {R : U → Sto → Prop} (h : m.To N R) : (∃ ρ S, m = .nx ρ S ∧ N ρ S) ∨ ∃ u S, m = .rt u S ∧ R u S := by
  cases m with
  | nx ρ S => exact .inl ⟨ρ, S, rfl, h⟩
  | rt u S => exact .inr ⟨u, S, rfl, h⟩
  | bk _ _ => exact h.elim
  | ct _ _ => exact h.elim
  | ex _ _ _ => exact h.elim
  | bad => exact h.elim
/-! ### the cup -/
abbrev Cup (c : Int × Int) : Cell := .lst [.int c.1, .int c.2]
end DL
namespace DL
open PySem PySem.Spec PyProof.Rows L2
section
variable {S : Sto}
@[simp] theorem cup_ix0 {c : Int × Int} : ixD (.r 0) (.d (.int 0)) (Cup c :: S) = .ok (.d (.int c.1)) (Cup c :: S) := rfl
@[simp] theorem cup_ix1 {c : Int × Int} : ixD (.r 0) (.d (.int 1)) (Cup c :: S) = .ok (.d (.int c.2)) (Cup c :: S) := rfl
@[simp] theorem cup_set0 {c : Int × Int} {x : Int} : setN (.r 0) (.d (.int 0)) (.int x) (Cup c :: S) = .ok (.d .none) (Cup (x, c.2) :: S) := rfl
@[simp] theorem cup_set1 {c : Int × Int} {x : Int} : setN (.r 0) (.d (.int 1)) (.int x) (Cup c :: S) = .ok (.d .none) (Cup (c.1, x) :: S) := rfl
@[simp] theorem shaped_i {i : Int} : SeqAt.shaped (.int i) = true := rfl
@[simp] theorem shaped_nil : SeqAt.shaped (.list []) = true := rfl
@[simp] theorem shaped_nilt : SeqAt.shaped (.tuple []) = true := rfl
@[simp] theorem eqv_i {i j : Int} : PyData.eqv (.int i) (.int j) = (i == j) := rfl
@[simp] theorem eqv_nil : PyData.eqv (.list []) (.list []) = true := rfl
@[simp] theorem eqv_cn {d : D} {ds : List D} : PyData.eqv (.list (d :: ds)) (.list []) = false := rfl
@[simp] theorem eqv_nc {d : D} {ds : List D} : PyData.eqv (.list []) (.list (d :: ds)) = false := rfl
@[simp] theorem eqv_tn {d : D} {ds : List D} : PyData.eqv (.tuple (d :: ds)) (.tuple []) = false := rfl
@[simp] theorem eqv_tnn : PyData.eqv (.tuple []) (.tuple []) = true := rfl
@[simp] theorem atI_1 {α : Type} {x y : α} {xs : List α} : atI (x :: y :: xs) 1 = some y := by
  rw [show (1 : Int) = ((1 : Nat) : Int) from rfl, atI_nat (by simp)]
  rfl
@[simp] theorem atI_2 {α : Type} {x y z : α} {xs : List α} : atI (x :: y :: z :: xs) 2 = some z := by
  rw [show (2 : Int) = ((2 : Nat) : Int) from rfl, atI_nat (by simp)]
  rfl
theorem canAll_iff {xs : List D} : PyData.canLayAll0 xs = true ↔ ∀ x, x ∈ xs → x.canLay0 = true := by
  induction xs with
  | nil => simp [PyData.canLayAll0]
  | cons x r ih => simp [PyData.canLayAll0, ih]
theorem depthAll_le {xs : List D} {n : Nat} (h : ∀ x, x ∈ xs → x.depth ≤ n) : PyData.depthAll xs ≤ n := by
  induction xs with
  | nil => simp [PyData.depthAll]
  | cons x r ih =>
    have h1 := h x List.mem_cons_self
    have h2 := ih fun y hy => h y (List.mem_cons_of_mem _ hy)
    simp only [PyData.depthAll]
    omega
theorem shaped_iff {d : D} : SeqAt.shaped d = true ↔ d.canLay0 = true ∧ d.depth ≤ 64 := by simp [SeqAt.shaped]
theorem shaped_seq {xs : List D} (h : ∀ x, x ∈ xs → x.canLay0 = true ∧ x.depth ≤ 63) : SeqAt.shaped (.list xs) = true ∧ SeqAt.shaped (.tuple xs) = true := by
  have h1 : PyData.canLayAll0 xs = true := canAll_iff.mpr fun x hx => (h x hx).1
  have h2 : PyData.depthAll xs ≤ 63 := depthAll_le fun x hx => (h x hx).2
  rw [shaped_iff, shaped_iff]
  simp only [PyData.canLay0, PyData.depth, h1]
  exact ⟨⟨trivial, by omega⟩, ⟨trivial, by omega⟩⟩
theorem shaped_ints {is : List Int} : SeqAt.shaped (.list (is.map .int)) = true ∧ SeqAt.shaped (.tuple (is.map .int)) = true := shaped_seq fun x hx => by
  obtain ⟨i, _, rfl⟩ := List.mem_map.mp hx
  exact ⟨rfl, Nat.zero_le _⟩
@[simp] theorem eqvAll_ints {is js : List Int} : PyData.eqvAll (is.map .int) (js.map .int) = decide (is = js) := by
  induction is generalizing js with
  | nil => cases js <;> simp [PyData.eqvAll]
  | cons i r ih => cases js <;> simp [PyData.eqvAll, ih, PyData.eqv]; grind
theorem intsL_iff {xs : List D} {is : List Int} : intsL xs = some is ↔ xs = is.map .int := by
  constructor
  · intro h
    induction xs generalizing is with
    | nil => cases h; rfl
    | cons x r ih =>
      cases x <;> try cases h
      case int i =>
        simp only [intsL, Option.map_eq_some_iff] at h
        obtain ⟨js, h1, rfl⟩ := h
        rw [ih h1]
        rfl
  · rintro rfl
    induction is with
    | nil => rfl
    | cons i r ih => simp [intsL, ih]
theorem intsL_map {is : List Int} : intsL (is.map .int) = some is := intsL_iff.mpr rfl
theorem eqvAll_nil {xs : List D} : PyData.eqvAll xs [] = xs.isEmpty := by cases xs <;> rfl
end
end DL
namespace DL
open PySem PySem.Spec PyProof.Rows L2
/-- an int from lo to hi, no bool -/
def fw (lo hi : Int) : D → Bool
  | .int i => decide (lo ≤ i) && decide (i ≤ hi)
  | _ => false
/-- a tuple of so many -/
def tupOf (lo hi : Int) : D → Bool
  | .tuple xs => decide (lo ≤ xs.length) && decide ((xs.length : Int) ≤ hi)
  | _ => false
def steps (g : Int → Int → Bool) : List Int → Bool
  | a :: b :: r => g a b && steps g (b :: r)
  | _ => true
def makeB : D → Bool
  | .tuple [a, b, c] => fw 1 8 a && (fw 2 10 b && fw 1 9 c)
  | _ => false
def mkD' (a b c : Int) : D := .tuple [.int a, .int b, .int c]
def cutsB (a b : Int) : D → Bool
  | .tuple xs => decide ((xs.length : Int) = a) && xs.all (fw 0 (b - 1))
  | _ => false
def keyB (a b c : Int) : D → Bool
  | .tuple xs => decide ((xs.length : Int) = a) && (match intsL xs with
    | some is => is.all (fun i => decide (0 ≤ i) && decide (i < b)) && steps (fun x y => decide (-c ≤ x - y) && decide (x - y ≤ c)) is
    | none => false)
  | _ => false
def setB (b : Int) : D → Bool
  | .tuple xs => !xs.isEmpty && (match intsL xs with
    | some is => is.all (fun i => decide (0 ≤ i) && decide (i < b)) && steps (fun x y => decide (x < y)) is
    | none => false)
  | _ => false
def lockB (a b : Int) : D → Bool
  | .tuple xs => decide ((xs.length : Int) = a) && xs.all (setB b)
  | _ => false
theorem zip_tail (is : List Int) (g : Int → Int → Bool) : ((is.zip is.tail).all fun q => g q.1 q.2) = steps g is := by
  induction is with
  | nil => rfl
  | cons a r ih =>
    cases r with
    | nil => rfl
    | cons b r => simpa [steps] using congrArg (g a b && ·) ih
@[simp] theorem cut1 {α : Type} (xs : List α) : cutL xs (some 1) none = xs.tail := by
  unfold cutL
  cases xs with
  | nil => rfl
  | cons x r =>
    have h1 : HT.sIx (x :: r).length 0 (some 1) = 1 := by
      show (if (1 : Int) < 0 then ((1 : Int) + ((x :: r).length : Int)).toNat else min (1 : Int).toNat (x :: r).length) = 1
      rw [if_neg (by decide)]
      simp
    rw [h1]
    show List.take ((x :: r).length - 1) r = r
    exact List.take_of_length_le (by simp)
theorem zipL_ints (is js : List Int) : zipL (is.map .int) (js.map .int) = (is.zip js).map fun q => .tuple [.int q.1, .int q.2] := by
  unfold zipL
  induction is generalizing js with
  | nil => rfl
  | cons i r ih => cases js <;> simp_all
end DL
namespace DL
open PySem PySem.Spec PyProof.Rows L2
/-- the ints of a list, each once -/
def ded (is : List Int) : List Int := is.foldl (fun acc k => if k ∈ acc then acc else acc ++ [k]) []
theorem ded_go : ∀ (is acc : List Int), acc.Nodup → (is.foldl (fun acc k => if k ∈ acc then acc else acc ++ [k]) acc).Nodup ∧ ∀ k, k ∈ is.foldl (fun acc k => if k ∈ acc then acc else acc ++ [k]) acc ↔ k ∈ acc ∨ k ∈ is
  | [], acc, h => ⟨h, by simp⟩
  | i :: is, acc, h => by
    rw [List.foldl_cons]
    by_cases hi : i ∈ acc
    · rw [if_pos hi]
      obtain ⟨a, b⟩ := ded_go is acc h
      refine ⟨a, fun k => ?_⟩
      rw [b]
      simp only [List.mem_cons]
      constructor
      · rintro (h | h)
        · exact .inl h
        · exact .inr (.inr h)
      · rintro (h | rfl | h)
        · exact .inl h
        · exact .inl hi
        · exact .inr h
    · rw [if_neg hi]
      obtain ⟨a, b⟩ := ded_go is (acc ++ [i]) (by
        rw [List.nodup_append]
        refine ⟨h, by simp, fun x hx y hy => ?_⟩
        simp at hy
        subst hy
        rintro rfl
        exact hi hx)
      refine ⟨a, fun k => ?_⟩
      rw [b]
      simp [or_assoc]
theorem ded_nodup (is : List Int) : (ded is).Nodup := (ded_go is [] List.nodup_nil).1
theorem mem_ded {is : List Int} {k : Int} : k ∈ ded is ↔ k ∈ is := by simpa [ded] using (ded_go is [] List.nodup_nil).2 k
theorem ded_len_go : ∀ (is acc : List Int), (is.foldl (fun acc k => if k ∈ acc then acc else acc ++ [k]) acc).length ≤ acc.length + is.length
  | [], acc => by simp
  | i :: is, acc => by
    rw [List.foldl_cons]
    have := ded_len_go is (if i ∈ acc then acc else acc ++ [i])
    split at this <;> simp at this ⊢ <;> split <;> simp_all <;> omega
theorem nodup_range_len : ∀ (n : Nat) (l : List Int), l.Nodup → (∀ i, i ∈ l → 0 ≤ i ∧ i < n) → l.length ≤ n
  | 0, l, _, h => by
    cases l with
    | nil => simp
    | cons x r => have := h x (by simp); omega
  | n + 1, l, hn, h => by
    have h1 := nodup_range_len n (l.erase (n : Int)) (hn.erase _) fun i hi => by
      have h2 := (hn.mem_erase_iff.mp hi)
      have h3 := h i h2.2
      omega
    have h2 : l.length ≤ (l.erase (n : Int)).length + 1 := by
      rw [List.length_erase]
      split <;> omega
    omega
theorem ded_id_go : ∀ (is acc : List Int), (acc ++ is).Nodup → is.foldl (fun acc k => if k ∈ acc then acc else acc ++ [k]) acc = acc ++ is
  | [], acc, _ => by simp
  | i :: is, acc, h => by
    rw [List.foldl_cons, if_neg, ded_id_go is (acc ++ [i]) (by simpa using h)]
    · simp
    · intro hi
      rw [List.nodup_append] at h
      exact h.2.2 i hi i (by simp) rfl
theorem ded_id {is : List Int} (h : is.Nodup) : ded is = is := by simpa [ded] using ded_id_go is [] (by simpa using h)
/-- dict([(k, v), ..]) over ints: its keys -/
theorem pairsK_ints (v : D) (is : List Int) : pairsK (is.map fun i => .tuple [.int i, v]) = some (is.map fun i => (.inl i, v)) := by
  induction is with
  | nil => rfl
  | cons i r ih => simp only [List.map_cons, pairsK, keyOf, ih, Option.map_some]
theorem mergeG_ints (v : D) : ∀ (is acc : List Int), mergeG (acc.map fun i => ((.inl i : Key), v)) (is.map fun i => (.inl i, v)) = (is.foldl (fun acc k => if k ∈ acc then acc else acc ++ [k]) acc).map fun i => (.inl i, v)
  | [], acc => rfl
  | i :: is, acc => by
    have e : putG (acc.map fun i => ((.inl i : Key), v)) (.inl i) v = (if i ∈ acc then acc else acc ++ [i]).map fun i => (.inl i, v) := by
      unfold putG
      by_cases hi : i ∈ acc
      · rw [if_pos hi, if_pos (by simpa using hi)]
        rw [List.map_map]
        apply List.map_congr_left
        intro j hj
        simp
        try (rintro rfl; rfl)
      · rw [if_neg hi, if_neg (by simpa using hi)]
        simp
    show List.foldl _ (putG _ _ _) _ = _
    rw [e]
    have := mergeG_ints v is (if i ∈ acc then acc else acc ++ [i])
    exact this
theorem intKeys_go (v : D) (is : List Int) : intKeys (is.map fun i => (.int i, v)) = some is := by
  induction is with
  | nil => rfl
  | cons i r ih => simp only [List.map_cons, intKeys, ih, Option.map_some]
theorem dictN_ints (v : D) (is : List Int) (S : Sto) : dictN [.d (.list (is.map fun i => .tuple [.int i, v]))] S = .ok (.d (.dict ((ded is).map fun i => (.int i, v)))) S := by
  unfold dictN
  simp only [lstOf, Option.bind_some, pairsK_ints]
  have := mergeG_ints v is []
  rw [List.map_nil] at this
  simp only [this, dictK, List.map_map]
  rfl
theorem sortedDI_ints (v : D) (is : List Int) (S : Sto) (h : is.length < 64) : sortedDI [.d (.dict (is.map fun i => (.int i, v)))] S = .ok (.d (.list ((sortI is).map .int))) S := by
  unfold sortedDI
  simp only [intKeys_go]
  rw [if_pos h]
/-- strictly rising -/
theorem steps_pw : ∀ {is : List Int}, steps (fun x y => decide (x < y)) is = true ↔ is.Pairwise (· < ·)
  | [] => by simp [steps]
  | [x] => by simp [steps]
  | x :: y :: r => by
    simp only [steps, Bool.and_eq_true, decide_eq_true_eq, steps_pw (is := y :: r)]
    constructor
    · rintro ⟨h1, h2⟩
      refine List.pairwise_cons.mpr ⟨fun z hz => ?_, h2⟩
      rcases List.mem_cons.mp hz with rfl | hz
      · exact h1
      · have := List.rel_of_pairwise_cons h2 hz
        omega
    · intro h
      exact ⟨List.rel_of_pairwise_cons h (by simp), (List.pairwise_cons.mp h).2⟩
theorem sortI_perm (l : List Int) : (sortI l).Perm l := List.mergeSort_perm _ _
theorem sortI_sorted (l : List Int) : (sortI l).Pairwise (· ≤ ·) := by
  have := List.pairwise_mergeSort (le := fun a b : Int => decide (a ≤ b)) (by intro a b c; simp; omega) (by intro a b; simp; omega) l
  exact this.imp (by simp)
theorem sortI_strict {l : List Int} (h : l.Nodup) : (sortI l).Pairwise (· < ·) := by
  have h1 : (sortI l).Nodup := (sortI_perm l).nodup_iff.mpr h
  have h2 := sortI_sorted l
  have h3 : (sortI l).Pairwise (fun a b => a ≠ b) := h1
  exact (h2.and h3).imp fun ⟨a, b⟩ => by omega
theorem sortI_id {l : List Int} (h : l.Pairwise (· ≤ ·)) : sortI l = l := List.mergeSort_of_pairwise (h.imp (by simp))
theorem sort_ded_iff (is : List Int) : is = sortI (ded is) ↔ steps (fun x y => decide (x < y)) is = true := by
  rw [steps_pw]
  constructor
  · intro h
    rw [h]
    exact sortI_strict (ded_nodup _)
  · intro h
    rw [ded_id (h.imp fun h => by omega), sortI_id (h.imp fun h => by omega)]
end DL
namespace DL
open PySem PySem.Spec PyProof.Rows L2
theorem map_of {α : Type} {g : α → D} {P : α → Prop} : ∀ {ys : List D}, (∀ y, y ∈ ys → ∃ i, y = g i ∧ P i) → ∃ is : List α, ys = is.map g ∧ ∀ i, i ∈ is → P i
  | [], _ => ⟨[], rfl, fun _ h => by cases h⟩
  | y :: ys, h => by
    obtain ⟨i, rfl, hi⟩ := h _ List.mem_cons_self
    obtain ⟨is, rfl, k⟩ := map_of (g := g) (P := P) fun z hz => h z (List.mem_cons_of_mem _ hz)
    exact ⟨i :: is, rfl, fun j hj => by
      rcases List.mem_cons.mp hj with rfl | hj
      · exact hi
      · exact k j hj⟩
@[simp] theorem rngL_len {lo : Int} {n : Nat} : (rngL lo n).length = n := by simp [rngL]
theorem rngL_get {lo : Int} {n i : Nat} {d : D} (h : (rngL lo n)[i]? = some d) : i < n ∧ d = .int (lo + i) := by
  unfold rngL at h
  rw [List.getElem?_map] at h
  by_cases hi : i < n
  · rw [List.getElem?_range hi] at h
    cases h
    exact ⟨hi, rfl⟩
  · rw [List.getElem?_eq_none (by simpa using hi)] at h
    cases h
theorem rngL_mem {lo : Int} {n : Nat} {d : D} : d ∈ rngL lo n ↔ ∃ i : Nat, i < n ∧ d = .int (lo + i) := by
  unfold rngL
  simp
  constructor
  · rintro ⟨i, h, rfl⟩; exact ⟨i, h, rfl⟩
  · rintro ⟨i, h, rfl⟩; exact ⟨i, h, rfl⟩
end DL
namespace DL
open PySem PySem.Spec PyProof.Rows L2
theorem cell1_ix {C : Cell} {xs : List D} {i : Int} : ixD (.r 1) (.d (.int i)) [C, .lst xs] = (match atI xs i with
    | some x => .ok (.d x) [C, .lst xs]
    | none => .bad) := rfl
theorem cell1_app {C : Cell} {xs : List D} {x : D} : appN 1 (.d x) [C, .lst xs] = if xs.length < 16777216 then .ok (.d .none) [C, .lst (xs ++ [x])] else .bad := rfl
theorem cell1_isl {C : Cell} {xs : List D} : isLst 1 [C, .lst xs] = true := rfl
theorem cell1_sort {C : Cell} {xs : List D} : sortedN [.r 1] [C, .lst xs] = if sortOk xs = true then .ok (.d (.list (sortL xs))) [C, .lst xs] else .bad := rfl
theorem sortL_mem {xs : List D} {x : D} : x ∈ sortL xs ↔ x ∈ xs := (List.mergeSort_perm _ _).mem_iff
theorem sortL_len {xs : List D} : (sortL xs).length = xs.length := (List.mergeSort_perm _ _).length_eq
theorem shaped_s {z : Str} (h : PyData.strOk z = true) : SeqAt.shaped (.str z) = true := by simp [shaped_iff, PyData.canLay0, PyData.depth, h]
theorem sortOk_strs {zs : List Str} (h : ∀ z, z ∈ zs → PyData.strOk z = true) : sortOk (zs.map .str) = true := by
  simp [sortOk, PySem.W.alike]
  exact fun z hz => shaped_s (h z hz)
@[simp] theorem eqv_s {x y : Str} : PyData.eqv (.str x) (.str y) = (x == y) := rfl
@[simp] theorem lenN_s {z : Str} {S : Sto} : lenN [.d (.str z)] S = if z.length ≤ 16777216 then .ok (.d (.int z.length)) S else .bad := rfl
theorem ixD_s {z : Str} {i : Int} {S : Sto} : ixD (.d (.str z)) (.d (.int i)) S = if z.length ≤ 16777216 then (match atI z.cps.toList i with
    | some ch => .ok (.d (.str ⟨#[ch]⟩)) S
    | none => .bad) else .bad := rfl
end DL
namespace DL
open PySem PySem.Spec PyProof.Rows L2
section
variable {α : Type} {x y z : α}
theorem cut3a : cutL [x, y, z] none (some 2) = [x, y] := rfl
theorem cut3b : cutL [x, y, z] none (some 1) = [x] := rfl
theorem cut3c : cutL [x, y, z] (some 2) none = [z] := rfl
end
theorem strOk_of (s : String) : PyData.strOk (Str.ofString s) = true := by
  rw [Str.ofString_eq_toList]
  unfold PyData.strOk
  simp only [Array.all_eq_true']
  intro c hc
  simp at hc
  obtain ⟨ch, _, rfl⟩ := hc
  have := ch.valid
  simp [UInt32.isValidChar, Nat.isValidChar] at this
  have e : ch.toNat = ch.val.toNat := rfl
  simp only [decide_eq_true_eq]
  omega
end DL
namespace DL
open PySem PySem.Spec PyProof.Rows L2
theorem cutL_len {α : Type} (xs : List α) (l h : Option Int) : (cutL xs l h).length ≤ xs.length := by
  unfold cutL
  rw [List.length_take, List.length_drop]
  omega
theorem cutL_mem {α : Type} {xs : List α} {l h : Option Int} {x : α} (hx : x ∈ cutL xs l h) : x ∈ xs := by
  unfold cutL at hx
  exact List.drop_subset _ _ (List.take_subset _ _ hx)
theorem can_list {xs : List D} (h : ∀ x, x ∈ xs → x.canLay0 = true) : PyData.canLay0 (.list xs) = true := by
  simp only [PyData.canLay0]; exact canAll_iff.mpr h
theorem can_tup {xs : List D} (h : ∀ x, x ∈ xs → x.canLay0 = true) : PyData.canLay0 (.tuple xs) = true := by
  simp only [PyData.canLay0]; exact canAll_iff.mpr h
theorem can_of_list {xs : List D} (h : PyData.canLay0 (.list xs) = true) : ∀ x, x ∈ xs → x.canLay0 = true := by
  simp only [PyData.canLay0] at h; exact canAll_iff.mp h
theorem can_of_tup {xs : List D} (h : PyData.canLay0 (.tuple xs) = true) : ∀ x, x ∈ xs → x.canLay0 = true := by
  simp only [PyData.canLay0] at h; exact canAll_iff.mp h
theorem can_ints {is : List Int} : ∀ x, x ∈ is.map PyData.int → x.canLay0 = true := fun x hx => by
  obtain ⟨i, _, rfl⟩ := List.mem_map.mp hx
  rfl
end DL
namespace DL
open PySem PySem.Spec PyProof.Rows L2
theorem sortedN_t {xs : List D} {S : Sto} : sortedN [.d (.tuple xs)] S = if sortOk xs = true then .ok (.d (.list (sortL xs))) S else .bad := rfl
theorem sortedN_l {xs : List D} {S : Sto} : sortedN [.d (.list xs)] S = if sortOk xs = true then .ok (.d (.list (sortL xs))) S else .bad := rfl
theorem sortOk_ints {is : List Int} : sortOk (is.map .int) = true := by
  simp [sortOk, PySem.W.alike]
section
variable {S : Sto} {a b c : Int}
@[simp] theorem mk_0 : ixD (.d (mkD' a b c)) (.d (.int 0)) S = .ok (.d (.int a)) S := by simp [mkD']
@[simp] theorem mk_1 : ixD (.d (mkD' a b c)) (.d (.int 1)) S = .ok (.d (.int b)) S := by simp [mkD']
@[simp] theorem mk_2 : ixD (.d (mkD' a b c)) (.d (.int 2)) S = .ok (.d (.int c)) S := by simp [mkD']
end
end DL
namespace DL
open PySem PySem.Spec PyProof.Rows L2
/-! ### set(xs) of a list of ints; sorted(set(xs)), len(set(xs)) -/
abbrev newSetObj (w : World) : Obj := { cls := .type "set", dict := none, data := .set #[] 0 (.fresh 0 0 (!w.params.followText "set-order")) }
section
variable {P : Program} {w : World} {A : Around} {E : Value → Shared → Prop} {s : Shared}
set_option maxHeartbeats 8000000 in
theorem call_set_lstI {src : Addr} {items : Array Value} (ns : List Int) {Q : Value → Shared → Prop} (quietA : A.handled = none) (isL : s.heap.IsList src items) (allI : IntsAre items.toList ns) (few : ns.length + 1 < scanBound)
    (next : ∀ (g : Heap) (tk n : Nat), SetR w g s.heap.objs.size (fun j => decide (j ∈ ns)) n → n ≤ ns.length → (∀ b o, s.heap.get? b = some o → g.get? b = some o) → Q (.ref s.heap.objs.size) { s with heap := g, toks := tk }) :
    wpAny (model P w) A (call (.type "set") [.ref src]) Q E s := by
  have size_eq : items.size = ns.length := by
    have q := IntsAre.length allI
    rwa [Array.length_toList] at q
  obtain ⟨c0, tl0, mro0⟩ := F.called_set.mro
  have made0 := F.called_set.made
  have sub0 := F.called_set.sub
  refine wpAny_call (codeAny_of_tree (show wpAny _ _ (callAny (.type "set") _) _ _ _ from wpAny_pure ⟨Code.quiet_builtin _ (by decide +kernel), codeAny_builtin F.entry_type_call ?_⟩))
  rw [Around.under_plain (weight_type_call_type "set" [.ref src] []) rfl]
  have nt0 := F.called_set.notType
  have cc0 := F.called_set.canCreate
  have tc0 := F.typeCall_set_1 (.ref src)
  repeat (any_goals (first | assumption | wp_step))
  refine codeAny_mono (code_set_led1 (w := w) (.ref src) (E := E) (Q₁ := fun ob s1 => ob = .ref s.heap.objs.size ∧ s1 = { s with heap := s.heap.push (newSetObj w) }) ⟨rfl, rfl⟩) fun r s1 hr => ?_
  cases r with
  | error e => exact hr
  | ok fl =>
    cases fl with
    | ret ob =>
      obtain ⟨rfl, rfl⟩ := hr
      generalize hg0 : s.heap.push (newSetObj w) = g0
      have at0 : g0.get? s.heap.objs.size = some (newSetObj w) := by rw [← hg0]; exact Heap.get?_push_size _ rfl
      have keep0 : ∀ b o, s.heap.get? b = some o → g0.get? b = some o := fun b o e => by rw [← hg0]; exact Heap.get?_push_of_some _ e
      have sz0 : g0.objs.size = s.heap.objs.size + 1 := by rw [← hg0]; exact Heap.size_push ..
      have ty0 : Shared.TypeIs { s with heap := g0 } (.ref s.heap.objs.size) "set" := ⟨_, at0, rfl⟩
      have il0 := F.called_set.init.lookup
      have ib0 := F.called_set.init.bind (.ref s.heap.objs.size)
      repeat (any_goals (first | assumption | wp_step))
      refine codeAny_mono (codeAny_call_builtin (R := wants (fun r s2 => r = .none ∧ ∃ g tk n, s2 = { s with heap := g, toks := tk } ∧ SetR w g s.heap.objs.size (fun j => decide (j ∈ ns)) n ∧ n ≤ ns.length ∧ (∀ b o, s.heap.get? b = some o → g.get? b = some o)) E)
        F.called_set.init.plain F.entry_set_init (check_set_init_1 ty0 ?_)) fun r2 s2 hr2 => ?_
      · obtain ⟨oc, od, ⟨ocls, odct, odat, oslt⟩, nn⟩ : ∃ (oc : Value) (od : Nat) (o : Obj), s.heap.get? src = some o ∧ o.cls = .type "list" ∧ o.data = .seq items od := by
          obtain ⟨o, e, e2, n, e3⟩ := isL
          exact ⟨.none, n, o, e, e2, e3⟩
        obtain ⟨gsrc, k1, k2⟩ := nn
        simp only at k1 k2
        subst k1
        subst k2
        have gsrc0 := keep0 _ _ gsrc
        have sl0 := F.sub_list_set
        have sf0 := F.sub_list_frozenset
        have nd0 : (Value.type "list" == Value.type "dict") = false := by decide
        have isL0 : g0.IsList src items := ⟨_, gsrc0, rfl, _, rfl⟩
        unfold Builtin.«set.__init__» noKeywords Builtin.Frozenset.updateFrom
        generalize hPI : pyIter = PI
        wp_walk
        subst hPI
        refine wpAny_pyIter_list isL0 (wpAny_bind (wpAny_runValue ?_))
        have ltS : src < s.heap.objs.size := Heap.lt_size gsrc
        have quiet3 : A.in1.in1.in1.handled = none := by simp [quietA]
        have neI : src ≠ g0.objs.size := by rw [sz0]; exact Nat.ne_of_lt (Nat.lt_succ_of_lt ltS)
        have notIn : s.heap.objs.size ∉ [g0.objs.size, src] := by
          rw [sz0]
          simp only [List.mem_cons, List.mem_singleton, List.not_mem_nil, or_false, not_or]
          exact ⟨Nat.ne_of_lt (Nat.lt_succ_self _), Nat.ne_of_gt ltS⟩
        refine set_update_ints ((Walks.list quiet3 _ src neI items).toS) s.heap.objs.size notIn ns size_eq few (fun i v hv => ?_) (items.size - 0) 0 _ (by omega) (Nat.zero_le _) ⟨⟨_, Heap.get?_push_size _ rfl, rfl, rfl⟩, isL0.push _⟩ ⟨0, Nat.le_refl 0, setR_new_at (Heap.get?_push_of_some _ at0)⟩ fun s' n' mv le' R' => ?_
        · have hi : i < ns.length := by rw [← size_eq]; exact (Array.getElem?_eq_some_iff.mp hv).1
          obtain ⟨t, e⟩ := PyProof.Rows.IntsAre.int_at allI i v (by rw [Array.getElem?_toList]; exact hv)
          exact ⟨ns[i], t, List.getElem?_eq_getElem hi, by rw [e, List.getD_eq_getElem?_getD, List.getElem?_eq_getElem hi] <;> rfl⟩
        · obtain ⟨g, gg, dd, tk, oo⟩ := s'
          have eg : gg = s.gens := mv.gens
          have ed : dd = s.drawn := mv.drawn
          have eo : oo = s.os := mv.os
          subst eg; subst ed; subst eo
          refine wpAny_pure (show wpAny _ _ (ret Value.none) _ _ _ from wpAny_pure ⟨rfl, g, tk, n', rfl, R', by rw [← size_eq]; exact le', fun b o e => ?_⟩)
          have b0 : b < s.heap.objs.size := Heap.lt_size e
          refine mv.heap b o ?_ (Heap.get?_push_of_some _ (keep0 _ _ e))
          simp only [List.mem_cons, List.mem_singleton, List.not_mem_nil, or_false, not_or]
          exact ⟨Nat.ne_of_lt b0, by rw [sz0]; exact Nat.ne_of_lt (Nat.lt_succ_of_lt b0)⟩
      · cases r2 with
        | error e => exact hr2
        | ok fl2 =>
          cases fl2 with
          | ret r =>
            obtain ⟨rfl, g, tk, n', rfl, R', le', kp⟩ := hr2
            repeat (any_goals (first | assumption | wp_step))
            exact next _ _ _ R' le' kp
          | _ => exact hr2.elim
    | _ => exact hr.elim
end
/-- set(xs) of ints -/
def rSetI (K : PySem.W.Frag) (w : World) : List V → Hp → VK → Prop := fun xs H Q => ∃ (l : Addr) (ns : List Int), xs = [V.ref l] ∧ (SqL K H l (ns.map V.int) ∨ SqT K H l (ns.map V.int)) ∧ ns.length + 1 < scanBound ∧
  ∀ a n, H a = none → n ≤ ns.length → Q (.ref a) (upd H a (SetO w a (fun j => decide (j ∈ ns)) n))
theorem cr_setI {X : Cx} (hc : X.calm = true) : CallR X (.type "set") (rSetI X.K X.w) := by
  intro pins s σ H xs us Q I r h
  obtain ⟨l, ns, rfl, hq, hb, q⟩ := h
  rw [Vals.ref1 r]
  have fin : ∀ (g : Heap) (tk n : Nat), SetR X.w g s.heap.objs.size (fun j => decide (j ∈ ns)) n → n ≤ ns.length → (∀ b o, s.heap.get? b = some o → g.get? b = some o) → EP X pins σ Q (.ref s.heap.objs.size) { s with heap := g, toks := tk } := fun g tk n R hn k =>
    ⟨.ref s.heap.objs.size, upd H s.heap.objs.size (SetO X.w s.heap.objs.size (fun j => decide (j ∈ ns)) n), I.laid (t' := tk) k (Nat.le_refl _) (setO_new R), rfl, q _ n (I.hok.fresh (Nat.le_refl _)) hn⟩
  rcases hq with hq | hq
  · obtain ⟨its, rv, pl, hz⟩ := I.list hq
    exact call_set_lstI ns (I.ok.hd hc) pl.isList (by simpa using ints_of_vals rv) hb fin
  · obtain ⟨its, rv, pl, hz⟩ := I.tuple hq
    exact call_set_tupI ns (I.ok.hd hc) pl (by simpa using ints_of_vals rv) hb fin
end DL
namespace DL
open PySem PySem.Spec PyProof.Rows L2
theorem pw_ext : ∀ {xs ys : List Int}, xs.Pairwise (· < ·) → ys.Pairwise (· < ·) → (∀ k, k ∈ xs ↔ k ∈ ys) → xs = ys
  | [], [], _, _, _ => rfl
  | [], y :: ys, _, _, h => absurd ((h y).mpr (by simp)) (by simp)
  | x :: xs, [], _, _, h => absurd ((h x).mp (by simp)) (by simp)
  | x :: xs, y :: ys, h1, h2, h => by
    rw [List.pairwise_cons] at h1 h2
    have e : x = y := by
      rcases List.mem_cons.mp ((h x).mp (by simp)) with e | hx
      · exact e
      · rcases List.mem_cons.mp ((h y).mpr (by simp)) with e | hy
        · exact e.symm
        · have := h1.1 y hy
          have := h2.1 x hx
          omega
    subst e
    rw [pw_ext h1.2 h2.2 fun k => ?_]
    constructor
    · intro hk
      have := h1.1 k hk
      rcases List.mem_cons.mp ((h k).mp (List.mem_cons_of_mem _ hk)) with e | hk'
      · omega
      · exact hk'
    · intro hk
      have := h2.1 k hk
      rcases List.mem_cons.mp ((h k).mpr (List.mem_cons_of_mem _ hk)) with e | hk'
      · omega
      · exact hk'
/-- len of a set -/
def rLenSet (w : World) : List V → Hp → VK → Prop := fun xs H Q => ∃ (a : Addr) (S : Int → Bool) (n : Nat), xs = [V.ref a] ∧ H a = some (SetO w a S n) ∧ (∀ ks : List Int, ks.Nodup → (∀ k, S k = true ↔ k ∈ ks) → ks.length = n → Q (.int n) H)
theorem cr_lenSet {X : Cx} : CallR X (.builtin "len") (rLenSet X.w) := by
  intro pins s σ H xs us Q I r h
  obtain ⟨a, S, n, rfl, ha, q⟩ := h
  have R := setO_get I ha
  rw [Vals.ref1 r]
  obtain ⟨o, es, ep, t, ho, hex, hd, g, nd, hm, hb, hf, hn, hr, hl⟩ := R
  have q := q (es.toList.map L2.keyOf) nd hm (by rw [List.length_map, Array.length_toList]; exact hn)
  have hsb : scanBound = 4096 := rfl
  refine call_len_set ho hex hd hf (by omega) ⟨.int n, H, I.tok _, ⟨_, by rw [hn]⟩, q⟩
end DL
namespace DL
open PySem PySem.Spec PyProof.Rows L2
theorem intsL_is : ∀ {ds : List D} {is : List Int}, intsL ds = some is → ds = is.map .int
  | [], _, h => by cases h; rfl
  | d :: ds, is, h => by
    cases d <;> try cases h
    case int b =>
      simp only [intsL, Option.map_eq_some_iff] at h
      obtain ⟨js, h1, rfl⟩ := h
      rw [intsL_is h1]
      rfl
theorem repA_ints {K : PySem.W.Frag} {c : Cfg} : ∀ {is : List Int} {vs : List V}, RepA K c vs (is.map .int) → vs = is.map V.int
  | [], _, r => by cases r; rfl
  | i :: is, _, r => by
    cases r with
    | cons h t =>
      cases h
      rw [repA_ints t]
      rfl
theorem repA_of_ints {K : PySem.W.Frag} {c : Cfg} : ∀ (is : List Int), RepA K c (is.map V.int) (is.map .int)
  | [] => .nil
  | i :: is => .cons (.int i) (repA_of_ints is)
def setInts (u : U) (S : Sto) : Option (List Int) := (seqLT u S).bind intsL
/-- sorted(set(x)) of ints -/
def sortSetN : OpN := fun us S => match us with
  | [u] => (match setInts u S with
    | some is => if is.length < 64 then .ok (.d (.list ((sortI (ded is)).map .int))) S else .bad
    | none => .bad)
  | _ => .bad
/-- len(set(x)) of ints -/
def lenSetN : OpN := fun us S => match us with
  | [u] => (match setInts u S with
    | some is => if is.length < 4000 then .ok (.d (.int (ded is).length)) S else .bad
    | none => .bad)
  | _ => .bad
theorem setInts_rep {K : PySem.W.Frag} {c : Cfg} {u : U} {v : V} {is : List Int} (o : OkC K c) (r : RepU K c v u) (h : setInts u c.S = some is) : ∃ l, v = .ref l ∧ (SqL K c.H l (is.map V.int) ∨ SqT K c.H l (is.map V.int)) := by
  unfold setInts at h
  rw [Option.bind_eq_some_iff] at h
  obtain ⟨xs, h1, h2⟩ := h
  obtain ⟨l, vs, e, hq, ra⟩ := seqLT_rep o r h1
  have := intsL_is h2
  subst this
  have := repA_ints ra
  subst this
  exact ⟨l, e, hq⟩
theorem nodup_len {xs ys : List Int} (h1 : xs.Nodup) (h2 : ys.Nodup) (h : ∀ k, k ∈ xs ↔ k ∈ ys) : xs.length = ys.length := by
  have e := pw_ext (sortI_strict h1) (sortI_strict h2) fun k => by rw [(sortI_perm xs).mem_iff, (sortI_perm ys).mem_iff]; exact h k
  rw [← (sortI_perm xs).length_eq, e, (sortI_perm ys).length_eq]
section
variable {X : Cx} {E : EXW} {e : Expr} {f : DE} {p p2 pos q : Pos}
theorem pd_sortSet (hc : X.calm = true) (hg : Gl X "sorted") (hm : X.mg "sorted" = none) (hg2 : Gl X "set") (hm2 : X.mg "set" = none) (he : PE X e (tD X.K E f)) (na : starEach [e] X.env = (false, eval e X.env) :: starEach [] X.env := by rfl)
    (nb : starEach [.Call (.Name "set" p2) [e] [] q] X.env = (false, eval (.Call (.Name "set" p2) [e] [] q) X.env) :: starEach [] X.env := by rfl) (hpl : (backTo q (starEach [] X.env)).any (·.1) = false := by rfl) (hpl2 : (backTo pos (starEach [] X.env)).any (·.1) = false := by rfl) :
    PE X (.Call (.Name "sorted" p) [.Call (.Name "set" p2) [e] [] q] [] pos) (tD X.K E (dCall sortSetN (aCons f aNil))) :=
  (pe_callB (cr_sortedSet hc) hg hm (by decide +kernel) (pa_cons (pe_callTy (cr_setI hc) hg2 hm2 (by decide +kernel) (pa_cons he pa_nil na) (by decide) (by decide) na hpl) pa_nil nb) (by decide) (by decide) nb hpl2).dimp fun σ H Q ⟨hd, ι, S, ρ, at_, h⟩ => by
    have h : Post X.K E ⟨hd, ι, S, H⟩ Q ((f ρ S).bind fun u S1 => sortSetN [u] S1) := by
      have h : Post X.K E ⟨hd, ι, S, H⟩ Q (((f ρ S).bind fun u S1 => .ok [u] S1).bind sortSetN) := h
      cases hf : f ρ S <;> rw [hf] at h <;> exact h
    refine tD_stepG (c := ⟨hd, ι, S, H⟩) at_ h fun u v c1 e1 a1 r1 h1 => ?_
    unfold sortSetN at h1
    simp only [] at h1
    cases hs : setInts u c1.S with
    | none => rw [hs] at h1; exact h1.elim
    | some is =>
      rw [hs] at h1
      by_cases hl : is.length < 64
      case neg => simp only [if_neg hl] at h1; exact h1.elim
      simp only [if_pos hl] at h1
      obtain ⟨l, rfl, hq⟩ := setInts_rep a1.ok r1 hs
      have hsb : scanBound = 4096 := rfl
      refine ⟨l, is, rfl, hq, by omega, fun a n ha hn => ⟨a, _, n, rfl, upd_same, by omega, fun ns p hs hm hl2 hp => ?_⟩⟩
      have e2 := ext_new (c := c1) (u := SetO X.w a (fun j => decide (j ∈ is)) n) a1.ok ha
      have o2 := ok_new (c := c1) (u := SetO X.w a (fun j => decide (j ∈ is)) n) a1.ok ha
      have en : ns = sortI (ded is) := pw_ext hs (sortI_strict (ded_nodup is)) fun k => by
        rw [hm k, (sortI_perm _).mem_iff, mem_ded]
        simp
      subst en
      exact Post.new (c := ⟨c1.hd, c1.ι, c1.S, upd c1.H a (SetO X.w a (fun j => decide (j ∈ is)) n)⟩) (PostG.step h1 e2) o2 hp (rep_newL o2 hp (repA_of_ints _))
theorem pd_lenSet (hc : X.calm = true) (hg : Gl X "len") (hm : X.mg "len" = none) (hg2 : Gl X "set") (hm2 : X.mg "set" = none) (he : PE X e (tD X.K E f)) (na : starEach [e] X.env = (false, eval e X.env) :: starEach [] X.env := by rfl)
    (nb : starEach [.Call (.Name "set" p2) [e] [] q] X.env = (false, eval (.Call (.Name "set" p2) [e] [] q) X.env) :: starEach [] X.env := by rfl) (hpl : (backTo q (starEach [] X.env)).any (·.1) = false := by rfl) (hpl2 : (backTo pos (starEach [] X.env)).any (·.1) = false := by rfl) :
    PE X (.Call (.Name "len" p) [.Call (.Name "set" p2) [e] [] q] [] pos) (tD X.K E (dCall lenSetN (aCons f aNil))) :=
  (pe_callB cr_lenSet hg hm (by decide +kernel) (pa_cons (pe_callTy (cr_setI hc) hg2 hm2 (by decide +kernel) (pa_cons he pa_nil na) (by decide) (by decide) na hpl) pa_nil nb) (by decide) (by decide) nb hpl2).dimp fun σ H Q ⟨hd, ι, S, ρ, at_, h⟩ => by
    have h : Post X.K E ⟨hd, ι, S, H⟩ Q ((f ρ S).bind fun u S1 => lenSetN [u] S1) := by
      have h : Post X.K E ⟨hd, ι, S, H⟩ Q (((f ρ S).bind fun u S1 => .ok [u] S1).bind lenSetN) := h
      cases hf : f ρ S <;> rw [hf] at h <;> exact h
    refine tD_stepG (c := ⟨hd, ι, S, H⟩) at_ h fun u v c1 e1 a1 r1 h1 => ?_
    unfold lenSetN at h1
    simp only [] at h1
    cases hs : setInts u c1.S with
    | none => rw [hs] at h1; exact h1.elim
    | some is =>
      rw [hs] at h1
      by_cases hl : is.length < 4000
      case neg => simp only [if_neg hl] at h1; exact h1.elim
      simp only [if_pos hl] at h1
      obtain ⟨l, rfl, hq⟩ := setInts_rep a1.ok r1 hs
      have hsb : scanBound = 4096 := rfl
      refine ⟨l, is, rfl, hq, by omega, fun a n ha hn => ⟨a, _, n, rfl, upd_same, fun ks nd hm hl2 => ?_⟩⟩
      have e2 := ext_new (c := c1) (u := SetO X.w a (fun j => decide (j ∈ is)) n) a1.ok ha
      have o2 := ok_new (c := c1) (u := SetO X.w a (fun j => decide (j ∈ is)) n) a1.ok ha
      have en : (ded is).length = n := by
        rw [← hl2]
        refine nodup_len (ded_nodup is) nd fun k => ?_
        rw [mem_ded, ← hm k]
        simp
      subst en
      exact Post.val (c := ⟨c1.hd, c1.ι, c1.S, upd c1.H a (SetO X.w a (fun j => decide (j ∈ is)) (ded is).length)⟩) (PostG.step h1 e2) o2 (.int _)
end
end DL
namespace DL
open PySem PySem.Spec PyProof.Rows L2
/-! ### zip of any number of lists and tuples -/
section
variable {prog : Program} {w : World} {A : Around} {E : Value → Shared → Prop} {s : Shared}
/-- a list or a tuple, and an iterator that stands at i in it -/
def ItQ (h : Heap) (it l : Addr) (i : Nat) (xs : Array Value) : Prop := (h.IsListIter it l i ∧ h.IsList l xs) ∨ (h.IsTupleIter it l i ∧ h.IsTuple l xs)
theorem ItQ.at {h h' : Heap} {it l : Addr} {i : Nat} {xs : Array Value} (q : ItQ h it l i xs) (k1 : ∀ o, h.get? it = some o → h'.get? it = some o) (k2 : ∀ o, h.get? l = some o → h'.get? l = some o) : ItQ h' it l i xs := by
  rcases q with ⟨a, b⟩ | ⟨a, b⟩
  · exact .inl ⟨a.at k1, b.at k2⟩
  · exact .inr ⟨a.at k1, b.at k2⟩
theorem ItQ.there {h : Heap} {it l : Addr} {i : Nat} {xs : Array Value} (q : ItQ h it l i xs) : (∃ o, h.get? it = some o ∧ ∀ v, o.data ≠ .cell v) ∧ ∃ o, h.get? l = some o := by
  rcases q with ⟨⟨o, e, _, d⟩, ⟨o2, e2, _⟩⟩ | ⟨⟨o, e, _, d⟩, ⟨o2, e2, _⟩⟩
  · exact ⟨⟨o, e, fun v z => by rw [d] at z; cases z⟩, o2, e2⟩
  · exact ⟨⟨o, e, fun v z => by rw [d] at z; cases z⟩, o2, e2⟩
theorem nextQ_item {it l : Addr} {i : Nat} {xs : Array Value} {x : Value} {Q : Value → Shared → Prop} (q : ItQ s.heap it l i xs) (hx : xs[i]? = some x) (ne : l ≠ it)
    (hQ : ∀ h', ItQ h' it l (i + 1) xs → Heap.SameBut it s.heap h' → Q x { s with heap := h' }) : wpAny (model prog w) A (Builtin.SmallTypes.nextOf (.ref it)) Q E s := by
  rcases q with ⟨a, b⟩ | ⟨a, b⟩
  · exact wpAny_nextOf_list_item a b hx fun h' a' sb => hQ h' (.inl ⟨a', b.extBut sb.extBut ne⟩) sb
  · exact RZ.nextOf_tuple_item a b hx fun h' a' sb => hQ h' (.inr ⟨a', b.extBut sb.extBut ne⟩) sb
theorem nextQ_end {it l : Addr} {i : Nat} {xs : Array Value} {Q : Value → Shared → Prop} (hh : A.handled = none) (q : ItQ s.heap it l i xs) (hx : xs[i]? = none)
    (hE : ∀ h' e, Heap.ExtBut it s.heap h' → (∃ o, h'.get? e = some o ∧ o.cls = .type "StopIteration") → E (.ref e) { s with heap := h' }) : wpAny (model prog w) A (Builtin.SmallTypes.nextOf (.ref it)) Q E s := by
  rcases q with ⟨a, b⟩ | ⟨a, b⟩
  · exact wpAny_nextOf_list_end hh a b hx hE
  · exact RZ.nextOf_tuple_end hh a b hx hE
/-- a loop over a list, by what stands ahead of the rest -/
theorem forIn_wp {M : Model} {α β : Type} {f : α → β → Sem (ForInStep β)} {Q : β → Shared → Prop} (I : List α → β → Shared → Prop)
    (step : ∀ a r b s, I (a :: r) b s → wpAny M A (f a b) (fun st s' => match st with | .yield b' => I r b' s' | .done b' => Q b' s') E s) (fin : ∀ b s, I [] b s → Q b s) : ∀ (l : List α) (b : β) (s : Shared), I l b s → wpAny M A (forIn l b f) Q E s
  | [], b, s, h => by
    rw [List.forIn_nil]
    exact wpAny_pure (fin b s h)
  | a :: r, b, s, h => by
    rw [List.forIn_cons]
    refine wpAny_bind (wpAny_mono (step a r b s h) (fun st s' q => ?_) fun _ _ z => z)
    cases st with
    | yield b' => exact forIn_wp I step fin r b' s' q
    | done b' => exact wpAny_pure q
/-- one column -/
structure Col where
  it : Addr
  l : Addr
  xs : Array Value
abbrev refsOf (cols : List Col) : List Value := cols.map fun c => .ref c.it
def itemsAt (cols : List Col) (i : Nat) : List Value := cols.map fun c => (c.xs[i]?).getD .none
structure ApN (z TI TO : Addr) (cols : List Col) : Prop where
  TIz : TI ≠ z
  TOz : TO ≠ z
  TITO : TI ≠ TO
  iz : ∀ c, c ∈ cols → c.it ≠ z ∧ c.it ≠ TI ∧ c.it ≠ TO
  lz : ∀ c, c ∈ cols → c.l ≠ z ∧ c.l ≠ TO
  li : ∀ c, c ∈ cols → ∀ d, d ∈ cols → c.l ≠ d.it
  ii : (cols.map (·.it)).Nodup
/-- the zip ahead of its turn i: its last tuple may be out or not -/
structure ZN (h : Heap) (z TI TO : Addr) (cols : List Col) (i : Nat) : Prop where
  z : ∃ f0 b, (f0 = .none ∨ ∃ T : Nat, f0 = rawInt T) ∧ h.get? z = some { cls := .type "zip", dict := none, data := .fields #[f0, .bool b, .bool false, .ref TI, .ref TO], slots := #[] }
  ti : h.get? TI = some { cls := .type "tuple", data := .seq (refsOf cols).toArray }
  to : ∃ vs : Array Value, vs.size = cols.length ∧ h.get? TO = some { cls := .type "tuple", data := .seq vs }
  at_ : ∀ c, c ∈ cols → ItQ h c.it c.l i c.xs
abbrev ZRec (TI TO : Addr) (f0 : Value) (b : Bool) : Obj := { cls := .type "zip", dict := none, data := .fields #[f0, .bool b, .bool false, .ref TI, .ref TO], slots := #[] }
theorem isFree_zip {z TI TO : Addr} {f0 : Value} {b : Bool} {Q : Bool → Shared → Prop} (h0 : f0 = .none ∨ ∃ T : Nat, f0 = rawInt T) (hz : s.heap.get? z = some (ZRec TI TO f0 b))
    (hQ : ∀ r b' h', h'.get? z = some (ZRec TI TO f0 b') → Heap.SameBut z s.heap h' → Q r { s with heap := h' }) : wpAny (model prog w) A (Builtin.SmallTypes.ownedTupleIsFree (.ref z)) Q E s := by
  unfold Builtin.SmallTypes.ownedTupleIsFree
  rcases h0 with rfl | ⟨T, rfl⟩
  · exact wpAny_bind (wpAny_field hz rfl (x := .none) rfl (wpAny_pure (hQ true b s.heap hz (Heap.SameBut.refl _ _))))
  · refine wpAny_bind (wpAny_field hz rfl (x := rawInt T) rfl ?_)
    show wpAny _ _ (loadIfAlive ((T : Int).toNat) >>= _) _ _ _
    rw [Int.toNat_natCast]
    have alive : ∀ {Q' : Option Obj → Shared → Prop}, Q' (s.heap.get? T) s → wpAny (model prog w) A (loadIfAlive T) Q' E s := fun h _ _ _ => h
    refine wpAny_bind (alive ?_)
    cases s.heap.get? T with
    | none =>
      simp only [Option.isNone_none, if_true]
      exact wpAny_pure (hQ true b s.heap hz (Heap.SameBut.refl _ _))
    | some o =>
      simp only [Option.isNone_some, Bool.false_eq_true, if_false]
      refine wpAny_bind (wpAny_field hz rfl (x := .bool b) rfl ?_)
      cases b with
      | true =>
        rw [if_neg (show ¬ ((Value.bool true != Value.bool true) = true) from Bool.false_ne_true)]
        exact wpAny_pure (hQ false true s.heap hz (Heap.SameBut.refl _ _))
      | false =>
        rw [if_pos (show (Value.bool false != Value.bool true) = true from rfl)]
        exact wpAny_bind (wpAny_setField_rec hz (by simp) fun h1 z1 s1 => wpAny_pure (hQ false true h1 z1 s1))
/-- one turn's draws: which columns have been drawn from -/
structure Mid (s0 : Shared) (z TO : Addr) (i : Nat) (ys rs : List Col) (h : Heap) : Prop where
  q1 : ∀ c, c ∈ ys → ItQ h c.it c.l (i + 1) c.xs
  q2 : ∀ c, c ∈ rs → ItQ h c.it c.l i c.xs
  kp : ∀ b o, b ≠ z → b ≠ TO → b ∉ (ys ++ rs).map (·.it) → s0.heap.get? b = some o → h.get? b = some o
  sz : h.objs.size = s0.heap.objs.size
theorem itemsAt_app (xs ys : List Col) (i : Nat) : itemsAt (xs ++ ys) i = itemsAt xs i ++ itemsAt ys i := by simp [itemsAt]
theorem Mid.draw {s0 : Shared} {z TI TO : Addr} {i : Nat} {ys rs : List Col} {c : Col} {h h' : Heap} (D : ApN z TI TO (ys ++ c :: rs)) (m : Mid s0 z TO i ys (c :: rs) h) (q : ItQ h' c.it c.l (i + 1) c.xs) (sb : Heap.SameBut c.it h h') : Mid s0 z TO i (ys ++ [c]) rs h' := by
  have nd := D.ii
  rw [List.map_append, List.map_cons, List.nodup_append] at nd
  obtain ⟨_, nd2, nd3⟩ := nd
  rw [List.nodup_cons] at nd2
  refine ⟨fun d hd => ?_, fun d hd => ?_, fun b o b1 b2 b3 e => ?_, by rw [sb.1, m.sz]⟩
  · rcases List.mem_append.mp hd with hd | hd
    · exact (m.q1 d hd).at (fun o e => (sb.2 _ fun z => nd3 d.it (List.mem_map.mpr ⟨d, hd, rfl⟩) c.it (by simp) z).trans e) fun o e => (sb.2 _ (D.li d (by simp [hd]) c (by simp))).trans e
    · rw [List.mem_singleton.mp hd]
      exact q
  · exact (m.q2 d (List.mem_cons_of_mem _ hd)).at (fun o e => (sb.2 _ fun z => nd2.1 (by rw [← z]; exact List.mem_map.mpr ⟨d, hd, rfl⟩)).trans e) fun o e => (sb.2 _ (D.li d (by simp [hd]) c (by simp))).trans e
  · have e2 : (ys ++ [c] ++ rs) = ys ++ c :: rs := by simp
    rw [e2] at b3
    refine (sb.2 _ fun z => b3 ?_).trans (m.kp b o b1 b2 b3 e)
    rw [z]
    simp
theorem zN_item {z TI TO : Addr} {cols : List Col} {i : Nat} {Q : Value → Shared → Prop} (D : ApN z TI TO cols) (st : ZN s.heap z TI TO cols i) (hne : cols ≠ []) (hlen : cols.length ≤ sizeLine) (hx : ∀ c, c ∈ cols → ∃ x, c.xs[i]? = some x)
    (hQ : ∀ h', ZN h' z TI TO cols (i + 1) → h'.get? s.heap.objs.size = some { cls := .type "tuple", data := .seq (itemsAt cols i).toArray } →
      (∀ b o, b ≠ z → b ≠ TO → b ∉ cols.map (·.it) → s.heap.get? b = some o → h'.get? b = some o) → Q (.ref s.heap.objs.size) { s with heap := h' }) :
    wpAny (model prog w) A (Builtin.«zip.__next__» ⟨[.ref z], []⟩) (fun fin s' => ∃ v, fin = .done (.ret v) ∧ Q v s') E s := by
  obtain ⟨⟨f0, b, h0, hz⟩, hTI, ⟨vs, hvs, hTO⟩, hat⟩ := st
  have hemp : (refsOf cols).toArray.isEmpty = false := by
    cases cols with
    | nil => exact absurd rfl hne
    | cons c r => simp
  show wpAny _ _ (field (.ref z) 2 >>= _) _ _ _
  refine wpAny_bind (wpAny_field hz rfl (x := .bool false) rfl ?_)
  show wpAny _ _ (field (.ref z) 3 >>= _) _ _ _
  refine wpAny_bind (wpAny_field hz rfl (x := .ref TI) rfl ?_)
  refine wpAny_bind (wpAny_seqItems hTI rfl ?_)
  simp only [hemp, Bool.false_eq_true, if_false]
  show wpAny _ _ (Builtin.SmallTypes.ownedTupleIsFree (.ref z) >>= _) _ _ _
  refine wpAny_bind (isFree_zip h0 hz fun r b' h1 z1 s1 => ?_)
  have TO1 : h1.get? TO = some { cls := .type "tuple", data := .seq vs } := (s1.2 _ D.TOz).trans hTO
  have m1 : Mid s z TO i [] cols h1 := ⟨(fun c hc => by cases hc), fun c hc => (hat c hc).at (fun o e => (s1.2 _ (D.iz c hc).1).trans e) fun o e => (s1.2 _ (D.lz c hc).1).trans e, fun b o b1 _ _ e => (s1.2 _ b1).trans e, s1.1⟩
  have notin : ∀ (b : Addr), (∀ c, c ∈ cols → b ≠ c.it) → b ∉ cols.map (·.it) := fun b hb hm => by
    obtain ⟨c, hc, e⟩ := List.mem_map.mp hm
    exact hb c hc e.symm
  cases r with
  | false =>
    simp only [Bool.false_eq_true, if_false]
    refine wpAny_bind ?_
    rw [← Array.forIn_toList]
    refine forIn_wp (I := fun l b s' => ∃ ys rs h', cols = ys ++ rs ∧ l = refsOf rs ∧ b = (none, (itemsAt ys i).toArray) ∧ s' = { s with heap := h' } ∧ Mid s z TO i ys rs h' ∧ h'.get? z = some (ZRec TI TO f0 b') ∧ h'.get? TO = some { cls := .type "tuple", data := .seq vs }) ?_ ?_ _ _ _ ⟨[], cols, h1, rfl, by simp, rfl, rfl, m1, z1, TO1⟩
    · rintro a r bb s' ⟨ys, rs, h', hc, hl, rfl, rfl, m, hz', hTO'⟩
      cases rs with
      | nil => cases hl
      | cons c rs =>
        rw [refsOf, List.map_cons, List.cons.injEq] at hl
        obtain ⟨rfl, rfl⟩ := hl
        obtain ⟨x, ex⟩ := hx c (by rw [hc]; simp)
        rw [hc] at D
        refine wpAny_bind (wpAny_holding ?_)
        show wpAny _ _ (Builtin.SmallTypes.nextOf (.ref c.it) >>= _) _ _ _
        refine wpAny_bind (nextQ_item (s := { s with heap := h' }) (m.q2 c (by simp)) ex (D.li c (by simp) c (by simp)) fun h2 q2 sb => wpAny_pure ?_)
        have ne1 := D.iz c (by simp)
        refine wpAny_pure ⟨ys ++ [c], rs, h2, by rw [hc]; simp, rfl, ?_, rfl, m.draw D q2 sb, (sb.2 _ (Ne.symm ne1.1)).trans hz', (sb.2 _ (Ne.symm ne1.2.2)).trans hTO'⟩
        rw [itemsAt_app]
        simp [itemsAt, ex]
    · rintro bb s' ⟨ys, rs, h', hc, hl, rfl, rfl, m, hz', hTO'⟩
      have : rs = [] := by
        cases rs with
        | nil => rfl
        | cons c rs => cases hl
      subst this
      rw [List.append_nil] at hc
      subst hc
      refine wpAny_bind (wpAny_newTuple (hsz := by simp [itemsAt] <;> exact hlen) (wpAny_pure ⟨_, rfl, ?_⟩))
      show Q (.ref h'.objs.size) _
      rw [m.sz]
      have new : (h'.push { cls := .type "tuple", data := .seq (itemsAt cols i).toArray }).get? s.heap.objs.size = some { cls := .type "tuple", data := .seq (itemsAt cols i).toArray } := by
        rw [← m.sz]
        exact Heap.get?_push_size _ rfl
      refine hQ _ ⟨⟨f0, b', h0, Heap.get?_push_of_some _ hz'⟩, ?_, ⟨vs, hvs, Heap.get?_push_of_some _ hTO'⟩, fun c hc => (m.q1 c hc).at (fun o e => Heap.get?_push_of_some _ e) fun o e => Heap.get?_push_of_some _ e⟩ new fun b o b1 b2 b3 e => Heap.get?_push_of_some _ (m.kp b o b1 b2 (by simpa using b3) e)
      exact Heap.get?_push_of_some _ (m.kp TI _ D.TIz D.TITO (by rw [List.append_nil]; exact notin TI fun c hc e => (D.iz c hc).2.1 e.symm) hTI)
  | true =>
    simp only [if_true]
    refine wpAny_bind (wpAny_rule ?_)
    refine wpAny_bind (wpAny_field z1 rfl (x := .ref TO) rfl ?_)
    refine wpAny_bind (wpAny_setField_rec z1 (by simp) fun h2 z2 s2 => ?_)
    replace z2 : h2.get? z = some (ZRec TI TO .ellipsis b') := z2
    have TO2 : h2.get? TO = some { cls := .type "tuple", data := .seq vs } := (s2.2 _ D.TOz).trans TO1
    have m2 : Mid s z TO i [] cols h2 := ⟨(fun c hc => by cases hc), fun c hc => (m1.q2 c hc).at (fun o e => (s2.2 _ (D.iz c hc).1).trans e) fun o e => (s2.2 _ (D.lz c hc).1).trans e, fun b o b1 b2 b3 e => (s2.2 _ b1).trans (m1.kp b o b1 b2 b3 e), s2.1.trans m1.sz⟩
    refine wpAny_bind ?_
    refine forIn_wp (I := fun l b s' => ∃ ys rs h' vs', cols = ys ++ rs ∧ l = (refsOf rs).zipIdx ys.length ∧ b = (none, ()) ∧ s' = { s with heap := h' } ∧ Mid s z TO i ys rs h' ∧ h'.get? z = some (ZRec TI TO .ellipsis b') ∧ h'.get? TO = some { cls := .type "tuple", data := .seq vs' } ∧ vs'.toList = itemsAt ys i ++ vs.toList.drop ys.length) ?_ ?_ _ _ _ ⟨[], cols, h2, vs, rfl, by simp, rfl, rfl, m2, z2, TO2, by simp [itemsAt]⟩
    · rintro ⟨a, k⟩ r bb s' ⟨ys, rs, h', vs', hc, hl, rfl, rfl, m, hz', hTO', hvs'⟩
      cases rs with
      | nil => cases hl
      | cons c rs =>
        rw [refsOf, List.map_cons, List.zipIdx_cons, List.cons.injEq, Prod.mk.injEq] at hl
        obtain ⟨⟨rfl, rfl⟩, rfl⟩ := hl
        obtain ⟨x, ex⟩ := hx c (by rw [hc]; simp)
        have D' := D
        rw [hc] at D
        have nd := D.ii
        have hvl : vs'.size = cols.length := by
          have h5 := congrArg List.length hvs'
          have h6 : vs'.toList.length = vs'.size := Array.length_toList
          have h7 : vs.toList.length = vs.size := Array.length_toList
          have h8 : (itemsAt ys i).length = ys.length := by simp [itemsAt]
          have h9 : cols.length = ys.length + (rs.length + 1) := by rw [hc]; simp
          rw [List.length_append, List.length_drop] at h5
          omega
        have hkl : ys.length < cols.length := by rw [hc]; simp
        refine wpAny_bind (wpAny_onRaise ?_)
        show wpAny _ _ (Builtin.SmallTypes.nextOf (.ref c.it) >>= _) _ _ _
        refine wpAny_bind (nextQ_item (s := { s with heap := h' }) (m.q2 c (by simp)) ex (D.li c (by simp) c (by simp)) fun h3 q3 sb => wpAny_pure ?_)
        have ne1 := D.iz c (by simp)
        have m3 := m.draw D q3 sb
        have TO3 := (sb.2 _ (Ne.symm ne1.2.2)).trans hTO'
        refine wpAny_bind (wpAny_seqItems TO3 rfl ?_)
        refine wpAny_bind (wpAny_updateSeq (s := { s with heap := h3 }) TO3 rfl ?_ (by omega) (by rw [Array.size_setIfInBounds]; omega))
        refine wpAny_bind (wpAny_letGo (wpAny_pure ?_))
        have TO4 := Heap.get?_update_self (Obj.mapSeq (·.setIfInBounds ys.length x)) TO3 rfl
        have sb4 := Heap.SameBut.update h3 TO (Obj.mapSeq (·.setIfInBounds ys.length x))
        generalize h3.update TO (Obj.mapSeq (·.setIfInBounds ys.length x)) = h4 at TO4 sb4
        have nTO : ∀ d, d ∈ cols → d.it ≠ TO ∧ d.l ≠ TO := fun d hd => ⟨(D'.iz d hd).2.2, (D'.lz d hd).2⟩
        have hc2 : cols = ys ++ [c] ++ rs := by rw [hc]; simp
        refine ⟨ys ++ [c], rs, h4, vs'.setIfInBounds ys.length x, hc2, by simp, rfl, rfl, ⟨fun d hd => ?_, fun d hd => ?_, fun b o b1 b2 b3 e => (sb4.2 _ b2).trans (m3.kp b o b1 b2 b3 e), sb4.1.trans m3.sz⟩, (sb4.2 _ (Ne.symm D.TOz)).trans ((sb.2 _ (Ne.symm ne1.1)).trans hz'), ?_, ?_⟩
        · have hd' : d ∈ cols := by rw [hc2]; exact List.mem_append_left _ hd
          exact (m3.q1 d hd).at (fun o e => (sb4.2 _ (nTO d hd').1).trans e) fun o e => (sb4.2 _ (nTO d hd').2).trans e
        · have hd' : d ∈ cols := by rw [hc2]; exact List.mem_append_right _ hd
          exact (m3.q2 d hd).at (fun o e => (sb4.2 _ (nTO d hd').1).trans e) fun o e => (sb4.2 _ (nTO d hd').2).trans e
        · rw [TO4]
          simp [Obj.mapSeq]
        · rw [Array.toList_setIfInBounds, hvs', itemsAt_app]
          have e1 : (itemsAt ys i).length = ys.length := by simp [itemsAt]
          have h7 : vs.toList.length = vs.size := Array.length_toList
          have hvl2 : ys.length < vs.toList.length := by omega
          rw [List.set_append_right _ _ (by omega), e1, Nat.sub_self, List.drop_eq_getElem_cons hvl2]
          simp [itemsAt, ex]
    · rintro bb s' ⟨ys, rs, h', vs', hc, hl, rfl, rfl, m, hz', hTO', hvs'⟩
      have : rs = [] := by
        cases rs with
        | nil => rfl
        | cons c rs => cases hl
      subst this
      rw [List.append_nil] at hc
      subst hc
      have hdrop : vs.toList.drop cols.length = [] := List.drop_eq_nil_of_le (by have h7 : vs.toList.length = vs.size := Array.length_toList; omega)
      rw [hdrop, List.append_nil] at hvs'
      have hva : vs' = (itemsAt cols i).toArray := by rw [← hvs']
      subst hva
      show wpAny _ _ (seqItems? (.ref TO) >>= _) _ _ _
      refine wpAny_bind (wpAny_seqItems hTO' rfl ?_)
      refine wpAny_bind (wpAny_newTuple (hsz := by simp [itemsAt] <;> exact hlen) ?_)
      have hzl : z < h'.objs.size := Heap.lt_size hz'
      show wpAny _ _ (Builtin.SmallTypes.ownedTupleHandOut (.ref z) (.ref h'.objs.size) >>= _) _ _ _
      refine wpAny_bind ?_
      unfold Builtin.SmallTypes.ownedTupleHandOut
      generalize hg9 : h'.push { cls := .type "tuple", data := .seq (itemsAt cols i).toArray.toList.toArray } = g9
      have kpp : ∀ b o, h'.get? b = some o → g9.get? b = some o := fun b o e => by rw [← hg9]; exact Heap.get?_push_of_some _ e
      have new : g9.get? h'.objs.size = some { cls := .type "tuple", data := .seq (itemsAt cols i).toArray } := by rw [← hg9]; exact Heap.get?_push_size _ rfl
      refine wpAny_bind (wpAny_setField_rec (s := { s with heap := g9 }) (kpp _ _ hz') (by simp) fun h7 z7 s7 => ?_)
      replace z7 : h7.get? z = some (ZRec TI TO (rawInt h'.objs.size) b') := z7
      refine wpAny_setField_rec z7 (by simp) fun h8 z8 s8 => ?_
      replace z8 : h8.get? z = some (ZRec TI TO (rawInt h'.objs.size) false) := z8
      have up : ∀ b o, b ≠ z → h'.get? b = some o → h8.get? b = some o := fun b o bz e => (s8.2 _ bz).trans ((s7.2 _ bz).trans (kpp _ _ e))
      refine wpAny_pure ⟨_, rfl, ?_⟩
      show Q (.ref h'.objs.size) _
      have new8 : h8.get? h'.objs.size = some { cls := .type "tuple", data := .seq (itemsAt cols i).toArray } := (s8.2 _ (Nat.ne_of_gt hzl)).trans ((s7.2 _ (Nat.ne_of_gt hzl)).trans new)
      rw [m.sz] at new8 ⊢
      refine hQ h8 ⟨⟨_, false, .inr ⟨h'.objs.size, rfl⟩, z8⟩, ?_, ⟨_, by simp [itemsAt], up _ _ D.TOz hTO'⟩, fun c hc => (m.q1 c hc).at (fun o e => up _ _ (D.iz c hc).1 e) fun o e => up _ _ (D.lz c hc).1 e⟩ new8 fun b o b1 b2 b3 e => up b o b1 (m.kp b o b1 b2 (by simpa using b3) e)
      exact up _ _ D.TIz (m.kp TI _ D.TIz D.TITO (by rw [List.append_nil]; exact notin TI fun c hc e => (D.iz c hc).2.1 e.symm) hTI)
theorem zN_done {z TI TO : Addr} {cols : List Col} {i : Nat} {Q : Fin → Shared → Prop} (hh : A.handled = none) (D : ApN z TI TO cols) (st : ZN s.heap z TI TO cols i) (hlen : cols.length ≤ sizeLine) (hx : ∃ c, c ∈ cols ∧ c.xs[i]? = none)
    (hE : ∀ h' e, (∀ b o, b ≠ z → b ≠ TO → b ∉ cols.map (·.it) → s.heap.get? b = some o → h'.get? b = some o) → (∃ o, h'.get? e = some o ∧ o.cls = .type "StopIteration") → E (.ref e) { s with heap := h' }) :
    wpAny (model prog w) A (Builtin.«zip.__next__» ⟨[.ref z], []⟩) Q E s := by
  obtain ⟨⟨f0, b, h0, hz⟩, hTI, ⟨vs, hvs, hTO⟩, hat⟩ := st
  obtain ⟨cE, hcE, hxE⟩ := hx
  have hemp : (refsOf cols).toArray.isEmpty = false := by
    cases cols with
    | nil => cases hcE
    | cons c r => simp
  show wpAny _ _ (field (.ref z) 2 >>= _) _ _ _
  refine wpAny_bind (wpAny_field hz rfl (x := .bool false) rfl ?_)
  show wpAny _ _ (field (.ref z) 3 >>= _) _ _ _
  refine wpAny_bind (wpAny_field hz rfl (x := .ref TI) rfl ?_)
  refine wpAny_bind (wpAny_seqItems hTI rfl ?_)
  simp only [hemp, Bool.false_eq_true, if_false]
  show wpAny _ _ (Builtin.SmallTypes.ownedTupleIsFree (.ref z) >>= _) _ _ _
  refine wpAny_bind (isFree_zip h0 hz fun r b' h1 z1 s1 => ?_)
  have TO1 : h1.get? TO = some { cls := .type "tuple", data := .seq vs } := (s1.2 _ D.TOz).trans hTO
  have m1 : Mid s z TO i [] cols h1 := ⟨(fun c hc => by cases hc), fun c hc => (hat c hc).at (fun o e => (s1.2 _ (D.iz c hc).1).trans e) fun o e => (s1.2 _ (D.lz c hc).1).trans e, fun b o b1 _ _ e => (s1.2 _ b1).trans e, s1.1⟩
  cases r with
  | false =>
    simp only [Bool.false_eq_true, if_false]
    refine wpAny_bind ?_
    rw [← Array.forIn_toList]
    refine forIn_wp (I := fun l b s' => ∃ ys rs h', cols = ys ++ rs ∧ l = refsOf rs ∧ s' = { s with heap := h' } ∧ Mid s z TO i ys rs h' ∧ cE ∈ rs) ?_ ?_ _ _ _ ⟨[], cols, h1, rfl, by simp, rfl, m1, hcE⟩
    · rintro a r bb s' ⟨ys, rs, h', hc, hl, rfl, m, hin⟩
      cases rs with
      | nil => cases hl
      | cons c rs =>
        rw [refsOf, List.map_cons, List.cons.injEq] at hl
        obtain ⟨rfl, rfl⟩ := hl
        rw [hc] at D
        refine wpAny_bind (wpAny_holding ?_)
        show wpAny _ _ (Builtin.SmallTypes.nextOf (.ref c.it) >>= _) _ _ _
        cases ex : c.xs[i]? with
        | none =>
          refine wpAny_bind (nextQ_end (s := { s with heap := h' }) hh (m.q2 c (by simp)) ex fun h2 e ext he => ?_)
          refine hE h2 e (fun b o b1 b2 b3 q => ext _ _ (fun z => b3 ?_) (m.kp b o b1 b2 (by rw [← hc]; exact b3) q)) he
          rw [z, hc]
          simp
        | some x =>
          refine wpAny_bind (nextQ_item (s := { s with heap := h' }) (m.q2 c (by simp)) ex (D.li c (by simp) c (by simp)) fun h2 q2 sb => wpAny_pure ?_)
          refine wpAny_pure ⟨ys ++ [c], rs, h2, by rw [hc]; simp, rfl, rfl, m.draw D q2 sb, ?_⟩
          rcases List.mem_cons.mp hin with e | hin
          · rw [← e, hxE] at ex
            cases ex
          · exact hin
    · rintro bb s' ⟨ys, rs, h', hc, hl, rfl, m, hin⟩
      cases rs with
      | nil => cases hin
      | cons c rs => cases hl
  | true =>
    simp only [if_true]
    refine wpAny_bind (wpAny_rule ?_)
    refine wpAny_bind (wpAny_field z1 rfl (x := .ref TO) rfl ?_)
    refine wpAny_bind (wpAny_setField_rec z1 (by simp) fun h2 z2 s2 => ?_)
    replace z2 : h2.get? z = some (ZRec TI TO .ellipsis b') := z2
    have TO2 : h2.get? TO = some { cls := .type "tuple", data := .seq vs } := (s2.2 _ D.TOz).trans TO1
    have m2 : Mid s z TO i [] cols h2 := ⟨(fun c hc => by cases hc), fun c hc => (m1.q2 c hc).at (fun o e => (s2.2 _ (D.iz c hc).1).trans e) fun o e => (s2.2 _ (D.lz c hc).1).trans e, fun b o b1 b2 b3 e => (s2.2 _ b1).trans (m1.kp b o b1 b2 b3 e), s2.1.trans m1.sz⟩
    refine wpAny_bind ?_
    refine forIn_wp (I := fun l b s' => ∃ ys rs h' vs', cols = ys ++ rs ∧ l = (refsOf rs).zipIdx ys.length ∧ s' = { s with heap := h' } ∧ Mid s z TO i ys rs h' ∧ h'.get? z = some (ZRec TI TO .ellipsis b') ∧ h'.get? TO = some { cls := .type "tuple", data := .seq vs' } ∧ vs'.size = cols.length ∧ cE ∈ rs) ?_ ?_ _ _ _ ⟨[], cols, h2, vs, rfl, by simp, rfl, m2, z2, TO2, hvs, hcE⟩
    · rintro ⟨a, k⟩ r bb s' ⟨ys, rs, h', vs', hc, hl, rfl, m, hz', hTO', hvs', hin⟩
      cases rs with
      | nil => cases hl
      | cons c rs =>
        rw [refsOf, List.map_cons, List.zipIdx_cons, List.cons.injEq, Prod.mk.injEq] at hl
        obtain ⟨⟨rfl, rfl⟩, rfl⟩ := hl
        have D' := D
        rw [hc] at D
        have ne1 := D.iz c (by simp)
        refine wpAny_bind (wpAny_onRaise ?_)
        show wpAny _ _ (Builtin.SmallTypes.nextOf (.ref c.it) >>= _) _ _ _
        cases ex : c.xs[i]? with
        | none =>
          refine wpAny_bind (nextQ_end (s := { s with heap := h' }) hh (m.q2 c (by simp)) ex fun h3 e ext he => ?_)
          obtain ⟨oe, hoe, hce⟩ := he
          have z3 : h3.get? z = some (ZRec TI TO .ellipsis b') := ext _ _ (Ne.symm ne1.1) hz'
          have ez : e ≠ z := fun q => by rw [q, z3] at hoe; cases hoe; simp at hce
          refine wpAny_setField_rec z3 (by simp) fun h4 _ s4 => hE h4 e (fun b o b1 b2 b3 q => (s4.2 _ b1).trans (ext _ _ (fun z => b3 ?_) (m.kp b o b1 b2 (by rw [← hc]; exact b3) q))) ⟨oe, (s4.2 _ ez).trans hoe, hce⟩
          rw [z, hc]
          simp
        | some x =>
          refine wpAny_bind (nextQ_item (s := { s with heap := h' }) (m.q2 c (by simp)) ex (D.li c (by simp) c (by simp)) fun h3 q3 sb => wpAny_pure ?_)
          have m3 := m.draw D q3 sb
          have TO3 := (sb.2 _ (Ne.symm ne1.2.2)).trans hTO'
          refine wpAny_bind (wpAny_seqItems TO3 rfl ?_)
          refine wpAny_bind (wpAny_updateSeq (s := { s with heap := h3 }) TO3 rfl ?_ (by omega) (by rw [Array.size_setIfInBounds]; omega))
          refine wpAny_bind (wpAny_letGo (wpAny_pure ?_))
          have TO4 := Heap.get?_update_self (Obj.mapSeq (·.setIfInBounds ys.length x)) TO3 rfl
          have sb4 := Heap.SameBut.update h3 TO (Obj.mapSeq (·.setIfInBounds ys.length x))
          generalize h3.update TO (Obj.mapSeq (·.setIfInBounds ys.length x)) = h4 at TO4 sb4
          have nTO : ∀ d, d ∈ cols → d.it ≠ TO ∧ d.l ≠ TO := fun d hd => ⟨(D'.iz d hd).2.2, (D'.lz d hd).2⟩
          have hc2 : cols = ys ++ [c] ++ rs := by rw [hc]; simp
          refine ⟨ys ++ [c], rs, h4, vs'.setIfInBounds ys.length x, hc2, by simp, rfl, ⟨fun d hd => ?_, fun d hd => ?_, fun b o b1 b2 b3 e => (sb4.2 _ b2).trans (m3.kp b o b1 b2 b3 e), sb4.1.trans m3.sz⟩, (sb4.2 _ (Ne.symm D.TOz)).trans ((sb.2 _ (Ne.symm ne1.1)).trans hz'), ?_, by rw [Array.size_setIfInBounds]; exact hvs', ?_⟩
          · have hd' : d ∈ cols := by rw [hc2]; exact List.mem_append_left _ hd
            exact (m3.q1 d hd).at (fun o e => (sb4.2 _ (nTO d hd').1).trans e) fun o e => (sb4.2 _ (nTO d hd').2).trans e
          · have hd' : d ∈ cols := by rw [hc2]; exact List.mem_append_right _ hd
            exact (m3.q2 d hd).at (fun o e => (sb4.2 _ (nTO d hd').1).trans e) fun o e => (sb4.2 _ (nTO d hd').2).trans e
          · rw [TO4]
            simp [Obj.mapSeq]
          · rcases List.mem_cons.mp hin with e | hin
            · rw [← e, hxE] at ex
              cases ex
            · exact hin
    · rintro bb s' ⟨ys, rs, h', vs', hc, hl, rfl, m, _, _, _, hin⟩
      cases rs with
      | nil => cases hin
      | cons c rs => cases hl
theorem pyNext_zN_item {z TI TO : Addr} {cols : List Col} {i : Nat} {Q : Option Value → Shared → Prop} (D : ApN z TI TO cols) (st : ZN s.heap z TI TO cols i) (hne : cols ≠ []) (hlen : cols.length ≤ sizeLine) (hx : ∀ c, c ∈ cols → ∃ x, c.xs[i]? = some x)
    (hQ : ∀ h', ZN h' z TI TO cols (i + 1) → h'.get? s.heap.objs.size = some { cls := .type "tuple", data := .seq (itemsAt cols i).toArray } →
      (∀ b o, b ≠ z → b ≠ TO → b ∉ cols.map (·.it) → s.heap.get? b = some o → h'.get? b = some o) → Q (some (.ref s.heap.objs.size)) { s with heap := h' }) : wpAny (model prog w) A (pyNext (.ref z)) Q E s := by
  obtain ⟨f0, b, h0, hz⟩ := st.z
  have ty : s.TypeIs (.ref z) "zip" := ⟨_, hz, rfl⟩
  unfold pyNext
  exact wpAny_bind (wpAny_attempt (wpAny_callSpecial?_slot (name := Str.ofString "__next__") ty F.slot_zip_next
    (wpAny_call_entry F.slot_zip_next ty F.entry_zip_next (zN_item D st hne hlen hx fun h' a1 a2 a3 => wpAny_pure (hQ h' a1 a2 a3)) (F.args_zip_next_1 _))))
theorem pyNext_zN_end {z TI TO : Addr} {cols : List Col} {i : Nat} {Q : Option Value → Shared → Prop} (hh : A.handled = none) (D : ApN z TI TO cols) (st : ZN s.heap z TI TO cols i) (hlen : cols.length ≤ sizeLine) (hx : ∃ c, c ∈ cols ∧ c.xs[i]? = none)
    (hQ : ∀ h', (∀ b o, b ≠ z → b ≠ TO → b ∉ cols.map (·.it) → s.heap.get? b = some o → h'.get? b = some o) → Q none { s with heap := h' }) : wpAny (model prog w) A (pyNext (.ref z)) Q E s := by
  obtain ⟨f0, b, h0, hz⟩ := st.z
  have ty : s.TypeIs (.ref z) "zip" := ⟨_, hz, rfl⟩
  unfold pyNext
  refine wpAny_bind (wpAny_attempt (wpAny_callSpecial?_slot (name := Str.ofString "__next__") ty F.slot_zip_next
    (wpAny_call_entry F.slot_zip_next ty F.entry_zip_next (zN_done hh D st hlen hx fun h' e k he => ?_) (F.args_zip_next_1 _))))
  obtain ⟨o, ho, hc⟩ := he
  refine wpAny_bind (wpAny_isInstance (T := "StopIteration") (b := true) ⟨o, ho, hc⟩ isSubtype_stop ?_)
  exact wpAny_pure (hQ _ k)
theorem typeCall_zip_n (args : List Value) : checkTypeCall "zip" ⟨args, []⟩ = pure () := by kernel_rfl
theorem newCall_zip_n (args : List Value) : checkBuiltinCall "zip.__new__" ⟨.type "zip" :: args, []⟩ = pure () := by
  cases args with
  | nil => kernel_rfl
  | cons a r => kernel_rfl
theorem object_init_n (obj : Value) (args : List Value) : argsOk "object.__init__" ⟨obj :: args, []⟩ := by
  unfold argsOk
  rw [signature?_of (id := "object.__init__") (n := ['_', '_', 't', 'i', 'n', 'i', '_', '_']) (o := ['t', 'c', 'e', 'j', 'b', 'o']) (by kernel_rfl) F.owner_object]
  kernel_rfl
def colsOf (N : Nat) : List (Addr × Array Value) → List Col
  | [] => []
  | p :: r => ⟨N, p.1, p.2⟩ :: colsOf (N + 1) r
theorem colsOf_len : ∀ (N : Nat) (ls : List (Addr × Array Value)), (colsOf N ls).length = ls.length
  | _, [] => rfl
  | N, p :: r => by simp [colsOf, colsOf_len (N + 1) r]
theorem nn_le {a N : Nat} (h : N + 1 ≤ a) : N ≤ a := by omega
theorem nn_lt {a N n : Nat} (h : a < N + 1 + n) : a < N + (n + 1) := by omega
theorem nn_z (N n : Nat) : N < N + (n + 1) := by omega
theorem nn_ne {a N n : Nat} (k : Nat) (h : a < N + n) : a ≠ N + n + k := by omega
theorem nn_ne2 {a N n : Nat} (k : Nat) (h : a < N) : a ≠ N + n + k := by omega
theorem nn_ne3 {a b N : Nat} (h : a < N) (h2 : N ≤ b) : a ≠ b := by omega
theorem nn_ne4 {a N : Nat} (h : N + 1 ≤ a) : a ≠ N := by omega
theorem nn_add (N : Nat) {j k : Nat} (h : j ≠ k) : N + j ≠ N + k := by omega
theorem colsOf_mem : ∀ (N : Nat) (ls : List (Addr × Array Value)) (c : Col), c ∈ colsOf N ls → N ≤ c.it ∧ c.it < N + ls.length ∧ (c.l, c.xs) ∈ ls
  | _, [], _, h => by cases h
  | N, p :: r, c, h => by
    rcases List.mem_cons.mp h with rfl | h
    · exact ⟨Nat.le_refl _, nn_z _ _, by simp⟩
    · obtain ⟨a1, a2, a3⟩ := colsOf_mem (N + 1) r c h
      exact ⟨nn_le a1, nn_lt a2, by simp [a3]⟩
theorem colsOf_nodup : ∀ (N : Nat) (ls : List (Addr × Array Value)), ((colsOf N ls).map (·.it)).Nodup
  | _, [] => List.nodup_nil
  | N, p :: r => by
    rw [colsOf, List.map_cons, List.nodup_cons]
    refine ⟨fun h => ?_, colsOf_nodup (N + 1) r⟩
    obtain ⟨c, hc, e⟩ := List.mem_map.mp h
    exact nn_ne4 (colsOf_mem (N + 1) r c hc).1 e
theorem colsOf_apart {N : Nat} {ls : List (Addr × Array Value)} (h : ∀ p, p ∈ ls → p.1 < N) : ApN (N + ls.length + 2) (N + ls.length) (N + ls.length + 1) (colsOf N ls) where
  TIz := nn_add (N + ls.length) (j := 0) (k := 2) (by decide)
  TOz := nn_add (N + ls.length) (j := 1) (k := 2) (by decide)
  TITO := nn_add (N + ls.length) (j := 0) (k := 1) (by decide)
  iz := fun c hc => by
    obtain ⟨a1, a2, _⟩ := colsOf_mem N ls c hc
    exact ⟨nn_ne 2 a2, nn_ne 0 a2, nn_ne 1 a2⟩
  lz := fun c hc => by
    have a3 := h _ (colsOf_mem N ls c hc).2.2
    exact ⟨nn_ne2 2 a3, nn_ne2 1 a3⟩
  li := fun c hc d hd => nn_ne3 (h _ (colsOf_mem N ls c hc).2.2) (colsOf_mem N ls d hd).1
  ii := colsOf_nodup N ls
abbrev SeqV (h : Heap) (p : Addr × Array Value) : Prop := h.IsList p.1 p.2 ∨ h.IsTuple p.1 p.2
theorem nn_as (N n : Nat) : N + 1 + n = N + (n + 1) := by omega
theorem colsOf_app : ∀ (N : Nat) (xs ys : List (Addr × Array Value)), colsOf N (xs ++ ys) = colsOf N xs ++ colsOf (N + xs.length) ys
  | N, [], ys => by simp [colsOf]
  | N, p :: r, ys => by
    rw [List.cons_append, colsOf, colsOf, colsOf_app (N + 1) r ys]
    have e : N + 1 + r.length = N + (p :: r).length := nn_as _ _
    rw [e]
    rfl
theorem pyIter_seq {p : Addr × Array Value} {Q : Value → Shared → Prop} (h : SeqV s.heap p) (hQ : ∀ h', ItQ h' s.heap.objs.size p.1 0 p.2 → h'.objs.size = s.heap.objs.size + 1 → (∀ b o, s.heap.get? b = some o → h'.get? b = some o) → Q (.ref s.heap.objs.size) { s with heap := h' }) :
    wpAny (model prog w) A (pyIter (.ref p.1)) Q E s := by
  rcases h with h | h
  · exact wpAny_pyIter_list h (hQ _ (.inl ⟨⟨_, Heap.get?_push_size _ rfl, rfl, rfl⟩, h.push _⟩) (Heap.size_push ..) fun b o e => Heap.get?_push_of_some _ e)
  · exact wpAny_pyIter_tuple h (hQ _ (.inr ⟨⟨_, Heap.get?_push_size _ rfl, rfl, rfl⟩, h.push _⟩) (Heap.size_push ..) fun b o e => Heap.get?_push_of_some _ e)
theorem meets_zipN (ls : List (Addr × Array Value)) (hlen : ls.length ≤ 100000) :
    Meets (Builtin.«zip.__new__» ⟨.type "zip" :: ls.map fun p => .ref p.1, []⟩) (fun _ R s => (∀ p, p ∈ ls → SeqV s.heap p) ∧
      ∀ h', ZN h' (s.heap.objs.size + ls.length + 2) (s.heap.objs.size + ls.length) (s.heap.objs.size + ls.length + 1) (colsOf s.heap.objs.size ls) 0 → h'.objs.size = s.heap.objs.size + ls.length + 3 → (∀ b o, s.heap.get? b = some o → h'.get? b = some o) →
        R (.ok (.ret (.ref (s.heap.objs.size + ls.length + 2)))) { s with heap := h' }) :=
  .of_wp fun prog w A R s h => by
    obtain ⟨hs, hR⟩ := h
    have hsub := sub_zip
    unfold Builtin.«zip.__new__»
    wp_walk
    show wpAny _ _ (forIn (ls.map fun p => Value.ref p.1) #[] _) _ _ _
    refine forIn_wp (I := fun l b s' => ∃ ys rs h', ls = ys ++ rs ∧ l = rs.map (fun p => Value.ref p.1) ∧ b = (refsOf (colsOf s.heap.objs.size ys)).toArray ∧ s' = { s with heap := h' } ∧ h'.objs.size = s.heap.objs.size + ys.length ∧ (∀ b o, s.heap.get? b = some o → h'.get? b = some o) ∧ ∀ c, c ∈ colsOf s.heap.objs.size ys → ItQ h' c.it c.l 0 c.xs) ?_ ?_ _ _ _ ⟨[], ls, s.heap, rfl, rfl, rfl, rfl, rfl, fun _ _ e => e, fun c hc => by cases hc⟩
    · rintro a r bb s' ⟨ys, rs, h', hl, hr, rfl, rfl, hz, kp, hq⟩
      cases rs with
      | nil => cases hr
      | cons p rs =>
        rw [List.map_cons, List.cons.injEq] at hr
        obtain ⟨rfl, rfl⟩ := hr
        have hp : SeqV h' p := by
          rcases hs p (by rw [hl]; simp) with q | q
          · exact .inl (q.at fun o e => kp _ o e)
          · exact .inr (q.at fun o e => kp _ o e)
        refine wpAny_bind (wpAny_holding (pyIter_seq (s := { s with heap := h' }) hp fun h2 q2 z2 k2 => wpAny_pure ?_))
        have e1 : colsOf s.heap.objs.size (ys ++ [p]) = colsOf s.heap.objs.size ys ++ [⟨h'.objs.size, p.1, p.2⟩] := by rw [colsOf_app, hz]; rfl
        refine ⟨ys ++ [p], rs, h2, by rw [hl]; simp, rfl, ?_, rfl, ?_, fun b o e => k2 _ _ (kp _ _ e), fun c hc => ?_⟩
        · rw [e1]
          simp [refsOf]
        · show h2.objs.size = _
          rw [z2, hz, List.length_append]
          rfl
        · rw [e1] at hc
          rcases List.mem_append.mp hc with hc | hc
          · exact (hq c hc).at (fun o e => k2 _ _ e) fun o e => k2 _ _ e
          · rw [List.mem_singleton.mp hc]
            exact q2
    · rintro bb s' ⟨ys, rs, h', hl, hr, rfl, rfl, hz, kp, hq⟩
      have hrs : rs = [] := by
        cases rs with
        | nil => rfl
        | cons p r => cases hr
      subst hrs
      rw [List.append_nil] at hl
      subst hl
      refine wpAny_pure ?_
      have cl := colsOf_len s.heap.objs.size ls
      refine wpAny_bind (wpAny_newTuple (hsz := by simp [refsOf, cl]; rw [sizeLine_eq]; omega) ?_)
      refine wpAny_bind (wpAny_newTuple (hsz := by simp [refsOf, cl]; rw [sizeLine_eq]; omega) ?_)
      generalize hg1 : h'.push { cls := .type "tuple", data := .seq (refsOf (colsOf s.heap.objs.size ls)).toArray.toList.toArray } = g1
      have z1 : g1.objs.size = s.heap.objs.size + ls.length + 1 := by rw [← hg1, Heap.size_push, hz]
      have a1 : g1.get? h'.objs.size = some { cls := .type "tuple", data := .seq (refsOf (colsOf s.heap.objs.size ls)).toArray.toList.toArray } := by rw [← hg1]; exact Heap.get?_push_size _ rfl
      have k1 : ∀ b o, h'.get? b = some o → g1.get? b = some o := fun b o e => by rw [← hg1]; exact Heap.get?_push_of_some _ e
      generalize hvs : (List.map (fun x => Value.none) (refsOf (colsOf s.heap.objs.size ls)).toArray.toList).toArray = vs
      have hvl : vs.size = (colsOf s.heap.objs.size ls).length := by rw [← hvs]; simp [refsOf]
      generalize hg2 : g1.push { cls := .type "tuple", data := .seq vs } = g2
      have z2 : g2.objs.size = s.heap.objs.size + ls.length + 2 := by rw [← hg2, Heap.size_push, z1]
      have a2 : g2.get? g1.objs.size = some { cls := .type "tuple", data := .seq vs } := by rw [← hg2]; exact Heap.get?_push_size _ rfl
      have k2 : ∀ b o, g1.get? b = some o → g2.get? b = some o := fun b o e => by rw [← hg2]; exact Heap.get?_push_of_some _ e
      rw [hz] at a1
      rw [z1] at a2
      show wpAny _ _ (Builtin.SmallTypes.newRecord (.type "zip") [.none, .bool false, .bool false, .ref h'.objs.size, .ref g1.objs.size] >>= _) _ _ _
      rw [hz, z1]
      wp_walk
      refine ⟨_, rfl, ?_⟩
      show R (.ok (.ret (.ref g2.objs.size))) { s with heap := g2.push { cls := .type "zip", data := .fields #[.none, .bool false, .bool false, .ref (s.heap.objs.size + ls.length), .ref (s.heap.objs.size + ls.length + 1)] } }
      generalize hg3 : g2.push { cls := .type "zip", data := .fields #[.none, .bool false, .bool false, .ref (s.heap.objs.size + ls.length), .ref (s.heap.objs.size + ls.length + 1)] } = g3
      have z3 : g3.objs.size = s.heap.objs.size + ls.length + 3 := by rw [← hg3, Heap.size_push, z2]
      have a3 : g3.get? g2.objs.size = some { cls := .type "zip", data := .fields #[.none, .bool false, .bool false, .ref (s.heap.objs.size + ls.length), .ref (s.heap.objs.size + ls.length + 1)] } := by rw [← hg3]; exact Heap.get?_push_size _ rfl
      have k3 : ∀ b o, g2.get? b = some o → g3.get? b = some o := fun b o e => by rw [← hg3]; exact Heap.get?_push_of_some _ e
      rw [z2] at a3 ⊢
      exact hR g3 ⟨⟨.none, false, .inl rfl, a3⟩, k3 _ _ (k2 _ _ a1), ⟨vs, hvl, k3 _ _ a2⟩, fun c hc => (hq c hc).at (fun o e => k3 _ _ (k2 _ _ (k1 _ _ e))) fun o e => k3 _ _ (k2 _ _ (k1 _ _ e))⟩ z3 fun b o e => k3 _ _ (k2 _ _ (k1 _ _ (kp _ _ e)))
section
variable {prog : Program} {w : World} {A : Around} {E : Value → Shared → Prop} {s : Shared}
theorem call_zipN {ls : List (Addr × Array Value)} {Q : Value → Shared → Prop} (hlen : ls.length ≤ 100000) (hs : ∀ p, p ∈ ls → SeqV s.heap p)
    (h : ∀ h', ZN h' (s.heap.objs.size + ls.length + 2) (s.heap.objs.size + ls.length) (s.heap.objs.size + ls.length + 1) (colsOf s.heap.objs.size ls) 0 → h'.objs.size = s.heap.objs.size + ls.length + 3 → (∀ b o, s.heap.get? b = some o → h'.get? b = some o) →
      Q (.ref (s.heap.objs.size + ls.length + 2)) { s with heap := h' }) : wpAny (model prog w) A (call (.type "zip") (ls.map fun p => .ref p.1)) Q E s :=
  callType_new F.called_zip (by decide) (typeCall_zip_n _) (newCall_zip_n _) (fun obj => object_init_n obj _) F.entry_zip_new (meets_zipN ls hlen) ⟨hs, fun h' st hz k => by
    obtain ⟨f0, b, _, e⟩ := st.z
    exact ⟨⟨_, e, rfl⟩, h h' st hz k⟩⟩
/-! ### zip as what a loop walks -/
structure PCol where
  k : Bool
  a : Addr
  vs : List V
def SqK (K : PySem.W.Frag) (H : Hp) (p : PCol) : Prop := if p.k = true then SqL K H p.a p.vs else SqT K H p.a p.vs
def rowV (ps : List PCol) (i : Nat) : List V := ps.map fun p => p.vs.getD i .non
/-- lists and tuples side by side, each item a new tuple -/
def ItN (K : PySem.W.Frag) (ps : List PCol) : It :=
  ⟨fun i H => ∀ p, p ∈ ps → SqK K H p ∧ i < p.vs.length, fun i H v H' => ∃ T, v = .ref T ∧ H T = none ∧ H' = upd H T (.tup (rowV ps i)), fun i H => (∀ p, p ∈ ps → SqK K H p) ∧ ∃ p, p ∈ ps ∧ p.vs.length ≤ i⟩
/-- the iterators of the zip, with their kinds -/
def TnN : List PCol → Nat → Nat → Heap → Prop
  | [], _, _, _ => True
  | p :: r, N, i, h => (if p.k = true then h.IsListIter N p.a i else h.IsTupleIter N p.a i) ∧ TnN r (N + 1) i h
structure TnZ (z TI TO : Addr) (ps : List PCol) (N i : Nat) (h : Heap) : Prop where
  zr : ∃ f0 b, (f0 = .none ∨ ∃ T : Nat, f0 = rawInt T) ∧ h.get? z = some (ZRec TI TO f0 b)
  ti : ∃ vs : Array Value, vs.toList = (List.range ps.length).map (fun j => .ref (N + j)) ∧ h.get? TI = some { cls := .type "tuple", data := .seq vs }
  to : ∃ vs : Array Value, vs.size = ps.length ∧ h.get? TO = some { cls := .type "tuple", data := .seq vs }
  its : TnN ps N i h
/-- the columns in the heap that the columns of the layer stand for -/
inductive Rows2 (h : Heap) : List PCol → List (Addr × Array Value) → Prop
  | nil : Rows2 h [] []
  | cons {p : PCol} {its : List Value} {ps : List PCol} {ls : List (Addr × Array Value)} : Vals p.vs its → (if p.k = true then h.IsList p.a its.toArray else h.IsTuple p.a its.toArray) → Rows2 h ps ls → Rows2 h (p :: ps) ((p.a, its.toArray) :: ls)
theorem Rows2.len {h : Heap} {ps : List PCol} {ls : List (Addr × Array Value)} (r : Rows2 h ps ls) : ps.length = ls.length := by
  induction r with
  | nil => rfl
  | cons _ _ _ ih => simp [ih]
theorem rows2_of {X : Cx} {pins : List (Addr × Obj)} {σ : L2.St} {H : Hp} {s : Shared} (I : Inv X pins σ H s) : ∀ (ps : List PCol), (∀ p, p ∈ ps → SqK X.K H p) → ∃ ls, Rows2 s.heap ps ls ∧ ∀ q, q ∈ ls → q.1 < s.heap.objs.size
  | [], _ => ⟨[], .nil, fun _ h => by cases h⟩
  | p :: ps, h => by
    obtain ⟨ls, r, b⟩ := rows2_of I ps fun q hq => h q (List.mem_cons_of_mem _ hq)
    have hp := h p (by simp)
    unfold SqK at hp
    by_cases hk : p.k = true
    · rw [if_pos hk] at hp
      obtain ⟨its, rv, g, _⟩ := I.list hp
      refine ⟨(p.a, its.toArray) :: ls, .cons rv (by rw [if_pos hk]; exact g.isList) r, fun q hq => ?_⟩
      rcases List.mem_cons.mp hq with rfl | hq
      · exact g.lt
      · exact b q hq
    · rw [if_neg hk] at hp
      obtain ⟨its, rv, g, _⟩ := I.tuple hp
      refine ⟨(p.a, its.toArray) :: ls, .cons rv (by rw [if_neg hk]; exact g) r, fun q hq => ?_⟩
      rcases List.mem_cons.mp hq with rfl | hq
      · obtain ⟨o, e, _⟩ := g
        exact Heap.lt_size e
      · exact b q hq
theorem letGo_any {tg : Expr} {z TI TO T : Addr} {f0 : Value} {b : Bool} {Q : Unit → Shared → Prop} (h0 : f0 = .none ∨ ∃ T : Nat, f0 = rawInt T) (hz : s.heap.get? z = some (ZRec TI TO f0 b))
    (hQ : ∀ f1 h', (f1 = .none ∨ ∃ T : Nat, f1 = rawInt T) → h'.get? z = some (ZRec TI TO f1 b) → Heap.SameBut z s.heap h' → Q () { s with heap := h' }) : wpAny (model prog w) A (letOwnedTupleGo tg (.ref z) (.ref T)) Q E s := by
  have plain : Q () s := hQ f0 s.heap h0 hz (Heap.SameBut.refl _ _)
  have step : wpAny (model prog w) A (do
      let o ← load z
      match o.cls, o.data with
      | .type n, .fields vs =>
        if ["enumerate", "zip", "dict_itemiterator", "dict_reverseitemiterator", "odict_iterator", "itertools.zip_longest", "itertools.pairwise"].contains n && vs[0]? == some (rawInt T) then
          rule "for.unpacks-the-owned-tuple"
          updateField z 0 .none
      | _, _ => pure ()) Q E s := by
    refine wpAny_bind (wpAny_load hz ?_)
    simp only []
    split
    · refine wpAny_bind (wpAny_rule ?_)
      show wpAny _ _ (setField (.ref z) 0 .none) Q E s
      exact wpAny_setField_rec hz (by simp) fun h1 z1 s1 => hQ .none h1 (.inl rfl) z1 s1
    · exact wpAny_pure plain
  unfold letOwnedTupleGo
  cases tg <;> first | exact wpAny_pure plain | exact step
theorem Rows2.vals {h : Heap} {ps : List PCol} {ls : List (Addr × Array Value)} (r : Rows2 h ps ls) {i : Nat} (hi : ∀ p, p ∈ ps → i < p.vs.length) : ∀ N, Vals (rowV ps i) (itemsAt (colsOf N ls) i) := by
  induction r with
  | nil => intro N; exact .nil
  | cons rv _ _ ih =>
    rename_i p its ps ls _ _
    intro N
    have hp := hi p (by simp)
    obtain ⟨u, eu, ru⟩ := vals_get rv (List.getElem?_eq_getElem hp)
    refine .cons ?_ (ih (fun q hq => hi q (List.mem_cons_of_mem _ hq)) (N + 1))
    have e1 : (its.toArray[i]?).getD .none = u := by simp [eu]
    have e2 : p.vs.getD i .non = p.vs[i] := by simp [List.getD_eq_getElem?_getD, List.getElem?_eq_getElem hp]
    show RelV (p.vs.getD i .non) ((its.toArray[i]?).getD .none)
    rw [e1, e2]
    exact ru
theorem Rows2.hasI {h : Heap} {ps : List PCol} {ls : List (Addr × Array Value)} (r : Rows2 h ps ls) {i : Nat} (hi : ∀ p, p ∈ ps → i < p.vs.length) : ∀ q, q ∈ ls → ∃ x, q.2[i]? = some x := by
  induction r with
  | nil => intro q hq; cases hq
  | cons rv _ _ ih =>
    rename_i p its ps ls _ _
    intro q hq
    rcases List.mem_cons.mp hq with rfl | hq
    · obtain ⟨u, eu, _⟩ := vals_get rv (List.getElem?_eq_getElem (hi p (by simp)))
      exact ⟨u, by simpa using eu⟩
    · exact ih (fun q hq => hi q (List.mem_cons_of_mem _ hq)) q hq
theorem Rows2.ends {h : Heap} {ps : List PCol} {ls : List (Addr × Array Value)} (r : Rows2 h ps ls) {i : Nat} (hi : ∃ p, p ∈ ps ∧ p.vs.length ≤ i) : ∃ q, q ∈ ls ∧ q.2[i]? = none := by
  induction r with
  | nil => obtain ⟨p, hp, _⟩ := hi; cases hp
  | cons rv _ _ ih =>
    rename_i p its ps ls _ _
    obtain ⟨p', hp, hl⟩ := hi
    rcases List.mem_cons.mp hp with rfl | hp
    · refine ⟨(p'.a, its.toArray), by simp, ?_⟩
      have := rv.length
      simp
      omega
    · obtain ⟨q, hq, e⟩ := ih ⟨p', hp, hl⟩
      exact ⟨q, List.mem_cons_of_mem _ hq, e⟩
theorem Rows2.itq {h : Heap} {ps : List PCol} {ls : List (Addr × Array Value)} (r : Rows2 h ps ls) {i : Nat} : ∀ N, TnN ps N i h → ∀ c, c ∈ colsOf N ls → ItQ h c.it c.l i c.xs := by
  induction r with
  | nil => intro N _ c hc; cases hc
  | @cons p its ps ls rv hs r2 ih =>
    intro N ht c hc
    obtain ⟨h1, h2⟩ := ht
    rcases List.mem_cons.mp hc with rfl | hc
    · by_cases hk : p.k = true
      · rw [if_pos hk] at hs h1
        exact .inl ⟨h1, hs⟩
      · rw [if_neg hk] at hs h1
        exact .inr ⟨h1, hs⟩
    · exact ih (N + 1) h2 c hc
theorem Rows2.tnn {h h' : Heap} {ps : List PCol} {ls : List (Addr × Array Value)} (r : Rows2 h ps ls) {i : Nat} : ∀ N, (∀ c, c ∈ colsOf N ls → ItQ h' c.it c.l i c.xs) → (∀ p, p ∈ ps → if p.k = true then ∃ xs, h'.IsList p.a xs else ∃ xs, h'.IsTuple p.a xs) → TnN ps N i h' := by
  induction r with
  | nil => intro N _ _; trivial
  | @cons p its ps ls rv hs r2 ih =>
    intro N hc hp
    refine ⟨?_, ih (N + 1) (fun c hc' => hc c (List.mem_cons_of_mem _ hc')) fun q hq => hp q (List.mem_cons_of_mem _ hq)⟩
    have h1 := hc ⟨N, p.a, its.toArray⟩ (by simp [colsOf])
    have h2 := hp p (by simp)
    by_cases hk : p.k = true
    · rw [if_pos hk] at h2 ⊢
      rcases h1 with ⟨q, _⟩ | ⟨q, q2⟩
      · exact q
      · obtain ⟨xs, o, e, e2, _⟩ := h2
        obtain ⟨o', e', e2', _⟩ := q2
        rw [e] at e'
        cases e'
        rw [e2] at e2'
        simp at e2'
    · rw [if_neg hk] at h2 ⊢
      rcases h1 with ⟨q, q2⟩ | ⟨q, _⟩
      · obtain ⟨xs, o, e, e2, _⟩ := h2
        obtain ⟨o', e', e2', _⟩ := q2
        rw [e] at e'
        cases e'
        rw [e2] at e2'
        simp at e2'
      · exact q
theorem TnN.at {h h' : Heap} {i : Nat} : ∀ (ps : List PCol) (N : Nat), TnN ps N i h → (∀ j, j < ps.length → ∀ o, h.get? (N + j) = some o → h'.get? (N + j) = some o) → TnN ps N i h'
  | [], _, _, _ => trivial
  | p :: r, N, t, k => by
    obtain ⟨h1, h2⟩ := t
    have k0 := k 0 (by simp)
    refine ⟨?_, TnN.at r (N + 1) h2 fun j hj o e => ?_⟩
    · by_cases hk : p.k = true
      · rw [if_pos hk] at h1 ⊢
        exact h1.at fun o e => k0 o e
      · rw [if_neg hk] at h1 ⊢
        exact h1.at fun o e => k0 o e
    · have := k (j + 1) (by simp; omega) o
      rw [show N + 1 + j = N + (j + 1) by omega] at e ⊢
      exact this e
theorem TnN.obj {h : Heap} {i : Nat} : ∀ (ps : List PCol) (N : Nat), TnN ps N i h → ∀ j, j < ps.length → ∃ o, h.get? (N + j) = some o ∧ ∀ v, o.data ≠ .cell v
  | [], _, _, j, hj => absurd hj (Nat.not_lt_zero _)
  | p :: r, N, t, j, hj => by
    obtain ⟨h1, h2⟩ := t
    cases j with
    | zero =>
      by_cases hk : p.k = true
      · rw [if_pos hk] at h1
        obtain ⟨o, e, _, d⟩ := h1
        exact ⟨o, e, fun v z => by rw [d] at z; cases z⟩
      · rw [if_neg hk] at h1
        obtain ⟨o, e, _, d⟩ := h1
        exact ⟨o, e, fun v z => by rw [d] at z; cases z⟩
    | succ j =>
      have := TnN.obj r (N + 1) h2 j (by simpa using hj)
      rw [show N + 1 + j = N + (j + 1) by omega] at this
      exact this
theorem refs_colsOf : ∀ (ls : List (Addr × Array Value)) (N : Nat), refsOf (colsOf N ls) = (List.range ls.length).map fun j => Value.ref (N + j)
  | [], _ => rfl
  | p :: r, N => by
    rw [colsOf, List.length_cons, List.range_succ_eq_map, List.map_cons, List.map_map]
    show Value.ref N :: refsOf (colsOf (N + 1) r) = _
    rw [refs_colsOf r (N + 1)]
    congr 1
    apply List.map_congr_left
    intro j _
    show Value.ref (N + 1 + j) = Value.ref (N + (j + 1))
    rw [show N + 1 + j = N + (j + 1) by omega]
theorem colsOf_its : ∀ (ls : List (Addr × Array Value)) (N : Nat), (colsOf N ls).map (·.it) = (List.range ls.length).map fun j => N + j
  | [], _ => rfl
  | p :: r, N => by
    rw [colsOf, List.length_cons, List.range_succ_eq_map, List.map_cons, List.map_cons, List.map_map, colsOf_its r (N + 1)]
    congr 1
    apply List.map_congr_left
    intro j _
    show N + 1 + j = N + (j + 1)
    omega
theorem Rows2.addr {h : Heap} {ps : List PCol} {ls : List (Addr × Array Value)} (r : Rows2 h ps ls) : ∀ q, q ∈ ls → ∃ p, p ∈ ps ∧ q.1 = p.a := by
  induction r with
  | nil => intro q hq; cases hq
  | @cons p its ps ls rv hs r2 ih =>
    intro q hq
    rcases List.mem_cons.mp hq with rfl | hq
    · exact ⟨p, by simp, rfl⟩
    · obtain ⟨p', h1, h2⟩ := ih q hq
      exact ⟨p', List.mem_cons_of_mem _ h1, h2⟩
theorem Rows2.seqs {h h' : Heap} {ps : List PCol} {ls : List (Addr × Array Value)} (r : Rows2 h ps ls) (k : ∀ p, p ∈ ps → ∀ o, h.get? p.a = some o → h'.get? p.a = some o) : ∀ p, p ∈ ps → if p.k = true then ∃ xs, h'.IsList p.a xs else ∃ xs, h'.IsTuple p.a xs := by
  induction r with
  | nil => intro q hq; cases hq
  | @cons p its ps ls rv hs r2 ih =>
    intro q hq
    rcases List.mem_cons.mp hq with rfl | hq
    · by_cases hk : q.k = true
      · rw [if_pos hk] at hs ⊢
        exact ⟨_, hs.at fun o e => k q (by simp) o e⟩
      · rw [if_neg hk] at hs ⊢
        exact ⟨_, hs.at fun o e => k q (by simp) o e⟩
    · exact ih (fun p hp => k p (List.mem_cons_of_mem _ hp)) q hq
abbrev fpN (N n : Nat) : List Nat := [N + n + 2, N + n, N + n + 1] ++ (List.range n).map fun j => N + j
theorem fpN_lt {N n c : Nat} (h : c ∈ fpN N n) : N ≤ c ∧ c < N + n + 3 := by
  rcases List.mem_append.mp h with h | h
  · simp only [List.mem_cons, List.not_mem_nil, or_false] at h
    rcases h with rfl | rfl | rfl <;> omega
  · obtain ⟨j, hj, rfl⟩ := List.mem_map.mp h
    have := List.mem_range.mp hj
    omega
theorem turn_zipN {P : Program} {w : World} {K : PySem.W.Frag} {tg : Expr} {ps : List PCol} {N : Nat} (hne : ps ≠ []) (hlen : ps.length ≤ 100000) (hN : ∀ p, p ∈ ps → p.a < N) :
    Turn P w K tg (ItN K ps) (fpN N ps.length) (N + ps.length + 2) (TnZ (N + ps.length + 2) (N + ps.length) (N + ps.length + 1) ps N) where
  mem := by simp
  obj := fun i h st c hc => by
    obtain ⟨⟨f0, b, _, e1⟩, ⟨vs, _, e2⟩, ⟨vs', _, e3⟩, t⟩ := st
    rcases List.mem_append.mp hc with hc | hc
    · simp only [List.mem_cons, List.not_mem_nil, or_false] at hc
      rcases hc with rfl | rfl | rfl
      · exact ⟨_, e1, fun v z => nomatch z⟩
      · exact ⟨_, e2, fun v z => nomatch z⟩
      · exact ⟨_, e3, fun v z => nomatch z⟩
    · obtain ⟨j, hj, rfl⟩ := List.mem_map.mp hc
      exact TnN.obj ps N t j (List.mem_range.mp hj)
  keep := fun i h h' st k => by
    obtain ⟨⟨f0, b, h0, e1⟩, ⟨vs, h2, e2⟩, ⟨vs', h3, e3⟩, t⟩ := st
    refine ⟨⟨f0, b, h0, k _ (by simp) _ e1⟩, ⟨vs, h2, k _ (by simp) _ e2⟩, ⟨vs', h3, k _ (by simp) _ e3⟩, t.at ps N fun j hj o e => k _ ?_ o e⟩
    exact List.mem_append_right _ (List.mem_map.mpr ⟨j, List.mem_range.mpr hj, rfl⟩)
  item := by
    intro X hP hw hK hc i pins s σ H E I hf st hg
    subst hP hw hK
    obtain ⟨ls, r2, hb⟩ := rows2_of I ps fun p hp => (hg p hp).1
    have hl := r2.len
    have zlt : N + ps.length + 2 < s.heap.objs.size := by
      obtain ⟨⟨f0, b, _, e1⟩, _, _, _⟩ := st
      exact Heap.lt_size e1
    have zn : ZN s.heap (N + ps.length + 2) (N + ps.length) (N + ps.length + 1) (colsOf N ls) i := by
      obtain ⟨zr, ⟨vs, h2, e2⟩, ⟨vs', h3, e3⟩, t⟩ := st
      refine ⟨zr, ?_, ⟨vs', by rw [h3, colsOf_len]; exact hl, e3⟩, r2.itq N t⟩
      have : vs = (refsOf (colsOf N ls)).toArray := by
        rw [refs_colsOf, ← hl, ← h2]
      rw [← this]
      exact e2
    have D : ApN (N + ps.length + 2) (N + ps.length) (N + ps.length + 1) (colsOf N ls) := by
      rw [hl]
      refine colsOf_apart fun q hq => ?_
      obtain ⟨p, hp, e⟩ := r2.addr q hq
      rw [e]
      exact hN p hp
    have hcl := colsOf_len N ls
    have out : ∀ c, c ∉ fpN N ps.length → c ≠ N + ps.length + 2 ∧ c ≠ N + ps.length + 1 ∧ c ∉ (colsOf N ls).map (·.it) := fun c hcn => ⟨fun e => hcn (by rw [e]; simp), fun e => hcn (by rw [e]; simp), fun hm => hcn (by
      rw [colsOf_its, ← hl] at hm
      exact List.mem_append_right _ hm)⟩
    refine pyNext_zN_item D zn (fun e => hne ?_) (by rw [hcl, ← hl, sizeLine_eq]; omega) (fun c hc' => r2.hasI (fun p hp => (hg p hp).2) _ (colsOf_mem N ls c hc').2.2) fun h1 st1 new kp => ⟨_, rfl, ?_⟩
    · have := congrArg List.length e
      rw [hcl, ← hl] at this
      exact List.length_eq_zero_iff.mp this
    obtain ⟨f1, b1, g1, e1⟩ := st1.z
    refine letGo_any (s := { s with heap := h1 }) g1 e1 fun f2 h2 g2 z2 sb => ?_
    have hT2 : h2.get? s.heap.objs.size = some { cls := .type "tuple", data := .seq (itemsAt (colsOf N ls) i).toArray } := (sb.2 _ (Nat.ne_of_gt zlt)).trans new
    have hv := r2.vals (fun p hp => (hg p hp).2) N
    have nob : ObjOk X.prog X.w (upd H s.heap.objs.size (.tup (rowV ps i))) h2 s.heap.objs.size (.tup (rowV ps i)) := ⟨by simp [rowV]; rw [sizeLine_eq]; omega, itemsAt (colsOf N ls) i, hv, ⟨_, hT2, rfl, _, rfl⟩⟩
    have I1 : Inv X pins σ (upd H s.heap.objs.size (.tup (rowV ps i))) { s with heap := h2 } := I.turnedNew (t' := s.toks) (ch := fpN N ps.length) (fun c o hb q => (sb.2 c (out c hb).1).trans (kp c o (out c hb).1 (out c hb).2.1 (out c hb).2.2 q)) hf (Nat.le_refl _) nob
    have pa : ∀ p, p ∈ ps → ∀ o, s.heap.get? p.a = some o → h2.get? p.a = some o := fun p hp o q => by
      have hpn : p.a ∉ fpN N ps.length := fun z => by
        exact absurd (Nat.lt_of_lt_of_le (hN p hp) (fpN_lt z).1) (Nat.lt_irrefl _)
      exact (sb.2 _ (out _ hpn).1).trans (kp _ o (out _ hpn).1 (out _ hpn).2.1 (out _ hpn).2.2 q)
    have aN : ∀ (j k : Nat), j ≠ k → N + ps.length + j ≠ N + ps.length + k := fun j k h => nn_add _ h
    refine ⟨.ref s.heap.objs.size, _, I1, rfl, ⟨_, rfl, I.hok.fresh (Nat.le_refl _), rfl⟩, ⟨⟨f2, b1, g2, z2⟩, ⟨(refsOf (colsOf N ls)).toArray, by rw [refs_colsOf, hl], (sb.2 _ (aN 0 2 (by decide))).trans st1.ti⟩, ?_, r2.tnn N (fun c hc' => (st1.at_ c hc').at (fun o e => (sb.2 _ (D.iz c hc').1).trans e) fun o e => (sb.2 _ (D.lz c hc').1).trans e) (r2.seqs pa)⟩, fun c hcm => ?_⟩
    · obtain ⟨vs, q1, q2⟩ := st1.to
      exact ⟨vs, by rw [q1, hcl, hl], (sb.2 _ (aN 1 2 (by decide))).trans q2⟩
    · have hlt : c < s.heap.objs.size := Nat.lt_of_lt_of_le (fpN_lt hcm).2 zlt
      rw [upd_ne (Nat.ne_of_lt hlt)]
      exact (hf c hcm).1
  done := by
    intro X hP hw hK hc i pins s σ H E I hf st hg
    subst hP hw hK
    obtain ⟨hsq, hend⟩ := hg
    obtain ⟨ls, r2, hb⟩ := rows2_of I ps hsq
    have hl := r2.len
    have zn : ZN s.heap (N + ps.length + 2) (N + ps.length) (N + ps.length + 1) (colsOf N ls) i := by
      obtain ⟨zr, ⟨vs, h2, e2⟩, ⟨vs', h3, e3⟩, t⟩ := st
      refine ⟨zr, ?_, ⟨vs', by rw [h3, colsOf_len]; exact hl, e3⟩, r2.itq N t⟩
      have : vs = (refsOf (colsOf N ls)).toArray := by
        rw [refs_colsOf, ← hl, ← h2]
      rw [← this]
      exact e2
    have D : ApN (N + ps.length + 2) (N + ps.length) (N + ps.length + 1) (colsOf N ls) := by
      rw [hl]
      refine colsOf_apart fun q hq => ?_
      obtain ⟨p, hp, e⟩ := r2.addr q hq
      rw [e]
      exact hN p hp
    have hcl := colsOf_len N ls
    have out : ∀ c, c ∉ fpN N ps.length → c ≠ N + ps.length + 2 ∧ c ≠ N + ps.length + 1 ∧ c ∉ (colsOf N ls).map (·.it) := fun c hcn => ⟨fun e => hcn (by rw [e]; simp), fun e => hcn (by rw [e]; simp), fun hm => hcn (by
      rw [colsOf_its, ← hl] at hm
      exact List.mem_append_right _ hm)⟩
    obtain ⟨q, hq, eq⟩ := r2.ends hend
    have col_of : ∀ (ls : List (Addr × Array Value)) (N : Nat) (q : Addr × Array Value), q ∈ ls → ∃ c, c ∈ colsOf N ls ∧ c.xs = q.2 := by
      intro ls
      induction ls with
      | nil => intro N q hq; cases hq
      | cons p r ih =>
        intro N q hq
        rcases List.mem_cons.mp hq with rfl | hq
        · exact ⟨_, List.mem_cons_self, rfl⟩
        · obtain ⟨c, h1, h2⟩ := ih (N + 1) q hq
          exact ⟨c, List.mem_cons_of_mem _ h1, h2⟩
    obtain ⟨c, hc1, hc2⟩ := col_of ls N q hq
    refine pyNext_zN_end (I.ok.hd hc) D zn (by rw [hcl, ← hl, sizeLine_eq]; omega) ⟨c, hc1, by rw [hc2]; exact eq⟩ fun h' kp => ⟨rfl, I.turnedL (t' := s.toks) (ch := fpN N ps.length) (fun c o hb q => kp c o (out c hb).1 (out c hb).2.1 (out c hb).2.2 q) hf⟩
  self := fun A i s Q E st h => by
    obtain ⟨⟨f0, b, _, e1⟩, _, _, _⟩ := st
    have ty : s.TypeIs (.ref (N + ps.length + 2)) "zip" := ⟨_, e1, rfl⟩
    refine wpAny_pyIter_slot ty F.slot_zip_iter (wpAny_call_entry F.slot_zip_iter ty F.entry_zip_iter ?_ (F.args_zip_iter_1 _))
    show wpAny _ _ (ret (.ref (N + ps.length + 2))) _ _ s
    exact wpAny_pure ⟨_, rfl, "zip", _, ty, F.slot_zip_next.lookup, h⟩
end
end
end DL
namespace DL
open PySem PySem.Spec PyProof.Rows L2
section
variable {X : Cx} {tg a b : Expr} {es : List Expr} {ta : TA}
def ZCols (K : PySem.W.Frag) (R : It → Hp → Prop) (vs : List V) (H : Hp) : Prop := ∃ ps : List PCol, ps ≠ [] ∧ ps.length ≤ 100000 ∧ vs = ps.map (fun p => V.ref p.a) ∧ (∀ p, p ∈ ps → SqK K H p) ∧ R (ItN K ps) H
theorem Rows2.refs {h : Heap} {ps : List PCol} {ls : List (Addr × Array Value)} (r : Rows2 h ps ls) : ∀ {us : List Value}, Vals (ps.map fun p => V.ref p.a) us → us = ls.map fun q => Value.ref q.1 := by
  induction r with
  | nil => intro us v; cases v; rfl
  | @cons p its ps ls rv hs r2 ih =>
    intro us v
    cases v with
    | cons v1 v2 =>
      cases v1
      rw [ih v2]
      rfl
theorem pie_zipN {pins : List (Addr × Obj)} {σ : L2.St} {H1 : Hp} {s1 : Shared} {us : List Value} {vs : List V} {R : It → Hp → Prop} (I1 : Inv X pins σ H1 s1) (r : Vals vs us) (q : ZCols X.K R vs H1) :
    wpAny (model X.prog X.w) X.A (call (.type "zip") us) (fun v s2 => wpAny (model X.prog X.w) X.A (pyIter v) (PIE X pins σ tg R) X.xe s2) X.xe s1 := by
  obtain ⟨ps, hne, hlen, rfl, hsq, q⟩ := q
  obtain ⟨ls, r2, hb⟩ := rows2_of I1 ps hsq
  have hl := r2.len
  have hu := r2.refs r
  subst hu
  have hN : ∀ p, p ∈ ps → p.a < s1.heap.objs.size := fun p hp => by
    have hp2 := hsq p hp
    unfold SqK at hp2
    by_cases hk : p.k = true
    · rw [if_pos hk] at hp2
      obtain ⟨its, _, g, _⟩ := I1.list hp2
      exact g.lt
    · rw [if_neg hk] at hp2
      obtain ⟨its, _, ⟨o, e, _⟩, _⟩ := I1.tuple hp2
      exact Heap.lt_size e
  have hs : ∀ q, q ∈ ls → SeqV s1.heap q := by
    clear hb hsq hN r hne hlen q hl
    induction r2 with
    | nil => intro q hq; cases hq
    | @cons p its ps ls rv hs r2 ih =>
      intro q hq
      rcases List.mem_cons.mp hq with rfl | hq
      · by_cases hk : p.k = true
        · rw [if_pos hk] at hs
          exact .inl hs
        · rw [if_neg hk] at hs
          exact .inr hs
      · exact ih q hq
  refine call_zipN (by rw [← hl]; exact hlen) hs fun h' st hz kp => ?_
  have I2 : Inv X pins σ H1 { s1 with heap := h' } := I1.kept (t' := s1.toks) kp
  rw [← hl] at st ⊢
  have T := turn_zipN (P := X.prog) (w := X.w) (K := X.K) (tg := tg) hne hlen hN
  have tz : TnZ (s1.heap.objs.size + ps.length + 2) (s1.heap.objs.size + ps.length) (s1.heap.objs.size + ps.length + 1) ps s1.heap.objs.size 0 h' := by
    obtain ⟨vs, q1, q2⟩ := st.to
    exact ⟨st.z, ⟨_, by rw [refs_colsOf, hl], st.ti⟩, ⟨vs, by rw [q1, colsOf_len, hl], q2⟩, r2.tnn _ st.at_ (r2.seqs fun p _ o e => kp _ o e)⟩
  refine T.self X.A 0 _ _ _ tz ⟨_, _, _, _, H1, rfl, I2, T, tz, fun c hc => ?_, q⟩
  have hle := (fpN_lt hc).1
  exact I1.fpOk hle (I1.hok.fresh hle)
/-- zip(x, ..) -/
theorem pi_zipN {p pos : Pos} (hg : Gl X "zip") (hm : X.mg "zip" = none) (ha : PA X (a :: es) ta) (hs : starEach (a :: es) X.env = (false, eval a X.env) :: starEach es X.env := by rfl) (hpl : (backTo pos (starEach es X.env)).any (·.1) = false := by rfl) :
    PI X tg (.Call (.Name "zip" p) (a :: es) [] pos) (fun σ H R => ta σ H fun vs H1 => ZCols X.K R vs H1) :=
  ⟨fun pins s σ H R I h => Call_ (ld_blt I hg hm PyProof.Rows.boot_zip (PyProof.Rows.callWith_type1 (thn (ha.run pos pins s σ H _ I h) fun us s1 ⟨vs, H1, I1, r1, q1⟩ => pie_zipN I1 r1 q1) hs hpl))⟩
theorem keeps_type {M : Model} {T : String} : ∀ h : Heap, True → ∃ k, (k = Keeper.frame ∨ k = Keeper.machine ∨ k = Keeper.boundFrame) ∧ PySem.W.Looks M h (keeperOf (.type T)) k := fun h _ => ⟨.machine, .inr (.inl rfl), fun A Q E s _ q => wpAny_pure q⟩
theorem evalArgs_two {M : Model} {A : Around} {E : Value → Shared → Prop} {s : Shared} {f : Value} {x y : Sem Value} {rest : List (Bool × Sem Value)} {Q : Args → Shared → Prop}
    (h : wpAny M A (spliced ((true, x) :: (false, y) :: rest)) (fun vs s' => Q ⟨vs, []⟩ s') E s) : wpAny M A (evalArgs f true ((true, x) :: (false, y) :: rest) []) Q E s := by
  unfold evalArgs
  show wpAny M A (spliced ((true, x) :: (false, y) :: rest) >>= _) Q E s
  refine wpAny_bind (wpAny_mono h (fun vs s' q => ?_) fun _ _ z => z)
  exact wpAny_holding (wpAny_pure q)
/-- zip(*x) -/
theorem pi_zipS {te : TE} {p pos sp : Pos} (hg : Gl X "zip") (hm : X.mg "zip" = none) (ha : PE X a te) (hst : starEach [.Starred a sp] X.env = [(true, eval a X.env)] := by rfl) :
    PI X tg (.Call (.Name "zip" p) [.Starred a sp] [] pos) (fun σ H R => te σ H fun y H1 => ∃ l xs, y = V.ref l ∧ (SqT X.K H1 l xs ∨ SqL X.K H1 l xs) ∧ ZCols X.K R xs H1) :=
  ⟨fun pins s σ H R I h => Call_ (ld_blt I hg hm PyProof.Rows.boot_zip (by
    rw [hst]
    refine PySem.W.ks_call (P := fun _ => True) rfl keeps_type (PySem.W.ks_lone (thn (ha.run pins s σ H _ I h) fun v s1 ⟨y, H1, I1, ry, l, xs, ey, hx, q⟩ => ?_))
    subst ey
    obtain rfl : v = Value.ref l := ry
    exact StX.star_any I1 hx fun us s2 I2 rv => ⟨trivial, pie_zipN I2 rv q⟩))⟩
/-- zip(*x, y) -/
theorem pi_zipS2 {p pos sp : Pos} (hg : Gl X "zip") (hm : X.mg "zip" = none) (ha : PA X (.Starred a sp :: b :: es) ta) (hst : starEach (.Starred a sp :: b :: es) X.env = (true, eval a X.env) :: (false, eval b X.env) :: starEach es X.env := by rfl) :
    PI X tg (.Call (.Name "zip" p) (.Starred a sp :: b :: es) [] pos) (fun σ H R => ta σ H fun vs H1 => ZCols X.K R vs H1) :=
  ⟨fun pins s σ H R I h => Call_ (ld_blt I hg hm PyProof.Rows.boot_zip (by
    have z := thn (ha.run pos pins s σ H _ I h) fun us s1 ⟨vs, H1, I1, r1, q1⟩ => pie_zipN (tg := tg) (R := R) I1 r1 q1
    rw [hst] at z ⊢
    exact PySem.W.ks_call (P := fun _ => True) rfl keeps_type (evalArgs_two (thn z fun us s1 q => ⟨trivial, q⟩))))⟩
end
/-! ### the same over data -/
def zcol : D → Option (List D)
  | .list xs => some xs
  | .tuple xs => some xs
  | _ => none
def zcols : List D → Option (List (List D))
  | [] => some []
  | d :: ds => (zcol d).bind fun c => (zcols ds).map (c :: ·)
def minL : List (List D) → Nat
  | [] => 0
  | [c] => c.length
  | c :: r => min c.length (minL r)
def zipRows (cols : List (List D)) : List D := (List.range (minL cols)).map fun i => .tuple (cols.map fun c => c.getD i .none)
section
variable {K : PySem.W.Frag} {c : Cfg}
/-- columns of the layer and of the data -/
inductive ZRel (K : PySem.W.Frag) (c : Cfg) : List PCol → List (List D) → Prop
  | nil : ZRel K c [] []
  | cons {p : PCol} {xs : List D} {ps : List PCol} {cols : List (List D)} : (∀ c1, Keep c c1 → SqK K c1.H p) → RepA K c p.vs xs → ZRel K c ps cols → ZRel K c (p :: ps) (xs :: cols)
theorem zrel_of : ∀ {vs : List V} {ds : List D} {cols : List (List D)}, RepA K c vs ds → zcols ds = some cols → ∃ ps : List PCol, vs = ps.map (fun p => V.ref p.a) ∧ ZRel K c ps cols
  | _, _, _, .nil, h => by cases h; exact ⟨[], rfl, .nil⟩
  | _, _, cols, .cons (d := d) r t, h => by
    simp only [zcols, Option.bind_eq_some_iff, Option.map_eq_some_iff] at h
    obtain ⟨c1, h1, cs, h2, rfl⟩ := h
    obtain ⟨ps, rfl, z⟩ := zrel_of t h2
    cases d <;> try cases h1
    case list xs =>
      cases r with
      | lst q1 n1 w1 => exact ⟨⟨true, _, _⟩ :: ps, rfl, .cons (fun c1 k => .inl (.inl (k.keep _ _ q1 n1).1)) w1 z⟩
    case tuple xs =>
      obtain ⟨a, vs, rfl, k1, w1⟩ := sqT_stays r
      exact ⟨⟨false, a, vs⟩ :: ps, rfl, .cons (fun c1 k => k1 c1 k) w1 z⟩
theorem ZRel.len {ps : List PCol} {cols : List (List D)} (z : ZRel K c ps cols) : ps.length = cols.length := by
  induction z with
  | nil => rfl
  | cons _ _ _ ih => simp [ih]
theorem ZRel.sq {ps : List PCol} {cols : List (List D)} (z : ZRel K c ps cols) {c1 : Cfg} (k : Keep c c1) : ∀ p, p ∈ ps → SqK K c1.H p := by
  induction z with
  | nil => intro p hp; cases hp
  | cons h _ _ ih =>
    intro p hp
    rcases List.mem_cons.mp hp with rfl | hp
    · exact h c1 k
    · exact ih p hp
theorem ZRel.min {ps : List PCol} {cols : List (List D)} (z : ZRel K c ps cols) : (∀ i, i < minL cols → ∀ p, p ∈ ps → i < p.vs.length) ∧ (ps ≠ [] → ∃ p, p ∈ ps ∧ p.vs.length ≤ minL cols) := by
  induction z with
  | nil => exact ⟨fun i hi => absurd hi (Nat.not_lt_zero _), fun h => absurd rfl h⟩
  | @cons p xs ps cols h r z ih =>
    have hl := r.length
    cases z with
    | nil =>
      refine ⟨fun i hi q hq => ?_, fun _ => ⟨p, by simp, ?_⟩⟩
      · rw [List.mem_singleton.mp hq, hl]
        exact hi
      · rw [hl]
        exact Nat.le_refl _
    | @cons p2 xs2 ps cols h2 r2 z =>
      have e : minL (xs :: xs2 :: cols) = Nat.min xs.length (minL (xs2 :: cols)) := rfl
      rw [e]
      refine ⟨fun i hi q hq => ?_, fun _ => ?_⟩
      · rcases List.mem_cons.mp hq with rfl | hq
        · rw [hl]
          exact Nat.lt_of_lt_of_le hi (Nat.min_le_left _ _)
        · exact ih.1 i (Nat.lt_of_lt_of_le hi (Nat.min_le_right _ _)) q hq
      · obtain ⟨q, hq, hl2⟩ := ih.2 (by simp)
        by_cases hc : xs.length ≤ minL (xs2 :: cols)
        · exact ⟨p, by simp, by rw [hl]; exact Nat.le_min.mpr ⟨Nat.le_refl _, hc⟩⟩
        · exact ⟨q, List.mem_cons_of_mem _ hq, Nat.le_min.mpr ⟨by omega, hl2⟩⟩
theorem ZRel.row {ps : List PCol} {cols : List (List D)} (z : ZRel K c ps cols) {c1 : Cfg} (k : Keep c c1) {i : Nat} (hi : ∀ p, p ∈ ps → i < p.vs.length) : RepA K c1 (rowV ps i) (cols.map fun xs => xs.getD i .none) := by
  induction z with
  | nil => exact .nil
  | @cons p xs ps cols h r z ih =>
    have hp := hi p (by simp)
    have hx : i < xs.length := by rw [← r.length]; exact hp
    obtain ⟨v, h1, h2⟩ := (RepA.ext k r).get (List.getElem?_eq_getElem hx)
    refine .cons ?_ (ih fun q hq => hi q (List.mem_cons_of_mem _ hq))
    have e1 : p.vs.getD i .non = v := by simp [List.getD_eq_getElem?_getD, h1]
    have e2 : xs.getD i .none = xs[i] := by simp [List.getD_eq_getElem?_getD, List.getElem?_eq_getElem hx]
    show Rep K c1 (p.vs.getD i .non) (xs.getD i .none)
    rw [e1, e2]
    exact h2
theorem it_zipN {ps : List PCol} {cols : List (List D)} (z : ZRel K c ps cols) (hne : ps ≠ []) : ItOk K c (ItN K ps) (zipRows cols) := by
  obtain ⟨m1, m2⟩ := z.min
  have hlen : (zipRows cols).length = minL cols := by simp [zipRows]
  refine ⟨fun H => ∀ p, p ∈ ps → SqK K H p, fun i H v H' => ∃ T, v = .ref T ∧ H T = none ∧ H' = upd H T (.tup (rowV ps i)), ⟨fun i H hi q => ?_, fun H q => ?_, fun i H v H' hi q y => y⟩, fun c1 k o => z.sq k, fun i x H2 c1 hlt k o y => ?_⟩
  · rw [hlen] at hi
    exact fun p hp => ⟨q p hp, m1 i hi p hp⟩
  · rw [hlen]
    exact ⟨q, m2 hne⟩
  · rw [hlen] at hlt
    obtain ⟨T, rfl, hT, rfl⟩ := y
    refine ⟨.tuple (cols.map fun xs => xs.getD i .none), by simp [zipRows, List.getElem?_map, List.getElem?_range hlt], ext_new o hT, ok_new o hT, rep_newT o hT (z.row k (m1 i hlt))⟩
end
/-- zip(x, y, ..) of lists and tuples -/
def itZipN (us : List U) (S : Sto) : Rs (List D) := (toDs us S).bind fun ds S1 => match zcols ds with
  | some (c :: cs) => if cs.length < 100000 then .ok (zipRows (c :: cs)) S1 else .bad
  | _ => .bad
/-- zip(*x) -/
def itZipS (u : U) (S : Sto) : Rs (List D) := (toD u S).bind fun d S1 => match zcol d with
  | some ds => (match zcols ds with
    | some (c :: cs) => if cs.length < 100000 then .ok (zipRows (c :: cs)) S1 else .bad
    | _ => .bad)
  | none => .bad
def dItZS (f : DE) : DI := fun ρ S => (f ρ S).bind itZipS
section
variable {X : Cx} {E : EXW} {a b tg : Expr} {es : List Expr} {t : DA} {f : DE} {p pos sp : Pos}
theorem id_zipN (hg : Gl X "zip") (hm : X.mg "zip" = none) (ha : PA X (a :: es) (tA X.K E t)) (hs : starEach (a :: es) X.env = (false, eval a X.env) :: starEach es X.env := by rfl) (hpl : (backTo pos (starEach es X.env)).any (·.1) = false := by rfl) :
    PI X tg (.Call (.Name "zip" p) (a :: es) [] pos) (tI X.K E (dItA itZipN t)) := (pi_zipN hg hm ha hs hpl).dimp fun σ H R ⟨hd, ι, S, ρ, at_, h⟩ => by
  have h : PostG (fun c J ds => ItOk X.K c J ds) X.K E ⟨hd, ι, S, H⟩ R ((t ρ S).bind itZipN) := h
  refine tA_stepG (c := ⟨hd, ι, S, H⟩) (Q := fun vs H1 => ZCols X.K R vs H1) at_ h fun us vs c1 e1 a1 r1 h1 => ?_
  obtain ⟨ds, S2, e2, o2, r2, h2⟩ := toDs_step a1.ok r1 h1
  split at h2
  · rename_i c cs hz
    split at h2
    · rename_i hl
      obtain ⟨ps, rfl, z⟩ := zrel_of r2 hz
      have hlen := z.len
      have hne : ps ≠ [] := by rintro rfl; simp at hlen
      exact ⟨ps, hne, by rw [hlen]; simp; omega, rfl, fun p hp => z.sq (Keep.refl _) p hp, h2 _ c1.ι c1.H (Ext.refl _) o2 (it_zipN z hne)⟩
    · exact h2.elim
  · exact h2.elim
theorem id_zipS (hg : Gl X "zip") (hm : X.mg "zip" = none) (ha : PE X a (tD X.K E f)) (hst : starEach [.Starred a sp] X.env = [(true, eval a X.env)] := by rfl) :
    PI X tg (.Call (.Name "zip" p) [.Starred a sp] [] pos) (tI X.K E (dItZS f)) := (pi_zipS hg hm ha hst).dimp fun σ H R ⟨hd, ι, S, ρ, at_, h⟩ => by
  have h : PostG (fun c J ds => ItOk X.K c J ds) X.K E ⟨hd, ι, S, H⟩ R ((f ρ S).bind itZipS) := h
  refine tD_stepG (c := ⟨hd, ι, S, H⟩) at_ h fun u v c1 e1 a1 r1 h1 => ?_
  obtain ⟨d, S2, e2, o2, r2, h2⟩ := toD_step a1.ok r1 h1
  split at h2
  · rename_i ds hz0
    split at h2
    · rename_i c cs hz
      split at h2
      · rename_i hl
        have go : ∀ (l : Addr) (xs : List V), v = .ref l → (SqT X.K c1.H l xs ∨ SqL X.K c1.H l xs) → RepA X.K ⟨c1.hd, c1.ι, S2, c1.H⟩ xs ds → ∃ l xs, v = V.ref l ∧ (SqT X.K c1.H l xs ∨ SqL X.K c1.H l xs) ∧ ZCols X.K R xs c1.H := by
          intro l xs ev hq ra
          obtain ⟨ps, rfl, z⟩ := zrel_of ra hz
          have hlen := z.len
          have hne : ps ≠ [] := by rintro rfl; simp at hlen
          exact ⟨l, _, ev, hq, ps, hne, by rw [hlen]; simp; omega, rfl, fun p hp => z.sq (Keep.refl _) p hp, h2 _ c1.ι c1.H (Ext.refl _) o2 (it_zipN z hne)⟩
        cases d with
        | list xs =>
          cases hz0
          cases r2 with
          | lst q1 n1 w1 => exact go _ _ rfl (.inr (.inl (.inl q1))) w1
        | tuple xs =>
          cases hz0
          obtain ⟨l, vs, rfl, k1, w1⟩ := sqT_stays r2
          exact go _ _ rfl (.inl (k1 ⟨c1.hd, c1.ι, S2, c1.H⟩ (Keep.refl _))) w1
        | _ => cases hz0
      · exact h2.elim
    · exact h2.elim
  · exact h2.elim
end
end DL
namespace DL
open PySem PySem.Spec PyProof.Rows L2
/-! ### xs.index(e) of a list -/
def indexL (xs : List D) (w : U) (S : Sto) : Rs U := match w with
  | .d d => if SeqAt.shaped (.list xs) = true ∧ SeqAt.shaped d = true then (match xs.findIdx? (fun z => PyData.eqv z d) with
    | some j => .ok (.d (.int (j : Nat))) S
    | none => .bad) else .bad
  | _ => .bad
def dIndex (f g : DE) : DE := fun ρ S => (f ρ S).bind fun u S1 => match u with
  | .d (.list xs) => (g ρ S1).bind fun w S2 => indexL xs w S2
  | _ => .bad
theorem pd_index {X : Cx} {E : EXW} {o e : Expr} {f g : DE} {pos apos : Pos} (hu : X.A.units + 65 < cLine) (ho : PE X o (tD X.K E f)) (he : PE X e (tD X.K E g)) (hbase : attributeBase o "index" X.env (eval o X.env) = eval o X.env := by rfl)
    (hfew : ((backTo pos (starEach [e] X.env)).all (fun x => !x.1) && (backToKw pos (keywordEach [] X.env)).all (fun x => x.1.isSome)
      && decide ([e].length + ([] : List Keyword).length + (if ([] : List Keyword).isEmpty then 0 else 1) < 30)) = true := by rfl)
    (hline : (apos.endLine == pos.line) = true := by rfl) (hs : starEach [e] X.env = (false, eval e X.env) :: starEach [] X.env := by rfl) (hplain : (backTo pos (starEach [] X.env)).any (·.1) = false := by rfl) :
    PE X (.Call (.Attribute o "index" apos) [e] [] pos) (tD X.K E (dIndex f g)) :=
  (pe_bm (r := rIndexD X.K) PySem.F.plainAttrs_list PySem.F.slot_list_index PySem.F.type_list_index (mt_indexD hu) ho (pa_cons he pa_nil hs) hbase hfew hline hs hplain).dimp fun σ H Q ⟨hd, ι, S, ρ, at_, h⟩ => by
    refine tD_stepG (c := ⟨hd, ι, S, H⟩) at_ h fun u v c1 e1 a1 r1 h1 => ?_
    cases u with
    | s ns => exact h1.elim
    | r n => exact h1.elim
    | d x =>
      cases x with
      | list xs =>
        have r0 : Rep X.K c1 v (.list xs) := r1
        cases r0 with
        | lst q1 n1 w1 =>
          refine ⟨.inl ⟨rfl, _, .inl (.inl q1)⟩, tD_stepG (c := c1) a1 h1 fun w y c2 e2 a2 r2 h2 => ?_⟩
          have rx : RepU X.K c2 (.ref _) (.d (.list xs)) := RepU.ext e2 r1
          unfold indexL at h2
          split at h2
          · rename_i d
            split at h2
            · rename_i hsh
              split at h2
              · rename_i j hj
                rw [List.findIdx?_eq_some_iff_getElem] at hj
                obtain ⟨hlt, h3, h4⟩ := hj
                refine ⟨_, _, d, xs, j, xs[j], rfl, rfl, Rep.dp rx (shaped_lay hsh.1), Rep.dp r2 (shaped_lay hsh.2), hsh.1, hsh.2, List.getElem?_eq_getElem hlt, h3, fun m z' hm hz => ?_, Post.val h2 a2.ok (.int _)⟩
                obtain ⟨hm2, rfl⟩ := List.getElem?_eq_some_iff.mp hz
                have := h4 m hm
                simpa using this
              · exact h2.elim
            · exact h2.elim
          · exact h2.elim
      | _ => exact h1.elim
end DL
namespace DL
open PySem PySem.Spec PyProof.Rows L2
/-! ### a comprehension, a for over a list that is a cell: it stays one -/
theorem walkL {K : PySem.W.Frag} {a : Addr} {n : Nat} : Walk (Itl K a) n (fun H => ∃ vs, SqL K H a vs ∧ vs.length = n) (fun i H x H' => H' = H ∧ ∀ vs, SqL K H a vs → vs[i]? = some x) :=
  ⟨fun i _ hi ⟨xs, q, e⟩ => ⟨xs, xs[i]'(by omega), q, by simp [show i < xs.length by omega]⟩, fun _ ⟨xs, q, e⟩ => ⟨xs, q, by omega⟩, fun _ _ _ _ _ _ y => y⟩
/-- n the cell, n0 how many it has, k how many are still to come -/
def compLC (n n0 : Nat) (tg : Tg) (own : List Nat) (tst : DT) (el : DE) (ρ : Rho) : Nat → Sto → Rs (List D)
  | 0, S => (match S[n]? with
    | some (.lst xs) => if xs.length = n0 then .ok [] S else .bad
    | _ => .bad)
  | k + 1, S => (match S[n]? with
    | some (.lst xs) => if xs.length = n0 then (match xs[n0 - (k + 1)]? with
      | some d => (match tg d (wipeR ρ own) with
        | none => .bad
        | some ρ1 => (tst ρ1 S).bind fun b S1 => if b = true then (el ρ1 S1).bind fun u S2 => (toD u S2).bind fun y S3 => (compLC n n0 tg own tst el ρ k S3).bind fun ys S4 => .ok (y :: ys) S4 else compLC n n0 tg own tst el ρ k S1)
      | none => .bad) else .bad
    | _ => .bad)
/-- what compLC asks of the cell -/
def cellN (n n0 : Nat) (S : Sto) : Prop := ∃ xs, S[n]? = some (.lst xs) ∧ xs.length = n0
theorem compLC_cell {n n0 : Nat} {tg : Tg} {own : List Nat} {tst : DT} {el : DE} {ρ : Rho} {k : Nat} {S : Sto} (h : compLC n n0 tg own tst el ρ k S ≠ .bad) : cellN n n0 S := by
  cases k with
  | zero =>
    unfold compLC at h
    split at h
    · rename_i xs e
      by_cases z : xs.length = n0
      · exact ⟨xs, e, z⟩
      · rw [if_neg z] at h
        exact absurd rfl h
    · exact absurd rfl h
  | succ k =>
    unfold compLC at h
    split at h
    · rename_i xs e
      by_cases z : xs.length = n0
      · exact ⟨xs, e, z⟩
      · rw [if_neg z] at h
        exact absurd rfl h
    · exact absurd rfl h
theorem compLC_step {n n0 : Nat} {tg : Tg} {own : List Nat} {tst : DT} {el : DE} {ρ : Rho} {k : Nat} {S : Sto} {xs : List D} {d : D} (e : S[n]? = some (.lst xs)) (hl : xs.length = n0) (hd : xs[n0 - (k + 1)]? = some d) :
    compLC n n0 tg own tst el ρ (k + 1) S = (match tg d (wipeR ρ own) with
        | none => .bad
        | some ρ1 => (tst ρ1 S).bind fun b S1 => if b = true then (el ρ1 S1).bind fun u S2 => (toD u S2).bind fun y S3 => (compLC n n0 tg own tst el ρ k S3).bind fun ys S4 => .ok (y :: ys) S4 else compLC n n0 tg own tst el ρ k S1) := by
  conv => lhs; unfold compLC
  simp only [e, hl, if_true, hd]
theorem compLC_end {n n0 : Nat} {tg : Tg} {own : List Nat} {tst : DT} {el : DE} {ρ : Rho} {S : Sto} {xs : List D} (e : S[n]? = some (.lst xs)) (hl : xs.length = n0) : compLC n n0 tg own tst el ρ 0 S = .ok [] S := by
  unfold compLC
  simp only [e, hl, if_true]
section
variable {X : Cx} {K : PySem.W.Frag} {pos : Pos}
theorem t_lcC {own : List (Str × Nat)} {f : DE} {sl : List Nat} {g : Tg} {tst : DT} {el : DE} {σ : L2.St} {H : Hp} {Q : VK} {hd ι : List Addr} {S S1 : Sto} {ρ : Rho} {n : Nat} {xs : List D} (hsl : ∀ i, i ∈ sl → i ∈ own.map (·.2)) (at_ : At K ⟨hd, ι, S, H⟩ σ ρ) (hf : f ρ S = .ok (.r n) S1)
    (hx : S1[n]? = some (.lst xs)) (hlen : xs.length ≤ 16777216) (h : Post K E0W ⟨hd, ι, S, H⟩ Q ((compLC n xs.length g (own.map (·.2)) tst el ρ xs.length S1).bind fun ys S2 => .ok (.d (.list ys)) S2)) :
    tLc (iList K (tD K E0W f)) (tG K sl g) (tB K E0W tst) (tD K E0W el) (own.map (·.2)) σ H Q := by
  refine ⟨hd, ι, S, ρ, at_, ?_⟩
  rw [hf]
  intro v ι1 H1 e1 o1 r1
  obtain ⟨a, ha, rfl⟩ := r1
  obtain ⟨a', ha', vs0, hv0, rv0⟩ := o1.cell n _ hx
  rw [ha] at ha'
  cases ha'
  refine ⟨a, rfl, ⟨vs0, .inl (.inl hv0)⟩, fun D hD => ?_⟩
  have h1 : Post K E0W ⟨hd, ι1, S1, H1⟩ Q ((compLC n xs.length g (own.map (·.2)) tst el ρ xs.length S1).bind fun ys S2 => .ok (.d (.list ys)) S2) := PostG.step h e1
  have at1 := at_.ext e1 o1
  have live : ∀ {D : Addr} {ι2 : List Addr} {S2 : Sto} {H2 : Hp} {k : Nat}, ι1 <+: ι2 → OkC K (hide D ⟨hd, ι2, S2, H2⟩) → cellN n xs.length S2 → ∃ ys vs, S2[n]? = some (.lst ys) ∧ ys.length = xs.length ∧ SqL K H2 a vs ∧ RepA K (hide D ⟨hd, ι2, S2, H2⟩) vs ys := by
    rintro D ι2 S2 H2 k p o ⟨ys, e, el⟩
    obtain ⟨a', ha', vs, hv, rv⟩ := o.cell n _ e
    have : ι2[n]? = some a := pre_get p ha
    have e2 : some a = some a' := this.symm.trans ha'
    cases e2
    exact ⟨ys, vs, e, el, .inl (.inl hv), rv⟩
  have cellOf : ∀ {c : Cfg} {F : List PyData → Sto → Rs U} {k : Nat} {S2 : Sto}, Post K E0W c Q ((compLC n xs.length g (own.map (·.2)) tst el ρ k S2).bind F) → cellN n xs.length S2 := by
    intro c F k S2 hp
    refine compLC_cell (tg := g) (own := own.map (·.2)) (tst := tst) (el := el) (ρ := ρ) (k := k) fun z => ?_
    rw [z] at hp
    exact hp.elim
  refine lc_it (walkL (n := xs.length)) (fun i H => i ≤ xs.length ∧ ∃ ι2 S2 acc done, Mk ⟨hd, ι1, S1, H1⟩ D ⟨hd, ι2, S2, H⟩ ∧ OkC K (hide D ⟨hd, ι2, S2, H⟩) ∧ H D = some (.lst acc) ∧ RepA K (hide D ⟨hd, ι2, S2, H⟩) acc done ∧ done.length ≤ i ∧
      Post K E0W ⟨hd, ι1, S1, H1⟩ Q ((compLC n xs.length g (own.map (·.2)) tst el ρ (xs.length - i) S2).bind fun ys S3 => .ok (.d (.list (done ++ ys))) S3)) ?_ ?_ ?_ ?_
  · exact ⟨Nat.zero_le _, ι1, S1, [], [], ⟨keep_begin hD, List.prefix_refl _, fun a ha => upd_ne (o1.hid_ne hD ha), rfl⟩, ok_begin o1 hD, upd_same, .nil, Nat.zero_le _, h1⟩
  · rintro i H _ ⟨_, ι2, S2, acc, done, m, o2, _, _, _, hp⟩
    obtain ⟨ys, vs, e, el, sq, rv⟩ := live (k := 0) m.pre o2 (cellOf hp)
    exact ⟨vs, sq, rv.length.trans el⟩
  · rintro i x H2 H3 hi ⟨_, ι2, S2, acc, done, m, o2, hacc, racc, hdn, hp⟩ ⟨e0, y⟩
    subst e0
    obtain ⟨ys, vs, hys, hyl, sq, rv⟩ := live (k := 0) m.pre o2 (cellOf hp)
    have hlt : i < ys.length := by omega
    obtain ⟨d, hdx⟩ : ∃ d, ys[i]? = some d := ⟨_, List.getElem?_eq_getElem hlt⟩
    obtain ⟨v0, h10, r3⟩ := rv.get hdx
    rw [y vs sq] at h10
    cases h10
    have e3 : Ext (hide D ⟨hd, ι2, S2, H3⟩) ⟨D :: hd, ι2, S2, H3⟩ := Ext.refl _
    have o3 := o2
    have ek : xs.length - i = (xs.length - (i + 1)) + 1 := by omega
    have eki : xs.length - ((xs.length - (i + 1)) + 1) = i := by omega
    rw [ek, compLC_step hys hyl (by rw [eki]; exact hdx)] at hp
    have m3 := m.go (ι' := ι2) (S' := S2) (H' := H3) e3
    have hacc3 : H3 D = some (.lst acc) := (e3.hid D List.mem_cons_self).trans hacc
    cases hgd : g d (wipeR ρ (own.map (·.2))) with
    | none => rw [hgd] at hp; exact hp.elim
    | some ρ3 =>
      rw [hgd] at hp
      have hp : Post K E0W ⟨hd, ι1, S1, H1⟩ Q (((tst ρ3 S2).bind fun b S1 => if b = true then (el ρ3 S1).bind fun u S2 => (toD u S2).bind fun y S3 => (compLC n xs.length g (own.map (·.2)) tst el ρ (xs.length - (i + 1)) S3).bind fun ys S4 => .ok (y :: ys) S4 else compLC n xs.length g (own.map (·.2)) tst el ρ (xs.length - (i + 1)) S1).bind fun ys S3 => .ok (.d (.list (done ++ ys))) S3) := hp
      refine ⟨D :: hd, ι2, S2, wipeR ρ (own.map (·.2)), d, ρ3, ⟨o3, slots_wipe at1.sl m3.keep m3.pre _, by rw [wipeR_len, wipe_length]; exact at_.len⟩, r3, hgd, fun σ4 a4 k4 l4 => ⟨?_, ?_⟩⟩
      · rw [wipe_eq l4 fun j hj => k4 j fun z => hj (hsl j z), wipe_wipe]
      refine ⟨D :: hd, ι2, S2, ρ3, a4, ?_⟩
      cases ht : tst ρ3 S2 with
      | bad => rw [ht] at hp; exact hp.elim
      | ex n fs S' => rw [ht] at hp; exact hp.elim
      | ok bb S3 =>
        rw [ht] at hp
        intro b' ι4 H4 e4 o4 hb
        subst hb
        have m4 := m3.go (ι' := ι4) (S' := S3) (H' := H4) e4
        have hacc4 : H4 D = some (.lst acc) := (e4.hid D List.mem_cons_self).trans hacc3
        cases b' with
        | false =>
          exact ⟨by omega, ι4, S3, acc, done, m4, o4, hacc4, RepA.ext (e3.trans e4).toKeep racc, by omega, hp⟩
        | true =>
          rw [if_pos rfl]
          have hp : Post K E0W ⟨hd, ι1, S1, H1⟩ Q (((el ρ3 S3).bind fun u S2 => (toD u S2).bind fun y S3 => (compLC n xs.length g (own.map (·.2)) tst el ρ (xs.length - (i + 1)) S3).bind fun ys S4 => .ok (y :: ys) S4).bind fun ys S3 => .ok (.d (.list (done ++ ys))) S3) := hp
          refine ⟨D :: hd, ι4, S3, ρ3, a4.ext e4 o4, ?_⟩
          cases hel : el ρ3 S3 with
          | bad => rw [hel] at hp; exact hp.elim
          | ex n fs S' => rw [hel] at hp; exact hp.elim
          | ok u S4 =>
            rw [hel] at hp
            intro v ι5 H5 e5 o5 r5
            have m5 := m4.go (ι' := ι5) (S' := S4) (H' := H5) e5
            have hacc5 : H5 D = some (.lst acc) := (e5.hid D List.mem_cons_self).trans hacc4
            have hp : Post K E0W ⟨hd, ι1, S1, H1⟩ Q (((toD u S4).bind fun y S3 => (compLC n xs.length g (own.map (·.2)) tst el ρ (xs.length - (i + 1)) S3).bind fun ys S4 => .ok (y :: ys) S4).bind fun ys S3 => .ok (.d (.list (done ++ ys))) S3) := hp
            cases htd : toD u S4 with
            | bad => rw [htd] at hp; exact hp.elim
            | ex n fs S' => exact (toD_noex htd).elim
            | ok yd S5 =>
              rw [htd] at hp
              obtain ⟨e6, o6, r6⟩ := toD_go (c := ⟨D :: hd, ι5, S4, H5⟩) o5 r5 htd
              have m6 := m5.go (ι' := ι5) (S' := S5) (H' := H5) e6
              have hrep : RepA K (hide D ⟨hd, ι5, S5, H5⟩) acc done := RepA.ext ((e3.trans e4).trans (e5.trans e6)).toKeep racc
              have hal : acc.length = done.length := hrep.length
              refine ⟨acc, hacc5, by rw [sizeLine_eq]; omega, by omega, ι5, S5, acc ++ [v], done ++ [yd], ⟨m6.keep.trans (keep_made (c := ⟨hd, ι5, S5, H5⟩)), m6.pre, fun a ha => ?_, m6.same⟩, ok_made (c := ⟨hd, ι5, S5, H5⟩) o6, upd_same, RepA.ext (keep_made (c := ⟨hd, ι5, S5, H5⟩)) (hrep.append (.cons r6 .nil)), ?_, ?_⟩
              · show upd H5 D _ a = _
                rw [upd_ne (o1.hid_ne hD ha)]
                exact m6.hid a ha
              · rw [List.length_append]
                show done.length + 1 ≤ i + 1
                omega
              · have hp : Post K E0W ⟨hd, ι1, S1, H1⟩ Q (((compLC n xs.length g (own.map (·.2)) tst el ρ (xs.length - (i + 1)) S5).bind fun ys S4 => .ok (yd :: ys) S4).bind fun ys S3 => .ok (.d (.list (done ++ ys))) S3) := hp
                cases hcl : compLC n xs.length g (own.map (·.2)) tst el ρ (xs.length - (i + 1)) S5 with
                | bad => rw [hcl] at hp; exact hp.elim
                | ex n fs S' => rw [hcl] at hp; exact hp.elim
                | ok ys S6 =>
                  rw [hcl] at hp
                  show Post K E0W ⟨hd, ι1, S1, H1⟩ Q (.ok (.d (.list (done ++ [yd] ++ ys))) S6)
                  rw [List.append_assoc]
                  exact hp
  · rintro H2 ⟨_, ι2, S2, acc, done, m, o2, hacc, racc, hdn, hp⟩
    obtain ⟨ys, vs, hys, hyl, sq, rv⟩ := live (k := 0) m.pre o2 (cellOf hp)
    rw [Nat.sub_self, compLC_end hys hyl] at hp
    have hp : Post K E0W ⟨hd, ι1, S1, H1⟩ Q (.ok (.d (.list (done ++ []))) S2) := hp
    rw [List.append_nil] at hp
    refine hp (.ref D) ι2 H2 m.ext (ok_unhide o2) ?_
    refine .lst hacc ?_ (RepA.ext keep_unhide racc)
    rintro (z | ⟨n, cl, z1, z2, z3⟩)
    · obtain ⟨ob, q⟩ := (o1.hid D z).1
      cases hD.symm.trans q
    · exact (o2.hid D List.mem_cons_self).2 (List.mem_of_getElem? z1)
/-- the list a datum or a cell; a cell stays one -/
def dCompV (f : DE) (tg : Tg) (own : List Nat) (tst : DT) (el : DE) : DE := fun ρ S => match f ρ S with
  | .ok (.r n) S1 => (match S1[n]? with
    | some (.lst xs) => if xs.length ≤ 16777216 then (compLC n xs.length tg own tst el ρ xs.length S1).bind fun ys S2 => .ok (.d (.list ys)) S2 else .bad
    | _ => dComp (dIt f) tg own tst el ρ S)
  | _ => dComp (dIt f) tg own tst el ρ S
def tIV (K : PySem.W.Frag) (E : EXW) (f : DE) : TI := fun σ H R => iList K (tD K E f) σ H R ∨ tI K E (dIt f) σ H R
theorem id_seqV {tg e : Expr} {E : EXW} {f : DE} (h : PE X e (tD X.K E f)) : PI X tg e (tIV X.K E f) := (pi_list h).por (id_seq h)
theorem t_lcV {own : List (Str × Nat)} {f : DE} {sl : List Nat} {g : Tg} {tst : DT} {el : DE} {σ : L2.St} {H : Hp} {Q : VK} (hsl : ∀ i, i ∈ sl → i ∈ own.map (·.2)) (h0 : tD K E0W (dCompV f g (own.map (·.2)) tst el) σ H Q) :
    tLc (tIV K E0W f) (tG K sl g) (tB K E0W tst) (tD K E0W el) (own.map (·.2)) σ H Q := by
  obtain ⟨hd, ι, S, ρ, at_, h⟩ := h0
  have old : Post K E0W ⟨hd, ι, S, H⟩ Q (dComp (dIt f) g (own.map (·.2)) tst el ρ S) → tLc (tIV K E0W f) (tG K sl g) (tB K E0W tst) (tD K E0W el) (own.map (·.2)) σ H Q := fun h => .inr (t_lc hsl ⟨hd, ι, S, ρ, at_, h⟩)
  have h : Post K E0W ⟨hd, ι, S, H⟩ Q (match f ρ S with
  | .ok (.r n) S1 => (match S1[n]? with
    | some (.lst xs) => if xs.length ≤ 16777216 then (compLC n xs.length g (own.map (·.2)) tst el ρ xs.length S1).bind fun ys S2 => .ok (.d (.list ys)) S2 else .bad
    | _ => dComp (dIt f) g (own.map (·.2)) tst el ρ S)
  | _ => dComp (dIt f) g (own.map (·.2)) tst el ρ S) := h
  split at h
  · rename_i n S1 hf
    split at h
    · rename_i xs hx
      split at h
      · rename_i hl
        exact .inl (t_lcC hsl at_ hf hx hl h)
      · exact h.elim
    · exact old h
  · exact old h
theorem pd_lcV {elt tg iter : Expr} {ifs : List Expr} {scope : Scope} {own : List (Str × Nat)} {f : DE} {sl : List Nat} {g : Tg} {tst : DT} {el : DE} (hc : X.calm = true) (hN : X.N.Nodup) (hi : PI X tg iter (tIV X.K E0W f)) (ok : BlkOk X.N X.env.scope scope own) (hsl : ∀ i, i ∈ sl → i ∈ own.map (·.2))
    (hg : ∀ (s : Shared) (H : Hp) (C : Addr) (cl : List (Str × Addr)) (fp : List Addr), PG (X.blk s H scope (compEnvC scope cl C X.env) fp) tg (tG X.K sl g)) (ht : ∀ (s : Shared) (H : Hp) (C : Addr) (cl : List (Str × Addr)) (fp : List Addr), PTs (X.blk s H scope (compEnvC scope cl C X.env) fp) ifs (tB X.K E0W tst))
    (he : ∀ (s : Shared) (H : Hp) (C : Addr) (cl : List (Str × Addr)) (fp : List Addr), PE (X.blk s H scope (compEnvC scope cl C X.env) fp) elt (tD X.K E0W el)) (hs : ∀ x, foldedSetIterable iter X.env x = pure x := by intro _; rfl) :
    PE X (.ListComp elt [⟨tg, iter, ifs, 0⟩] scope pos) (tD X.K E0W (dCompV f g (own.map (·.2)) tst el)) := (pe_lc hc hN hi ok hg ht he hs).dimp fun _ _ _ h => t_lcV hsl h
theorem sd_setLcV {i : Nat} {y : Str} {py spos : Pos} {elt tg iter : Expr} {ifs : List Expr} {scope : Scope} {own : List (Str × Nat)} {f : DE} {sl : List Nat} {g : Tg} {tst : DT} {el : DE} (hc : X.calm = true) (hN : X.N.Nodup) (hy : X.N[i]? = some y) (hyl : X.env.scope.names.lookup y = some .local)
    (hsw : swapsWith (.ListComp elt [⟨tg, iter, ifs, 0⟩] scope pos) (some (.Name y py)) spos.line X.env = pure true) (hi : PI X tg iter (tIV X.K E0W f)) (ok : BlkOk X.N X.env.scope scope own) (hsl : ∀ i, i ∈ sl → i ∈ own.map (·.2))
    (hg : ∀ (s : Shared) (H : Hp) (C : Addr) (cl : List (Str × Addr)) (fp : List Addr), PG (X.blk s H scope (compEnvC scope cl C X.env) fp) tg (tG X.K sl g)) (ht : ∀ (s : Shared) (H : Hp) (C : Addr) (cl : List (Str × Addr)) (fp : List Addr), PTs (X.blk s H scope (compEnvC scope cl C X.env) fp) ifs (tB X.K E0W tst))
    (he : ∀ (s : Shared) (H : Hp) (C : Addr) (cl : List (Str × Addr)) (fp : List Addr), PE (X.blk s H scope (compEnvC scope cl C X.env) fp) elt (tD X.K E0W el)) (hs : ∀ x, foldedSetIterable iter X.env x = pure x := by intro _; rfl) :
    PS X (.Assign [.Name y py] (.ListComp elt [⟨tg, iter, ifs, 0⟩] scope pos) spos) (tS X.K E0W (sSet i (dCompV f g (own.map (·.2)) tst el))) := (ps_setLc hc hN hy hyl hsw hi ok hg ht he hs).dimp fun D σ H ⟨hd, ι, S, ρ, at_, h⟩ =>
  t_lcV hsl (tD_stepS (c := ⟨hd, ι, S, H⟩) at_ h fun u v c1 e1 a1 r1 h1 => PostS.nxt h1 (a1.set r1))
end
end DL
namespace DL
open PySem PySem.Spec PyProof.Rows L2
/-! ### a comprehension whose list is a new cell -/
section
variable {K : PySem.W.Frag} {X : Cx} {pos : Pos}
theorem keep_cellD {c : Cfg} {D : Addr} {cl : Cell} (o : OkC K (hide D c)) : Keep (hide D c) ⟨c.hd, c.ι ++ [D], c.S ++ [cl], c.H⟩ := ⟨fun a ob e n => ⟨kept.of_eq e, fun h => n (by
  have hl : c.ι.length = c.S.length := o.len
  rcases h with h | ⟨m, cl', h1, h2, h3⟩
  · exact .inl (List.mem_cons_of_mem _ h)
  have h1 : (c.ι ++ [D])[m]? = some a := h1
  have h2 : (c.S ++ [cl])[m]? = some cl' := h2
  by_cases hm : m < c.ι.length
  · rw [List.getElem?_append_left hm] at h1
    rw [List.getElem?_append_left (by omega)] at h2
    exact .inr ⟨m, cl', h1, h2, h3⟩
  · rw [List.getElem?_append_right (by omega)] at h1
    have e0 : m - c.ι.length = 0 := by
      by_cases q : m - c.ι.length = 0
      · exact q
      · rw [List.getElem?_eq_none (by simp; omega)] at h1
        cases h1
    rw [e0] at h1
    cases h1
    exact .inl List.mem_cons_self)⟩⟩
theorem ok_cellD {c : Cfg} {D : Addr} {acc : List V} {done : List PyData} (o : OkC K (hide D c)) (hne : ∀ a, a ∈ c.hd → a ≠ D) (h : c.H D = some (.lst acc)) (r : RepA K (hide D c) acc done) : OkC K ⟨c.hd, c.ι ++ [D], c.S ++ [.lst done], c.H⟩ := by
  have hl : c.ι.length = c.S.length := o.len
  have hk := keep_cellD (c := c) (D := D) (cl := .lst done) o
  have hD : D ∉ c.ι := (o.hid D List.mem_cons_self).2
  refine ⟨fun a ha => ⟨(o.hid a (List.mem_cons_of_mem _ ha)).1, fun z => ?_⟩, by show (c.ι ++ [D]).length = (c.S ++ [Cell.lst done]).length; simp; omega, ?_, fun n cl' e => ?_⟩
  · have z : a ∈ c.ι ++ [D] := z
    rcases List.mem_append.mp z with z | z
    · exact (o.hid a (List.mem_cons_of_mem _ ha)).2 z
    · exact hne a ha (by simpa using z)
  · show (c.ι ++ [D]).Nodup
    rw [List.nodup_append]
    refine ⟨o.nodup, by simp, fun a ha b hb => ?_⟩
    rw [List.mem_singleton.mp hb]
    rintro rfl
    exact hD ha
  · have e : (c.S ++ [Cell.lst done])[n]? = some cl' := e
    by_cases hn : n < c.S.length
    · rw [List.getElem?_append_left hn] at e
      obtain ⟨a, h1, h2⟩ := o.cell n cl' e
      refine ⟨a, ?_, h2.ext hk fun _ => rfl⟩
      show (c.ι ++ [D])[n]? = some a
      rw [List.getElem?_append_left (by omega)]
      exact h1
    · rw [List.getElem?_append_right (by omega)] at e
      have e0 : n - c.S.length = 0 := by
        by_cases q : n - c.S.length = 0
        · exact q
        · rw [List.getElem?_eq_none (by simp; omega)] at e
          cases e
      rw [e0] at e
      cases e
      refine ⟨D, ?_, acc, h, RepA.ext hk r⟩
      show (c.ι ++ [D])[n]? = some D
      rw [List.getElem?_append_right (by omega), show n - c.ι.length = 0 by omega]
      rfl
def dCompN (it : DI) (tg : Tg) (own : List Nat) (tst : DT) (el : DE) : DE := fun ρ S => (it ρ S).bind fun ds S1 => if ds.length ≤ 16777216 then (compL tg own tst el ρ ds S1).bind fun ys S2 => .ok (.r S2.length) (S2 ++ [.lst ys]) else .bad
theorem t_lcN {own : List (Str × Nat)} {it : DI} {sl : List Nat} {g : Tg} {tst : DT} {el : DE} {σ : L2.St} {H : Hp} {Q : VK} (hsl : ∀ i, i ∈ sl → i ∈ own.map (·.2)) (h0 : tD K E0W (dCompN it g (own.map (·.2)) tst el) σ H Q) :
    tLc (tI K E0W it) (tG K sl g) (tB K E0W tst) (tD K E0W el) (own.map (·.2)) σ H Q := by
  obtain ⟨hd, ι, S, ρ, at_, h⟩ := h0
  have h : Post K E0W ⟨hd, ι, S, H⟩ Q ((it ρ S).bind fun ds S1 => if ds.length ≤ 16777216 then (compL g (own.map (·.2)) tst el ρ ds S1).bind fun ys S2 => .ok (.r S2.length) (S2 ++ [.lst ys]) else .bad) := h
  refine ⟨hd, ι, S, ρ, at_, ?_⟩
  cases hf : it ρ S with
  | bad => rw [hf] at h; exact h.elim
  | ex n fs S1 => rw [hf] at h; exact h
  | ok ds S1 =>
    rw [hf] at h
    intro J ι1 H1 e1 o1 ok D hD
    have h1 : Post K E0W ⟨hd, ι1, S1, H1⟩ Q (if ds.length ≤ 16777216 then (compL g (own.map (·.2)) tst el ρ ds S1).bind fun ys S2 => .ok (.r S2.length) (S2 ++ [.lst ys]) else .bad) := by
      have h : Post K E0W ⟨hd, ι, S, H⟩ Q (if ds.length ≤ 16777216 then (compL g (own.map (·.2)) tst el ρ ds S1).bind fun ys S2 => .ok (.r S2.length) (S2 ++ [.lst ys]) else .bad) := h
      exact PostG.step h e1
    split at h1
    case isFalse => exact h1.elim
    rename_i hlen
    obtain ⟨G, Y, wk, hG, hY⟩ := ok.ex
    have at1 := at_.ext e1 o1
    refine lc_it wk (fun i H => ∃ ι2 S2 acc done, Mk ⟨hd, ι1, S1, H1⟩ D ⟨hd, ι2, S2, H⟩ ∧ OkC K (hide D ⟨hd, ι2, S2, H⟩) ∧ H D = some (.lst acc) ∧ RepA K (hide D ⟨hd, ι2, S2, H⟩) acc done ∧ done.length ≤ i ∧
      Post K E0W ⟨hd, ι1, S1, H1⟩ Q ((compL g (own.map (·.2)) tst el ρ (ds.drop i) S2).bind fun ys S3 => .ok (.r S3.length) (S3 ++ [.lst (done ++ ys)]))) ?_ ?_ ?_ ?_
    · exact ⟨ι1, S1, [], [], ⟨keep_begin hD, List.prefix_refl _, fun a ha => upd_ne (o1.hid_ne hD ha), rfl⟩, ok_begin o1 hD, upd_same, .nil, Nat.zero_le _, h1⟩
    · rintro i H _ ⟨ι2, S2, acc, done, m, o2, _⟩
      exact hG (hide D ⟨hd, ι2, S2, H⟩) m.keep o2
    · rintro i x H2 H3 hi ⟨ι2, S2, acc, done, m, o2, hacc, racc, hdn, hp⟩ y
      obtain ⟨d, hdx, e3, o3, r3⟩ := hY i x H3 (hide D ⟨hd, ι2, S2, H2⟩) hi m.keep o2 y
      have ed : ds.drop i = d :: ds.drop (i + 1) := by
        obtain ⟨hlt, eq⟩ := List.getElem?_eq_some_iff.mp hdx
        rw [List.drop_eq_getElem_cons hlt, eq]
      rw [ed] at hp
      have m3 := m.go (ι' := ι2) (S' := S2) (H' := H3) e3
      have hacc3 : H3 D = some (.lst acc) := (e3.hid D List.mem_cons_self).trans hacc
      unfold compL at hp
      cases hgd : g d (wipeR ρ (own.map (·.2))) with
      | none => rw [hgd] at hp; exact hp.elim
      | some ρ3 =>
        rw [hgd] at hp
        have hp : Post K E0W ⟨hd, ι1, S1, H1⟩ Q (((tst ρ3 S2).bind fun b S1 => if b = true then (el ρ3 S1).bind fun u S2 => (toD u S2).bind fun y S3 => (compL g (own.map (·.2)) tst el ρ (ds.drop (i + 1)) S3).bind fun ys S4 => .ok (y :: ys) S4 else compL g (own.map (·.2)) tst el ρ (ds.drop (i + 1)) S1).bind fun ys S3 => .ok (.r S3.length) (S3 ++ [.lst (done ++ ys)])) := hp
        refine ⟨D :: hd, ι2, S2, wipeR ρ (own.map (·.2)), d, ρ3, ⟨o3, slots_wipe at1.sl m3.keep m3.pre _, by rw [wipeR_len, wipe_length]; exact at_.len⟩, r3, hgd, fun σ4 a4 k4 l4 => ⟨?_, ?_⟩⟩
        · rw [wipe_eq l4 fun j hj => k4 j fun z => hj (hsl j z), wipe_wipe]
        refine ⟨D :: hd, ι2, S2, ρ3, a4, ?_⟩
        cases ht : tst ρ3 S2 with
        | bad => rw [ht] at hp; exact hp.elim
        | ex n fs S' => rw [ht] at hp; exact hp.elim
        | ok bb S3 =>
          rw [ht] at hp
          intro b' ι4 H4 e4 o4 hb
          subst hb
          have m4 := m3.go (ι' := ι4) (S' := S3) (H' := H4) e4
          have hacc4 : H4 D = some (.lst acc) := (e4.hid D List.mem_cons_self).trans hacc3
          cases b' with
          | false =>
            exact ⟨ι4, S3, acc, done, m4, o4, hacc4, RepA.ext (e3.trans e4).toKeep racc, by omega, hp⟩
          | true =>
            rw [if_pos rfl]
            have hp : Post K E0W ⟨hd, ι1, S1, H1⟩ Q (((el ρ3 S3).bind fun u S2 => (toD u S2).bind fun y S3 => (compL g (own.map (·.2)) tst el ρ (ds.drop (i + 1)) S3).bind fun ys S4 => .ok (y :: ys) S4).bind fun ys S3 => .ok (.r S3.length) (S3 ++ [.lst (done ++ ys)])) := hp
            refine ⟨D :: hd, ι4, S3, ρ3, a4.ext e4 o4, ?_⟩
            cases hel : el ρ3 S3 with
            | bad => rw [hel] at hp; exact hp.elim
            | ex n fs S' => rw [hel] at hp; exact hp.elim
            | ok u S4 =>
              rw [hel] at hp
              intro v ι5 H5 e5 o5 r5
              have m5 := m4.go (ι' := ι5) (S' := S4) (H' := H5) e5
              have hacc5 : H5 D = some (.lst acc) := (e5.hid D List.mem_cons_self).trans hacc4
              have hp : Post K E0W ⟨hd, ι1, S1, H1⟩ Q (((toD u S4).bind fun y S3 => (compL g (own.map (·.2)) tst el ρ (ds.drop (i + 1)) S3).bind fun ys S4 => .ok (y :: ys) S4).bind fun ys S3 => .ok (.r S3.length) (S3 ++ [.lst (done ++ ys)])) := hp
              cases htd : toD u S4 with
              | bad => rw [htd] at hp; exact hp.elim
              | ex n fs S' => exact (toD_noex htd).elim
              | ok yd S5 =>
                rw [htd] at hp
                obtain ⟨e6, o6, r6⟩ := toD_go (c := ⟨D :: hd, ι5, S4, H5⟩) o5 r5 htd
                have m6 := m5.go (ι' := ι5) (S' := S5) (H' := H5) e6
                have hrep : RepA K (hide D ⟨hd, ι5, S5, H5⟩) acc done := RepA.ext ((e3.trans e4).trans (e5.trans e6)).toKeep racc
                have hal : acc.length = done.length := hrep.length
                refine ⟨acc, hacc5, by rw [sizeLine_eq]; omega, ι5, S5, acc ++ [v], done ++ [yd], ⟨m6.keep.trans (keep_made (c := ⟨hd, ι5, S5, H5⟩)), m6.pre, fun a ha => ?_, m6.same⟩, ok_made (c := ⟨hd, ι5, S5, H5⟩) o6, upd_same, RepA.ext (keep_made (c := ⟨hd, ι5, S5, H5⟩)) (hrep.append (.cons r6 .nil)), ?_, ?_⟩
                · show upd H5 D _ a = _
                  rw [upd_ne (o1.hid_ne hD ha)]
                  exact m6.hid a ha
                · rw [List.length_append]
                  show done.length + 1 ≤ i + 1
                  omega
                · have hp : Post K E0W ⟨hd, ι1, S1, H1⟩ Q (((compL g (own.map (·.2)) tst el ρ (ds.drop (i + 1)) S5).bind fun ys S4 => .ok (yd :: ys) S4).bind fun ys S3 => .ok (.r S3.length) (S3 ++ [.lst (done ++ ys)])) := hp
                  cases hcl : compL g (own.map (·.2)) tst el ρ (ds.drop (i + 1)) S5 with
                  | bad => rw [hcl] at hp; exact hp.elim
                  | ex n fs S' => rw [hcl] at hp; exact hp.elim
                  | ok ys S6 =>
                    rw [hcl] at hp
                    show Post K E0W ⟨hd, ι1, S1, H1⟩ Q (.ok (.r S6.length) (S6 ++ [.lst (done ++ [yd] ++ ys)]))
                    rw [List.append_assoc]
                    exact hp
    · rintro H2 ⟨ι2, S2, acc, done, m, o2, hacc, racc, hdn, hp⟩
      rw [List.drop_length] at hp
      have hp : Post K E0W ⟨hd, ι1, S1, H1⟩ Q (.ok (.r S2.length) (S2 ++ [.lst (done ++ [])])) := hp
      rw [List.append_nil] at hp
      have hne : ∀ a, a ∈ hd → a ≠ D := fun a ha => o1.hid_ne hD ha
      have hk := keep_cellD (c := ⟨hd, ι2, S2, H2⟩) (cl := .lst done) o2
      refine hp (.ref D) (ι2 ++ [D]) H2 ⟨m.keep.trans hk, m.pre.trans (List.prefix_append _ _), m.hid, rfl⟩ (ok_cellD o2 hne hacc racc) ⟨D, ?_, rfl⟩
      show (ι2 ++ [D])[S2.length]? = some D
      have hl : ι2.length = S2.length := o2.len
      rw [List.getElem?_append_right (by omega), show S2.length - ι2.length = 0 by omega]
      rfl
theorem pd_lcN {elt tg iter : Expr} {ifs : List Expr} {scope : Scope} {own : List (Str × Nat)} {it : DI} {sl : List Nat} {g : Tg} {tst : DT} {el : DE} (hc : X.calm = true) (hN : X.N.Nodup) (hi : PI X tg iter (tI X.K E0W it)) (ok : BlkOk X.N X.env.scope scope own) (hsl : ∀ i, i ∈ sl → i ∈ own.map (·.2))
    (hg : ∀ (s : Shared) (H : Hp) (C : Addr) (cl : List (Str × Addr)) (fp : List Addr), PG (X.blk s H scope (compEnvC scope cl C X.env) fp) tg (tG X.K sl g)) (ht : ∀ (s : Shared) (H : Hp) (C : Addr) (cl : List (Str × Addr)) (fp : List Addr), PTs (X.blk s H scope (compEnvC scope cl C X.env) fp) ifs (tB X.K E0W tst))
    (he : ∀ (s : Shared) (H : Hp) (C : Addr) (cl : List (Str × Addr)) (fp : List Addr), PE (X.blk s H scope (compEnvC scope cl C X.env) fp) elt (tD X.K E0W el)) (hs : ∀ x, foldedSetIterable iter X.env x = pure x := by intro _; rfl) :
    PE X (.ListComp elt [⟨tg, iter, ifs, 0⟩] scope pos) (tD X.K E0W (dCompN it g (own.map (·.2)) tst el)) := (pe_lc hc hN hi ok hg ht he hs).dimp fun _ _ _ h => t_lcN hsl h
theorem sd_setLcN {i : Nat} {y : Str} {py spos : Pos} {elt tg iter : Expr} {ifs : List Expr} {scope : Scope} {own : List (Str × Nat)} {it : DI} {sl : List Nat} {g : Tg} {tst : DT} {el : DE} (hc : X.calm = true) (hN : X.N.Nodup) (hy : X.N[i]? = some y) (hyl : X.env.scope.names.lookup y = some .local)
    (hsw : swapsWith (.ListComp elt [⟨tg, iter, ifs, 0⟩] scope pos) (some (.Name y py)) spos.line X.env = pure true) (hi : PI X tg iter (tI X.K E0W it)) (ok : BlkOk X.N X.env.scope scope own) (hsl : ∀ i, i ∈ sl → i ∈ own.map (·.2))
    (hg : ∀ (s : Shared) (H : Hp) (C : Addr) (cl : List (Str × Addr)) (fp : List Addr), PG (X.blk s H scope (compEnvC scope cl C X.env) fp) tg (tG X.K sl g)) (ht : ∀ (s : Shared) (H : Hp) (C : Addr) (cl : List (Str × Addr)) (fp : List Addr), PTs (X.blk s H scope (compEnvC scope cl C X.env) fp) ifs (tB X.K E0W tst))
    (he : ∀ (s : Shared) (H : Hp) (C : Addr) (cl : List (Str × Addr)) (fp : List Addr), PE (X.blk s H scope (compEnvC scope cl C X.env) fp) elt (tD X.K E0W el)) (hs : ∀ x, foldedSetIterable iter X.env x = pure x := by intro _; rfl) :
    PS X (.Assign [.Name y py] (.ListComp elt [⟨tg, iter, ifs, 0⟩] scope pos) spos) (tS X.K E0W (sSet i (dCompN it g (own.map (·.2)) tst el))) := (ps_setLc hc hN hy hyl hsw hi ok hg ht he hs).dimp fun D σ H ⟨hd, ι, S, ρ, at_, h⟩ =>
  t_lcN hsl (tD_stepS (c := ⟨hd, ι, S, H⟩) at_ h fun u v c1 e1 a1 r1 h1 => PostS.nxt h1 (a1.set r1))
end
end DL
namespace DL
open PySem PySem.Spec PyProof.Rows L2
/-! ### y = {k: v for ..}, on one line, y a local -/
theorem swD_true {kx vx : Expr} {gens : List Comprehension} {sc : Scope} {ps py : Pos} {y : Str} {ln : Nat} {en : Env} (h1 : en.scope.kind = .function) (h2 : en.scope.names.lookup y = some .local) (h3 : (py.line == ps.line) = true)
    (h4 : (sc.names.any fun (q, k) => q == y && (k == .local || k == .cell)) = false) : swapsWith (.DictComp kx vx gens sc ps) (some (.Name y py)) ln en = pure true := by
  have q1 : en.kindOf y = some .local := h2
  have q2 : en.blockKind = .function := by
    unfold Env.blockKind
    rw [h1] <;> rfl
  unfold swapsWith
  simp only [q1, q2, h4, h3, Expr.pos] <;> rfl
theorem ps_setDcD {X : Cx} {i : Nat} {y : Str} {py ps sp : Pos} {kx vx tg iter : Expr} {ifs : List Expr} {scope : Scope} {own : List (Str × Nat)} {wi : TI} {g : TG} {tt : TT} {tk tv : TE} (hc : X.calm = true) (hN : X.N.Nodup) (hy : X.N[i]? = some y) (hl : X.env.scope.names.lookup y = some .local)
    (hw : swapsWith (.DictComp kx vx [⟨tg, iter, ifs, 0⟩] scope ps) (some (.Name y py)) sp.line X.env = pure true) (hi : PI X tg iter wi) (ok : BlkOk X.N X.env.scope scope own)
    (hg : ∀ (s : Shared) (H : Hp) (C : Addr) (cl : List (Str × Addr)) (fp : List Addr), PG (X.blk s H scope (compEnvC scope cl C X.env) fp) tg g) (ht : ∀ (s : Shared) (H : Hp) (C : Addr) (cl : List (Str × Addr)) (fp : List Addr), PTs (X.blk s H scope (compEnvC scope cl C X.env) fp) ifs tt)
    (hk : ∀ (s : Shared) (H : Hp) (C : Addr) (cl : List (Str × Addr)) (fp : List Addr), PE (X.blk s H scope (compEnvC scope cl C X.env) fp) kx tk)
    (he : ∀ (s : Shared) (H : Hp) (C : Addr) (cl : List (Str × Addr)) (fp : List Addr), PE (X.blk s H scope (compEnvC scope cl C X.env) fp) vx tv) (hs : ∀ x, foldedSetIterable iter X.env x = pure x := by intro _; rfl) :
    PS X (.Assign [.Name y py] (.DictComp kx vx [⟨tg, iter, ifs, 0⟩] scope ps) sp) (tAsg (tDc wi g tt tk tv (own.map (·.2))) (gName i)) := ⟨fun pins s σ H D I h0 => by
  have h0 : tDc wi g tt tk tv (own.map (·.2)) σ H (fun x H1 => gName i x σ H1 D.nx) := h0
  rw [exec_Assign_Name_used (hs := hw)]
  refine wpAny_bind (wpAny_standAt (wpAny_bind ?_))
  show wpAny (model X.prog X.w) X.A (do
    let _ ← comprehension (.DictComp kx vx [⟨tg, iter, ifs, 0⟩] scope ps) scope X.env (firstIterPos [⟨tg, iter, ifs, 0⟩] ps) newDict false (eval iter X.env) (some (assign (.Name y py) X.env))) _ _ s
  refine wpAny_bind (thn (dc_core (Qf := fun _ t => SP X pins D .next t) hc hN I hi ok hg ht hk he hs h0 ?_) ?_)
  · intro L C t m H' I' q hn ⟨f0, f1, f2, f3, f4, f5⟩
    show wpAny (model X.prog X.w) X.A (assign (.Name y py) X.env (.ref L)) _ _ t
    refine wpAny_assign_Name (store_ok2 (v := V.ref L) I' hN hy (.inl hl) rfl ?_ (.inr hl))
    intro t2 I2 ⟨a, sb, ha⟩
    have ne : C ≠ a := by
      cases ha with
      | inl z => rw [z]; exact f1
      | inr z => exact fun e => f4 y a z e.symm
    exact ⟨m, hn.sameBut sb ne, fun h3 sb3 => ⟨_, H', I2.turned (t' := t2.toks) (fun b o hb e => (sb3.2 b hb).trans e) f0 f1 f3 f4 f5, q⟩⟩
  · exact fun _ t hq => wpAny_pure (wpAny_pure hq)⟩
section
variable {X : Cx}
theorem sd_setDc {i : Nat} {y : Str} {py ps sp : Pos} {kx vx tg iter : Expr} {ifs : List Expr} {scope : Scope} {own : List (Str × Nat)} {it : DI} {sl : List Nat} {g : Tg} {tst : DT} {ek ev : DE} (hc : X.calm = true) (hN : X.N.Nodup) (hy : X.N[i]? = some y) (hl : X.env.scope.names.lookup y = some .local)
    (hw : swapsWith (.DictComp kx vx [⟨tg, iter, ifs, 0⟩] scope ps) (some (.Name y py)) sp.line X.env = pure true) (hi : PI X tg iter (tI X.K E0W it)) (ok : BlkOk X.N X.env.scope scope own) (hsl : ∀ i, i ∈ sl → i ∈ own.map (·.2))
    (hg : ∀ (s : Shared) (H : Hp) (C : Addr) (cl : List (Str × Addr)) (fp : List Addr), PG (X.blk s H scope (compEnvC scope cl C X.env) fp) tg (tG X.K sl g)) (ht : ∀ (s : Shared) (H : Hp) (C : Addr) (cl : List (Str × Addr)) (fp : List Addr), PTs (X.blk s H scope (compEnvC scope cl C X.env) fp) ifs (tB X.K E0W tst))
    (hk : ∀ (s : Shared) (H : Hp) (C : Addr) (cl : List (Str × Addr)) (fp : List Addr), PE (X.blk s H scope (compEnvC scope cl C X.env) fp) kx (tD X.K E0W ek))
    (he : ∀ (s : Shared) (H : Hp) (C : Addr) (cl : List (Str × Addr)) (fp : List Addr), PE (X.blk s H scope (compEnvC scope cl C X.env) fp) vx (tD X.K E0W ev)) (hs : ∀ x, foldedSetIterable iter X.env x = pure x := by intro _; rfl) :
    PS X (.Assign [.Name y py] (.DictComp kx vx [⟨tg, iter, ifs, 0⟩] scope ps) sp) (tS X.K E0W (sSet i (dDComp it g (own.map (·.2)) tst ek ev))) := (ps_setDcD hc hN hy hl hw hi ok hg ht hk he hs).dimp fun D σ H ⟨hd, ι, S, ρ, at_, h⟩ =>
  t_dc hsl (tD_stepS (c := ⟨hd, ι, S, H⟩) at_ h fun u v c1 e1 a1 r1 h1 => PostS.nxt h1 (a1.set r1))
end
end DL
namespace DL
open PySem PySem.Spec PyProof.Rows L2
/-! ### xs += ys, xs a cell that is a list; ys a list or a tuple -/
theorem iadd_listW (l : Addr) (items : Array Value) (n : Nat) (b : Addr) (items2 : Array Value) (n2 : Nat) (dd2 : Option Addr) (sl2 : Array (Option Value)) (hs0 : ¬(!items.isEmpty && Builtin.List.listTooLong (items.size + items2.size)) = true) (hs1 : items.size ≤ sizeLine) (hs2 : items.size + items2.size ≤ sizeLine + 1) :
    Meets (Builtin.«list.__iadd__» ⟨[.ref l, .ref b], []⟩) (fun _ R s => s.heap.get? l = some { cls := .type "list", dict := none, data := .seq items n, slots := #[] } ∧ s.heap.get? b = some { cls := .type "list", dict := dd2, data := .seq items2 n2, slots := sl2 } ∧ R (.ok (.ret (Value.ref l))) { s with heap := s.heap.update l (Obj.mapSeq fun x => x ++ items2), toks := s.toks }) :=
  .of_wp fun prog w A R s h => by
    obtain ⟨hp, g, d, tk, os⟩ := s; obtain ⟨hl, hb, h⟩ := h; have f1 := AutoSeq1.idx_int; have f2 := AutoSeq1.sub_tuple_tuple; have f3 := AutoSeq1.sub_list_list; have f4 := AutoSeq1.sub_tuple_list; have f5 := AutoSeq1.sub_list_tuple;
    have hz' : (items ++ items2).size ≤ sizeLine + 1 := by rw [Array.size_append]; exact hs2
    wp_walk using (wpAny_updateSeq hl rfl (hz := hs1) (_hz' := hz')), wpAny_loadPart' hl, wpAny_loadPart' hb; exact ⟨_, rfl, h⟩
theorem iadd_tupleW (l : Addr) (items : Array Value) (n : Nat) (b : Addr) (items2 : Array Value) (n2 : Nat) (dd2 : Option Addr) (sl2 : Array (Option Value)) (hs0 : ¬(!items.isEmpty && Builtin.List.listTooLong (items.size + items2.size)) = true) (hs1 : items.size ≤ sizeLine) (hs2 : items.size + items2.size ≤ sizeLine + 1) :
    Meets (Builtin.«list.__iadd__» ⟨[.ref l, .ref b], []⟩) (fun _ R s => s.heap.get? l = some { cls := .type "list", dict := none, data := .seq items n, slots := #[] } ∧ s.heap.get? b = some { cls := .type "tuple", dict := dd2, data := .seq items2 n2, slots := sl2 } ∧ R (.ok (.ret (Value.ref l))) { s with heap := s.heap.update l (Obj.mapSeq fun x => x ++ items2), toks := s.toks }) :=
  .of_wp fun prog w A R s h => by
    obtain ⟨hp, g, d, tk, os⟩ := s; obtain ⟨hl, hb, h⟩ := h; have f1 := AutoSeq1.idx_int; have f2 := AutoSeq1.sub_tuple_tuple; have f3 := AutoSeq1.sub_list_list; have f4 := AutoSeq1.sub_tuple_list; have f5 := AutoSeq1.sub_list_tuple;
    have hz' : (items ++ items2).size ≤ sizeLine + 1 := by rw [Array.size_append]; exact hs2
    wp_walk using (wpAny_updateSeq hl rfl (hz := hs1) (_hz' := hz')), wpAny_loadPart' hl, wpAny_loadPart' hb; exact ⟨_, rfl, h⟩
theorem binaryOp1_none2 {M : Model} {A : Around} {E : Value → Shared → Prop} {s : Shared} {a b : Value} {T U nm : String} {Q : Option Value → Shared → Prop} (ha : s.TypeIs a T) (hb : s.TypeIs b U)
    (hT : fillsNumberSlot (.type T) nm = pure false) (hU : fillsNumberSlot (.type U) nm = pure false) (hTU : (Value.type T == Value.type U) = false) (h : Q none s) : wpAny M A (binaryOp1 nm a b) Q E s := by
  simp only [binaryOp1]
  refine wpAny_bind (wpAny_typeOf ha (wpAny_bind (wpAny_typeOf hb (wpAny_bind (wpAny_of_eq hT ?_)))))
  simp only [hTU, Bool.false_eq_true, if_false]
  refine wpAny_bind (wpAny_of_eq hU ?_)
  simp only [pure_bind, Bool.false_and, Bool.false_eq_true, if_false, Bool.not_false, Bool.and_self]
  exact wpAny_pure h
theorem iadd_roadT {M : Model} {A : Around} {E : Value → Shared → Prop} {s : Shared} {a b : Value} {Q : Value → Shared → Prop} (ha : s.TypeIs a "list") (hb : s.TypeIs b "tuple") (hc : wpAny M A (call (.builtin "list.__iadd__") [a, b]) Q E s) : wpAny M A (inplaceOp .Add a b) Q E s := by
  have hsl : typeLookup (.type "list") (dunderI "add") = pure (some (.builtin "list.__iadd__")) := PySem.F.slot_list_iadd.lookup
  have hsq : isSeqSlot (some (.builtin "list.__iadd__")) = true := by decide +kernel
  have hfi : fillsInplaceSlot (.type "list") "add" (Operator.Add == .Add) = pure false := by
    unfold fillsInplaceSlot
    show (typeLookup (.type "list") (dunderI "add") >>= fun fi => pure (fi.isSome && !isSeqSlot fi)) = pure false
    rw [hsl]
    show (pure (true && !isSeqSlot (some (.builtin "list.__iadd__"))) : Sem Bool) = pure false
    rw [hsq] <;> rfl
  have hsi : seqSlot? (.type "list") (dunderI "add") = pure (some (.builtin "list.__iadd__")) := PySem.seqSlot_of hsl hsq
  unfold inplaceOp
  refine wpAny_holding ?_
  refine wpAny_bind (wpAny_typeOf ha (wpAny_bind (wpAny_of_eq hfi ?_)))
  show wpAny M A (if false = true then _ else _) Q E s
  rw [if_neg Bool.false_ne_true]
  refine wpAny_bind (binaryOp1_none2 (nm := "add") ha hb noFill_list_add noFill_tuple_add (by decide +kernel) ?_)
  refine wpAny_bind (wpAny_of_eq hsi ?_)
  exact wpAny_bind (wpAny_rule hc)
def rExtD (K : PySem.W.Frag) : R2 := fun x y H Q => ∃ l b xs zs, x = .ref l ∧ y = .ref b ∧ H l = some (.lst xs) ∧ (SqL K H b zs ∨ SqT K H b zs) ∧ xs.length + zs.length ≤ sizeLine ∧ Q (.ref l) (upd H l (.lst (xs ++ zs)))
theorem iop_extD {X : Cx} : OpR X (inplaceOp .Add) (rExtD X.K) := by
  intro pins s σ H x y v u Q I rx ry h
  obtain ⟨l, b, xs, zs, rfl, rfl, hH, hB, hz, q⟩ := h
  cases rx
  cases ry
  obtain ⟨z, its, n, r, hl, e⟩ := I.lstM hH
  rcases hB with hB | hB
  · obtain ⟨its2, r2, ⟨⟨cls2, dd2, data2, sl2⟩, n2, e2, hc2, hd2, hdt⟩, z2⟩ := I.list hB
    have hl2 := r2.length
    simp only at hc2 hd2 hdt
    subst hc2 hd2 hdt
    have hsz : its.toArray.size + its2.toArray.size ≤ sizeLine := by rw [List.size_toArray, List.size_toArray]; omega
    have hlong : ¬ (!its.toArray.isEmpty && Builtin.List.listTooLong (its.toArray.size + its2.toArray.size)) = true := by
      rw [notLongL hsz, Bool.and_false]
      exact Bool.false_ne_true
    refine iadd_road ⟨_, e, rfl⟩ ⟨_, e2, rfl⟩ (call_meets PySem.F.slot_list_iadd ⟨_, e, rfl⟩ PySem.F.entry_list_iadd (PySem.F.args_list_iadd_2 _ _)
      (iadd_listW l its.toArray n b its2.toArray n2 none sl2 hlong (by rw [List.size_toArray]; omega) (by omega)) ⟨e, e2, ?_⟩)
    refine ⟨.ref l, _, I.lset (its' := its ++ its2) (t' := s.toks) hH e (by simp) (r.append r2) ?_, rfl, q⟩
    rw [List.length_append]
    omega
  · obtain ⟨its2, r2, ⟨⟨cls2, dd2, data2, sl2⟩, e2, hc2, n2, hdt⟩, z2⟩ := I.tuple hB
    have hl2 := r2.length
    simp only at hc2 hdt
    subst hc2 hdt
    have hsz : its.toArray.size + its2.toArray.size ≤ sizeLine := by rw [List.size_toArray, List.size_toArray]; omega
    have hlong : ¬ (!its.toArray.isEmpty && Builtin.List.listTooLong (its.toArray.size + its2.toArray.size)) = true := by
      rw [notLongL hsz, Bool.and_false]
      exact Bool.false_ne_true
    refine iadd_roadT ⟨_, e, rfl⟩ ⟨_, e2, rfl⟩ (call_meets PySem.F.slot_list_iadd ⟨_, e, rfl⟩ PySem.F.entry_list_iadd (PySem.F.args_list_iadd_2 _ _)
      (iadd_tupleW l its.toArray n b its2.toArray n2 dd2 sl2 hlong (by rw [List.size_toArray]; omega) (by omega)) ⟨e, e2, ?_⟩)
    refine ⟨.ref l, _, I.lset (its' := its ++ its2) (t' := s.toks) hH e (by simp) (r.append r2) ?_, rfl, q⟩
    rw [List.length_append]
    omega
def exSeq (w : U) (S : Sto) : Option (List D) := match w with
  | .d (.tuple ys) => some ys
  | w => lstOf w S
def extD : Op2 := fun u w S => match u with
  | .r n => (match S[n]?, exSeq w S with
    | some (.lst xs), some ys => if xs.length + ys.length ≤ 16777216 then .ok (.r n) (S.set n (.lst (xs ++ ys))) else .bad
    | _, _ => .bad)
  | _ => .bad
theorem exSeq_rep {K : PySem.W.Frag} {c : Cfg} {y : V} {w : U} {ys : List D} (o : OkC K c) (ry : RepU K c y w) (h : exSeq w c.S = some ys) : ∃ b ws, y = .ref b ∧ (SqL K c.H b ws ∨ SqT K c.H b ws) ∧ RepA K c ws ys := by
  unfold exSeq at h
  split at h
  · cases h
    obtain ⟨b, ws, rfl, e2, r2⟩ := sqT_of ry
    exact ⟨b, ws, rfl, .inr e2, r2⟩
  · obtain ⟨b, ws, rfl, e2, r2⟩ := lstOf_rep o ry h
    exact ⟨b, ws, rfl, .inl (.inl (.inl e2)), r2⟩
theorem lk_ext {K : PySem.W.Frag} {E : EXW} : Lk2 K E (rExtD K) extD := by
  intro c x y u w Q o rx ry h
  unfold extD at h
  split at h
  · split at h
    · rename_i n _ _ xs ys hx hy
      split at h
      · rename_i hl
        obtain ⟨q, vs, rfl, q1, q2, q3⟩ := cell_lst o rx hx
        obtain ⟨b, ws, rfl, e2, r2⟩ := exSeq_rep o ry hy
        refine ⟨q, b, vs, ws, rfl, rfl, q2, e2, by rw [sizeLine_eq, q3.length, r2.length]; exact hl, ?_⟩
        have hc : CellOk K ⟨c.hd, c.ι, c.S.set n (.lst (xs ++ ys)), upd c.H q (.lst (vs ++ ws))⟩ q (.lst (xs ++ ys)) :=
          ⟨_, upd_same, RepA.ext (ext_set o q1 hx rfl).toKeep (q3.append r2)⟩
        exact h _ c.ι _ (ext_set o q1 hx rfl) (ok_set o q1 hx rfl hc) (RepU.ext (ext_set o q1 hx rfl) rx)
      · exact h.elim
    · exact h.elim
  · exact h.elim
/-! ### xs[i] += e, xs a cell that is a list, its items ints -/
theorem pget_list {X : Cx} : PGet X (fun o i H Q => ∃ p xs k v, o = .ref p ∧ i = .int k ∧ SqL X.K H p xs ∧ atI xs k = some v ∧ Q v H) := by
  intro pins s σ H o i ov iv Q I ro ri h
  obtain ⟨p, xs, i, z, rfl, rfl, hq, he, q⟩ := h
  cases ro
  obtain ⟨t, rfl⟩ := ri
  obtain ⟨its, r, pl, hz⟩ := I.list hq
  obtain ⟨j, h1, h2, h3, h4, h5⟩ := atI_get he
  obtain ⟨w, ew, rw'⟩ := r.get h2
  have hl := r.length
  have hn := line63
  have fin : EP X pins σ Q w s := ⟨z, H, I, rw', q⟩
  by_cases h0 : 0 ≤ i
  · have hj : i.toNat = j := by
      rw [seqIndex_of h0 h5] at h1
      exact Option.some.inj h1
    exact wpAny_getItem_list pl.isList h0 (by omega) (by rw [hj]; simpa using ew) fin
  · have hj : (i + (its.toArray.size : Int)).toNat = j := by
      rw [seqIndex_neg (by omega) h4] at h1
      rw [List.size_toArray, ← hl]
      exact Option.some.inj h1
    exact wpAny_getItem_list_neg pl.isList (by omega) (by rw [List.size_toArray] <;> omega) (by omega) (by rw [hj]; simpa using ew) fin
def augI (h : Int → Int → Int) (k : DE) (ρ : Rho) (w y : U) (S : Sto) : Rt := match w, y with
  | .r n, .d (.int i) => (match S[n]? with
    | some (.lst xs) => (match atI xs i with
      | some (.int a) => (k ρ S).toRt fun z S4 => (match z with
        | .d (.int b) => (setN w y (.int (h a b)) S4).toRt fun _ S5 => .nx ρ S5
        | _ => .bad)
      | _ => .bad)
    | _ => .bad)
  | _, _ => .bad
def sAugI (h : Int → Int → Int) (f g k : DE) : DS := fun ρ S => (f ρ S).toRt fun w S1 => (g ρ S1).toRt fun y S2 => augI h k ρ w y S2
theorem sd_augI {X : Cx} {E : EXW} {o a e : Expr} {f g k : DE} {op : Operator} {hh : Int → Int → Int} {tpos pos : Pos} (ho : PE X o (tD X.K E f)) (hi : PE X a (tD X.K E g)) (hp : OpR X (inplaceOp op) (rI0 fun i j => .int (hh i j))) (he : PE X e (tD X.K E k))
    (ha : ∀ ov iv new, augStore a ov iv new = (do holding [new, ov, iv] (setItem ov iv new); release [new, ov, iv] []; pure .next) := by intros; rfl) : PS X (.AugAssign (.Subscript o a tpos) op e pos) (tS X.K E (sAugI hh f g k)) :=
  (ps_augS (tip := rI0 fun i j => .int (hh i j)) ho hi pget_list he (fun pins s σ H x y v u Q I r1 r2 h => hp pins s σ H x y v u Q I r1 r2 h) set_list ha).dimp fun D σ H ⟨hd, ι, S, ρ, at_, h⟩ => by
    refine tD_stepS (c := ⟨hd, ι, S, H⟩) at_ h fun w ov c1 e1 a1 r1 h1 => ?_
    refine tD_stepS (c := c1) a1 h1 fun y iv c2 e2 a2 r2 h2 => ?_
    unfold augI at h2
    split at h2
    · split at h2
      · rename_i n i _ xs hx
        split at h2
        · rename_i a ea
          obtain ⟨q, vs, eq, q1, q2, q3⟩ := cell_lst a2.ok (r1.ext e2) hx
          subst eq
          obtain ⟨v, e3, r3⟩ := atI_rep q3 ea
          rw [rInt r2]
          cases r3
          refine ⟨q, vs, i, _, rfl, rfl, .inl (.inl q2), e3, tD_stepS (c := c2) a2 h2 fun z zv c4 e4 a4 r4 h4 => ?_⟩
          split at h4
          · rename_i b
            rw [rInt r4]
            refine ⟨a, b, rfl, rfl, ?_⟩
            unfold setN at h4
            split at h4
            · rename_i n' i' ew ey
              cases ew
              cases ey
              split at h4
              · rename_i ys hy
                split at h4
                · rename_i j hj
                  obtain ⟨q', ws, eq, w1, w2, w3⟩ := cell_lst (v := .ref q) a4.ok (RepU.ext (e2.trans e4) r1) hy
                  cases eq
                  refine ⟨q, ws, _, j, rfl, rfl, w2, by rw [w3.length]; exact hj, ?_⟩
                  have hc : CellOk X.K ⟨c4.hd, c4.ι, c4.S.set n (.lst (ys.set j (.int (hh a b)))), upd c4.H q (.lst (ws.set j (.int (hh a b))))⟩ q (.lst (ys.set j (.int (hh a b)))) :=
                    ⟨_, upd_same, RepA.ext (ext_set a4.ok w1 hy rfl).toKeep (RepA.set (.int _) j w3)⟩
                  exact h4 σ c4.ι _ (ext_set a4.ok w1 hy rfl) (a4.ext (ext_set a4.ok w1 hy rfl) (ok_set a4.ok w1 hy rfl hc))
                · exact h4.elim
              · exact h4.elim
            · rename_i hne; exact (hne _ _ rfl rfl).elim
          · exact h4.elim
        · exact h2.elim
      · exact h2.elim
    · exact h2.elim
/-! ### [..] * n, as a new cell -/
def mulC : Op2 := fun u w S => match w with
  | .d (.int k) => (match lstOf u S with
    | some xs => if -(2 ^ 63) ≤ k ∧ k < 2 ^ 63 ∧ xs.length * k.toNat ≤ 16777216 then .ok (.r S.length) (S ++ [.lst (List.replicate k.toNat xs).flatten]) else .bad
    | none => .bad)
  | _ => .bad
theorem lk_mulC {K : PySem.W.Frag} {E : EXW} : Lk2 K E rRep mulC := by
  intro c x y u w Q o rx ry h
  unfold mulC at h
  split at h
  · split at h
    · rename_i xs hl
      split at h
      · rename_i hC
        obtain ⟨q, vs, rfl, q1, q2⟩ := lstOf_rep o rx hl
        rw [rInt ry]
        exact ⟨q, _, vs, rfl, rfl, q1, hC.1, hC.2.1, by rw [sizeLine_eq, q2.length]; exact hC.2.2, fun p hp => Post.newCell h o hp ⟨_, upd_same, (reps_flat q2 _).ext (ext_cell o hp).toKeep⟩⟩
      · exact h.elim
    · exact h.elim
  · exact h.elim
end DL
namespace DL
open PySem PySem.Spec PyProof.Rows L2
section
variable {S : Sto} {xs : List D} {K : List Int} {L : List (List Int)} {b : Int}
@[simp] theorem itEnum_t : itEnum [.d (.tuple xs)] S = .ok (enumL xs) S := rfl
@[simp] theorem itEnum_l : itEnum [.d (.list xs)] S = .ok (enumL xs) S := rfl
theorem all_mapb {α : Type} (xs : List α) (f : α → Bool) : allN [.d (.list (xs.map fun x => .bool (f x)))] S = .ok (.d (.bool (xs.all f))) S := by
  have e : (xs.map fun x => PyData.bool (f x)) = (xs.map f).map .bool := by simp
  rw [e, all_b]
  simp
theorem any_ints {is : List Int} {i : Int} : ((is.map PyData.int).any fun z => PyData.eqv z (.int i)) = decide (i ∈ is) := by
  induction is with
  | nil => simp
  | cons j r ih =>
    simp only [List.map_cons, List.any_cons, ih, eqv_i, List.mem_cons]
    by_cases h : i = j
    · simp [h]
    · have h' : ¬ j = i := fun e => h e.symm
      simp [h, h']
theorem inD_ints {neg : Bool} {is : List Int} {i : Int} : inD neg (.d (.int i)) (.d (.tuple (is.map .int))) S = .ok (.d (.bool (if neg = true then !decide (i ∈ is) else decide (i ∈ is)))) S := by
  show (if SeqAt.shaped (.int i) = true ∧ SeqAt.shaped (.tuple (is.map .int)) = true then Rs.ok (U.d (.bool (if neg = true then !((is.map PyData.int).any fun z => PyData.eqv z (.int i)) else (is.map PyData.int).any fun z => PyData.eqv z (.int i)))) S else .bad) = _
  rw [if_pos ⟨rfl, shaped_ints.2⟩, any_ints]
theorem inD_intsL {neg : Bool} {is : List Int} {i : Int} : inD neg (.d (.int i)) (.d (.list (is.map .int))) S = .ok (.d (.bool (if neg = true then !decide (i ∈ is) else decide (i ∈ is)))) S := by
  show (if SeqAt.shaped (.int i) = true ∧ SeqAt.shaped (.list (is.map .int)) = true then Rs.ok (U.d (.bool (if neg = true then !((is.map PyData.int).any fun z => PyData.eqv z (.int i)) else (is.map PyData.int).any fun z => PyData.eqv z (.int i)))) S else .bad) = _
  rw [if_pos ⟨rfl, shaped_ints.1⟩, any_ints]
/-- the i-th -/
def kA (K : List Int) (i : Nat) : Int := K.getD i 0
def lA (L : List (List Int)) (i : Nat) : List Int := L.getD i []
/-- a key, a lock -/
def keyD (K : List Int) : D := .tuple (K.map .int)
def lockD (L : List (List Int)) : D := .tuple (L.map keyD)
theorem list_range {α : Type} (d : α) (xs : List α) : xs = (List.range xs.length).map fun i => xs.getD i d := by
  apply List.ext_getElem
  · simp
  · intro i h1 h2
    simp [List.getD_eq_getElem?_getD, List.getElem?_eq_getElem h1]
theorem enumL_ints : enumL (K.map .int) = (List.range K.length).map fun i => .tuple [.int (i : Nat), .int (kA K i)] := by
  apply List.ext_getElem
  · simp [enumL]
  · intro i h1 h2
    have hi : i < K.length := by simpa [enumL] using h1
    simp [enumL, kA, List.getD_eq_getElem?_getD, List.getElem?_eq_getElem hi]
theorem zipL_key {n : Nat} (h1 : K.length = n) (h2 : L.length = n) : zipL (K.map .int) (L.map keyD) = (List.range n).map fun i => .tuple [.int (kA K i), keyD (lA L i)] := by
  apply List.ext_getElem
  · simp [zipL, h1, h2]
  · intro i g1 g2
    have hi : i < n := by simpa using g2
    have hk : i < K.length := by omega
    have hl : i < L.length := by omega
    simp [zipL, kA, lA, List.getD_eq_getElem?_getD, List.getElem?_eq_getElem hk, List.getElem?_eq_getElem hl]
theorem zipL_lk {n : Nat} (h1 : K.length = n) (h2 : L.length = n) : zipL (L.map keyD) (K.map .int) = (List.range n).map fun i => .tuple [keyD (lA L i), .int (kA K i)] := by
  apply List.ext_getElem
  · simp [zipL, h1, h2]
  · intro i g1 g2
    have hi : i < n := by simpa using g2
    have hk : i < K.length := by omega
    have hl : i < L.length := by omega
    simp [zipL, kA, lA, List.getD_eq_getElem?_getD, List.getElem?_eq_getElem hk, List.getElem?_eq_getElem hl]
theorem rngL_0 (n : Nat) : rngL 0 n = (List.range n).map fun i => .int (i : Nat) := by
  unfold rngL
  simp
theorem key_at {i : Nat} (h : i < K.length) : ixD (.d (keyD K)) (.d (.int (i : Nat))) S = .ok (.d (.int (kA K i))) S := by
  unfold keyD
  rw [ixD_t, atI_nat (by simpa using h)]
  simp [kA, lA, List.getD_eq_getElem?_getD, List.getElem?_eq_getElem h]
theorem lock_at {i : Nat} (h : i < L.length) : ixD (.d (lockD L)) (.d (.int (i : Nat))) S = .ok (.d (keyD (lA L i))) S := by
  unfold lockD
  rw [ixD_t, atI_nat (by simpa using h)]
  simp [kA, lA, List.getD_eq_getElem?_getD, List.getElem?_eq_getElem h]
@[simp] theorem key_len : lenN [.d (keyD K)] S = .ok (.d (.int K.length)) S := by simp [keyD]
@[simp] theorem lock_len : lenN [.d (lockD L)] S = .ok (.d (.int L.length)) S := by simp [lockD]
theorem key_can : (keyD K).canLay0 = true := by
  simp only [keyD, PyData.canLay0]
  exact canAll_iff.mpr fun x hx => by
    obtain ⟨i, _, rfl⟩ := List.mem_map.mp hx
    rfl
theorem lock_can : (lockD L).canLay0 = true := by
  simp only [lockD, PyData.canLay0]
  exact canAll_iff.mpr fun x hx => by
    obtain ⟨i, _, rfl⟩ := List.mem_map.mp hx
    exact key_can
/-- the places at which a key is barred -/
def bad (K : List Int) (L : List (List Int)) : List Nat := (List.range K.length).filter fun i => !decide (kA K i ∈ lA L i)
def opensB (K : List Int) (L : List (List Int)) : Bool := (List.range K.length).all fun i => decide (kA K i ∈ lA L i)
theorem opensB_iff : opensB K L = true ↔ bad K L = [] := by
  simp [opensB, bad]
theorem opensB_eq : opensB K L = (bad K L).isEmpty := by
  rw [Bool.eq_iff_iff, opensB_iff, List.isEmpty_iff]
def natD (is : List Nat) : D := .tuple (is.map fun i => .int (i : Nat))
theorem natD_ints (is : List Nat) : natD is = .tuple ((is.map fun i : Nat => (i : Int)).map .int) := by simp [natD]
theorem natD_shaped {is : List Nat} : SeqAt.shaped (natD is) = true := by rw [natD_ints]; exact shaped_ints.2
theorem natD_can {is : List Nat} : (natD is).canLay0 = true := by rw [natD_ints]; exact can_tup can_ints
/-- a set of cuts -/
structure SetI (b : Int) (s : List Int) : Prop where
  ne : s ≠ []
  mem : ∀ i, i ∈ s → 0 ≤ i ∧ i < b
  up : s.Pairwise (· < ·)
theorem sort_ded_setI {s : List Int} (h1 : s ≠ []) (h2 : ∀ i, i ∈ s → 0 ≤ i ∧ i < b) : SetI b (sortI (ded s)) := by
  refine ⟨fun e => ?_, fun i hi => h2 i (mem_ded.mp ((sortI_perm _).mem_iff.mp hi)), sortI_strict (ded_nodup _)⟩
  cases s with
  | nil => exact h1 rfl
  | cons i r =>
    have h3 := (sortI_perm (ded (i :: r))).mem_iff.mpr (mem_ded.mpr (List.mem_cons_self (a := i) (l := r)))
    rw [e] at h3
    cases h3
theorem mem_sort_ded {s : List Int} {i : Int} : i ∈ sortI (ded s) ↔ i ∈ s := by rw [(sortI_perm _).mem_iff, mem_ded]
theorem ded_lt {s : List Int} (hb : 0 ≤ b) (h2 : ∀ i, i ∈ s → 0 ≤ i ∧ i < b) : ((ded s).length : Int) ≤ b := by
  have := nodup_range_len b.toNat (ded s) (ded_nodup s) fun i hi => by
    have := h2 i (mem_ded.mp hi)
    omega
  omega
theorem SetI.len {s : List Int} (h : SetI b s) : (s.length : Int) ≤ b := by
  have hb : 0 ≤ b := by
    obtain ⟨i, hi⟩ := List.exists_mem_of_ne_nil s h.ne
    have := h.mem i hi
    omega
  have := nodup_range_len b.toNat s (h.up.imp fun h => by omega) fun i hi => by
    have := h.mem i hi
    omega
  omega
theorem cut_to {α : Type} {xs : List α} {n : Nat} (h : n ≤ xs.length) : cutL xs none (some (n : Int)) = xs.take n := by
  unfold cutL
  rw [HT.sIx_nat, HT.sIx_none]
  simp [Nat.min_eq_left h]
theorem cut_from {α : Type} {xs : List α} {n : Nat} (h : n ≤ xs.length) : cutL xs (some (n : Int)) none = xs.drop n := by
  unfold cutL
  rw [HT.sIx_nat, HT.sIx_none, Nat.min_eq_left h]
  exact List.take_of_length_le (by simp)
theorem set_cut {α : Type} {xs : List α} {n : Nat} {x : α} (h : n < xs.length) : xs.take n ++ ([x] ++ xs.drop (n + 1)) = xs.set n x := by
  rw [List.set_eq_take_append_cons_drop, if_pos h]
  rfl
end
theorem itR1_nat {n : Nat} {S : Sto} (h : n ≤ 16777216) : itR1 [.d (.int (n : Int))] S = .ok ((List.range n).map fun i : Nat => .int (i : Nat)) S := by
  rw [itR1_i, if_pos (by constructor <;> omega)]
  simp [rngL]
theorem itR1_pos {b : Int} {S : Sto} (h0 : 0 ≤ b) (h : b ≤ 16777216) : itR1 [.d (.int b)] S = .ok ((List.range b.toNat).map fun i : Nat => .int (i : Nat)) S := by
  have := itR1_nat (n := b.toNat) (S := S) (by omega)
  rwa [Int.toNat_of_nonneg h0] at this
/-- one that draws, item by item -/
theorem compL_rel {α β : Type} {tg : Tg} {own : List Nat} {tst : DT} {el : DE} {ρ : Rho} (g : α → D) (h : β → D) (I : Sto → Prop) (φ : α → β → Prop) : ∀ (L : List α) (S : Sto), I S →
    (∀ a, a ∈ L → ∀ S, I S → ∃ ρ1, tg (g a) (wipeR ρ own) = some ρ1 ∧ tst ρ1 S = .ok true S ∧ ∃ b S', el ρ1 S = .ok (.d (h b)) S' ∧ I S' ∧ φ a b) →
    ∃ (W : List β) (S' : Sto), compL tg own tst el ρ (L.map g) S = .ok (W.map h) S' ∧ I S' ∧ W.length = L.length ∧ ∀ (i : Nat) (a : α) (b : β), L[i]? = some a → W[i]? = some b → φ a b
  | [], S, i, _ => ⟨[], S, rfl, i, rfl, fun i a b e => by simp at e⟩
  | x :: xs, S, i, hh => by
    obtain ⟨ρ1, h1, h2, y, S1, h3, i1, hy⟩ := hh x List.mem_cons_self S i
    obtain ⟨ys, S2, h4, i2, l, hys⟩ := compL_rel (tg := tg) (own := own) (tst := tst) (el := el) (ρ := ρ) g h I φ xs S1 i1 fun y hy => hh y (List.mem_cons_of_mem _ hy)
    refine ⟨y :: ys, S2, ?_, i2, by simp [l], fun j a b ha hb => ?_⟩
    · rw [List.map_cons]
      unfold compL
      simp only [h1, h2, bind_ok, if_true, h3, toD_d, h4, List.map_cons]
    · cases j with
      | zero =>
        simp at ha hb
        subst ha hb
        exact hy
      | succ j => exact hys j a b (by simpa using ha) (by simpa using hb)
end DL
namespace DL
open PySem PySem.Spec PyProof.Rows L2
@[simp] theorem sUnp_ap {f : DE} {t : Tg} {ρ : Rho} {S : Sto} : sUnp f t ρ S = (f ρ S).goR fun u S1 => (toD u S1).goR fun d S2 => match t d ρ with
  | some ρ' => .nx ρ' S2
  | none => .bad := rfl
@[simp] theorem sPar3_ap {i j l : Nat} {t : DA} {ρ : Rho} {S : Sto} : sPar3 i j l t ρ S = (t ρ S).goR fun us S' => match us with
  | [u, w, z] => .nx (((ρ.set i (some u)).set j (some w)).set l (some z)) S'
  | _ => .bad := rfl
end DL
namespace DL
open PySem PySem.Spec PyProof.Rows L2
section
variable {S : Sto} {ρ : Rho} {xs ys : List D} {kvs : List (D × D)} {k x : D} {i : Int}
/-! ### dicts, list(zip(..)), comprehensions of two clauses: how they compute -/
@[simp] theorem listZip_l : listZip [.d (.list xs), .d (.list ys)] S = .ok (.d (.list (zipL xs ys))) S := rfl
@[simp] theorem ixA_t : ixA (.d (.tuple xs)) (.d k) S = ixD (.d (.tuple xs)) (.d k) S := rfl
@[simp] theorem ixA_l : ixA (.d (.list xs)) (.d k) S = ixD (.d (.list xs)) (.d k) S := rfl
@[simp] theorem ixA_r {n : Nat} : ixA (.r n) (.d k) S = ixD (.r n) (.d k) S := rfl
@[simp] theorem dItK_ap {f : DE} : dItK f ρ S = (f ρ S).bnd itKeys := rfl
@[simp] theorem dDComp_ap {it : DI} {tg : Tg} {own : List Nat} {tst : DT} {kx vx : DE} : dDComp it tg own tst kx vx ρ S = (it ρ S).bnd fun ds S1 => if ds.length ≤ 16777216 then (dcL tg own tst kx vx ρ ds [] S1).bnd fun kvs S2 => .ok (.d (dictK kvs)) S2 else .bad := rfl
@[simp] theorem dComp2_ap {it it1 : DI} {tg tg1 : Tg} {own own1 : List Nat} {tst tst1 : DT} {el : DE} : dComp2 it tg own tst it1 tg1 own1 tst1 el ρ S = (it ρ S).bnd fun ds S1 => (comp2L tg own tst it1 tg1 own1 tst1 el ρ ds [] S1).bnd fun ys S2 => .ok (.d (.list ys)) S2 := rfl
end
/-- a dict from keys that are texts -/
def sdD {α : Type} (f : α → D) (kvs : List (Str × α)) : D := .dict (kvs.map fun kv => (.str kv.1, f kv.2))
section
variable {α β : Type} {S : Sto} {ρ : Rho} {f : α → D}
theorem itKeys_s {kvs : List (Str × α)} : itKeys (.d (sdD f kvs)) S = .ok (kvs.map fun kv => .str kv.1) S := by
  unfold sdD itKeys
  cases kvs with
  | nil => rfl
  | cons kv r => simp
def getS (kvs : List (Str × α)) (k : Str) : Option α := (kvs.find? fun kv => decide (kv.1 = k)).map (·.2)
theorem getK_s (kvs : List (Str × α)) (k : Str) : getK (kvs.map fun kv => (PyData.str kv.1, f kv.2)) (.str k) = (getS kvs k).map f := by
  induction kvs with
  | nil => rfl
  | cons kv r ih =>
    unfold getK getS at ih ⊢
    rw [List.map_cons, List.find?_cons, List.find?_cons]
    by_cases h : kv.1 = k
    · simp [eqKey, h]
    · simp only [eqKey, h, decide_false]
      exact ih
theorem ixA_s {kvs : List (Str × α)} {k : Str} {x : α} (h : getS kvs k = some x) : ixA (.d (sdD f kvs)) (.d (.str k)) S = .ok (.d (f x)) S := by
  unfold sdD ixA
  simp only []
  unfold getD'
  simp only [keyOf, getK_s, h, Option.map_some]
theorem getS_mem {kvs : List (Str × α)} {k : Str} {x : α} (hn : (kvs.map (·.1)).Nodup) (h : (k, x) ∈ kvs) : getS kvs k = some x := by
  induction kvs with
  | nil => cases h
  | cons kv r ih =>
    unfold getS at ih ⊢
    rw [List.find?_cons]
    rw [List.map_cons, List.nodup_cons] at hn
    rcases List.mem_cons.mp h with rfl | h
    · simp
    · have : kv.1 ≠ k := fun e => hn.1 (by rw [e]; exact List.mem_map.mpr ⟨_, h, rfl⟩)
      simp only [this, decide_false]
      exact ih hn.2 h
theorem putG_new {β : Type} {acc : List (Key × β)} {k : Key} {v : β} (h : k ∉ acc.map (·.1)) : putG acc k v = acc ++ [(k, v)] := by
  unfold putG
  rw [if_neg]
  intro z
  rw [List.any_eq_true] at z
  obtain ⟨kv, hm, e⟩ := z
  exact h (List.mem_map.mpr ⟨kv, hm, by simpa using e⟩)
/-- a dict comprehension over distinct texts -/
theorem dcL_s {γ : Type} {tg : Tg} {own : List Nat} {kx vx : DE} (g : γ → D) (kk : γ → Str) (vv : γ → D) : ∀ (L : List γ) (acc : List (Key × D)), (∀ q, q ∈ L → ∃ ρ1, tg (g q) (wipeR ρ own) = some ρ1 ∧ kx ρ1 S = .ok (.d (.str (kk q))) S ∧ vx ρ1 S = .ok (.d (vv q)) S) →
    (L.map kk).Nodup → (∀ q, q ∈ L → (Sum.inr (kk q) : Key) ∉ acc.map (·.1)) → dcL tg own tstY kx vx ρ (L.map g) acc S = .ok (acc ++ L.map fun q => (.inr (kk q), vv q)) S
  | [], acc, _, _, _ => by simp [dcL]
  | q :: L, acc, h, hn, hf => by
    obtain ⟨ρ1, h1, h2, h3⟩ := h q (by simp)
    rw [List.map_cons] at hn
    have hn' := List.nodup_cons.mp hn
    have ih := dcL_s g kk vv L (acc ++ [(.inr (kk q), vv q)]) (fun q hq => h q (List.mem_cons_of_mem _ hq)) hn'.2 fun q' hq' => by
      rw [List.map_append, List.mem_append]
      rintro (z | z)
      · exact hf q' (List.mem_cons_of_mem _ hq') z
      · simp at z
        exact hn'.1 (List.mem_map.mpr ⟨q', hq', z⟩)
    rw [List.map_cons, dcL, h1]
    simp only [tstY_ap, bind_ok, if_true, h2, keyOf, h3, toD_d]
    rw [putG_new (hf q (by simp)), ih]
    simp
theorem dictK_s {γ : Type} (L : List γ) (kk : γ → Str) (vv : γ → D) : dictK (L.map fun q => ((.inr (kk q) : Key), vv q)) = .dict (L.map fun q => (.str (kk q), vv q)) := by
  simp [dictK, kD, Function.comp_def]
/-- a comprehension of two clauses with no tests, nothing changed -/
theorem comp2L_map {γ : Type} {tg tg1 : Tg} {own own1 : List Nat} {it1 : DI} {el : DE} {tst tst1 : DT} (g : γ → D) (hd : γ → List D) (r : γ → List D) (n : Nat) : ∀ (L : List γ) (acc : List D), (∀ q, q ∈ L → ∃ ρ1, tg (g q) (wipeR ρ own) = some ρ1 ∧ tst ρ1 S = .ok true S ∧ it1 ρ1 S = .ok (hd q) S ∧ compL tg1 own1 tst1 el ρ1 (hd q) S = .ok (r q) S ∧ (hd q).length ≤ n ∧ (r q).length ≤ n) →
    acc.length + n * L.length ≤ 16777216 → comp2L tg own tst it1 tg1 own1 tst1 el ρ (L.map g) acc S = .ok (acc ++ L.flatMap r) S
  | [], acc, _, _ => by simp [comp2L]
  | q :: L, acc, h, hl => by
    obtain ⟨ρ1, h1, h2, h3, h4, h5, h6⟩ := h q (by simp)
    rw [List.length_cons, Nat.mul_succ] at hl
    have ih := comp2L_map g hd r n L (acc ++ r q) (fun q hq => h q (List.mem_cons_of_mem _ hq)) (by rw [List.length_append]; omega)
    rw [List.map_cons, comp2L, h1]
    simp only [h2, bind_ok, if_true, h3]
    rw [if_pos (by omega), h4, bind_ok, ih]
    simp
theorem getS_some {kvs : List (Str × α)} {k : Str} : (getS kvs k).isSome = decide (k ∈ kvs.map (·.1)) := by
  unfold getS
  rw [Option.isSome_map, Bool.eq_iff_iff, List.find?_isSome]
  simp
theorem inA_s {neg : Bool} {kvs : List (Str × α)} {k : Str} (h : kvs ≠ []) : inA neg (.d (.str k)) (.d (sdD f kvs)) S = .ok (.d (.bool (if neg = true then !decide (k ∈ kvs.map (·.1)) else decide (k ∈ kvs.map (·.1))))) S := by
  cases kvs with
  | nil => exact absurd rfl h
  | cons kv r =>
    have e := getK_s (f := f) (kv :: r) k
    have e2 := getS_some (kvs := kv :: r) (k := k)
    rw [List.map_cons] at e
    unfold sdD inA
    simp only [List.map_cons, keyOf, e, Option.isSome_map, e2]
end
/-! ### texts in order -/
def sLt (x y : Str) : Bool := PySem.W.dataLt (.str x) (.str y)
theorem sLt_irr (x : Str) : sLt x x = false := (PyProof.Rows.listOrd PyProof.Rows.itemOrd).irrefl (PySem.W.keyToks (.str x))
theorem sLt_trans {x y z : Str} (h : sLt x y = true) (h2 : sLt y z = true) : sLt x z = true := (PyProof.Rows.listOrd PyProof.Rows.itemOrd).trans (PySem.W.keyToks (.str x)) (PySem.W.keyToks (.str y)) (PySem.W.keyToks (.str z)) h h2
theorem sLt_total {x y : Str} (h : sLt x y = false) (h2 : sLt y x = false) : x = y := by
  have e := (PyProof.Rows.listOrd PyProof.Rows.itemOrd).total (PySem.W.keyToks (.str x)) (PySem.W.keyToks (.str y)) h h2
  have e : [(Sum.inr x.cps.toList : Int ⊕ List Nat)] = [.inr y.cps.toList] := e
  exact PySem.W.str_of_cps (by simpa using e)
theorem ltD_s {x y : Str} {S : Sto} (h : PyData.strOk x = true) (h2 : PyData.strOk y = true) : ltD (.d (.str x)) (.d (.str y)) S = .ok (.d (.bool (sLt x y))) S := by
  unfold ltD ordD
  have : ordC (.str x) (.str y) = true := by simp [ordC, shaped_s h, shaped_s h2, PySem.W.alike]
  simp only [this, if_true, sLt]
theorem sort_strs {zs : List Str} (hn : zs.Nodup) : ∃ ys : List Str, sortL (zs.map .str) = ys.map .str ∧ ys.Perm zs ∧ ys.Pairwise fun x y => sLt x y = true := by
  obtain ⟨ys, e, _⟩ := map_of (ys := sortL (zs.map .str)) (g := PyData.str) (P := fun _ => True) fun y hy => by
    obtain ⟨z, hz, rfl⟩ := List.mem_map.mp (sortL_mem.mp hy)
    exact ⟨z, rfl, trivial⟩
  have hp : (ys.map PyData.str).Perm (zs.map .str) := by rw [← e]; exact List.mergeSort_perm _ _
  have hp2 : ys.Perm zs := by
    have := hp.map (fun d => match d with | PyData.str z => z | _ => "")
    simpa [Function.comp_def] using this
  refine ⟨ys, e, hp2, ?_⟩
  have hT := PySem.W.sortLe_total (PyProof.Rows.listOrd PyProof.Rows.itemOrd) false (fun b : D => PySem.W.keyToks (id b))
  have hs : (sortL (zs.map .str)).Pairwise fun a b => PySem.W.dataLe false id a b = true := List.pairwise_mergeSort hT.trans (fun a b => by rw [Bool.or_eq_true]; exact hT.total a b) _
  rw [e, List.pairwise_map] at hs
  have hn2 : ys.Nodup := hp2.nodup_iff.mpr hn
  refine (hs.and hn2).imp ?_
  rintro x y ⟨h1, h2⟩
  have h1 : (!(sLt y x)) = true := h1
  cases h3 : sLt x y with
  | true => rfl
  | false => exact absurd (sLt_total h3 (by simpa using h1)) h2
/-- one after another -/
def risS : List Str → Bool
  | x :: y :: r => sLt x y && risS (y :: r)
  | _ => true
theorem risS_pw : ∀ {zs : List Str}, risS zs = true ↔ zs.Pairwise fun x y => sLt x y = true
  | [] => by simp [risS]
  | [x] => by simp [risS]
  | x :: y :: r => by
    have ih := risS_pw (zs := y :: r)
    simp only [risS, Bool.and_eq_true, ih]
    rw [List.pairwise_cons (a := x)]
    constructor
    · rintro ⟨h1, h2⟩
      refine ⟨fun z hz => ?_, h2⟩
      rcases List.mem_cons.mp hz with rfl | hz
      · exact h1
      · exact sLt_trans h1 (List.rel_of_pairwise_cons h2 hz)
    · rintro ⟨h1, h2⟩
      exact ⟨h1 y (by simp), h2⟩
theorem risS_zip : ∀ (zs : List Str), (zs.zip zs.tail).all (fun q => sLt q.1 q.2) = risS zs
  | [] => rfl
  | [x] => rfl
  | x :: y :: r => by
    have ih := risS_zip (y :: r)
    simp only [List.tail_cons] at ih ⊢
    rw [List.zip_cons_cons, List.all_cons, ih]
    rfl
theorem pw_nodup {zs : List Str} (h : zs.Pairwise fun x y => sLt x y = true) : zs.Nodup := h.imp fun {a b} hab e => by
  subst e
  rw [sLt_irr] at hab
  cases hab
theorem zipL_strs (xs ys : List Str) : zipL (xs.map .str) (ys.map .str) = (xs.zip ys).map fun q => .tuple [.str q.1, .str q.2] := by
  unfold zipL
  rw [List.zip_map, List.map_map]
  rfl
/-! ### a cell at the end of the store -/
section
variable {C : Cell} {T : Sto} {xs : List D} {i : Int} {x : D}
theorem cellT_ix : ixD (.r (T.length + 1)) (.d (.int i)) (C :: (T ++ [.lst xs])) = (match atI xs i with
    | some x => .ok (.d x) (C :: (T ++ [.lst xs]))
    | none => .bad) := by
  have e : (C :: (T ++ [Cell.lst xs]))[T.length + 1]? = some (.lst xs) := by simp
  unfold ixD
  simp [lstOf, e] <;> rfl
theorem cellT_app : appN (T.length + 1) (.d x) (C :: (T ++ [.lst xs])) = if xs.length < 16777216 then .ok (.d .none) (C :: (T ++ [.lst (xs ++ [x])])) else .bad := by
  have e : (C :: (T ++ [Cell.lst xs]))[T.length + 1]? = some (.lst xs) := by simp
  unfold appN
  simp [e]
theorem cellT_isl : isLst (T.length + 1) (C :: (T ++ [.lst xs])) = true := by
  have e : (C :: (T ++ [Cell.lst xs]))[T.length + 1]? = some (.lst xs) := by simp
  unfold isLst
  rw [e]
theorem cellT_sort : sortedN [.r (T.length + 1)] (C :: (T ++ [.lst xs])) = if sortOk xs = true then .ok (.d (.list (sortL xs))) (C :: (T ++ [.lst xs])) else .bad := by
  have e : (C :: (T ++ [Cell.lst xs]))[T.length + 1]? = some (.lst xs) := by simp
  unfold sortedN seqLT
  simp [lstOf, e]
theorem cellT_toD : toD (.r (T.length + 1)) (C :: (T ++ [.lst xs])) = .ok (.list xs) (C :: (T ++ [.fz (.list xs)])) := by
  have e : (C :: (T ++ [Cell.lst xs]))[T.length + 1]? = some (.lst xs) := by simp
  unfold toD
  simp only [e, Cell.dat]
  simp
end
end DL
namespace DL
open PySem PySem.Spec PyProof.Rows L2
section
variable {X : Cx} {E : EXW} {K : PySem.W.Frag} {a b d e : Expr} {f g : DE} {pos : Pos}
/-! ### x, y, z = e, e2, e3 by way of a tuple -/
theorem sd_par3U {i j l : Nat} {x y z : Str} {px py pz pt : Pos} {kt k2 : Nat} {pt2 : Pos} {t : DA} (hc : X.calm = true) (hN : X.N.Nodup) (hi : X.N[i]? = some x) (hj : X.N[j]? = some y) (hl : X.N[l]? = some z)
    (hx : Loc X.env.scope x) (hy : Loc X.env.scope y) (hz : Loc X.env.scope z) (ha : PA X [a, b, d] (tA X.K E t))
    (hs : swapsWithSole [.Tuple [.Name x px, .Name y py, .Name z pz] kt pt] (.Tuple [a, b, d] k2 pt2) pos.line X.env = pure false := by rfl) (hw : swappedStores [.Tuple [.Name x px, .Name y py, .Name z pz] kt pt] (.Tuple [a, b, d] k2 pt2) X.env = pure none := by rfl)
    (h1 : (assignEach [.Tuple [.Name x px, .Name y py, .Name z pz] kt pt] X.env).map (·.2) = [assign (.Tuple [.Name x px, .Name y py, .Name z pz] kt pt) X.env] := by rfl)
    (hn : (assignEach [.Name x px, .Name y py, .Name z pz] X.env).length = 3 := by rfl) (hst : (assignEach [.Name x px, .Name y py, .Name z pz] X.env).findIdx? (·.1) = none := by rfl)
    (c1 : (assignEach [.Name x px, .Name y py, .Name z pz] X.env).map (·.2) = assign (.Name x px) X.env :: (assignEach [.Name y py, .Name z pz] X.env).map (·.2) := by rfl) (c2 : (assignEach [.Name y py, .Name z pz] X.env).map (·.2) = assign (.Name y py) X.env :: (assignEach [.Name z pz] X.env).map (·.2) := by rfl)
    (c3 : (assignEach [.Name z pz] X.env).map (·.2) = assign (.Name z pz) X.env :: (assignEach [] X.env).map (·.2) := by rfl)
    (hf : X.fn x = true ∨ X.env.scope.names.lookup x = some .local := by first | exact .inl rfl | exact .inr rfl | assumption) (hf2 : X.fn y = true ∨ X.env.scope.names.lookup y = some .local := by first | exact .inl rfl | exact .inr rfl | assumption)
    (hf3 : X.fn z = true ∨ X.env.scope.names.lookup z = some .local := by first | exact .inl rfl | exact .inr rfl | assumption) :
    PS X (.Assign [.Tuple [.Name x px, .Name y py, .Name z pz] kt pt] (.Tuple [a, b, d] k2 pt2) pos) (tS X.K E (sPar3 i j l t)) :=
  (ps_asg (pe_tup ha) (pg_tup hc (pgs_cons (pg_name hN hi hx hf) (pgs_cons (pg_name hN hj hy hf2) (pgs_cons (pg_name hN hl hz hf3) pgs_nil c3) c2) c1) hn hst) hs hw h1).dimp fun D σ H ⟨hd, ι, S, ρ, at_, h⟩ => by
  have h : PostS X.K E ⟨hd, ι, S, H⟩ D ((t ρ S).toRt fun us S' => match us with
    | [u, w, z] => .nx (((ρ.set i (some u)).set j (some w)).set l (some z)) S'
    | _ => .bad) := h
  refine tA_stepS (c := ⟨hd, ι, S, H⟩) at_ h fun us vs c1 e1 a1 r1 h1 => ?_
  split at h1
  · obtain ⟨v, w, q3, rfl, r1, r2, r3⟩ := us3 r1
    refine ⟨by rw [sizeLine_eq]; simp, fun q hq => ⟨q, [v, w, q3], rfl, .inl (.inl upd_same), rfl, v, [w, q3], rfl, w, [q3], rfl, q3, [], rfl, rfl, ?_⟩⟩
    have ex := ext_new (c := c1) (u := .tup [v, w, q3]) a1.ok hq
    have oo := ok_new (c := c1) (u := .tup [v, w, q3]) a1.ok hq
    exact PostS.nxt (c := ⟨c1.hd, c1.ι, c1.S, upd c1.H q (.tup [v, w, q3])⟩) (PostS.step h1 ex) ((((a1.ext ex oo).set (r1.ext ex)).set (r2.ext ex)).set (r3.ext ex))
  · exact h1.elim
/-! ### sorted(d), d with int keys, or with texts -/
def strKeys : List (D × D) → Option (List Str)
  | [] => some []
  | (.str i, _) :: r => (strKeys r).map (i :: ·)
  | _ :: _ => none
def sortedDA : OpN := fun us S => match us with
  | [.d (.dict kvs)] => (match intKeys kvs, strKeys kvs with
    | some ns, _ => if ns.length < 64 then .ok (.d (.list ((sortI ns).map .int))) S else .bad
    | none, some ks => if ks.length < 64 then .ok (.d (.list (sortL (ks.map .str)))) S else .bad
    | none, none => .bad)
  | _ => .bad
theorem strKeys_rep {c : Cfg} : ∀ {ds : List (D × D)} {vs : List (Key × V)} {ns : List Str}, RepK K c vs ds → strKeys ds = some ns → vs.map (·.1) = ns.map Sum.inr
  | [], _, _, r, h => by
    cases r
    cases h
    rfl
  | (kd, d) :: ds, _, ns, r, h => by
    cases r with
    | cons r1 r2 =>
      rename_i k v vs
      cases k with
      | inr i =>
        obtain ⟨ns', h1, h2⟩ := Option.map_eq_some_iff.mp (show (strKeys ds).map (i :: ·) = some ns from h)
        subst h2
        rw [List.map_cons, List.map_cons, strKeys_rep r2 h1]
      | inl s => cases h
theorem reps_strs {c : Cfg} : ∀ ns : List Str, RepA K c (ns.map V.str) (ns.map .str)
  | [] => .nil
  | n :: r => .cons (.str n) (reps_strs r)
theorem sortedS_pw : ∀ {ys : List Str}, sortedS ys = true → ys.Pairwise fun x y => sLt y x = false
  | [], _ => List.Pairwise.nil
  | [x], _ => by simp
  | x :: y :: r, h => by
    have h : (!ltCps y.cps.toList x.cps.toList && risingS y r) = true := h
    rw [Bool.and_eq_true] at h
    have ih := sortedS_pw (ys := y :: r) h.2
    have h1 : sLt y x = false := by
      have := h.1
      unfold sLt
      rw [PySem.W.dataLt_str]
      cases h5 : ltCps y.cps.toList x.cps.toList with
      | true => rw [h5] at this; cases this
      | false => exact (PyProof.Rows.ltCps_eq _ _).symm.trans h5
    rw [List.pairwise_cons (a := x)]
    refine ⟨fun z hz => ?_, ih⟩
    rcases List.mem_cons.mp hz with rfl | hz'
    · exact h1
    · have h2 := List.rel_of_pairwise_cons ih hz'
      cases h3 : sLt z x with
      | false => rfl
      | true =>
        cases h4 : sLt x y with
        | true => rw [sLt_trans h3 h4] at h2; cases h2
        | false =>
          have := sLt_total h4 h1
          rw [this] at h3
          rw [h3] at h2
          cases h2
theorem sortL_strs_eq {ys ks : List Str} (h1 : ys.Perm ks) (h2 : sortedS ys = true) : sortL (ks.map .str) = ys.map .str := by
  have hT := PySem.W.sortLe_total (PyProof.Rows.listOrd PyProof.Rows.itemOrd) false (fun b : D => PySem.W.keyToks (id b))
  have hs : (sortL (ks.map .str)).Pairwise fun a b => PySem.W.dataLe false id a b = true := List.pairwise_mergeSort hT.trans (fun a b => by rw [Bool.or_eq_true]; exact hT.total a b) _
  have hp : (sortL (ks.map .str)).Perm (ys.map .str) := (List.mergeSort_perm _ _).trans (h1.map _).symm
  have hy : (ys.map PyData.str).Pairwise fun a b => PySem.W.dataLe false id a b = true := by
    rw [List.pairwise_map]
    refine (sortedS_pw h2).imp fun {x y} h => ?_
    show (!(sLt y x)) = true
    rw [h]
    rfl
  refine List.Perm.eq_of_pairwise (fun a b ha hb e1 e2 => ?_) hs hy hp
  obtain ⟨x, _, rfl⟩ := List.mem_map.mp (hp.mem_iff.mp ha)
  obtain ⟨y, _, rfl⟩ := List.mem_map.mp hb
  have e1 : (!(sLt y x)) = true := e1
  have e2 : (!(sLt x y)) = true := e2
  rw [sLt_total (x := x) (y := y) (by simpa using e2) (by simpa using e1)]
theorem lk_sortedDA : LkN K E (fun xs H Q => (∃ (a : Addr) (kvs : List (Key × V)) (ks : List Int), xs = [.ref a] ∧ Rd H a (.dK kvs) ∧ kvs.map (·.1) = ks.map Sum.inl ∧ ks.length < 64 ∧
    ∀ (ys : List Int) (p : Addr), ys.Perm ks → ys.Pairwise (· ≤ ·) → H p = none → Q (.ref p) (upd H p (.lst (ys.map V.int)))) ∨ (∃ (a : Addr) (kvs : List (Key × V)) (ks : List Str), xs = [.ref a] ∧ Rd H a (.dK kvs) ∧ kvs.map (·.1) = ks.map Sum.inr ∧ ks.length < 64 ∧
    ∀ ys p, ys.Perm ks → sortedS ys = true → H p = none → Q (.ref p) (upd H p (.lst (ys.map V.str))))) sortedDA := by
  intro c xs us Q o r h
  unfold sortedDA at h
  split at h
  · obtain ⟨x, rfl, r1⟩ := us1 r
    split at h
    · rename_i ns hk
      split at h
      · rename_i hl
        have fin : ∀ (ys : List Int) (p : Addr), ys.Perm ns → ys.Pairwise (· ≤ ·) → c.H p = none → Q (.ref p) (upd c.H p (.lst (ys.map V.int))) := fun ys p h1 h2 hp => by
          have e := sortI_unique h1 h2
          rw [e]
          exact Post.new h o hp (rep_newL o hp (reps_ints _))
        cases r1 with
        | dK h1 n1 r1 => exact .inl ⟨_, _, ns, rfl, h1, intKeys_rep r1 hk, hl, fin⟩
        | dT h1 n1 z r1 =>
          cases r1 with
          | nil => exact absurd rfl z
          | cons r2 r3 => cases hk
      · exact h.elim
    · rename_i ks _ hk
      split at h
      · rename_i hl
        have fin : ∀ (ys : List Str) (p : Addr), ys.Perm ks → sortedS ys = true → c.H p = none → Q (.ref p) (upd c.H p (.lst (ys.map V.str))) := fun ys p h1 h2 hp => by
          rw [sortL_strs_eq h1 h2] at h
          exact Post.new h o hp (rep_newL o hp (reps_strs _))
        cases r1 with
        | dK h1 n1 r1 => exact .inr ⟨_, _, ks, rfl, h1, strKeys_rep r1 hk, hl, fin⟩
        | dT h1 n1 z r1 =>
          cases r1 with
          | nil => exact absurd rfl z
          | cons r2 r3 => cases hk
      · exact h.elim
    · exact h.elim
  · exact h.elim
theorem call_sortedDA (hcalm : X.calm = true) : CallR X (.builtin "sorted") (fun xs H Q => (∃ (a : Addr) (kvs : List (Key × V)) (ks : List Int), xs = [.ref a] ∧ Rd H a (.dK kvs) ∧ kvs.map (·.1) = ks.map Sum.inl ∧ ks.length < 64 ∧
    ∀ (ys : List Int) (p : Addr), ys.Perm ks → ys.Pairwise (· ≤ ·) → H p = none → Q (.ref p) (upd H p (.lst (ys.map V.int)))) ∨ (∃ (a : Addr) (kvs : List (Key × V)) (ks : List Str), xs = [.ref a] ∧ Rd H a (.dK kvs) ∧ kvs.map (·.1) = ks.map Sum.inr ∧ ks.length < 64 ∧
    ∀ ys p, ys.Perm ks → sortedS ys = true → H p = none → Q (.ref p) (upd H p (.lst (ys.map V.str))))) := (call_sortedDI hcalm).or (call_sortedD hcalm)
end
end DL
namespace DL
open PySem PySem.Spec PyProof.Rows L2
/-! ### constants that are tuples of numbers and texts -/
abbrev CI := Int ⊕ Str
def cDv : CI → He.Dv
  | .inl i => .int i
  | .inr z => .str z
def cD : CI → D
  | .inl i => .int i
  | .inr z => .str z
def tupsB (ts : List (Str × List CI)) (K : PySem.W.Frag) : Bool := ts.all fun t => He.tupB K t.1 (t.2.map cDv)
abbrev AlY : Type := He.AlD × Bool
def obsYG (n : Nat) (fa : List He.Fa) (fn : List He.DefD) (ts : List (Str × List CI)) (g : Addr → Option Obj) : AlY := (He.obsDG n fa fn g, tupsB ts (He.frG g (He.asD g n)))
def hookY (n : Nat) (fa : List He.Fa) (fn : List He.DefD) (ts : List (Str × List CI)) : PySem.W.Hook where
  α := AlY
  obs := fun s => obsYG n fa fn ts s.heap.get?
  val := fun _ => (He.valD fn, true)
  says := fun _ h => ∃ K : PySem.W.Frag, K.In h ∧ He.SaysD fa fn K ∧ tupsB ts K = true
  of := fun _ _ e => ⟨_, He.frG_in, congrArg (fun z : AlY => z.1) e, congrArg (fun z : AlY => z.2) e⟩
  keeps := fun _ _ _ ⟨K, hK, c⟩ k => ⟨K, PySem.W.Frag.In.keeps hK k, c⟩
theorem obsYG_eq {n : Nat} {fa : List He.Fa} {fn : List He.DefD} {ts : List (Str × List CI)} {g : Addr → Option Obj} {s : Shared} (h : ∀ a, g a = s.heap.get? a) : obsYG n fa fn ts g = (hookY n fa fn ts).obs s := by
  have e : g = s.heap.get? := funext h
  rw [e] <;> rfl
structure TxE (fa : List He.Fa) (fn : List He.DefD) (ts : List (Str × List CI)) (K : PySem.W.Frag) (mg : Str → Option Value) : Prop extends Tx fa fn K mg where
  more : tupsB ts K = true
theorem TxE.tup {fa : List He.Fa} {fn : List He.DefD} {ts : List (Str × List CI)} {K : PySem.W.Frag} {mg : Str → Option Value} (T : TxE fa fn ts K mg) (i j : Nat) {x : Str} {vs : List CI} (h : ts[i]? = some (x, vs) := by rfl) (hg : fa[j]? = some (.glo x) := by rfl) :
    mg x = some (.ref (He.ga K x)) ∧ He.tupB K x (vs.map cDv) = true :=
  ⟨T.glo j hg, List.all_eq_true.mp T.more _ (List.mem_of_getElem? h)⟩
theorem reps_ci {K : PySem.W.Frag} {c : Cfg} : ∀ vs : List CI, RepA K c ((vs.map cDv).map (He.Dv.v K)) (vs.map cD)
  | [] => .nil
  | .inl i :: r => .cons (.int i) (reps_ci r)
  | .inr z :: r => .cons (.str z) (reps_ci r)
theorem pd_gtup {X : Cx} {E : EXW} {x : Str} {vs : List CI} {pos : Pos} (hg : Gl X x) (hm : X.mg x = some (.ref (He.ga X.K x)) ∧ He.tupB X.K x (vs.map cDv) = true) (hd : (x == ("__debug__" : Str)) = false := by decide) : PE X (.Name x pos) (tD X.K E (dC (.tuple (vs.map cD)))) :=
  (pe_glob (v := .ref (He.ga X.K x)) hg hm.1 rfl hd).dimp fun σ H Q ⟨hd, ι, S, ρ, a, h⟩ => by
    refine Post.val (c := ⟨hd, ι, S, H⟩) h a.ok ?_
    rcases He.tupB_ok hm.2 (fun _ => none) with (q | ⟨_, q⟩) | q
    · cases q
    · cases q
    · exact .tupK q (reps_ci vs)
/-! ### min, max of a tuple of numbers -/
theorem min_intTuple {prog : Program} {w : World} {A : Around} {E : Value → Shared → Prop} {s : Shared} {l : Addr} {xs : Array (Int × Tok)} {Q : Value → Shared → Prop} (hh : A.handled = none) (hl : s.heap.IsTuple l (intItems xs)) (hne : 0 < xs.size)
    (h : ∀ v h' tk, (intItems xs)[argBest (fun i j => decide (numAt xs i < numAt xs j)) (xs.size - 1)]? = some v → (∀ b o, s.heap.get? b = some o → h'.get? b = some o) → Q v { s with heap := h', toks := tk }) :
    wpAny (model prog w) A (call (.builtin "min") [.ref l]) Q E s := by
  have hlt : l < s.heap.objs.size := by obtain ⟨_, e, _⟩ := hl; exact Heap.lt_size e
  refine call_min_walk (wpAny_pyIter_tuple hl ?_)
  refine ⟨_, [_, l], [_], _, _, _, _, rfl, Walks.tuple (A := A.in1) hh _ l (Nat.ne_of_lt hlt) (intItems xs), ⟨⟨_, Heap.get?_push_size _ rfl, rfl, rfl⟩, hl.push _⟩, fun b hb => ?_, by simpa [intItems] using hne, CmpOf.ints_lt (numAt xs) (fun _ _ => intItems_at), fun v h' tk hP hk => ?_⟩
  · show b < (s.heap.push _).objs.size
    rw [Heap.size_push]
    rcases List.mem_cons.mp hb with rfl | hb
    · exact Nat.lt_succ_self _
    · rcases List.mem_cons.mp hb with rfl | hb
      · exact Nat.lt_succ_of_lt hlt
      · cases hb
  · refine h v h' tk (by simpa [intItems] using hP) fun b o e => ?_
    refine hk b o (fun hm => ?_) (Heap.get?_push_of_some _ e)
    rcases List.mem_cons.mp hm with e1 | hm
    · exact absurd (e1 ▸ Heap.lt_size e) (Nat.lt_irrefl _)
    · cases hm
theorem max_intTuple {prog : Program} {w : World} {A : Around} {E : Value → Shared → Prop} {s : Shared} {l : Addr} {xs : Array (Int × Tok)} {Q : Value → Shared → Prop} (hh : A.handled = none) (hl : s.heap.IsTuple l (intItems xs)) (hne : 0 < xs.size)
    (h : ∀ v h' tk, (intItems xs)[argBest (fun i j => decide (numAt xs i > numAt xs j)) (xs.size - 1)]? = some v → (∀ b o, s.heap.get? b = some o → h'.get? b = some o) → Q v { s with heap := h', toks := tk }) :
    wpAny (model prog w) A (call (.builtin "max") [.ref l]) Q E s := by
  have hlt : l < s.heap.objs.size := by obtain ⟨_, e, _⟩ := hl; exact Heap.lt_size e
  refine call_max_walk (wpAny_pyIter_tuple hl ?_)
  refine ⟨_, [_, l], [_], _, _, _, _, rfl, Walks.tuple (A := A.in1) hh _ l (Nat.ne_of_lt hlt) (intItems xs), ⟨⟨_, Heap.get?_push_size _ rfl, rfl, rfl⟩, hl.push _⟩, fun b hb => ?_, by simpa [intItems] using hne, CmpOf.ints_gt (numAt xs) (fun _ _ => intItems_at), fun v h' tk hP hk => ?_⟩
  · show b < (s.heap.push _).objs.size
    rw [Heap.size_push]
    rcases List.mem_cons.mp hb with rfl | hb
    · exact Nat.lt_succ_self _
    · rcases List.mem_cons.mp hb with rfl | hb
      · exact Nat.lt_succ_of_lt hlt
      · cases hb
  · refine h v h' tk (by simpa [intItems] using hP) fun b o e => ?_
    refine hk b o (fun hm => ?_) (Heap.get?_push_of_some _ e)
    rcases List.mem_cons.mp hm with e1 | hm
    · exact absurd (e1 ▸ Heap.lt_size e) (Nat.lt_irrefl _)
    · cases hm
theorem min_rawT {prog : Program} {w : World} {A : Around} {E : Value → Shared → Prop} {s : Shared} {l : Addr} {its : List Value} {ns : List Int} {Q : Value → Shared → Prop} (hh : A.handled = none) (hl : s.heap.IsTuple l its.toArray) (hi : IntsAre its ns) (hne : 0 < ns.length)
    (h : ∀ h' tk M t', (∀ b o, s.heap.get? b = some o → h'.get? b = some o) → M ∈ ns → (∀ a, a ∈ ns → M ≤ a) → Q (.int M t') { s with heap := h', toks := tk }) : wpAny (model prog w) A (call (.builtin "min") [.ref l]) Q E s := by
  obtain ⟨xs, e⟩ := hi.allInts.items
  have hn : numsOf (intItems xs).toList = ns := by rw [← e]; exact hi.numsOf
  rw [nums_intItems] at hn
  subst hn
  rw [e] at hl
  have hsz : 0 < xs.size := by simpa using hne
  refine min_intTuple hh hl hsz fun v h' tk hv hk => ?_
  obtain ⟨t, rfl⟩ := intItems_at hv
  obtain ⟨h1, h2⟩ := argBest_lt (numAt xs) (xs.size - 1)
  refine h h' tk _ t hk ?_ fun a ha => ?_
  · rw [numAt_eq]; exact PySem.getD_mem (by rw [List.length_map, Array.length_toList]; omega)
  · obtain ⟨j, hj, rfl⟩ := mem_getD ha
    rw [List.length_map, Array.length_toList] at hj
    rw [← numAt_eq]; exact h2 j (by omega)
theorem max_rawT {prog : Program} {w : World} {A : Around} {E : Value → Shared → Prop} {s : Shared} {l : Addr} {its : List Value} {ns : List Int} {Q : Value → Shared → Prop} (hh : A.handled = none) (hl : s.heap.IsTuple l its.toArray) (hi : IntsAre its ns) (hne : 0 < ns.length)
    (h : ∀ h' tk M t', (∀ b o, s.heap.get? b = some o → h'.get? b = some o) → M ∈ ns → (∀ a, a ∈ ns → a ≤ M) → Q (.int M t') { s with heap := h', toks := tk }) : wpAny (model prog w) A (call (.builtin "max") [.ref l]) Q E s := by
  obtain ⟨xs, e⟩ := hi.allInts.items
  have hn : numsOf (intItems xs).toList = ns := by rw [← e]; exact hi.numsOf
  rw [nums_intItems] at hn
  subst hn
  rw [e] at hl
  have hsz : 0 < xs.size := by simpa using hne
  refine max_intTuple hh hl hsz fun v h' tk hv hk => ?_
  obtain ⟨t, rfl⟩ := intItems_at hv
  obtain ⟨h1, h2⟩ := argBest_gt (numAt xs) (xs.size - 1)
  refine h h' tk _ t hk ?_ fun a ha => ?_
  · rw [numAt_eq]; exact PySem.getD_mem (by rw [List.length_map, Array.length_toList]; omega)
  · obtain ⟨j, hj, rfl⟩ := mem_getD ha
    rw [List.length_map, Array.length_toList] at hj
    rw [← numAt_eq]; exact h2 j (by omega)
def rMinT (K : PySem.W.Frag) : List V → Hp → VK → Prop := fun vs H Q => ∃ (a : Addr) (ns : List Int), vs = [V.ref a] ∧ SqT K H a (ns.map V.int) ∧ 0 < ns.length ∧ ∀ m, m ∈ ns → (∀ y, y ∈ ns → m ≤ y) → Q (.int m) H
def rMaxT (K : PySem.W.Frag) : List V → Hp → VK → Prop := fun vs H Q => ∃ (a : Addr) (ns : List Int), vs = [V.ref a] ∧ SqT K H a (ns.map V.int) ∧ 0 < ns.length ∧ ∀ m, m ∈ ns → (∀ y, y ∈ ns → y ≤ m) → Q (.int m) H
theorem cr_minT {X : Cx} (hc : X.calm = true) : CallR X (.builtin "min") (rMinT X.K) := by
  intro pins s σ H vs us Q I r h
  obtain ⟨a, ns, rfl, hs, hne, q⟩ := h
  obtain ⟨its, rv, hl, _⟩ := I.tuple hs
  rw [Vals.ref1 r]
  exact min_rawT (I.ok.hd hc) hl rv.ints hne fun h' tk m t' hk h1 h2 => ⟨.int _, H, I.kept hk, ⟨_, rfl⟩, q m h1 h2⟩
theorem cr_maxT {X : Cx} (hc : X.calm = true) : CallR X (.builtin "max") (rMaxT X.K) := by
  intro pins s σ H vs us Q I r h
  obtain ⟨a, ns, rfl, hs, hne, q⟩ := h
  obtain ⟨its, rv, hl, _⟩ := I.tuple hs
  rw [Vals.ref1 r]
  exact max_rawT (I.ok.hd hc) hl rv.ints hne fun h' tk m t' hk h1 h2 => ⟨.int _, H, I.kept hk, ⟨_, rfl⟩, q m h1 h2⟩
def minA1 : OpN := fun us S => match us with
  | [.d (.tuple xs)] => (match intsL xs with
    | some (n :: ns) => .ok (.d (.int (minI (n :: ns)))) S
    | _ => .bad)
  | us => minN1 us S
def maxA1 : OpN := fun us S => match us with
  | [.d (.tuple xs)] => (match intsL xs with
    | some (n :: ns) => .ok (.d (.int (maxI (n :: ns)))) S
    | _ => .bad)
  | us => maxN1 us S
theorem lk_minA {K : PySem.W.Frag} {E : EXW} : LkN K E (fun xs H Q => rMin K xs H Q ∨ rMinT K xs H Q) minA1 := by
  intro c xs us Q o r h
  unfold minA1 at h
  split at h
  · obtain ⟨x, rfl, r1⟩ := us1 r
    split at h
    · rename_i n ns e
      obtain ⟨q, vs, rfl, q1, q2⟩ := sqT_of r1
      have ev := ints_rep q2 e
      refine .inr ⟨q, n :: ns, rfl, by rw [← ev]; exact q1, by simp, fun m hm hy => ?_⟩
      have h1 := minI_ok (ns := n :: ns) (by simp)
      have : m = minI (n :: ns) := Int.le_antisymm (hy _ h1.1) (h1.2 m hm)
      rw [this]
      exact Post.val h o (.int _)
    · exact h.elim
  · exact .inl (lk_min1 c xs _ Q o r h)
theorem lk_maxA {K : PySem.W.Frag} {E : EXW} : LkN K E (fun xs H Q => rMax K xs H Q ∨ rMaxT K xs H Q) maxA1 := by
  intro c xs us Q o r h
  unfold maxA1 at h
  split at h
  · obtain ⟨x, rfl, r1⟩ := us1 r
    split at h
    · rename_i n ns e
      obtain ⟨q, vs, rfl, q1, q2⟩ := sqT_of r1
      have ev := ints_rep q2 e
      refine .inr ⟨q, n :: ns, rfl, by rw [← ev]; exact q1, by simp, fun m hm hy => ?_⟩
      have h1 := maxI_ok (ns := n :: ns) (by simp)
      have : m = maxI (n :: ns) := Int.le_antisymm (h1.2 m hm) (hy _ h1.1)
      rw [this]
      exact Post.val h o (.int _)
    · exact h.elim
  · exact .inl (lk_max1 c xs _ Q o r h)
theorem cr_minA {X : Cx} (hc : X.calm = true) : CallR X (.builtin "min") (fun xs H Q => rMin X.K xs H Q ∨ rMinT X.K xs H Q) := (cr_min hc).or (cr_minT hc)
theorem cr_maxA {X : Cx} (hc : X.calm = true) : CallR X (.builtin "max") (fun xs H Q => rMax X.K xs H Q ∨ rMaxT X.K xs H Q) := (cr_max hc).or (cr_maxT hc)
end DL
namespace DL
open PySem PySem.Spec PyProof.Rows L2
/-! ### {}, d[k] = v of a dict that is built, its keys numbers and texts -/
section
variable {X : Cx} {E : EXW} {K : PySem.W.Frag} {o a e : Expr} {f g k : DE} {pos : Pos}
def dDNew : DE := fun _ S => .ok (.r S.length) (S ++ [.dic []])
theorem pd_dnew : PE X (.Dict [] [] pos) (tD X.K E dDNew) := pe_dnewK.dimp fun σ H Q ⟨hd, ι, S, ρ, at_, h⟩ => fun p hp =>
  Post.newCell (c := ⟨hd, ι, S, H⟩) h at_.ok hp (.inl ⟨[], upd_same, .nil⟩)
def decK : List (D × D) → Option (List (Key × D))
  | [] => some []
  | (kd, d) :: r => (keyOf kd).bind fun k => (decK r).map ((k, d) :: ·)
def encK (L : List (Key × D)) : List (D × D) := L.map fun kv => (kD kv.1, kv.2)
theorem keyOf_k (k : Key) : keyOf (kD k) = some k := by cases k <;> rfl
theorem decK_enc : ∀ L : List (Key × D), decK (encK L) = some L
  | [] => rfl
  | (k, d) :: r => by
    show (keyOf (kD k)).bind _ = _
    rw [keyOf_k]
    show (decK (encK r)).map ((k, d) :: ·) = _
    rw [decK_enc r]
    rfl
theorem decK_rep {c : Cfg} : ∀ {ds : List (D × D)} {vs : List (Key × V)} {L : List (Key × D)}, RepK K c vs ds → decK ds = some L → ds = encK L ∧ RepG K c vs L
  | [], _, _, r, h => by
    cases r
    cases h
    exact ⟨rfl, .nil⟩
  | (kd, d) :: ds, _, L, r, h => by
    cases r with
    | cons r1 r2 =>
      rename_i k v vs
      have h : (keyOf (kD k)).bind (fun k => (decK ds).map ((k, d) :: ·)) = some L := h
      rw [keyOf_k] at h
      obtain ⟨L', h1, h2⟩ := Option.map_eq_some_iff.mp (show (decK ds).map ((k, d) :: ·) = some L from h)
      subst h2
      obtain ⟨e1, e2⟩ := decK_rep r2 h1
      exact ⟨by rw [e1]; rfl, .cons r1 e2⟩
theorem encG_repK {c : Cfg} {vs : List (Key × V)} {L : List (Key × D)} (h : RepG K c vs L) : RepK K c vs (encK L) := h.repK
def putN (u w : U) (x : D) (S : Sto) : Rs U := match u, w with
  | .r n, .d kd => (match S[n]?, keyOf kd with
    | some (.dic kvs), some k => (match decK kvs with
      | some L => if L.length < 16777216 then .ok (.d .none) (S.set n (.dic (encK (putG L k x)))) else .bad
      | none => .bad)
    | _, _ => .bad)
  | _, _ => .bad
def sPutI (f g k : DE) : DS := fun ρ S => (k ρ S).toRt fun u S1 => (toD u S1).toRt fun x S2 => (f ρ S2).toRt fun w S3 => (g ρ S3).toRt fun y S4 => (putN w y x S4).toRt fun _ S5 => .nx ρ S5
theorem cell_dic {c : Cfg} {n : Nat} {v : V} {kvs : List (D × D)} {L : List (Key × D)} (o : OkC K c) (r : RepU K c v (.r n)) (h : c.S[n]? = some (.dic kvs)) (hk : decK kvs = some L) : ∃ a vs, v = .ref a ∧ c.ι[n]? = some a ∧ c.H a = some (.dK vs) ∧ RepG K c vs L := by
  obtain ⟨a, h1, rfl⟩ := r
  obtain ⟨a', h3, h4⟩ := o.cell n _ h
  rw [h1] at h3
  cases h3
  rcases h4 with ⟨vs, h4, h5⟩ | ⟨vs, h4, hne, h5⟩
  · exact ⟨a, vs, rfl, h1, h4, (decK_rep h5 hk).2⟩
  · exfalso
    cases h5 with
    | nil => exact hne rfl
    | cons r t => cases hk
theorem rKey {c : Cfg} {v : V} {kd : D} {k : Key} (r : RepU K c v (.d kd)) (h : keyOf kd = some k) : v = kV k := by
  cases kd with
  | int i =>
    cases h
    exact rInt r
  | str z =>
    cases h
    exact rStr r
  | _ => cases h
theorem sd_putI {value : Expr} {pos' : Pos} (hu : X.A.units + 1 < cLine) (ho : PE X o (tD X.K E f)) (hi : PE X a (tD X.K E g)) (hv : PE X value (tD X.K E k))
    (ha : ∀ v, assign (.Subscript o a pos') X.env v = (do
      let ov ← holding [v] (eval o X.env)
      let iv ← holding [v, ov] (eval a X.env)
      standAt pos'
      holding [v, ov, iv] (setItem ov iv v)
      release [v, ov, iv] []) := by intro _; rfl)
    (hs : swapsWithSole [.Subscript o a pos'] value pos.line X.env = pure false := by rfl) (hw : swappedStores [.Subscript o a pos'] value X.env = pure none := by rfl)
    (h1 : (assignEach [.Subscript o a pos'] X.env).map (·.2) = [assign (.Subscript o a pos') X.env] := by rfl) : PS X (.Assign [.Subscript o a pos'] value pos) (tS X.K E (sPutI f g k)) :=
  (ps_asg hv (pg_sub ho hi (set_dict hu) ha) hs hw h1).dimp fun D σ H ⟨hd, ι, S, ρ, at_, h⟩ => by
    refine tD_stepS (c := ⟨hd, ι, S, H⟩) at_ h fun u v c1 e1 a1 r1 h1 => ?_
    cases htd : toD u c1.S with
    | bad => rw [htd] at h1; exact h1.elim
    | ex n fs S' => exact (toD_noex htd).elim
    | ok x S2 =>
      rw [htd] at h1
      obtain ⟨e2, o2, r2⟩ := toD_go a1.ok r1 htd
      have h2 : PostS X.K E ⟨c1.hd, c1.ι, S2, c1.H⟩ D ((f ρ S2).toRt fun w S3 => (g ρ S3).toRt fun y S4 => (putN w y x S4).toRt fun _ S5 => .nx ρ S5) := PostS.step h1 e2
      refine tD_stepS (c := ⟨c1.hd, c1.ι, S2, c1.H⟩) (a1.ext e2 o2) h2 fun w ov c3 e3 a3 r3 h3 => ?_
      refine tD_stepS (c := c3) a3 h3 fun y iv c4 e4 a4 r4 h4 => ?_
      unfold putN at h4
      split at h4
      · split at h4
        · rename_i kvs k hx hk
          split at h4
          · rename_i L hL
            split at h4
            · rename_i hlen
              obtain ⟨q, vs, eq, q1, q2, q3⟩ := cell_dic a4.ok (r3.ext e4) hx hL
              rw [rKey r4 hk]
              refine ⟨q, _, eq, DPut.k q2 (by rw [q3.len, sizeLine_eq]; exact hlen), ?_⟩
              have hc : CellOk X.K ⟨c4.hd, c4.ι, c4.S.set _ (.dic (encK (putG L k x))), upd c4.H q (.dK (putK vs k v))⟩ q (.dic (encK (putG L k x))) :=
                .inl ⟨_, upd_same, encG_repK (RepG.put (q3.ext (ext_set a4.ok q1 hx rfl).toKeep) (Rep.ext (ext_set a4.ok q1 hx rfl).toKeep (Rep.ext (e3.trans e4).toKeep r2)))⟩
              exact h4 σ c4.ι _ (ext_set a4.ok q1 hx rfl) (a4.ext (ext_set a4.ok q1 hx rfl) (ok_set a4.ok q1 hx rfl hc))
            · exact h4.elim
          · exact h4.elim
        · exact h4.elim
      · exact h4.elim
/-- a name that is read for good: what its cell holds is a datum from here on -/
def dFz (f : DE) : DE := fun ρ S => (f ρ S).bind fun u S1 => (toD u S1).bind fun x S2 => .ok (.d x) S2
theorem pd_fz (he : PE X e (tD X.K E f)) : PE X e (tD X.K E (dFz f)) := he.dimp fun σ H Q ⟨hd, ι, S, ρ, at_, h⟩ =>
  tD_stepG (c := ⟨hd, ι, S, H⟩) at_ h fun u v c1 e1 a1 r1 h1 => by
    cases htd : toD u c1.S with
    | bad => rw [htd] at h1; exact h1.elim
    | ex n fs S' => exact (toD_noex htd).elim
    | ok x S2 =>
      rw [htd] at h1
      obtain ⟨e2, o2, r2⟩ := toD_go a1.ok r1 htd
      exact h1 v c1.ι c1.H e2 o2 r2
end
end DL
namespace DL
open PySem PySem.Spec PyProof.Rows L2
section
variable {S : Sto} {ρ : Rho} {xs ys : List D} {i j : Int} {lo hi : Option Int} {z : Str}
@[simp] theorem dSlA_ap {f : DE} {l h : DO} : dSlA f l h ρ S = (f ρ S).bnd fun u S1 => (l ρ S1).bnd fun lo S2 => (h ρ S2).bnd fun hi S3 => slA u lo hi S3 := rfl
@[simp] theorem slA_t : slA (.d (.tuple xs)) lo hi S = slD (.d (.tuple xs)) lo hi S := rfl
@[simp] theorem slA_l : slA (.d (.list xs)) lo hi S = slD (.d (.list xs)) lo hi S := rfl
theorem slA_s : slA (.d (.str z)) lo hi S = if z.length ≤ 16777216 then .ok (.d (.str (cutS z lo hi))) S else .bad := rfl
@[simp] theorem sAug_ap {k : Nat} {op : Op2} {f : DE} : sAug k op f ρ S = (slotU ρ[k]? S).goR fun u _ => (f ρ S).goR fun w S1 => (op u w S1).goR fun z S2 => .nx (ρ.set k (some z)) S2 := by
  unfold sAug slotU
  cases h : ρ[k]? with
  | none => rfl
  | some o => cases o <;> rfl
end
end DL
namespace DL
open PySem PySem.Spec PyProof.Rows L2
section
variable {S : Sto} {ρ : Rho} {xs ys : List D} {i j : Int} {is : List Int} {k : Int}
/-! ### zip(*rows), sorted(set(..)), list.index: how they compute -/
@[simp] theorem dItZS_ap {f : DE} : dItZS f ρ S = (f ρ S).bnd itZipS := rfl
def idxU (g : DE) (ρ : Rho) (u : U) (S : Sto) : Rs U := match u with
  | .d (.list xs) => (g ρ S).bnd fun w S2 => indexL xs w S2
  | _ => .bad
@[simp] theorem dIndex_ap {f g : DE} : dIndex f g ρ S = (f ρ S).bnd (idxU g ρ) := rfl
@[simp] theorem idxU_l {g : DE} : idxU g ρ (.d (.list xs)) S = (g ρ S).bnd fun w S2 => indexL xs w S2 := rfl
theorem eqv_int {a b : Int} : PyData.eqv (.int a) (.int b) = decide (a = b) := by
  rw [Bool.eq_iff_iff]
  simp [PyData.eqv]
theorem indexL_i : indexL (is.map .int) (.d (.int k)) S = (match is.findIdx? (fun z => decide (z = k)) with
    | some j => .ok (.d (.int (j : Nat))) S
    | none => .bad) := by
  unfold indexL
  simp only [shaped_ints.1, shaped_i, and_self, if_true]
  have : (is.map PyData.int).findIdx? (fun z => PyData.eqv z (.int k)) = is.findIdx? (fun z => decide (z = k)) := by
    rw [List.findIdx?_map]
    congr 1
  rw [this] <;> (cases is.findIdx? (fun z => decide (z = k)) <;> rfl)
theorem sortSet_t (h : is.length < 64) : sortSetN [.d (.tuple (is.map .int))] S = .ok (.d (.list ((sortI (ded is)).map .int))) S := by
  unfold sortSetN setInts seqLT
  simp [intsL_map, h]
theorem sortSet_l (h : is.length < 64) : sortSetN [.d (.list (is.map .int))] S = .ok (.d (.list ((sortI (ded is)).map .int))) S := by
  unfold sortSetN setInts seqLT
  simp [intsL_map, h, lstOf]
theorem lenSet_t (h : is.length < 4000) : lenSetN [.d (.tuple (is.map .int))] S = .ok (.d (.int (ded is).length)) S := by
  unfold lenSetN setInts seqLT
  simp [intsL_map, h]
theorem lenSet_l (h : is.length < 4000) : lenSetN [.d (.list (is.map .int))] S = .ok (.d (.int (ded is).length)) S := by
  unfold lenSetN setInts seqLT
  simp [intsL_map, h, lstOf]
end
/-- the cuts at a place -/
def colI (Ks : List (List Int)) (i : Nat) : List Int := Ks.map fun K => K.getD i 0
section
variable {S : Sto} {Ks : List (List Int)} {n : Nat}
theorem zcols_keys : ∀ {Ks : List (List Int)}, zcols (Ks.map fun K => .tuple (K.map .int)) = some (Ks.map fun K => K.map .int)
  | [] => rfl
  | K :: r => by
    have ih := zcols_keys (Ks := r)
    simp only [List.map_cons, zcols, zcol, Option.bind_some, ih, Option.map_some]
theorem minL_keys : ∀ {cols : List (List D)}, cols ≠ [] → (∀ c, c ∈ cols → c.length = n) → minL cols = n
  | [c], _, h => h c (by simp)
  | c :: d :: r, _, h => by
    have ih := minL_keys (cols := d :: r) (by simp) fun x hx => h x (List.mem_cons_of_mem _ hx)
    rw [minL, ih, h c (by simp)]
    · omega
    · intro x; simp at x
theorem zipRows_keys (hne : Ks ≠ []) (h : ∀ K, K ∈ Ks → K.length = n) : zipRows (Ks.map fun K => K.map .int) = (List.range n).map fun i => .tuple ((colI Ks i).map .int) := by
  unfold zipRows
  rw [minL_keys (n := n) (by simpa using hne) fun c hc => by
    obtain ⟨K, hK, rfl⟩ := List.mem_map.mp hc
    simp [h K hK]]
  refine List.map_congr_left fun i hi => ?_
  rw [List.mem_range] at hi
  unfold colI
  rw [List.map_map, List.map_map]
  congr 1
  refine List.map_congr_left fun K hK => ?_
  have hl := h K hK
  simp [List.getD_eq_getElem?_getD, List.getElem?_eq_getElem (show i < K.length by omega)]
theorem itZipS_keys (hne : Ks ≠ []) (hl : Ks.length < 100000) (h : ∀ K, K ∈ Ks → K.length = n) : itZipS (.d (.tuple (Ks.map fun K => .tuple (K.map .int)))) S = .ok ((List.range n).map fun i => .tuple ((colI Ks i).map .int)) S := by
  have e := zipRows_keys hne h
  have z := zcols_keys (Ks := Ks)
  unfold itZipS
  rw [toD_d, bind_ok]
  simp only [zcol, z]
  cases Ks with
  | nil => exact absurd rfl hne
  | cons K r =>
    simp only [List.map_cons] at e ⊢
    rw [if_pos (by simpa using Nat.lt_of_succ_lt hl), e]
theorem itZipS_keysL (hne : Ks ≠ []) (hl : Ks.length < 100000) (h : ∀ K, K ∈ Ks → K.length = n) : itZipS (.d (.list (Ks.map fun K => .tuple (K.map .int)))) S = .ok ((List.range n).map fun i => .tuple ((colI Ks i).map .int)) S := itZipS_keys (S := S) hne hl h
theorem colI_len (i : Nat) : (colI Ks i).length = Ks.length := by simp [colI]
end
/-! ### how it computes -/
theorem compLC_map {α : Type} {n : Nat} {tg : Tg} {own : List Nat} {tst : DT} {el : DE} {ρ : Rho} {S : Sto} (g : α → D) (p : α → Bool) (f : α → D) (xs : List α) (hS : S[n]? = some (.lst (xs.map g)))
    (h : ∀ x, x ∈ xs → ∃ ρ1, tg (g x) (wipeR ρ own) = some ρ1 ∧ tst ρ1 S = .ok (p x) S ∧ (p x = true → el ρ1 S = .ok (.d (f x)) S)) : compLC n xs.length tg own tst el ρ xs.length S = .ok ((xs.filter p).map f) S := by
  have key : ∀ (k : Nat), k ≤ xs.length → compLC n xs.length tg own tst el ρ k S = .ok (((xs.drop (xs.length - k)).filter p).map f) S := by
    intro k
    induction k with
    | zero => intro _; rw [compLC_end (xs := xs.map g) hS (by simp)]; simp
    | succ k ih =>
      intro hk
      have ih := ih (by omega)
      have hlt : xs.length - (k + 1) < xs.length := by omega
      have ed : xs.drop (xs.length - (k + 1)) = xs[xs.length - (k + 1)] :: xs.drop (xs.length - k) := by
        rw [List.drop_eq_getElem_cons hlt]
        congr 2
        omega
      rw [compLC_step (xs := xs.map g) hS (by simp) (d := g xs[xs.length - (k + 1)]) (by rw [List.getElem?_map, List.getElem?_eq_getElem hlt]; rfl), ed]
      obtain ⟨ρ1, h1, h2, h3⟩ := h _ (List.getElem_mem hlt)
      simp only [h1, h2, bind_ok]
      cases hp : p xs[xs.length - (k + 1)] with
      | true =>
        rw [if_pos rfl, h3 hp]
        simp only [bind_ok, toD_d, ih, List.filter_cons, hp, if_true, List.map_cons]
      | false =>
        rw [if_neg (by decide), ih, List.filter_cons, hp]
        rfl
  have := key xs.length (Nat.le_refl _)
  rw [this, Nat.sub_self, List.drop_zero]
section
variable {S : Sto} {ρ : Rho}
/-- over a datum -/
theorem dCompV_d {f : DE} {tg : Tg} {own : List Nat} {tst : DT} {el : DE} {x : D} {S1 : Sto} (h : f ρ S = .ok (.d x) S1) : dCompV f tg own tst el ρ S = dComp (dIt f) tg own tst el ρ S := by
  unfold dCompV
  rw [h]
/-- over a cell -/
theorem dCompV_r {α : Type} {f : DE} {n : Nat} {tg : Tg} {own : List Nat} {tst : DT} {el : DE} (g : α → D) (p : α → Bool) (fx : α → D) (xs : List α) (hf : f ρ S = .ok (.r n) S) (hS : S[n]? = some (.lst (xs.map g))) (hl : xs.length ≤ 16777216)
    (h : ∀ x, x ∈ xs → ∃ ρ1, tg (g x) (wipeR ρ own) = some ρ1 ∧ tst ρ1 S = .ok (p x) S ∧ (p x = true → el ρ1 S = .ok (.d (fx x)) S)) : dCompV f tg own tst el ρ S = .ok (.d (.list ((xs.filter p).map fx))) S := by
  unfold dCompV
  rw [hf]
  simp only [hS, List.length_map, hl, if_true]
  rw [compLC_map g p fx xs hS h]
  rfl
theorem dCompV_l {α : Type} {f : DE} {tg : Tg} {own : List Nat} {tst : DT} {el : DE} (g : α → D) (p : α → Bool) (fx : α → D) (xs : List α) {x : D} (hf : f ρ S = .ok (.d x) S) (hx : itSeq (.d x) S = .ok (xs.map g) S) (hl : xs.length ≤ 16777216)
    (h : ∀ x, x ∈ xs → ∃ ρ1, tg (g x) (wipeR ρ own) = some ρ1 ∧ tst ρ1 S = .ok (p x) S ∧ (p x = true → el ρ1 S = .ok (.d (fx x)) S)) : dCompV f tg own tst el ρ S = .ok (.d (.list ((xs.filter p).map fx))) S := by
  rw [dCompV_d hf, dComp_ap, dIt_ap, hf]
  show (Rs.bnd (itSeq (.d x) S) _) = _
  rw [hx]
  show (if (xs.map g).length ≤ 16777216 then _ else _) = _
  rw [List.length_map, if_pos hl, compL_map g p fx xs h]
  rfl
/-- a tuple, a list, or a cell of these -/
def Holds (v : U) (ds : List D) (S : Sto) : Prop := v = .d (.tuple ds) ∨ v = .d (.list ds) ∨ ∃ n, v = .r n ∧ S[n]? = some (.lst ds)
theorem dCompV_h {α : Type} {f : DE} {v : U} {tg : Tg} {own : List Nat} {tst : DT} {el : DE} (g : α → D) (p : α → Bool) (fx : α → D) (xs : List α) (hf : f ρ S = .ok v S) (hv : Holds v (xs.map g) S) (hl : xs.length ≤ 16777216)
    (h : ∀ x, x ∈ xs → ∃ ρ1, tg (g x) (wipeR ρ own) = some ρ1 ∧ tst ρ1 S = .ok (p x) S ∧ (p x = true → el ρ1 S = .ok (.d (fx x)) S)) : dCompV f tg own tst el ρ S = .ok (.d (.list ((xs.filter p).map fx))) S := by
  rcases hv with rfl | rfl | ⟨n, rfl, hn⟩
  · exact dCompV_l g p fx xs hf rfl hl h
  · exact dCompV_l g p fx xs hf rfl hl h
  · exact dCompV_r g p fx xs hf hn hl h
end
/-! ### one statement after another -/
theorem thn_toB {m : Rt} {t : DS} {M N B : Rho → Sto → Prop} {R : U → Sto → Prop} (h : m.To M fun _ _ => False) (h2 : ∀ ρ S, M ρ S → (t ρ S).ToB N B R) : (m.thn t).ToB N B R := by
  cases m with
  | nx ρ S => exact h2 ρ S h
  | _ => exact h.elim
theorem thn_to {m : Rt} {t : DS} {M N : Rho → Sto → Prop} {R : U → Sto → Prop} (h : m.To M fun _ _ => False) (h2 : ∀ ρ S, M ρ S → (t ρ S).To N R) : (m.thn t).To N R := by
  cases m with
  | nx ρ S => exact h2 ρ S h
  | _ => exact h.elim
theorem thn_toR {m : Rt} {t : DS} {M N : Rho → Sto → Prop} {R : U → Sto → Prop} (h : m.To M R) (h2 : ∀ ρ S, M ρ S → (t ρ S).To N R) : (m.thn t).To N R := by
  cases m with
  | nx ρ S => exact h2 ρ S h
  | rt u S => exact h
  | _ => exact h.elim
end DL
namespace DL
open PySem PySem.Spec PyProof.Rows L2
section
variable {S : Sto} {ρ : Rho} {K K' : List Int} {L L' : List (List Int)} {Ks : List (List Int)} {Ls : List (List (List Int))}
/-- a comprehension whose test draws: some of them, in order -/
theorem compL_sub {α : Type} {tg : Tg} {own : List Nat} {tst : DT} {el : DE} {ρ : Rho} (g : α → D) (I : Sto → Prop) (φ : α → Prop) : ∀ (L : List α) (S : Sto), I S →
    (∀ a, a ∈ L → ∀ S, I S → ∃ ρ1, tg (g a) (wipeR ρ own) = some ρ1 ∧ ∃ b S1, tst ρ1 S = .ok b S1 ∧ I S1 ∧ (b = true → el ρ1 S1 = .ok (.d (g a)) S1 ∧ φ a)) →
    ∃ (W : List α) (S' : Sto), compL tg own tst el ρ (L.map g) S = .ok (W.map g) S' ∧ I S' ∧ W.Sublist L ∧ ∀ a, a ∈ W → φ a
  | [], S, i, _ => ⟨[], S, rfl, i, List.Sublist.refl _, fun _ h => by cases h⟩
  | x :: xs, S, i, hh => by
    obtain ⟨ρ1, h1, b, S1, h2, i1, h3⟩ := hh x List.mem_cons_self S i
    obtain ⟨W, S2, h4, i2, hs, hφ⟩ := compL_sub (tg := tg) (own := own) (tst := tst) (el := el) (ρ := ρ) g I φ xs S1 i1 fun y hy => hh y (List.mem_cons_of_mem _ hy)
    cases b with
    | true =>
      obtain ⟨h5, h6⟩ := h3 rfl
      refine ⟨x :: W, S2, ?_, i2, hs.cons_cons x, fun a ha => ?_⟩
      · rw [List.map_cons]
        unfold compL
        simp only [h1, h2, bind_ok, if_true, h5, toD_d, h4, List.map_cons]
      · rcases List.mem_cons.mp ha with rfl | ha
        · exact h6
        · exact hφ a ha
    | false =>
      refine ⟨W, S2, ?_, i2, hs.cons x, hφ⟩
      rw [List.map_cons]
      unfold compL
      simp only [h1, h2, bind_ok]
      rw [if_neg (by decide), h4]
/-! ### keys and locks as items -/
theorem key_depth : (keyD K).depth ≤ 1 := by
  unfold keyD
  have : PyData.depthAll (K.map PyData.int) ≤ 0 := depthAll_le fun x hx => by
    obtain ⟨i, _, rfl⟩ := List.mem_map.mp hx
    exact Nat.le_refl _
  simp only [PyData.depth]
  omega
theorem lock_depth : (lockD L).depth ≤ 2 := by
  unfold lockD
  have : PyData.depthAll (L.map keyD) ≤ 1 := depthAll_le fun x hx => by
    obtain ⟨i, _, rfl⟩ := List.mem_map.mp hx
    exact key_depth
  simp only [PyData.depth]
  omega
theorem shaped_key : SeqAt.shaped (keyD K) = true := shaped_iff.mpr ⟨key_can, by have := key_depth (K := K); omega⟩
theorem shaped_lock : SeqAt.shaped (lockD L) = true := shaped_iff.mpr ⟨lock_can, by have := lock_depth (L := L); omega⟩
theorem shaped_keys : SeqAt.shaped (.list (Ks.map keyD)) = true ∧ SeqAt.shaped (.tuple (Ks.map keyD)) = true := shaped_seq fun x hx => by
  obtain ⟨K, _, rfl⟩ := List.mem_map.mp hx
  exact ⟨key_can, by have := key_depth (K := K); omega⟩
theorem shaped_locks : SeqAt.shaped (.list (Ls.map lockD)) = true ∧ SeqAt.shaped (.tuple (Ls.map lockD)) = true := shaped_seq fun x hx => by
  obtain ⟨K, _, rfl⟩ := List.mem_map.mp hx
  exact ⟨lock_can, by have := lock_depth (L := K); omega⟩
theorem eqv_key : PyData.eqv (keyD K) (keyD K') = decide (K = K') := eqvAll_ints
theorem eqvAll_keys : PyData.eqvAll (L.map keyD) (L'.map keyD) = decide (L = L') := by
  induction L generalizing L' with
  | nil => cases L' <;> simp [PyData.eqvAll]
  | cons k r ih =>
    cases L' with
    | nil => simp [PyData.eqvAll]
    | cons k' r' =>
      simp only [List.map_cons, PyData.eqvAll, ih, eqv_key]
      rw [Bool.eq_iff_iff]
      simp
theorem eqv_lock : PyData.eqv (lockD L) (lockD L') = decide (L = L') := eqvAll_keys
theorem any_keys : ((Ks.map keyD).any fun z => PyData.eqv z (keyD K)) = decide (K ∈ Ks) := by
  rw [Bool.eq_iff_iff, List.any_eq_true, decide_eq_true_eq]
  constructor
  · rintro ⟨x, hx, e⟩
    obtain ⟨K', hK, rfl⟩ := List.mem_map.mp hx
    rw [eqv_key] at e
    rw [← of_decide_eq_true e]
    exact hK
  · intro h
    exact ⟨keyD K, List.mem_map.mpr ⟨K, h, rfl⟩, by rw [eqv_key]; simp⟩
theorem any_locks : ((Ls.map lockD).any fun z => PyData.eqv z (lockD L)) = decide (L ∈ Ls) := by
  rw [Bool.eq_iff_iff, List.any_eq_true, decide_eq_true_eq]
  constructor
  · rintro ⟨x, hx, e⟩
    obtain ⟨K', hK, rfl⟩ := List.mem_map.mp hx
    rw [eqv_lock] at e
    rw [← of_decide_eq_true e]
    exact hK
  · intro h
    exact ⟨lockD L, List.mem_map.mpr ⟨L, h, rfl⟩, by rw [eqv_lock]; simp⟩
theorem inD_keysL {neg : Bool} : inD neg (.d (keyD K)) (.d (.list (Ks.map keyD))) S = .ok (.d (.bool (if neg = true then !decide (K ∈ Ks) else decide (K ∈ Ks)))) S := by
  show (if SeqAt.shaped (keyD K) = true ∧ SeqAt.shaped (.list (Ks.map keyD)) = true then Rs.ok (U.d (.bool (if neg = true then !((Ks.map keyD).any fun z => PyData.eqv z (keyD K)) else (Ks.map keyD).any fun z => PyData.eqv z (keyD K)))) S else .bad) = _
  rw [if_pos ⟨shaped_key, shaped_keys.1⟩, any_keys]
theorem inD_keysT {neg : Bool} : inD neg (.d (keyD K)) (.d (lockD Ks)) S = .ok (.d (.bool (if neg = true then !decide (K ∈ Ks) else decide (K ∈ Ks)))) S := by
  show (if SeqAt.shaped (keyD K) = true ∧ SeqAt.shaped (.tuple (Ks.map keyD)) = true then Rs.ok (U.d (.bool (if neg = true then !((Ks.map keyD).any fun z => PyData.eqv z (keyD K)) else (Ks.map keyD).any fun z => PyData.eqv z (keyD K)))) S else .bad) = _
  rw [if_pos ⟨shaped_key, shaped_keys.2⟩, any_keys]
theorem inD_locksL {neg : Bool} : inD neg (.d (lockD L)) (.d (.list (Ls.map lockD))) S = .ok (.d (.bool (if neg = true then !decide (L ∈ Ls) else decide (L ∈ Ls)))) S := by
  show (if SeqAt.shaped (lockD L) = true ∧ SeqAt.shaped (.list (Ls.map lockD)) = true then Rs.ok (U.d (.bool (if neg = true then !((Ls.map lockD).any fun z => PyData.eqv z (lockD L)) else (Ls.map lockD).any fun z => PyData.eqv z (lockD L)))) S else .bad) = _
  rw [if_pos ⟨shaped_lock, shaped_locks.1⟩, any_locks]
theorem isE_map {α : Type} {f : α → D} {xs : List α} : (xs.map f).isEmpty = xs.isEmpty := by cases xs <;> rfl
theorem eqN_keys : eqD (.d (.list (Ks.map keyD))) (.d (.list [])) S = .ok (.d (.bool Ks.isEmpty)) S := by
  rw [eqD_d, if_pos ⟨shaped_keys.1, shaped_nil⟩]
  simp only [PyData.eqv, eqvAll_nil, isE_map]
theorem neN_keys : neD (.d (.list (Ks.map keyD))) (.d (.list [])) S = .ok (.d (.bool (!Ks.isEmpty))) S := by
  rw [neD_d, if_pos ⟨shaped_keys.1, shaped_nil⟩]
  simp only [PyData.eqv, eqvAll_nil, isE_map]
theorem eqN_locks : eqD (.d (.list (Ls.map lockD))) (.d (.list [])) S = .ok (.d (.bool Ls.isEmpty)) S := by
  rw [eqD_d, if_pos ⟨shaped_locks.1, shaped_nil⟩]
  simp only [PyData.eqv, eqvAll_nil, isE_map]
theorem neN_locks : neD (.d (.list (Ls.map lockD))) (.d (.list [])) S = .ok (.d (.bool (!Ls.isEmpty))) S := by
  rw [neD_d, if_pos ⟨shaped_locks.1, shaped_nil⟩]
  simp only [PyData.eqv, eqvAll_nil, isE_map]
theorem filter_isE {α : Type} {p : α → Bool} {xs : List α} : (xs.filter p).isEmpty = xs.all fun x => !p x := by
  rw [Bool.eq_iff_iff, List.isEmpty_iff, List.filter_eq_nil_iff, List.all_eq_true]
  simp
theorem itSeq_keysT : itSeq (.d (lockD Ks)) S = .ok (Ks.map keyD) S := rfl
end
end DL
namespace DL
open PySem PySem.Spec PyProof.Rows L2
section
variable {S : Sto} {xs ys zs : List Str}
theorem eqvAll_strs : PyData.eqvAll (xs.map .str) (ys.map .str) = decide (xs = ys) := by
  induction xs generalizing ys with
  | nil => cases ys <;> simp [PyData.eqvAll]
  | cons x r ih =>
    cases ys with
    | nil => simp [PyData.eqvAll]
    | cons y r' =>
      simp only [List.map_cons, PyData.eqvAll, ih, eqv_s]
      rw [Bool.eq_iff_iff]
      simp
theorem shaped_strs (h : ∀ z, z ∈ zs → PyData.strOk z = true) : SeqAt.shaped (.list (zs.map .str)) = true ∧ SeqAt.shaped (.tuple (zs.map .str)) = true := shaped_seq fun x hx => by
  obtain ⟨z, hz, rfl⟩ := List.mem_map.mp hx
  exact ⟨by simpa [PyData.canLay0] using h z hz, by simp [PyData.depth]⟩
theorem eqD_strsL (hx : ∀ z, z ∈ xs → PyData.strOk z = true) (hy : ∀ z, z ∈ ys → PyData.strOk z = true) : eqD (.d (.list (xs.map .str))) (.d (.list (ys.map .str))) S = .ok (.d (.bool (decide (xs = ys)))) S := by
  rw [eqD_d, if_pos ⟨(shaped_strs hx).1, (shaped_strs hy).1⟩]
  simp only [PyData.eqv, eqvAll_strs]
theorem sorted_uniq : ∀ {xs ys : List Str}, (xs.Pairwise fun x y => sLt x y = true) → (ys.Pairwise fun x y => sLt x y = true) → xs.Perm ys → xs = ys
  | [], ys, _, _, h => by simpa using h.symm
  | x :: r, [], _, _, h => by
    have := h.length_eq
    cases this
  | x :: r, y :: s, h1, h2, h => by
    have e : x = y := by
      rcases List.mem_cons.mp (h.mem_iff.mp (List.mem_cons_self (a := x) (l := r))) with e | hx
      · exact e
      · rcases List.mem_cons.mp (h.mem_iff.mpr (List.mem_cons_self (a := y) (l := s))) with e | hy
        · exact e.symm
        · have a := List.rel_of_pairwise_cons h1 hy
          have b := List.rel_of_pairwise_cons h2 hx
          have := sLt_trans a b
          rw [sLt_irr] at this
          cases this
    subst e
    rw [sorted_uniq (List.Pairwise.of_cons h1) (List.Pairwise.of_cons h2) (List.Perm.cons_inv h)]
theorem sorted_strsT (h : ∀ z, z ∈ zs → PyData.strOk z = true) (hn : zs.Nodup) (hp : zs.Perm ys) (hy : ys.Pairwise fun x y => sLt x y = true) : sortedN [.d (.tuple (zs.map .str))] S = .ok (.d (.list (ys.map .str))) S := by
  obtain ⟨ws, e, hw, hs⟩ := sort_strs hn
  have : ws = ys := sorted_uniq hs hy (hw.trans hp)
  subst this
  unfold sortedN seqLT
  simp [sortOk_strs h, e]
theorem sorted_strsL (h : ∀ z, z ∈ zs → PyData.strOk z = true) (hn : zs.Nodup) (hp : zs.Perm ys) (hy : ys.Pairwise fun x y => sLt x y = true) : sortedN [.d (.list (zs.map .str))] S = .ok (.d (.list (ys.map .str))) S := by
  obtain ⟨ws, e, hw, hs⟩ := sort_strs hn
  have : ws = ys := sorted_uniq hs hy (hw.trans hp)
  subst this
  unfold sortedN seqLT
  simp [sortOk_strs h, e, lstOf]
theorem pairsK_s {γ : Type} (kk : γ → Str) (vv : γ → D) : ∀ L : List γ, pairsK (L.map fun q => .tuple [.str (kk q), vv q]) = some (L.map fun q => (.inr (kk q), vv q))
  | [] => rfl
  | q :: r => by
    simp only [List.map_cons, pairsK, keyOf, pairsK_s kk vv r, Option.map_some]
theorem mergeG_s {β : Type} : ∀ (L acc : List (Key × β)), (L.map (·.1)).Nodup → (∀ q, q ∈ L → q.1 ∉ acc.map (·.1)) → mergeG acc L = acc ++ L
  | [], acc, _, _ => by simp [mergeG]
  | q :: r, acc, hn, hf => by
    rw [List.map_cons, List.nodup_cons] at hn
    have := mergeG_s r (acc ++ [q]) hn.2 fun q' hq' z => by
      rw [List.map_append, List.mem_append] at z
      rcases z with z | z
      · exact hf q' (List.mem_cons_of_mem _ hq') z
      · simp at z
        exact hn.1 (List.mem_map.mpr ⟨q', hq', z⟩)
    unfold mergeG at this ⊢
    rw [List.foldl_cons, putG_new (hf q (by simp)), this]
    simp
theorem dictN_s {γ : Type} (L : List γ) (kk : γ → Str) (vv : γ → D) (hn : (L.map kk).Nodup) : dictN [.d (.list (L.map fun q => .tuple [.str (kk q), vv q]))] S = .ok (.d (.dict (L.map fun q => (.str (kk q), vv q)))) S := by
  have hn2 : ((L.map fun q => ((Sum.inr (kk q) : Key), vv q)).map (·.1)).Nodup := by
    rw [List.map_map]
    show (L.map fun q => (Sum.inr (kk q) : Key)).Nodup
    have e : (L.map fun q => (Sum.inr (kk q) : Key)) = (L.map kk).map Sum.inr := by simp
    rw [e, List.nodup_iff_pairwise_ne, List.pairwise_map]
    exact hn.imp fun h z => h (by injection z)
  have e := mergeG_s (L.map fun q => ((Sum.inr (kk q) : Key), vv q)) [] hn2 (by simp)
  unfold dictN
  simp only [lstOf, Option.bind_some, pairsK_s, e, List.nil_append, dictK_s]
end
end DL
namespace DL
open PySem PySem.Spec PyProof.Rows L2
variable {n : Nat} {xs ys : List D} {S : Sto} {i a b : Int}
theorem extD_l (h : S[n]? = some (.lst xs)) (hl : xs.length + ys.length ≤ 16777216) : extD (.r n) (.d (.list ys)) S = .ok (.r n) (S.set n (.lst (xs ++ ys))) := by
  have e : extD (.r n) (.d (.list ys)) S = (match S[n]?, some ys with
    | some (.lst xs), some ys => if xs.length + ys.length ≤ 16777216 then .ok (.r n) (S.set n (.lst (xs ++ ys))) else .bad
    | _, _ => .bad) := rfl
  rw [e, h]
  exact if_pos hl
theorem extD_t (h : S[n]? = some (.lst xs)) (hl : xs.length + ys.length ≤ 16777216) : extD (.r n) (.d (.tuple ys)) S = .ok (.r n) (S.set n (.lst (xs ++ ys))) := by
  have e : extD (.r n) (.d (.tuple ys)) S = (match S[n]?, some ys with
    | some (.lst xs), some ys => if xs.length + ys.length ≤ 16777216 then .ok (.r n) (S.set n (.lst (xs ++ ys))) else .bad
    | _, _ => .bad) := rfl
  rw [e, h]
  exact if_pos hl
@[simp] theorem sAugI_ap {h : Int → Int → Int} {f g k : DE} {ρ : Rho} : sAugI h f g k ρ S = (f ρ S).goR fun w S1 => (g ρ S1).goR fun y S2 => augI h k ρ w y S2 := rfl
theorem nodup_sub_len {α : Type} [DecidableEq α] : ∀ (xs ys : List α), xs.Nodup → (∀ x, x ∈ xs → x ∈ ys) → xs.length ≤ ys.length
  | [], _, _, _ => Nat.zero_le _
  | x :: r, ys, hn, h => by
    rw [List.nodup_cons] at hn
    have ih := nodup_sub_len r (ys.erase x) hn.2 fun z hz => (List.mem_erase_of_ne fun e => hn.1 (by rw [← e]; exact hz)).mpr (h z (List.mem_cons_of_mem _ hz))
    have hx := h x List.mem_cons_self
    have := List.length_erase_of_mem hx
    have := List.length_pos_of_mem hx
    rw [List.length_cons]
    omega
theorem ToB_mono {m : Rt} {N N' B B' : Rho → Sto → Prop} {R R' : U → Sto → Prop} (h : m.ToB N B R) (h1 : ∀ ρ S, N ρ S → N' ρ S) (h2 : ∀ ρ S, B ρ S → B' ρ S) (h3 : ∀ u S, R u S → R' u S) : m.ToB N' B' R' := by
  cases m with
  | nx ρ S => exact h1 ρ S h
  | rt u S => exact h3 u S h
  | bk ρ S => exact h2 ρ S h
  | ct ρ S => exact h1 ρ S h
  | ex _ _ _ => exact h.elim
  | bad => exact h.elim
theorem To_mono {m : Rt} {N N' : Rho → Sto → Prop} {R R' : U → Sto → Prop} (h : m.To N R) (h1 : ∀ ρ S, N ρ S → N' ρ S) (h3 : ∀ u S, R u S → R' u S) : m.To N' R' := by
  cases m with
  | nx ρ S => exact h1 ρ S h
  | rt u S => exact h3 u S h
  | bk _ _ => exact h.elim
  | ct _ _ => exact h.elim
  | ex _ _ _ => exact h.elim
  | bad => exact h.elim
theorem To_toB {m : Rt} {N B : Rho → Sto → Prop} {R : U → Sto → Prop} (h : m.To N R) : m.ToB N B R := by
  cases m with
  | nx ρ S => exact h
  | rt u S => exact h
  | bk _ _ => exact h.elim
  | ct _ _ => exact h.elim
  | ex _ _ _ => exact h.elim
  | bad => exact h.elim
/-! ### sorted(d), d with texts -/
theorem strKeys_map {γ : Type} (kk : γ → Str) (vv : γ → D) : ∀ L : List γ, strKeys (L.map fun q => (.str (kk q), vv q)) = some (L.map kk)
  | [] => rfl
  | q :: r => by
    rw [List.map_cons, List.map_cons]
    show (strKeys (r.map fun q => (.str (kk q), vv q))).map (kk q :: ·) = _
    rw [strKeys_map kk vv r]
    rfl
theorem sortedDA_s {γ : Type} (kk : γ → Str) (vv : γ → D) (L : List γ) (hl : L.length < 64) : sortedDA [.d (.dict (L.map fun q => (.str (kk q), vv q)))] S = .ok (.d (.list (sortL ((L.map kk).map .str)))) S := by
  cases L with
  | nil => simp [sortedDA, intKeys, strKeys, sortI, sortL]
  | cons q r =>
    have hk := strKeys_map kk vv (q :: r)
    unfold sortedDA
    have hi : intKeys ((q :: r).map fun q => ((PyData.str (kk q), vv q) : D × D)) = none := rfl
    simp only [hi, hk]
    rw [if_pos (by rw [List.length_map]; exact hl)]
/-! ### dict([(z, v), ..]) over texts, some of them more than once -/
theorem mergeG_strs (v : D) : ∀ (zs acc : List Str), acc.Nodup → ∃ ws : List Str, mergeG (acc.map fun z => ((.inr z : Key), v)) (zs.map fun z => (.inr z, v)) = (ws.map fun z => (.inr z, v)) ∧ ws.Nodup ∧ (∀ z, z ∈ ws ↔ z ∈ acc ∨ z ∈ zs) ∧ ws.length ≤ acc.length + zs.length
  | [], acc, h => ⟨acc, rfl, h, fun z => by simp, by simp⟩
  | z :: zs, acc, h => by
    have e : putG (acc.map fun i => ((.inr i : Key), v)) (.inr z) v = (if z ∈ acc then acc else acc ++ [z]).map fun i => (.inr i, v) := by
      unfold putG
      by_cases hi : z ∈ acc
      · rw [if_pos hi, if_pos (by simpa using hi)]
        rw [List.map_map]
        apply List.map_congr_left
        intro j hj
        simp
        try (rintro rfl; rfl)
      · rw [if_neg hi, if_neg (by simpa using hi)]
        simp
    have hn : (if z ∈ acc then acc else acc ++ [z]).Nodup := by
      split
      · exact h
      · rename_i hz
        rw [List.nodup_append]
        exact ⟨h, by simp, fun x hx y hy => by rintro rfl; simp at hy; exact hz (hy ▸ hx)⟩
    obtain ⟨ws, e1, e2, e3, e4⟩ := mergeG_strs v zs _ hn
    refine ⟨ws, ?_, e2, fun w => ?_, ?_⟩
    · show List.foldl _ (putG _ _ _) _ = _
      rw [e]
      exact e1
    · rw [e3]
      by_cases hz : z ∈ acc
      · rw [if_pos hz, List.mem_cons]
        constructor
        · rintro (h1 | h1)
          · exact .inl h1
          · exact .inr (.inr h1)
        · rintro (h1 | rfl | h1)
          · exact .inl h1
          · exact .inl hz
          · exact .inr h1
      · rw [if_neg hz]
        simp only [List.mem_append, List.mem_cons, List.not_mem_nil, or_false]
        exact or_assoc
    · have : (if z ∈ acc then acc else acc ++ [z]).length ≤ acc.length + 1 := by split <;> simp
      rw [List.length_cons]
      omega
theorem dictN_strs (v : D) (zs : List Str) : ∃ ws : List Str, dictN [.d (.list (zs.map fun z => .tuple [.str z, v]))] S = .ok (.d (.dict (ws.map fun z => (.str z, v)))) S ∧ ws.Nodup ∧ (∀ z, z ∈ ws ↔ z ∈ zs) ∧ ws.length ≤ zs.length := by
  obtain ⟨ws, e1, e2, e3, e4⟩ := mergeG_strs v zs [] List.nodup_nil
  refine ⟨ws, ?_, e2, fun z => by simpa using e3 z, by simpa using e4⟩
  have hp := pairsK_s (fun z : Str => z) (fun _ => v) zs
  rw [List.map_nil] at e1
  unfold dictN
  simp only [lstOf, Option.bind_some, hp, e1, dictK, List.map_map]
  rfl
end DL
namespace DL
open PySem PySem.Spec PyProof.Rows L2
/-! ### dicts whose keys are numbers, kept or built: how they compute -/
section
variable {S : Sto} {ρ : Rho} {i : Int}
@[simp] theorem dDNew_ap : dDNew ρ S = .ok (.r S.length) (S ++ [.dic []]) := rfl
@[simp] theorem sPutI_ap {f g k : DE} : sPutI f g k ρ S = (k ρ S).goR fun u S1 => (toD u S1).goR fun x S2 => (f ρ S2).goR fun w S3 => (g ρ S3).goR fun y S4 => (putN w y x S4).goR fun _ S5 => .nx ρ S5 := rfl
@[simp] theorem dFz_ap {f : DE} : dFz f ρ S = (f ρ S).bnd fun u S1 => (toD u S1).bnd fun x S2 => .ok (.d x) S2 := rfl
/-- a dict from numbers -/
def idP {α : Type} (f : α → D) (m : List (Int × α)) : List (D × D) := m.map fun p => (.int p.1, f p.2)
def idD {α : Type} (f : α → D) (m : List (Int × α)) : D := .dict (idP f m)
variable {α : Type} {f : α → D} {m : List (Int × α)} {k : Int} {x : α}
theorem itKeys_i : itKeys (.d (idD f m)) S = .ok (m.map fun p => .int p.1) S := by
  unfold idD idP itKeys
  cases m with
  | nil => rfl
  | cons kv r => simp
def getI (m : List (Int × α)) (k : Int) : Option α := (m.find? fun p => decide (p.1 = k)).map (·.2)
theorem getK_i : ∀ (m : List (Int × α)), getK (idP f m) (.int k) = (getI m k).map f
  | [] => rfl
  | kv :: r => by
    have ih := getK_i r
    unfold getK getI idP at ih ⊢
    rw [List.map_cons, List.find?_cons, List.find?_cons]
    by_cases h : kv.1 = k
    · simp [eqKey, h]
    · simp only [eqKey, h, decide_false]
      exact ih
theorem ixA_i (h : getI m k = some x) : ixA (.d (idD f m)) (.d (.int k)) S = .ok (.d (f x)) S := by
  unfold idD ixA
  simp only []
  unfold getD'
  simp only [keyOf, getK_i, h, Option.map_some]
theorem getI_mem {p : Int × α} : ∀ {m : List (Int × α)}, (m.map (·.1)).Nodup → p ∈ m → getI m p.1 = some p.2
  | kv :: r, hn, h => by
    unfold getI
    rw [List.find?_cons]
    rw [List.map_cons, List.nodup_cons] at hn
    rcases List.mem_cons.mp h with rfl | h
    · simp
    · have : kv.1 ≠ p.1 := fun e => hn.1 (by rw [e]; exact List.mem_map.mpr ⟨_, h, rfl⟩)
      simp only [this, decide_false]
      exact getI_mem hn.2 h
theorem idP_enc : idP f m = encK (m.map fun p => (.inl p.1, f p.2)) := by
  unfold idP encK
  rw [List.map_map]
  rfl
theorem putN_i {n : Nat} {d : D} (h : S[n]? = some (.dic (idP f m))) (hk : k ∉ m.map (·.1)) (hl : m.length < 16777216) (hd : f x = d) : putN (.r n) (.d (.int k)) d S = .ok (.d .none) (S.set n (.dic (idP f (m ++ [(k, x)])))) := by
  unfold putN
  simp only [h, keyOf, idP_enc, decK_enc]
  rw [if_pos (by simpa using hl), putG_new]
  · simp [hd]
  · intro hm
    apply hk
    rw [List.map_map] at hm
    obtain ⟨p, hp, e⟩ := List.mem_map.mp hm
    cases e
    exact List.mem_map.mpr ⟨p, hp, rfl⟩
theorem dic_at : (S ++ [Cell.dic (idP f m)])[S.length]? = some (.dic (idP f m)) := by simp
theorem dic_set {kvs kvs' : List (D × D)} : (S ++ [Cell.dic kvs]).set S.length (.dic kvs') = S ++ [.dic kvs'] := by simp
theorem putN_new {d : D} (hk : k ∉ m.map (·.1)) (hl : m.length < 16777216) (hd : f x = d) : putN (.r S.length) (.d (.int k)) d (S ++ [.dic (idP f m)]) = .ok (.d .none) (S ++ [.dic (idP f (m ++ [(k, x)]))]) := by
  rw [putN_i dic_at hk hl hd, dic_set]
theorem toD_dic {kvs : List (D × D)} : toD (.r S.length) (S ++ [.dic kvs]) = .ok (.dict kvs) (S ++ [.fz (.dict kvs)]) := by
  unfold toD
  simp [Cell.dat]
/-- dict([(k, v), ..]), the keys numbers, none twice -/
theorem dictN_i (hn : (m.map (·.1)).Nodup) : dictN [.d (.list (m.map fun p => .tuple [.int p.1, f p.2]))] S = .ok (.d (idD f m)) S := by
  have h1 : pairsK (m.map fun p => PyData.tuple [.int p.1, f p.2]) = some (m.map fun p => (.inl p.1, f p.2)) := by
    clear hn
    induction m with
    | nil => rfl
    | cons i r ih => simp only [List.map_cons, pairsK, keyOf, ih, Option.map_some]
  have h2 : ∀ (l acc : List (Key × D)), ((acc ++ l).map (·.1)).Nodup → mergeG acc l = acc ++ l := by
    intro l
    induction l with
    | nil => intro acc _; simp [mergeG]
    | cons p r ih =>
      intro acc hn
      have : mergeG acc (p :: r) = mergeG (putG acc p.1 p.2) r := rfl
      rw [this, putG_new, ih]
      · simp
      · simpa using hn
      · intro hm
        rw [List.map_append, List.map_cons, List.nodup_append] at hn
        exact hn.2.2 _ hm _ (by simp) rfl
  unfold dictN
  simp only [lstOf, Option.bind_some, h1]
  have := h2 (m.map fun p => (.inl p.1, f p.2)) [] (by
    rw [List.nil_append, List.map_map]
    have e : ((fun x : Key × D => x.1) ∘ fun p : Int × α => ((.inl p.1 : Key), f p.2)) = (Sum.inl : Int → Key) ∘ (·.1) := rfl
    rw [e, ← List.map_map]
    exact List.pairwise_map.mpr (List.Pairwise.imp (fun h e => h (by cases e; rfl)) hn))
  simp only [this, List.nil_append, dictK, idD, idP, List.map_map]
  rfl
theorem sumN_i {is : List Int} : sumN [.d (.list (is.map .int))] S = .ok (.d (.int is.sum)) S := by
  unfold sumN
  simp only [lstOf, Option.bind_some, intsL_map]
end
end DL
namespace DL
open PySem PySem.Spec PyProof.Rows L2
/-! ### pairs of texts -/
def pD (q : Str × Str) : D := .tuple [.str q.1, .str q.2]
def POk (q : Str × Str) : Prop := PyData.strOk q.1 = true ∧ PyData.strOk q.2 = true
section
variable {S : Sto} {q r : Str × Str} {qs rs : List (Str × Str)} {xs ys zs : List Str}
theorem pD_can (h : POk q) : (pD q).canLay0 = true ∧ (pD q).depth ≤ 2 := by
  obtain ⟨h1, h2⟩ := h
  simp [pD, PyData.canLay0, PyData.depth, PyData.canLayAll0, PyData.depthAll, h1, h2]
theorem shaped_p (h : POk q) : SeqAt.shaped (pD q) = true := shaped_iff.mpr ⟨(pD_can h).1, by have := (pD_can h).2; omega⟩
theorem shaped_ps (h : ∀ q, q ∈ qs → POk q) : SeqAt.shaped (.list (qs.map pD)) = true ∧ SeqAt.shaped (.tuple (qs.map pD)) = true := shaped_seq fun x hx => by
  obtain ⟨q, hq, rfl⟩ := List.mem_map.mp hx
  exact ⟨(pD_can (h q hq)).1, by have := (pD_can (h q hq)).2; omega⟩
theorem eqv_p : PyData.eqv (pD q) (pD r) = decide (q = r) := by
  show PyData.eqvAll ([q.1, q.2].map .str) ([r.1, r.2].map .str) = _
  rw [eqvAll_strs]
  obtain ⟨a, b⟩ := q
  obtain ⟨c, d⟩ := r
  simp
theorem any_ps : ((qs.map pD).any fun z => PyData.eqv z (pD q)) = decide (q ∈ qs) := by
  rw [Bool.eq_iff_iff, List.any_eq_true, decide_eq_true_eq]
  constructor
  · rintro ⟨x, hx, e⟩
    obtain ⟨r, hr, rfl⟩ := List.mem_map.mp hx
    rw [eqv_p] at e
    rw [← of_decide_eq_true e]
    exact hr
  · intro h
    exact ⟨pD q, List.mem_map.mpr ⟨q, h, rfl⟩, by rw [eqv_p]; simp⟩
theorem inD_psL {neg : Bool} (hq : POk q) (h : ∀ q, q ∈ qs → POk q) : inD neg (.d (pD q)) (.d (.list (qs.map pD))) S = .ok (.d (.bool (if neg = true then !decide (q ∈ qs) else decide (q ∈ qs)))) S := by
  show (if SeqAt.shaped (pD q) = true ∧ SeqAt.shaped (.list (qs.map pD)) = true then Rs.ok (U.d (.bool (if neg = true then !((qs.map pD).any fun z => PyData.eqv z (pD q)) else (qs.map pD).any fun z => PyData.eqv z (pD q)))) S else .bad) = _
  rw [if_pos ⟨shaped_p hq, (shaped_ps h).1⟩, any_ps]
theorem inD_psT {neg : Bool} (hq : POk q) (h : ∀ q, q ∈ qs → POk q) : inD neg (.d (pD q)) (.d (.tuple (qs.map pD))) S = .ok (.d (.bool (if neg = true then !decide (q ∈ qs) else decide (q ∈ qs)))) S := by
  show (if SeqAt.shaped (pD q) = true ∧ SeqAt.shaped (.tuple (qs.map pD)) = true then Rs.ok (U.d (.bool (if neg = true then !((qs.map pD).any fun z => PyData.eqv z (pD q)) else (qs.map pD).any fun z => PyData.eqv z (pD q)))) S else .bad) = _
  rw [if_pos ⟨shaped_p hq, (shaped_ps h).2⟩, any_ps]
theorem inA_psT {neg : Bool} (hq : POk q) (h : ∀ q, q ∈ qs → POk q) : inA neg (.d (pD q)) (.d (.tuple (qs.map pD))) S = .ok (.d (.bool (if neg = true then !decide (q ∈ qs) else decide (q ∈ qs)))) S := inD_psT hq h
theorem any_ss {z : Str} : ((zs.map PyData.str).any fun w => PyData.eqv w (.str z)) = decide (z ∈ zs) := by
  rw [Bool.eq_iff_iff, List.any_eq_true, decide_eq_true_eq]
  constructor
  · rintro ⟨x, hx, e⟩
    obtain ⟨r, hr, rfl⟩ := List.mem_map.mp hx
    have e : PyData.eqv (.str r) (.str z) = true := e
    rw [eqv_s] at e
    have : r = z := by simpa using e
    rw [← this]
    exact hr
  · intro h
    exact ⟨.str z, List.mem_map.mpr ⟨z, h, rfl⟩, by rw [eqv_s]; simp⟩
theorem inD_ss {neg : Bool} {z : Str} (hz : PyData.strOk z = true) (h : ∀ z, z ∈ zs → PyData.strOk z = true) :
    inD neg (.d (.str z)) (.d (.list (zs.map .str))) S = .ok (.d (.bool (if neg = true then !decide (z ∈ zs) else decide (z ∈ zs)))) S ∧ inD neg (.d (.str z)) (.d (.tuple (zs.map .str))) S = .ok (.d (.bool (if neg = true then !decide (z ∈ zs) else decide (z ∈ zs)))) S := by
  constructor
  · show (if SeqAt.shaped (.str z) = true ∧ SeqAt.shaped (.list (zs.map .str)) = true then Rs.ok (U.d (.bool (if neg = true then !((zs.map PyData.str).any fun w => PyData.eqv w (.str z)) else (zs.map PyData.str).any fun w => PyData.eqv w (.str z)))) S else .bad) = _
    rw [if_pos ⟨shaped_s hz, (shaped_strs h).1⟩, any_ss]
  · show (if SeqAt.shaped (.str z) = true ∧ SeqAt.shaped (.tuple (zs.map .str)) = true then Rs.ok (U.d (.bool (if neg = true then !((zs.map PyData.str).any fun w => PyData.eqv w (.str z)) else (zs.map PyData.str).any fun w => PyData.eqv w (.str z)))) S else .bad) = _
    rw [if_pos ⟨shaped_s hz, (shaped_strs h).2⟩, any_ss]
theorem neD_strsL (hx : ∀ z, z ∈ xs → PyData.strOk z = true) (hy : ∀ z, z ∈ ys → PyData.strOk z = true) : neD (.d (.list (xs.map .str))) (.d (.list (ys.map .str))) S = .ok (.d (.bool (!decide (xs = ys)))) S := by
  rw [neD_d, if_pos ⟨(shaped_strs hx).1, (shaped_strs hy).1⟩]
  simp only [PyData.eqv, eqvAll_strs]
/-- the order of pairs -/
def pLt (q r : Str × Str) : Bool := sLt q.1 r.1 || (decide (q.1 = r.1) && sLt q.2 r.2)
theorem pLt_yes (h : pLt q r = true) : PySem.W.dataLt (pD q) (pD r) = true := by
  obtain ⟨a, b⟩ := q
  obtain ⟨c, d⟩ := r
  have e : PySem.W.dataLt (pD (a, b)) (pD (c, d)) = PyProof.Rows.lexLt itemOrd (PySem.W.keyToksAll [.str a, .str b]) (PySem.W.keyToksAll [.str c, .str d]) := PySem.W.dataLt_tuple _ _
  rw [e]
  have h : (sLt a c || (decide (a = c) && sLt b d)) = true := h
  rw [Bool.or_eq_true, Bool.and_eq_true, decide_eq_true_eq] at h
  have hal : ∀ x y : Str, PySem.W.alike (.str x) (.str y) = true := fun _ _ => rfl
  by_cases hac : a = c
  · rw [PySem.W.dataLt_all_yes (hal a c) (by rw [hac, eqv_s]; simp)]
    have hbd : sLt b d = true := by
      rcases h with h | h
      · rw [hac, sLt_irr] at h
        cases h
      · exact h.2
    have hne : b ≠ d := fun z => by rw [z, sLt_irr] at hbd; cases hbd
    rw [PySem.W.dataLt_all_no (hal b d) (by rw [eqv_s]; simpa using hne)]
    exact hbd
  · rw [PySem.W.dataLt_all_no (hal a c) (by rw [eqv_s]; simpa using hac)]
    rcases h with h | h
    · exact h
    · exact absurd h.1 hac
theorem ltD_p (hq : POk q) (hr : POk r) (h : pLt q r = true) : ltD (.d (pD q)) (.d (pD r)) S = .ok (.d (.bool true)) S := by
  have ho : ordC (pD q) (pD r) = true := by
    have : PySem.W.alike (pD q) (pD r) = true := rfl
    simp only [ordC, shaped_p hq, shaped_p hr, this, Bool.true_and]
    rfl
  show (if ordC (pD q) (pD r) = true then Rs.ok (U.d (.bool (PySem.W.dataLt (pD q) (pD r)))) S else .bad) = _
  rw [if_pos ho, pLt_yes h]
theorem isLst_end {xs : List D} : isLst S.length (S ++ [.lst xs]) = true := by simp [isLst]
theorem app_end {xs : List D} {x : D} (h : xs.length < 16777216) : appN S.length (.d x) (S ++ [.lst xs]) = .ok (.d .none) (S ++ [.lst (xs ++ [x])]) := by
  unfold appN
  simp [h]
theorem tupleN_end {xs : List D} : tupleN [.r S.length] (S ++ [.lst xs]) = .ok (.d (.tuple xs)) (S ++ [.lst xs]) := by
  have e : (S ++ [Cell.lst xs])[S.length]? = some (.lst xs) := by simp
  have e2 : seqOf (.r S.length) (S ++ [.lst xs]) = some xs := by
    simp [seqOf, lstOf, e]
  unfold tupleN
  simp only [e2]
end
end DL
namespace LW
open PySem PySem.Spec PyProof.Rows L2 DL
def top (i : Nat) : Stmt := PySem.Challenge.pw_masterpins_k93_whole_tighter_systems.main.body.getD i (.Pass ⟨0, 0, 0, 0⟩)
def mkD (x : Str) (i : Nat) : He.DefD := ⟨(x, none), x, x, defArgs (top i), defBody (top i), defScope (top i), [], []⟩
def fn : List He.DefD := [mkD "fits_name" 14, mkD "is_whole" 15, mkD "fits_whole" 16, mkD "is_tuple_of" 17, mkD "is_rising" 18, mkD "fits_make" 19, mkD "fits_cuts" 20, mkD "fits_key" 21, mkD "fits_set" 22, mkD "fits_lock" 23, mkD "does_open" 24, mkD "need_make" 25, mkD "fits_named" 28, mkD "fits_system" 29, mkD "need_system" 30, mkD "locks_in" 31, mkD "keys_in" 32, mkD "table_in" 33, mkD "who_opens" 34, mkD "need_keys" 37, mkD "need_doors" 38, mkD "need_wanted" 39, mkD "need_all" 40, mkD "lock_in" 41, mkD "locks_for" 42, mkD "clashes_in" 43, mkD "planned" 44, mkD "need_alike" 45, mkD "pairs_of" 46, mkD "changes" 47, mkD "is_tighter" 48, mkD "tightened" 49, mkD "_law_cup" 51, mkD "_law_roll" 52, mkD "_law_some" 53, mkD "_law_same" 54, mkD "_law_names" 55, mkD "_law_make" 56, mkD "_law_key" 57, mkD "_law_lock" 58, mkD "_law_opens" 59, mkD "_law_system" 60, mkD "_law_lock_of" 61, mkD "_law_bent" 62, mkD "law" 63]
def fa : List He.Fa := [.glo "fits_name", .glo "is_whole", .glo "fits_whole", .glo "is_tuple_of", .glo "is_rising", .glo "fits_make", .glo "fits_cuts", .glo "fits_key", .glo "fits_set", .glo "fits_lock", .glo "does_open", .glo "need_make", .glo "fits_named", .glo "fits_system", .glo "need_system", .glo "locks_in", .glo "keys_in", .glo "table_in", .glo "who_opens", .glo "need_keys", .glo "need_doors", .glo "need_wanted", .glo "need_all", .glo "lock_in", .glo "locks_for", .glo "clashes_in", .glo "planned", .glo "need_alike", .glo "pairs_of", .glo "changes", .glo "is_tighter", .glo "tightened", .glo "_law_cup", .glo "_law_roll", .glo "_law_some", .glo "_law_same", .glo "_law_names", .glo "_law_make", .glo "_law_key", .glo "_law_lock", .glo "_law_opens", .glo "_law_system", .glo "_law_lock_of", .glo "_law_bent", .glo "law", .free "ValueError", .free "abs", .free "all", .free "bool", .free "dict", .free "int", .free "isinstance", .free "len", .free "list", .free "max", .free "min", .free "range", .free "set", .free "sorted", .free "str", .free "tuple", .free "zip", .str "LETTERS" "abcdefghijklmnopqrstuvwxyz", .str "SIGNS" "abcdefghijklmnopqrstuvwxyz0123456789", .int "LONGEST" 12, .int "PLACES" 8, .int "HEIGHTS" 10, .int "STEP" 9, .int "MANY_systems" 40, .int "MANY_rights" 40]
section
variable {P : Program} {w : World} {K : PySem.W.Frag} {mg : Str → Option Value} {base : Heap}
abbrev N_fits_name : List Str := ["value", "sign"]
theorem sc_fits_name : FnScope N_fits_name ["value"] (defScope (top 14)) := ⟨rfl, rfl, rfl, by decide +kernel, rfl, by decide +kernel, by decide +kernel⟩
def t_fits_name : DS := (sSeq (sIf (dOrT (dNotT (dTru (dOp1 (isiD .str) (dVar 0)))) (dNotT (dTest (dChain leD leD (dC (.int 1)) (dCall lenN (aCons (dVar 0) aNil)) (dC (.int 12)))))) (sRet (dC (.bool false))) sNil) (sRet (dAndV (dOp2 (inD false) (dOp2 ixD (dVar 0) (dC (.int 0))) (dC (.str "abcdefghijklmnopqrstuvwxyz"))) (dCall allN (aCons (dComp (dItS (dVar 0)) (gN 1) [1] tstY (dOp2 (inD false) (dVar 1) (dC (.str "abcdefghijklmnopqrstuvwxyz0123456789")))) aNil)))))
def F_fits_name : Fn := fnD 1 2 t_fits_name
theorem ok_fits_name (T : Tx fa fn K mg) : Has P w K mg base 1 "fits_name" ["value"] F_fits_name := has_of T 0 0 (d := mkD "fits_name" 14) (N := N_fits_name) rfl rfl rfl rfl rfl sc_fits_name rfl rfl (fun _ _ _ _ _ _ us hl => match us, hl with | [_], _ => rfl) fun f cdv A outer s H E hr => have nd := sc_fits_name.nd
  (sd_cons (sd_if (PW.pt (wd_or (pd_notT (pd_tru (pd_isi .str (by decide) (pd_var 0) rfl (T.free 51) rfl (T.free 59) (by decide +kernel) (by decide +kernel)))) (wd_or1 (pd_notT (pd_chainT (or_le (u64 hr)) (or_le (u64 hr)) lk_ord lk_ord pd_int (pd_callB call_len lk_len rfl (T.free 52) (by decide +kernel) (ad_cons (pd_var 0) ad_nil)) (pd_gint rfl (T.int 64))))))) (sd_one (sd_ret pd_bl)) sd_nil)
    (sd_one (sd_ret (pd_and (pd_cmp (or_in (u65 hr)) lk_in (pd_ix (pd_var 0) pd_int) (pd_gstr rfl (T.str 62)) (by rfl)) (pd_one (pd_callB (cr_all rfl) lk_bools rfl (T.free 47) (by decide +kernel) (ad_cons (pd_lc (own := [("sign", 1)]) rfl nd (id_str (pd_var 0)) (blkOk_by (by rfl)) (by decide) (fun _ _ _ _ _ => (gd_name (i := 1) nd rfl (by first | exact Or.inl rfl | exact Or.inr rfl))) (fun _ _ _ _ _ => td_nil) (fun _ _ _ _ _ => (pd_cmp (or_in (u65 hr)) lk_in (pd_var 1) (pd_gstr rfl (T.str 63)) (by rfl)))) ad_nil)))))))
abbrev N_is_whole : List Str := ["value"]
theorem sc_is_whole : FnScope N_is_whole ["value"] (defScope (top 15)) := ⟨rfl, rfl, rfl, by decide +kernel, rfl, by decide +kernel, by decide +kernel⟩
def t_is_whole : DS := (sRet (dAndV (dOp1 (isiD .int) (dVar 0)) (dNotV (dOp1 (isiD .bool) (dVar 0)))))
def F_is_whole : Fn := fnD 1 1 t_is_whole
theorem ok_is_whole (T : Tx fa fn K mg) : Has P w K mg base 1 "is_whole" ["value"] F_is_whole := has_of T 1 1 (d := mkD "is_whole" 15) (N := N_is_whole) rfl rfl rfl rfl rfl sc_is_whole rfl rfl (fun _ _ _ _ _ _ us hl => match us, hl with | [_], _ => rfl) fun f cdv A outer s H E hr => have nd := sc_is_whole.nd
  (sd_one (sd_ret (pd_and (pd_isi .int (by decide) (pd_var 0) rfl (T.free 51) rfl (T.free 50) (by decide +kernel) (by decide +kernel)) (pd_one (pd_not (pd_isi .bool (by decide) (pd_var 0) rfl (T.free 51) rfl (T.free 48) (by decide +kernel) (by decide +kernel)))))))
abbrev N_fits_whole : List Str := ["value", "low", "high"]
theorem sc_fits_whole : FnScope N_fits_whole ["value", "low", "high"] (defScope (top 16)) := ⟨rfl, rfl, rfl, by decide +kernel, rfl, by decide +kernel, by decide +kernel⟩
def t_fits_whole : DS := (sRet (dAndV (dFn F_is_whole (aCons (dVar 0) aNil)) (dChain leD leD (dVar 1) (dVar 0) (dVar 2))))
def F_fits_whole : Fn := fnD 3 3 t_fits_whole
theorem ok_fits_whole (T : Tx fa fn K mg) : Has P w K mg base 2 "fits_whole" ["value", "low", "high"] F_fits_whole := has_of T 2 2 (d := mkD "fits_whole" 16) (N := N_fits_whole) rfl rfl rfl rfl rfl sc_fits_whole rfl rfl (fun _ _ _ _ _ _ us hl => match us, hl with | [_, _, _], _ => rfl) fun f cdv A outer s H E hr => have nd := sc_fits_whole.nd
  (sd_one (sd_ret (pd_and (pd_fnH (ok_is_whole T) hr (by decide) rfl (ad_cons (pd_var 0) ad_nil)) (pd_one (pd_chain (or_le (u64 hr)) (or_le (u64 hr)) lk_ord lk_ord (pd_var 1) (pd_var 0) (pd_var 2))))))
abbrev N_is_tuple_of : List Str := ["value", "least", "most"]
theorem sc_is_tuple_of : FnScope N_is_tuple_of ["value", "least", "most"] (defScope (top 17)) := ⟨rfl, rfl, rfl, by decide +kernel, rfl, by decide +kernel, by decide +kernel⟩
def t_is_tuple_of : DS := (sRet (dAndV (dOp1 (isiD .tuple) (dVar 0)) (dChain leD leD (dVar 1) (dCall lenN (aCons (dVar 0) aNil)) (dVar 2))))
def F_is_tuple_of : Fn := fnD 3 3 t_is_tuple_of
theorem ok_is_tuple_of (T : Tx fa fn K mg) : Has P w K mg base 1 "is_tuple_of" ["value", "least", "most"] F_is_tuple_of := has_of T 3 3 (d := mkD "is_tuple_of" 17) (N := N_is_tuple_of) rfl rfl rfl rfl rfl sc_is_tuple_of rfl rfl (fun _ _ _ _ _ _ us hl => match us, hl with | [_, _, _], _ => rfl) fun f cdv A outer s H E hr => have nd := sc_is_tuple_of.nd
  (sd_one (sd_ret (pd_and (pd_isi .tuple (by decide) (pd_var 0) rfl (T.free 51) rfl (T.free 60) (by decide +kernel) (by decide +kernel)) (pd_one (pd_chain (or_le (u64 hr)) (or_le (u64 hr)) lk_ord lk_ord (pd_var 1) (pd_callB call_len lk_len rfl (T.free 52) (by decide +kernel) (ad_cons (pd_var 0) ad_nil)) (pd_var 2))))))
abbrev N_is_rising : List Str := ["values", "one", "other"]
theorem sc_is_rising : FnScope N_is_rising ["values"] (defScope (top 18)) := ⟨rfl, rfl, rfl, by decide +kernel, rfl, by decide +kernel, by decide +kernel⟩
def t_is_rising : DS := (sRet (dCall allN (aCons (dComp (dItA itZip (aCons (dVar 0) (aCons (dSl (dVar 0) (oSo (dC (.int 1))) oNo) aNil))) (gT (gsC (gN 1) (gsC (gN 2) gsN))) [1, 2] tstY (dOp2 ltD (dVar 1) (dVar 2))) aNil)))
def F_is_rising : Fn := fnD 1 3 t_is_rising
theorem ok_is_rising (T : Tx fa fn K mg) : Has P w K mg base 1 "is_rising" ["values"] F_is_rising := has_of T 4 4 (d := mkD "is_rising" 18) (N := N_is_rising) rfl rfl rfl rfl rfl sc_is_rising rfl rfl (fun _ _ _ _ _ _ us hl => match us, hl with | [_], _ => rfl) fun f cdv A outer s H E hr => have nd := sc_is_rising.nd
  (sd_one (sd_ret (pd_callB (cr_all rfl) lk_bools rfl (T.free 47) (by decide +kernel) (ad_cons (pd_lc (own := [("one", 1), ("other", 2)]) rfl nd (id_zip rfl (T.free 61) (ad_cons (pd_var 0) (ad_cons (pd_sl (pd_var 0) (od_so pd_int) od_no) ad_nil))) (blkOk_by (by rfl)) (by decide) (fun _ _ _ _ _ => (gd_tup rfl (gsd_cons (gd_name (i := 1) nd rfl (by first | exact Or.inl rfl | exact Or.inr rfl)) (gsd_cons (gd_name (i := 2) nd rfl (by first | exact Or.inl rfl | exact Or.inr rfl)) gsd_nil)) (gsLen_cons (gsLen_cons gsLen_nil)))) (fun _ _ _ _ _ => td_nil) (fun _ _ _ _ _ => (pd_cmp (or_lt (u64 hr)) lk_ord (pd_var 1) (pd_var 2) (nomark _)))) ad_nil))))
abbrev N_fits_make : List Str := ["value"]
theorem sc_fits_make : FnScope N_fits_make ["value"] (defScope (top 19)) := ⟨rfl, rfl, rfl, by decide +kernel, rfl, by decide +kernel, by decide +kernel⟩
def t_fits_make : DS := (sSeq (sIf (dOrT (dNotT (dTru (dFn F_is_tuple_of (aCons (dVar 0) (aCons (dC (.int 3)) (aCons (dC (.int 3)) aNil)))))) (dNotT (dTru (dFn F_fits_whole (aCons (dOp2 ixD (dVar 0) (dC (.int 0))) (aCons (dC (.int 1)) (aCons (dC (.int 8)) aNil))))))) (sRet (dC (.bool false))) sNil) (sRet (dAndV (dFn F_fits_whole (aCons (dOp2 ixD (dVar 0) (dC (.int 1))) (aCons (dC (.int 2)) (aCons (dC (.int 10)) aNil)))) (dFn F_fits_whole (aCons (dOp2 ixD (dVar 0) (dC (.int 2))) (aCons (dC (.int 1)) (aCons (dC (.int 9)) aNil)))))))
def F_fits_make : Fn := fnD 1 1 t_fits_make
theorem ok_fits_make (T : Tx fa fn K mg) : Has P w K mg base 3 "fits_make" ["value"] F_fits_make := has_of T 5 5 (d := mkD "fits_make" 19) (N := N_fits_make) rfl rfl rfl rfl rfl sc_fits_make rfl rfl (fun _ _ _ _ _ _ us hl => match us, hl with | [_], _ => rfl) fun f cdv A outer s H E hr => have nd := sc_fits_make.nd
  (sd_cons (sd_if (PW.pt (wd_or (pd_notT (pd_tru (pd_fnH (ok_is_tuple_of T) hr (by decide) rfl (ad_cons (pd_var 0) (ad_cons pd_int (ad_cons pd_int ad_nil)))))) (wd_or1 (pd_notT (pd_tru (pd_fnH (ok_fits_whole T) hr (by decide) rfl (ad_cons (pd_ix (pd_var 0) pd_int) (ad_cons pd_int (ad_cons (pd_gint rfl (T.int 65)) ad_nil))))))))) (sd_one (sd_ret pd_bl)) sd_nil)
    (sd_one (sd_ret (pd_and (pd_fnH (ok_fits_whole T) hr (by decide) rfl (ad_cons (pd_ix (pd_var 0) pd_int) (ad_cons pd_int (ad_cons (pd_gint rfl (T.int 66)) ad_nil)))) (pd_one (pd_fnH (ok_fits_whole T) hr (by decide) rfl (ad_cons (pd_ix (pd_var 0) pd_int) (ad_cons pd_int (ad_cons (pd_gint rfl (T.int 67)) ad_nil)))))))))
abbrev N_fits_cuts : List Str := ["make", "value", "one"]
theorem sc_fits_cuts : FnScope N_fits_cuts ["make", "value"] (defScope (top 20)) := ⟨rfl, rfl, rfl, by decide +kernel, rfl, by decide +kernel, by decide +kernel⟩
def t_fits_cuts : DS := (sSeq (sIf (dNotT (dTru (dFn F_is_tuple_of (aCons (dVar 1) (aCons (dOp2 ixD (dVar 0) (dC (.int 0))) (aCons (dOp2 ixD (dVar 0) (dC (.int 0))) aNil)))))) (sRet (dC (.bool false))) sNil) (sRet (dCall allN (aCons (dComp (dIt (dVar 1)) (gN 2) [2] tstY (dFn F_fits_whole (aCons (dVar 2) (aCons (dC (.int 0)) (aCons (dOp2 subD (dOp2 ixD (dVar 0) (dC (.int 1))) (dC (.int 1))) aNil))))) aNil))))
def F_fits_cuts : Fn := fnD 2 3 t_fits_cuts
theorem ok_fits_cuts (T : Tx fa fn K mg) : Has P w K mg base 3 "fits_cuts" ["make", "value"] F_fits_cuts := has_of T 6 6 (d := mkD "fits_cuts" 20) (N := N_fits_cuts) rfl rfl rfl rfl rfl sc_fits_cuts rfl rfl (fun _ _ _ _ _ _ us hl => match us, hl with | [_, _], _ => rfl) fun f cdv A outer s H E hr => have nd := sc_fits_cuts.nd
  (sd_cons (sd_if (pd_notT (pd_tru (pd_fnH (ok_is_tuple_of T) hr (by decide) rfl (ad_cons (pd_var 1) (ad_cons (pd_ix (pd_var 0) pd_int) (ad_cons (pd_ix (pd_var 0) pd_int) ad_nil)))))) (sd_one (sd_ret pd_bl)) sd_nil)
    (sd_one (sd_ret (pd_callB (cr_all rfl) lk_bools rfl (T.free 47) (by decide +kernel) (ad_cons (pd_lc (own := [("one", 2)]) rfl nd (id_seq (pd_var 1)) (blkOk_by (by rfl)) (by decide) (fun _ _ _ _ _ => (gd_name (i := 2) nd rfl (by first | exact Or.inl rfl | exact Or.inr rfl))) (fun _ _ _ _ _ => td_nil) (fun _ _ _ _ _ => (pd_fnH (ok_fits_whole T) hr (by decide) rfl (ad_cons (pd_var 2) (ad_cons pd_int (ad_cons (pd_bin op_sub lk_sub (pd_ix (pd_var 0) pd_int) pd_int) ad_nil)))))) ad_nil)))))
abbrev N_fits_key : List Str := ["make", "value", "one", "other"]
theorem sc_fits_key : FnScope N_fits_key ["make", "value"] (defScope (top 21)) := ⟨rfl, rfl, rfl, by decide +kernel, rfl, by decide +kernel, by decide +kernel⟩
def t_fits_key : DS := (sRet (dAndV (dFn F_fits_cuts (aCons (dVar 0) (aCons (dVar 1) aNil))) (dCall allN (aCons (dComp (dItA itZip (aCons (dVar 1) (aCons (dSl (dVar 1) (oSo (dC (.int 1))) oNo) aNil))) (gT (gsC (gN 2) (gsC (gN 3) gsN))) [2, 3] tstY (dOp2 leD (dCall absN (aCons (dOp2 subD (dVar 2) (dVar 3)) aNil)) (dOp2 ixD (dVar 0) (dC (.int 2))))) aNil))))
def F_fits_key : Fn := fnD 2 4 t_fits_key
theorem ok_fits_key (T : Tx fa fn K mg) : Has P w K mg base 4 "fits_key" ["make", "value"] F_fits_key := has_of T 7 7 (d := mkD "fits_key" 21) (N := N_fits_key) rfl rfl rfl rfl rfl sc_fits_key rfl rfl (fun _ _ _ _ _ _ us hl => match us, hl with | [_, _], _ => rfl) fun f cdv A outer s H E hr => have nd := sc_fits_key.nd
  (sd_one (sd_ret (pd_and (pd_fnH (ok_fits_cuts T) hr (by decide) rfl (ad_cons (pd_var 0) (ad_cons (pd_var 1) ad_nil))) (pd_one (pd_callB (cr_all rfl) lk_bools rfl (T.free 47) (by decide +kernel) (ad_cons (pd_lc (own := [("one", 2), ("other", 3)]) rfl nd (id_zip rfl (T.free 61) (ad_cons (pd_var 1) (ad_cons (pd_sl (pd_var 1) (od_so pd_int) od_no) ad_nil))) (blkOk_by (by rfl)) (by decide) (fun _ _ _ _ _ => (gd_tup rfl (gsd_cons (gd_name (i := 2) nd rfl (by first | exact Or.inl rfl | exact Or.inr rfl)) (gsd_cons (gd_name (i := 3) nd rfl (by first | exact Or.inl rfl | exact Or.inr rfl)) gsd_nil)) (gsLen_cons (gsLen_cons gsLen_nil)))) (fun _ _ _ _ _ => td_nil) (fun _ _ _ _ _ => (pd_cmp (or_le (u64 hr)) lk_ord (pd_callB call_abs lk_abs rfl (T.free 46) (by decide +kernel) (ad_cons (pd_bin op_sub lk_sub (pd_var 2) (pd_var 3)) ad_nil)) (pd_ix (pd_var 0) pd_int) (nomark _)))) ad_nil))))))
abbrev N_fits_set : List Str := ["make", "value", "one"]
theorem sc_fits_set : FnScope N_fits_set ["make", "value"] (defScope (top 22)) := ⟨rfl, rfl, rfl, by decide +kernel, rfl, by decide +kernel, by decide +kernel⟩
def t_fits_set : DS := (sSeq (sIf (dOrT (dNotT (dTru (dFn F_is_tuple_of (aCons (dVar 1) (aCons (dC (.int 1)) (aCons (dOp2 ixD (dVar 0) (dC (.int 1))) aNil)))))) (dNotT (dTru (dCall allN (aCons (dComp (dIt (dVar 1)) (gN 2) [2] tstY (dFn F_fits_whole (aCons (dVar 2) (aCons (dC (.int 0)) (aCons (dOp2 subD (dOp2 ixD (dVar 0) (dC (.int 1))) (dC (.int 1))) aNil))))) aNil))))) (sRet (dC (.bool false))) sNil) (sRet (dFn F_is_rising (aCons (dVar 1) aNil))))
def F_fits_set : Fn := fnD 2 3 t_fits_set
theorem ok_fits_set (T : Tx fa fn K mg) : Has P w K mg base 3 "fits_set" ["make", "value"] F_fits_set := has_of T 8 8 (d := mkD "fits_set" 22) (N := N_fits_set) rfl rfl rfl rfl rfl sc_fits_set rfl rfl (fun _ _ _ _ _ _ us hl => match us, hl with | [_, _], _ => rfl) fun f cdv A outer s H E hr => have nd := sc_fits_set.nd
  (sd_cons (sd_if (PW.pt (wd_or (pd_notT (pd_tru (pd_fnH (ok_is_tuple_of T) hr (by decide) rfl (ad_cons (pd_var 1) (ad_cons pd_int (ad_cons (pd_ix (pd_var 0) pd_int) ad_nil)))))) (wd_or1 (pd_notT (pd_tru (pd_callB (cr_all rfl) lk_bools rfl (T.free 47) (by decide +kernel) (ad_cons (pd_lc (own := [("one", 2)]) rfl nd (id_seq (pd_var 1)) (blkOk_by (by rfl)) (by decide) (fun _ _ _ _ _ => (gd_name (i := 2) nd rfl (by first | exact Or.inl rfl | exact Or.inr rfl))) (fun _ _ _ _ _ => td_nil) (fun _ _ _ _ _ => (pd_fnH (ok_fits_whole T) hr (by decide) rfl (ad_cons (pd_var 2) (ad_cons pd_int (ad_cons (pd_bin op_sub lk_sub (pd_ix (pd_var 0) pd_int) pd_int) ad_nil)))))) ad_nil))))))) (sd_one (sd_ret pd_bl)) sd_nil)
    (sd_one (sd_ret (pd_fnH (ok_is_rising T) hr (by decide) rfl (ad_cons (pd_var 1) ad_nil)))))
abbrev N_fits_lock : List Str := ["make", "value", "one"]
theorem sc_fits_lock : FnScope N_fits_lock ["make", "value"] (defScope (top 23)) := ⟨rfl, rfl, rfl, by decide +kernel, rfl, by decide +kernel, by decide +kernel⟩
def t_fits_lock : DS := (sRet (dAndV (dFn F_is_tuple_of (aCons (dVar 1) (aCons (dOp2 ixD (dVar 0) (dC (.int 0))) (aCons (dOp2 ixD (dVar 0) (dC (.int 0))) aNil)))) (dCall allN (aCons (dComp (dIt (dVar 1)) (gN 2) [2] tstY (dFn F_fits_set (aCons (dVar 0) (aCons (dVar 2) aNil)))) aNil))))
def F_fits_lock : Fn := fnD 2 3 t_fits_lock
theorem ok_fits_lock (T : Tx fa fn K mg) : Has P w K mg base 4 "fits_lock" ["make", "value"] F_fits_lock := has_of T 9 9 (d := mkD "fits_lock" 23) (N := N_fits_lock) rfl rfl rfl rfl rfl sc_fits_lock rfl rfl (fun _ _ _ _ _ _ us hl => match us, hl with | [_, _], _ => rfl) fun f cdv A outer s H E hr => have nd := sc_fits_lock.nd
  (sd_one (sd_ret (pd_and (pd_fnH (ok_is_tuple_of T) hr (by decide) rfl (ad_cons (pd_var 1) (ad_cons (pd_ix (pd_var 0) pd_int) (ad_cons (pd_ix (pd_var 0) pd_int) ad_nil)))) (pd_one (pd_callB (cr_all rfl) lk_bools rfl (T.free 47) (by decide +kernel) (ad_cons (pd_lc (own := [("one", 2)]) rfl nd (id_seq (pd_var 1)) (blkOk_by (by rfl)) (by decide) (fun _ _ _ _ _ => (gd_name (i := 2) nd rfl (by first | exact Or.inl rfl | exact Or.inr rfl))) (fun _ _ _ _ _ => td_nil) (fun _ _ _ _ _ => (pd_fnH (ok_fits_set T) hr (by decide) rfl (ad_cons (pd_var 0) (ad_cons (pd_var 2) ad_nil))))) ad_nil))))))
abbrev N_does_open : List Str := ["key", "lock", "cut", "some"]
theorem sc_does_open : FnScope N_does_open ["key", "lock"] (defScope (top 24)) := ⟨rfl, rfl, rfl, by decide +kernel, rfl, by decide +kernel, by decide +kernel⟩
def t_does_open : DS := (sRet (dCall allN (aCons (dComp (dItA itZip (aCons (dVar 0) (aCons (dVar 1) aNil))) (gT (gsC (gN 2) (gsC (gN 3) gsN))) [2, 3] tstY (dOp2 (inD false) (dVar 2) (dVar 3))) aNil)))
def F_does_open : Fn := fnD 2 4 t_does_open
theorem ok_does_open (T : Tx fa fn K mg) : Has P w K mg base 1 "does_open" ["key", "lock"] F_does_open := has_of T 10 10 (d := mkD "does_open" 24) (N := N_does_open) rfl rfl rfl rfl rfl sc_does_open rfl rfl (fun _ _ _ _ _ _ us hl => match us, hl with | [_, _], _ => rfl) fun f cdv A outer s H E hr => have nd := sc_does_open.nd
  (sd_one (sd_ret (pd_callB (cr_all rfl) lk_bools rfl (T.free 47) (by decide +kernel) (ad_cons (pd_lc (own := [("cut", 2), ("some", 3)]) rfl nd (id_zip rfl (T.free 61) (ad_cons (pd_var 0) (ad_cons (pd_var 1) ad_nil))) (blkOk_by (by rfl)) (by decide) (fun _ _ _ _ _ => (gd_tup rfl (gsd_cons (gd_name (i := 2) nd rfl (by first | exact Or.inl rfl | exact Or.inr rfl)) (gsd_cons (gd_name (i := 3) nd rfl (by first | exact Or.inl rfl | exact Or.inr rfl)) gsd_nil)) (gsLen_cons (gsLen_cons gsLen_nil)))) (fun _ _ _ _ _ => td_nil) (fun _ _ _ _ _ => (pd_cmp (or_in (u65 hr)) lk_in (pd_var 2) (pd_var 3) (by rfl)))) ad_nil))))
abbrev N_need_make : List Str := ["value"]
theorem sc_need_make : FnScope N_need_make ["value"] (defScope (top 25)) := ⟨rfl, rfl, rfl, by decide +kernel, rfl, by decide +kernel, by decide +kernel⟩
def t_need_make : DS := (sIf (dNotT (dTru (dFn F_fits_make (aCons (dVar 0) aNil)))) sNever sNil)
def F_need_make : Fn := fnD 1 1 t_need_make
theorem ok_need_make (T : Tx fa fn K mg) : Has P w K mg base 4 "need_make" ["value"] F_need_make := has_of T 11 11 (d := mkD "need_make" 25) (N := N_need_make) rfl rfl rfl rfl rfl sc_need_make rfl rfl (fun _ _ _ _ _ _ us hl => match us, hl with | [_], _ => rfl) fun f cdv A outer s H E hr => have nd := sc_need_make.nd
  (sd_one (sd_if (pd_notT (pd_tru (pd_fnH (ok_fits_make T) hr (by decide) rfl (ad_cons (pd_var 0) ad_nil)))) (sd_one sd_never) sd_nil))
abbrev N_fits_named : List Str := ["value", "one"]
theorem sc_fits_named : FnScope N_fits_named ["value"] (defScope (top 28)) := ⟨rfl, rfl, rfl, by decide +kernel, rfl, by decide +kernel, by decide +kernel⟩
def t_fits_named : DS := (sSeq (sIf (dOrT (dNotT (dTru (dFn F_is_tuple_of (aCons (dVar 0) (aCons (dC (.int 0)) (aCons (dC (.int 40)) aNil)))))) (dNotT (dTru (dCall allN (aCons (dComp (dIt (dVar 0)) (gN 1) [1] tstY (dFn F_is_tuple_of (aCons (dVar 1) (aCons (dC (.int 2)) (aCons (dC (.int 2)) aNil))))) aNil))))) (sRet (dC (.bool false))) sNil) (sRet (dAndV (dCall allN (aCons (dComp (dIt (dVar 0)) (gN 1) [1] tstY (dFn F_fits_name (aCons (dOp2 ixD (dVar 1) (dC (.int 0))) aNil))) aNil)) (dFn F_is_rising (aCons (dComp (dIt (dVar 0)) (gN 1) [1] tstY (dOp2 ixD (dVar 1) (dC (.int 0)))) aNil)))))
def F_fits_named : Fn := fnD 1 2 t_fits_named
theorem ok_fits_named (T : Tx fa fn K mg) : Has P w K mg base 2 "fits_named" ["value"] F_fits_named := has_of T 12 12 (d := mkD "fits_named" 28) (N := N_fits_named) rfl rfl rfl rfl rfl sc_fits_named rfl rfl (fun _ _ _ _ _ _ us hl => match us, hl with | [_], _ => rfl) fun f cdv A outer s H E hr => have nd := sc_fits_named.nd
  (sd_cons (sd_if (PW.pt (wd_or (pd_notT (pd_tru (pd_fnH (ok_is_tuple_of T) hr (by decide) rfl (ad_cons (pd_var 0) (ad_cons pd_int (ad_cons (pd_gint rfl (T.int 68)) ad_nil)))))) (wd_or1 (pd_notT (pd_tru (pd_callB (cr_all rfl) lk_bools rfl (T.free 47) (by decide +kernel) (ad_cons (pd_lc (own := [("one", 1)]) rfl nd (id_seq (pd_var 0)) (blkOk_by (by rfl)) (by decide) (fun _ _ _ _ _ => (gd_name (i := 1) nd rfl (by first | exact Or.inl rfl | exact Or.inr rfl))) (fun _ _ _ _ _ => td_nil) (fun _ _ _ _ _ => (pd_fnH (ok_is_tuple_of T) hr (by decide) rfl (ad_cons (pd_var 1) (ad_cons pd_int (ad_cons pd_int ad_nil)))))) ad_nil))))))) (sd_one (sd_ret pd_bl)) sd_nil)
    (sd_one (sd_ret (pd_and (pd_callB (cr_all rfl) lk_bools rfl (T.free 47) (by decide +kernel) (ad_cons (pd_lc (own := [("one", 1)]) rfl nd (id_seq (pd_var 0)) (blkOk_by (by rfl)) (by decide) (fun _ _ _ _ _ => (gd_name (i := 1) nd rfl (by first | exact Or.inl rfl | exact Or.inr rfl))) (fun _ _ _ _ _ => td_nil) (fun _ _ _ _ _ => (pd_fnH (ok_fits_name T) hr (by decide) rfl (ad_cons (pd_ix (pd_var 1) pd_int) ad_nil)))) ad_nil)) (pd_one (pd_fnH (ok_is_rising T) hr (by decide) rfl (ad_cons (pd_lc (own := [("one", 1)]) rfl nd (id_seq (pd_var 0)) (blkOk_by (by rfl)) (by decide) (fun _ _ _ _ _ => (gd_name (i := 1) nd rfl (by first | exact Or.inl rfl | exact Or.inr rfl))) (fun _ _ _ _ _ => td_nil) (fun _ _ _ _ _ => (pd_ix (pd_var 1) pd_int))) ad_nil)))))))
abbrev N_fits_system : List Str := ["value", "name", "lock", "key"]
theorem sc_fits_system : FnScope N_fits_system ["value"] (defScope (top 29)) := ⟨rfl, rfl, rfl, by decide +kernel, rfl, by decide +kernel, by decide +kernel⟩
def t_fits_system : DS := (sSeq (sIf (dOrT (dNotT (dTru (dFn F_is_tuple_of (aCons (dVar 0) (aCons (dC (.int 3)) (aCons (dC (.int 3)) aNil)))))) (dNotT (dTru (dFn F_fits_make (aCons (dOp2 ixD (dVar 0) (dC (.int 0))) aNil))))) (sRet (dC (.bool false))) sNil) (sSeq (sIf (dOrT (dNotT (dTru (dFn F_fits_named (aCons (dOp2 ixD (dVar 0) (dC (.int 1))) aNil)))) (dNotT (dTru (dFn F_fits_named (aCons (dOp2 ixD (dVar 0) (dC (.int 2))) aNil))))) (sRet (dC (.bool false))) sNil) (sSeq (sIf (dNotT (dTru (dCall allN (aCons (dComp (dIt (dOp2 ixD (dVar 0) (dC (.int 1)))) (gT (gsC (gN 1) (gsC (gN 2) gsN))) [1, 2] tstY (dFn F_fits_lock (aCons (dOp2 ixD (dVar 0) (dC (.int 0))) (aCons (dVar 2) aNil)))) aNil)))) (sRet (dC (.bool false))) sNil) (sRet (dCall allN (aCons (dComp (dIt (dOp2 ixD (dVar 0) (dC (.int 2)))) (gT (gsC (gN 1) (gsC (gN 3) gsN))) [1, 3] tstY (dFn F_fits_key (aCons (dOp2 ixD (dVar 0) (dC (.int 0))) (aCons (dVar 3) aNil)))) aNil))))))
def F_fits_system : Fn := fnD 1 4 t_fits_system
theorem ok_fits_system (T : Tx fa fn K mg) : Has P w K mg base 5 "fits_system" ["value"] F_fits_system := has_of T 13 13 (d := mkD "fits_system" 29) (N := N_fits_system) rfl rfl rfl rfl rfl sc_fits_system rfl rfl (fun _ _ _ _ _ _ us hl => match us, hl with | [_], _ => rfl) fun f cdv A outer s H E hr => have nd := sc_fits_system.nd
  (sd_cons (sd_if (PW.pt (wd_or (pd_notT (pd_tru (pd_fnH (ok_is_tuple_of T) hr (by decide) rfl (ad_cons (pd_var 0) (ad_cons pd_int (ad_cons pd_int ad_nil)))))) (wd_or1 (pd_notT (pd_tru (pd_fnH (ok_fits_make T) hr (by decide) rfl (ad_cons (pd_ix (pd_var 0) pd_int) ad_nil))))))) (sd_one (sd_ret pd_bl)) sd_nil)
    (sd_cons (sd_if (PW.pt (wd_or (pd_notT (pd_tru (pd_fnH (ok_fits_named T) hr (by decide) rfl (ad_cons (pd_ix (pd_var 0) pd_int) ad_nil)))) (wd_or1 (pd_notT (pd_tru (pd_fnH (ok_fits_named T) hr (by decide) rfl (ad_cons (pd_ix (pd_var 0) pd_int) ad_nil))))))) (sd_one (sd_ret pd_bl)) sd_nil)
    (sd_cons (sd_if (pd_notT (pd_tru (pd_callB (cr_all rfl) lk_bools rfl (T.free 47) (by decide +kernel) (ad_cons (pd_lc (own := [("name", 1), ("lock", 2)]) rfl nd (id_seq (pd_ix (pd_var 0) pd_int)) (blkOk_by (by rfl)) (by decide) (fun _ _ _ _ _ => (gd_tup rfl (gsd_cons (gd_name (i := 1) nd rfl (by first | exact Or.inl rfl | exact Or.inr rfl)) (gsd_cons (gd_name (i := 2) nd rfl (by first | exact Or.inl rfl | exact Or.inr rfl)) gsd_nil)) (gsLen_cons (gsLen_cons gsLen_nil)))) (fun _ _ _ _ _ => td_nil) (fun _ _ _ _ _ => (pd_fnH (ok_fits_lock T) hr (by decide) rfl (ad_cons (pd_ix (pd_var 0) pd_int) (ad_cons (pd_var 2) ad_nil))))) ad_nil)))) (sd_one (sd_ret pd_bl)) sd_nil)
    (sd_one (sd_ret (pd_callB (cr_all rfl) lk_bools rfl (T.free 47) (by decide +kernel) (ad_cons (pd_lc (own := [("name", 1), ("key", 3)]) rfl nd (id_seq (pd_ix (pd_var 0) pd_int)) (blkOk_by (by rfl)) (by decide) (fun _ _ _ _ _ => (gd_tup rfl (gsd_cons (gd_name (i := 1) nd rfl (by first | exact Or.inl rfl | exact Or.inr rfl)) (gsd_cons (gd_name (i := 3) nd rfl (by first | exact Or.inl rfl | exact Or.inr rfl)) gsd_nil)) (gsLen_cons (gsLen_cons gsLen_nil)))) (fun _ _ _ _ _ => td_nil) (fun _ _ _ _ _ => (pd_fnH (ok_fits_key T) hr (by decide) rfl (ad_cons (pd_ix (pd_var 0) pd_int) (ad_cons (pd_var 3) ad_nil))))) ad_nil)))))))
abbrev N_need_system : List Str := ["value"]
theorem sc_need_system : FnScope N_need_system ["value"] (defScope (top 30)) := ⟨rfl, rfl, rfl, by decide +kernel, rfl, by decide +kernel, by decide +kernel⟩
def t_need_system : DS := (sIf (dNotT (dTru (dFn F_fits_system (aCons (dVar 0) aNil)))) sNever sNil)
def F_need_system : Fn := fnD 1 1 t_need_system
theorem ok_need_system (T : Tx fa fn K mg) : Has P w K mg base 6 "need_system" ["value"] F_need_system := has_of T 14 14 (d := mkD "need_system" 30) (N := N_need_system) rfl rfl rfl rfl rfl sc_need_system rfl rfl (fun _ _ _ _ _ _ us hl => match us, hl with | [_], _ => rfl) fun f cdv A outer s H E hr => have nd := sc_need_system.nd
  (sd_one (sd_if (pd_notT (pd_tru (pd_fnH (ok_fits_system T) hr (by decide) rfl (ad_cons (pd_var 0) ad_nil)))) (sd_one sd_never) sd_nil))
abbrev N_locks_in : List Str := ["system", "name", "lock"]
theorem sc_locks_in : FnScope N_locks_in ["system"] (defScope (top 31)) := ⟨rfl, rfl, rfl, by decide +kernel, rfl, by decide +kernel, by decide +kernel⟩
def t_locks_in : DS := (sRet (dDComp (dIt (dOp2 ixD (dVar 0) (dC (.int 1)))) (gT (gsC (gN 1) (gsC (gN 2) gsN))) [1, 2] tstY (dVar 1) (dVar 2)))
def F_locks_in : Fn := fnD 1 3 t_locks_in
theorem ok_locks_in (T : Tx fa fn K mg) : Has P w K mg base 1 "locks_in" ["system"] F_locks_in := has_of T 15 15 (d := mkD "locks_in" 31) (N := N_locks_in) rfl rfl rfl rfl rfl sc_locks_in rfl rfl (fun _ _ _ _ _ _ us hl => match us, hl with | [_], _ => rfl) fun f cdv A outer s H E hr => have nd := sc_locks_in.nd
  (sd_one (sd_ret (pd_dc (own := [("name", 1), ("lock", 2)]) rfl nd (id_seq (pd_ix (pd_var 0) pd_int)) (blkOk_by (by rfl)) (by decide) (fun _ _ _ _ _ => (gd_tup rfl (gsd_cons (gd_name (i := 1) nd rfl (by first | exact Or.inl rfl | exact Or.inr rfl)) (gsd_cons (gd_name (i := 2) nd rfl (by first | exact Or.inl rfl | exact Or.inr rfl)) gsd_nil)) (gsLen_cons (gsLen_cons gsLen_nil)))) (fun _ _ _ _ _ => td_nil) (fun _ _ _ _ _ => (pd_var 1)) (fun _ _ _ _ _ => (pd_var 2)))))
abbrev N_keys_in : List Str := ["system", "name", "key"]
theorem sc_keys_in : FnScope N_keys_in ["system"] (defScope (top 32)) := ⟨rfl, rfl, rfl, by decide +kernel, rfl, by decide +kernel, by decide +kernel⟩
def t_keys_in : DS := (sRet (dDComp (dIt (dOp2 ixD (dVar 0) (dC (.int 2)))) (gT (gsC (gN 1) (gsC (gN 2) gsN))) [1, 2] tstY (dVar 1) (dVar 2)))
def F_keys_in : Fn := fnD 1 3 t_keys_in
theorem ok_keys_in (T : Tx fa fn K mg) : Has P w K mg base 1 "keys_in" ["system"] F_keys_in := has_of T 16 16 (d := mkD "keys_in" 32) (N := N_keys_in) rfl rfl rfl rfl rfl sc_keys_in rfl rfl (fun _ _ _ _ _ _ us hl => match us, hl with | [_], _ => rfl) fun f cdv A outer s H E hr => have nd := sc_keys_in.nd
  (sd_one (sd_ret (pd_dc (own := [("name", 1), ("key", 2)]) rfl nd (id_seq (pd_ix (pd_var 0) pd_int)) (blkOk_by (by rfl)) (by decide) (fun _ _ _ _ _ => (gd_tup rfl (gsd_cons (gd_name (i := 1) nd rfl (by first | exact Or.inl rfl | exact Or.inr rfl)) (gsd_cons (gd_name (i := 2) nd rfl (by first | exact Or.inl rfl | exact Or.inr rfl)) gsd_nil)) (gsLen_cons (gsLen_cons gsLen_nil)))) (fun _ _ _ _ _ => td_nil) (fun _ _ _ _ _ => (pd_var 1)) (fun _ _ _ _ _ => (pd_var 2)))))
abbrev N_table_in : List Str := ["system", "locks", "keys", "name", "door"]
theorem sc_table_in : FnScope N_table_in ["system"] (defScope (top 33)) := ⟨rfl, rfl, rfl, by decide +kernel, rfl, by decide +kernel, by decide +kernel⟩
def t_table_in : DS := (sSeq (sPar 1 2 (aCons (dFn F_locks_in (aCons (dVar 0) aNil)) (aCons (dFn F_keys_in (aCons (dVar 0) aNil)) aNil))) (sRet (dDComp (dItK (dVar 2)) (gN 3) [3] tstY (dVar 3) (dComp (dItK (dVar 1)) (gN 4) [4] (dTru (dFn F_does_open (aCons (dOp2 ixA (dVar 2) (dVar 3)) (aCons (dOp2 ixA (dVar 1) (dVar 4)) aNil)))) (dVar 4)))))
def F_table_in : Fn := fnD 1 5 t_table_in
theorem ok_table_in (T : Tx fa fn K mg) : Has P w K mg base 2 "table_in" ["system"] F_table_in := has_of T 17 17 (d := mkD "table_in" 33) (N := N_table_in) rfl rfl rfl rfl rfl sc_table_in rfl rfl (fun _ _ _ _ _ _ us hl => match us, hl with | [_], _ => rfl) fun f cdv A outer s H E hr => have nd := sc_table_in.nd
  (sd_cons (sd_parU (i := 1) (j := 2) rfl nd rfl rfl (Or.inr rfl) (Or.inr rfl) (ad_cons (pd_fnH (ok_locks_in T) hr (by decide) rfl (ad_cons (pd_var 0) ad_nil)) (ad_cons (pd_fnH (ok_keys_in T) hr (by decide) rfl (ad_cons (pd_var 0) ad_nil)) ad_nil)))
    (sd_one (sd_ret (pd_dc (own := [("name", 3)]) rfl nd (id_keys (pd_var 2)) (blkOk_by (by rfl)) (by decide) (fun _ _ _ _ _ => (gd_name (i := 3) nd rfl (by first | exact Or.inl rfl | exact Or.inr rfl))) (fun _ _ _ _ _ => td_nil) (fun _ _ _ _ _ => (pd_var 3)) (fun _ _ _ _ _ => (pd_lc (own := [("door", 4)]) rfl nd (id_keys (pd_var 1)) (blkOk_by (by rfl)) (by decide) (fun _ _ _ _ _ => (gd_name (i := 4) nd rfl (by first | exact Or.inl rfl | exact Or.inr rfl))) (fun _ _ _ _ _ => (td_one (pd_tru (pd_fnH (ok_does_open T) hr (by decide) rfl (ad_cons (pd_ixA (u1 hr) (pd_var 2) (pd_var 3)) (ad_cons (pd_ixA (u1 hr) (pd_var 1) (pd_var 4)) ad_nil)))))) (fun _ _ _ _ _ => (pd_var 4))))))))
abbrev N_who_opens : List Str := ["system", "table", "name", "door"]
theorem sc_who_opens : FnScope N_who_opens ["system"] (defScope (top 34)) := ⟨rfl, rfl, rfl, by decide +kernel, rfl, by decide +kernel, by decide +kernel⟩
def t_who_opens : DS := (sSeq (sExp (dFn F_need_system (aCons (dVar 0) aNil))) (sSeq (sSet 1 (dFn F_table_in (aCons (dVar 0) aNil))) (sRet (dCall tupleN (aCons (dComp2 (dItK (dVar 1)) (gN 2) [2, 3] tstY (dIt (dOp2 ixA (dVar 1) (dVar 2))) (gN 3) [3] tstY (dTup (aCons (dVar 2) (aCons (dVar 3) aNil)))) aNil)))))
def F_who_opens : Fn := fnD 1 4 t_who_opens
theorem ok_who_opens (T : Tx fa fn K mg) : Has P w K mg base 7 "who_opens" ["system"] F_who_opens := has_of T 18 18 (d := mkD "who_opens" 34) (N := N_who_opens) rfl rfl rfl rfl rfl sc_who_opens rfl rfl (fun _ _ _ _ _ _ us hl => match us, hl with | [_], _ => rfl) fun f cdv A outer s H E hr => have nd := sc_who_opens.nd
  (sd_cons (sd_exp (pd_fnH (ok_need_system T) hr (by decide) rfl (ad_cons (pd_var 0) ad_nil)))
    (sd_cons (sd_set (i := 1) nd rfl (Or.inr rfl) (pd_fnH (ok_table_in T) hr (by decide) rfl (ad_cons (pd_var 0) ad_nil)))
    (sd_one (sd_ret (pd_callTy call_tuple_of lk_tuple rfl (T.free 60) (by decide +kernel) (ad_cons (pd_lc2 (own := [("name", 2), ("door", 3)]) (vs1 := [3]) rfl nd (id_keys (pd_var 1)) (blkOk_by (by rfl)) (by decide) (by decide) (by decide) (fun _ _ _ _ _ => (gd_name (i := 2) nd rfl (by first | exact Or.inl rfl | exact Or.inr rfl))) (fun _ _ _ _ _ => td_nil) (fun _ _ _ _ _ => (id_seq (pd_ixA (u1 hr) (pd_var 1) (pd_var 2)))) (fun _ _ _ _ _ => (gd_name (i := 3) nd rfl (by first | exact Or.inl rfl | exact Or.inr rfl))) (fun _ _ _ _ _ => td_nil) (fun _ _ _ _ _ => (pd_tup (ad_cons (pd_var 2) (ad_cons (pd_var 3) ad_nil))))) ad_nil))))))
abbrev N_need_keys : List Str := ["make", "value", "name", "key"]
theorem sc_need_keys : FnScope N_need_keys ["make", "value"] (defScope (top 37)) := ⟨rfl, rfl, rfl, by decide +kernel, rfl, by decide +kernel, by decide +kernel⟩
def t_need_keys : DS := (sIf (dOrT (dNotT (dTru (dFn F_fits_named (aCons (dVar 1) aNil)))) (dNotT (dTru (dCall allN (aCons (dComp (dIt (dVar 1)) (gT (gsC (gN 2) (gsC (gN 3) gsN))) [2, 3] tstY (dFn F_fits_key (aCons (dVar 0) (aCons (dVar 3) aNil)))) aNil))))) sNever sNil)
def F_need_keys : Fn := fnD 2 4 t_need_keys
theorem ok_need_keys (T : Tx fa fn K mg) : Has P w K mg base 5 "need_keys" ["make", "value"] F_need_keys := has_of T 19 19 (d := mkD "need_keys" 37) (N := N_need_keys) rfl rfl rfl rfl rfl sc_need_keys rfl rfl (fun _ _ _ _ _ _ us hl => match us, hl with | [_, _], _ => rfl) fun f cdv A outer s H E hr => have nd := sc_need_keys.nd
  (sd_one (sd_if (PW.pt (wd_or (pd_notT (pd_tru (pd_fnH (ok_fits_named T) hr (by decide) rfl (ad_cons (pd_var 1) ad_nil)))) (wd_or1 (pd_notT (pd_tru (pd_callB (cr_all rfl) lk_bools rfl (T.free 47) (by decide +kernel) (ad_cons (pd_lc (own := [("name", 2), ("key", 3)]) rfl nd (id_seq (pd_var 1)) (blkOk_by (by rfl)) (by decide) (fun _ _ _ _ _ => (gd_tup rfl (gsd_cons (gd_name (i := 2) nd rfl (by first | exact Or.inl rfl | exact Or.inr rfl)) (gsd_cons (gd_name (i := 3) nd rfl (by first | exact Or.inl rfl | exact Or.inr rfl)) gsd_nil)) (gsLen_cons (gsLen_cons gsLen_nil)))) (fun _ _ _ _ _ => td_nil) (fun _ _ _ _ _ => (pd_fnH (ok_fits_key T) hr (by decide) rfl (ad_cons (pd_var 0) (ad_cons (pd_var 3) ad_nil))))) ad_nil))))))) (sd_one sd_never) sd_nil))
abbrev N_need_doors : List Str := ["value", "one"]
theorem sc_need_doors : FnScope N_need_doors ["value"] (defScope (top 38)) := ⟨rfl, rfl, rfl, by decide +kernel, rfl, by decide +kernel, by decide +kernel⟩
def t_need_doors : DS := (sIf (dOrT (dNotT (dTru (dFn F_is_tuple_of (aCons (dVar 0) (aCons (dC (.int 0)) (aCons (dC (.int 40)) aNil)))))) (dOrT (dNotT (dTru (dCall allN (aCons (dComp (dIt (dVar 0)) (gN 1) [1] tstY (dFn F_fits_name (aCons (dVar 1) aNil))) aNil)))) (dNotT (dTru (dFn F_is_rising (aCons (dVar 0) aNil)))))) sNever sNil)
def F_need_doors : Fn := fnD 1 2 t_need_doors
theorem ok_need_doors (T : Tx fa fn K mg) : Has P w K mg base 2 "need_doors" ["value"] F_need_doors := has_of T 20 20 (d := mkD "need_doors" 38) (N := N_need_doors) rfl rfl rfl rfl rfl sc_need_doors rfl rfl (fun _ _ _ _ _ _ us hl => match us, hl with | [_], _ => rfl) fun f cdv A outer s H E hr => have nd := sc_need_doors.nd
  (sd_one (sd_if (PW.pt (wd_or (pd_notT (pd_tru (pd_fnH (ok_is_tuple_of T) hr (by decide) rfl (ad_cons (pd_var 0) (ad_cons pd_int (ad_cons (pd_gint rfl (T.int 69)) ad_nil)))))) (wd_or (pd_notT (pd_tru (pd_callB (cr_all rfl) lk_bools rfl (T.free 47) (by decide +kernel) (ad_cons (pd_lc (own := [("one", 1)]) rfl nd (id_seq (pd_var 0)) (blkOk_by (by rfl)) (by decide) (fun _ _ _ _ _ => (gd_name (i := 1) nd rfl (by first | exact Or.inl rfl | exact Or.inr rfl))) (fun _ _ _ _ _ => td_nil) (fun _ _ _ _ _ => (pd_fnH (ok_fits_name T) hr (by decide) rfl (ad_cons (pd_var 1) ad_nil)))) ad_nil)))) (wd_or1 (pd_notT (pd_tru (pd_fnH (ok_is_rising T) hr (by decide) rfl (ad_cons (pd_var 0) ad_nil)))))))) (sd_one sd_never) sd_nil))
abbrev N_need_wanted : List Str := ["keys", "doors", "value", "names", "name", "key", "one", "door", "pair"]
theorem sc_need_wanted : FnScope N_need_wanted ["keys", "doors", "value"] (defScope (top 39)) := ⟨rfl, rfl, rfl, by decide +kernel, rfl, by decide +kernel, by decide +kernel⟩
def t_need_wanted : DS := (sSeq (sSet 3 (dComp (dIt (dVar 0)) (gT (gsC (gN 4) (gsC (gN 5) gsN))) [4, 5] tstY (dVar 4))) (sSeq (sIf (dOrT (dNotT (dTru (dOp1 (isiD .tuple) (dVar 2)))) (dNotT (dTru (dCall allN (aCons (dComp (dIt (dVar 2)) (gN 6) [6] tstY (dFn F_is_tuple_of (aCons (dVar 6) (aCons (dC (.int 2)) (aCons (dC (.int 2)) aNil))))) aNil))))) sNever sNil) (sSeq (sIf (dNotT (dTru (dCall allN (aCons (dComp (dIt (dVar 2)) (gT (gsC (gN 4) (gsC (gN 7) gsN))) [4, 7] tstY (dAndV (dFn F_fits_name (aCons (dVar 4) aNil)) (dAndV (dOp2 (inD false) (dVar 4) (dVar 3)) (dAndV (dFn F_fits_name (aCons (dVar 7) aNil)) (dOp2 (inD false) (dVar 7) (dVar 1)))))) aNil)))) sNever sNil) (sIf (dOrT (dNotT (dTru (dFn F_is_rising (aCons (dVar 2) aNil)))) (dTest (dOp2 neD (dComp (dIt (dVar 1)) (gN 7) [7] (dTest (dOp2 (inD true) (dVar 7) (dComp (dIt (dVar 2)) (gN 8) [8] tstY (dOp2 ixD (dVar 8) (dC (.int 1)))))) (dVar 7)) (dLst aNil)))) sNever sNil))))
def F_need_wanted : Fn := fnD 3 9 t_need_wanted
theorem ok_need_wanted (T : Tx fa fn K mg) : Has P w K mg base 2 "need_wanted" ["keys", "doors", "value"] F_need_wanted := has_of T 21 21 (d := mkD "need_wanted" 39) (N := N_need_wanted) rfl rfl rfl rfl rfl sc_need_wanted rfl rfl (fun _ _ _ _ _ _ us hl => match us, hl with | [_, _, _], _ => rfl) fun f cdv A outer s H E hr => have nd := sc_need_wanted.nd
  (sd_cons (sd_set (i := 3) nd rfl (Or.inr rfl) (pd_lc (own := [("name", 4), ("key", 5)]) rfl nd (id_seq (pd_var 0)) (blkOk_by (by rfl)) (by decide) (fun _ _ _ _ _ => (gd_tup rfl (gsd_cons (gd_name (i := 4) nd rfl (by first | exact Or.inl rfl | exact Or.inr rfl)) (gsd_cons (gd_name (i := 5) nd rfl (by first | exact Or.inl rfl | exact Or.inr rfl)) gsd_nil)) (gsLen_cons (gsLen_cons gsLen_nil)))) (fun _ _ _ _ _ => td_nil) (fun _ _ _ _ _ => (pd_var 4))))
    (sd_cons (sd_if (PW.pt (wd_or (pd_notT (pd_tru (pd_isi .tuple (by decide) (pd_var 2) rfl (T.free 51) rfl (T.free 60) (by decide +kernel) (by decide +kernel)))) (wd_or1 (pd_notT (pd_tru (pd_callB (cr_all rfl) lk_bools rfl (T.free 47) (by decide +kernel) (ad_cons (pd_lc (own := [("one", 6)]) rfl nd (id_seq (pd_var 2)) (blkOk_by (by rfl)) (by decide) (fun _ _ _ _ _ => (gd_name (i := 6) nd rfl (by first | exact Or.inl rfl | exact Or.inr rfl))) (fun _ _ _ _ _ => td_nil) (fun _ _ _ _ _ => (pd_fnH (ok_is_tuple_of T) hr (by decide) rfl (ad_cons (pd_var 6) (ad_cons pd_int (ad_cons pd_int ad_nil)))))) ad_nil))))))) (sd_one sd_never) sd_nil)
    (sd_cons (sd_if (pd_notT (pd_tru (pd_callB (cr_all rfl) lk_bools rfl (T.free 47) (by decide +kernel) (ad_cons (pd_lc (own := [("name", 4), ("door", 7)]) rfl nd (id_seq (pd_var 2)) (blkOk_by (by rfl)) (by decide) (fun _ _ _ _ _ => (gd_tup rfl (gsd_cons (gd_name (i := 4) nd rfl (by first | exact Or.inl rfl | exact Or.inr rfl)) (gsd_cons (gd_name (i := 7) nd rfl (by first | exact Or.inl rfl | exact Or.inr rfl)) gsd_nil)) (gsLen_cons (gsLen_cons gsLen_nil)))) (fun _ _ _ _ _ => td_nil) (fun _ _ _ _ _ => (pd_and (pd_fnH (ok_fits_name T) hr (by decide) rfl (ad_cons (pd_var 4) ad_nil)) (pd_and (pd_cmp (or_in (u65 hr)) lk_in (pd_var 4) (pd_var 3) (by rfl)) (pd_and (pd_fnH (ok_fits_name T) hr (by decide) rfl (ad_cons (pd_var 7) ad_nil)) (pd_one (pd_cmp (or_in (u65 hr)) lk_in (pd_var 7) (pd_var 1) (by rfl)))))))) ad_nil)))) (sd_one sd_never) sd_nil)
    (sd_one (sd_if (PW.pt (wd_or (pd_notT (pd_tru (pd_fnH (ok_is_rising T) hr (by decide) rfl (ad_cons (pd_var 2) ad_nil)))) (wd_or1 (pd_cmpT (op_neD (u64 hr)) lk_ne (pd_lc (own := [("door", 7)]) rfl nd (id_seq (pd_var 1)) (blkOk_by (by rfl)) (by decide) (fun _ _ _ _ _ => (gd_name (i := 7) nd rfl (by first | exact Or.inl rfl | exact Or.inr rfl))) (fun _ _ _ _ _ => (td_one (pd_cmpT (or_notIn (u65 hr)) lk_in (pd_var 7) (pd_lc (own := [("pair", 8)]) rfl nd (id_seq (pd_var 2)) (blkOk_by (by rfl)) (by decide) (fun _ _ _ _ _ => (gd_name (i := 8) nd rfl (by first | exact Or.inl rfl | exact Or.inr rfl))) (fun _ _ _ _ _ => td_nil) (fun _ _ _ _ _ => (pd_ix (pd_var 8) pd_int))) (by rfl)))) (fun _ _ _ _ _ => (pd_var 7))) (pd_lst ad_nil) (nomark _))))) (sd_one sd_never) sd_nil)))))
abbrev N_need_all : List Str := ["make", "keys", "doors", "wanted"]
theorem sc_need_all : FnScope N_need_all ["make", "keys", "doors", "wanted"] (defScope (top 40)) := ⟨rfl, rfl, rfl, by decide +kernel, rfl, by decide +kernel, by decide +kernel⟩
def t_need_all : DS := (sSeq (sExp (dFn F_need_make (aCons (dVar 0) aNil))) (sSeq (sExp (dFn F_need_keys (aCons (dVar 0) (aCons (dVar 1) aNil)))) (sSeq (sExp (dFn F_need_doors (aCons (dVar 2) aNil))) (sExp (dFn F_need_wanted (aCons (dVar 1) (aCons (dVar 2) (aCons (dVar 3) aNil))))))))
def F_need_all : Fn := fnD 4 4 t_need_all
theorem ok_need_all (T : Tx fa fn K mg) : Has P w K mg base 6 "need_all" ["make", "keys", "doors", "wanted"] F_need_all := has_of T 22 22 (d := mkD "need_all" 40) (N := N_need_all) rfl rfl rfl rfl rfl sc_need_all rfl rfl (fun _ _ _ _ _ _ us hl => match us, hl with | [_, _, _, _], _ => rfl) fun f cdv A outer s H E hr => have nd := sc_need_all.nd
  (sd_cons (sd_exp (pd_fnH (ok_need_make T) hr (by decide) rfl (ad_cons (pd_var 0) ad_nil)))
    (sd_cons (sd_exp (pd_fnH (ok_need_keys T) hr (by decide) rfl (ad_cons (pd_var 0) (ad_cons (pd_var 1) ad_nil))))
    (sd_cons (sd_exp (pd_fnH (ok_need_doors T) hr (by decide) rfl (ad_cons (pd_var 2) ad_nil)))
    (sd_one (sd_exp (pd_fnH (ok_need_wanted T) hr (by decide) rfl (ad_cons (pd_var 1) (ad_cons (pd_var 2) (ad_cons (pd_var 3) ad_nil)))))))))
abbrev N_lock_in : List Str := ["make", "keys", "names", "at", "name", "key"]
theorem sc_lock_in : FnScope N_lock_in ["make", "keys", "names"] (defScope (top 41)) := ⟨rfl, rfl, rfl, by decide +kernel, rfl, by decide +kernel, by decide +kernel⟩
def t_lock_in : DS := (sRet (dCall tupleN (aCons (dComp (dItA itR1 (aCons (dOp2 ixD (dVar 0) (dC (.int 0))) aNil)) (gN 3) [3] tstY (dCall tupleN (aCons (dCall sortSetN (aCons (dComp (dIt (dVar 1)) (gT (gsC (gN 4) (gsC (gN 5) gsN))) [4, 5] (dTest (dOp2 (inD false) (dVar 4) (dVar 2))) (dOp2 ixD (dVar 5) (dVar 3))) aNil)) aNil))) aNil)))
def F_lock_in : Fn := fnD 3 6 t_lock_in
theorem ok_lock_in (T : Tx fa fn K mg) : Has P w K mg base 1 "lock_in" ["make", "keys", "names"] F_lock_in := has_of T 23 23 (d := mkD "lock_in" 41) (N := N_lock_in) rfl rfl rfl rfl rfl sc_lock_in rfl rfl (fun _ _ _ _ _ _ us hl => match us, hl with | [_, _, _], _ => rfl) fun f cdv A outer s H E hr => have nd := sc_lock_in.nd
  (sd_one (sd_ret (pd_callTy call_tuple_of lk_tuple rfl (T.free 60) (by decide +kernel) (ad_cons (pd_lc (own := [("at", 3)]) rfl nd (id_rng1 rfl (T.free 56) (ad_cons (pd_ix (pd_var 0) pd_int) ad_nil)) (blkOk_by (by rfl)) (by decide) (fun _ _ _ _ _ => (gd_name (i := 3) nd rfl (by first | exact Or.inl rfl | exact Or.inr rfl))) (fun _ _ _ _ _ => td_nil) (fun _ _ _ _ _ => (pd_callTy call_tuple_of lk_tuple rfl (T.free 60) (by decide +kernel) (ad_cons (pd_sortSet rfl rfl (T.free 58) rfl (T.free 57) (pd_lc (own := [("name", 4), ("key", 5)]) rfl nd (id_seq (pd_var 1)) (blkOk_by (by rfl)) (by decide) (fun _ _ _ _ _ => (gd_tup rfl (gsd_cons (gd_name (i := 4) nd rfl (by first | exact Or.inl rfl | exact Or.inr rfl)) (gsd_cons (gd_name (i := 5) nd rfl (by first | exact Or.inl rfl | exact Or.inr rfl)) gsd_nil)) (gsLen_cons (gsLen_cons gsLen_nil)))) (fun _ _ _ _ _ => (td_one (pd_cmpT (or_in (u65 hr)) lk_in (pd_var 4) (pd_var 2) (by rfl)))) (fun _ _ _ _ _ => (pd_ix (pd_var 5) (pd_var 3))))) ad_nil)))) ad_nil))))
abbrev N_locks_for : List Str := ["make", "keys", "doors", "wanted", "door", "name", "own"]
theorem sc_locks_for : FnScope N_locks_for ["make", "keys", "doors", "wanted"] (defScope (top 42)) := ⟨rfl, rfl, rfl, by decide +kernel, rfl, by decide +kernel, by decide +kernel⟩
def t_locks_for : DS := (sRet (dDComp (dIt (dVar 2)) (gN 4) [4] tstY (dVar 4) (dFn F_lock_in (aCons (dVar 0) (aCons (dVar 1) (aCons (dComp (dIt (dVar 3)) (gT (gsC (gN 5) (gsC (gN 6) gsN))) [5, 6] (dTest (dOp2 eqD (dVar 6) (dVar 4))) (dVar 5)) aNil))))))
def F_locks_for : Fn := fnD 4 7 t_locks_for
theorem ok_locks_for (T : Tx fa fn K mg) : Has P w K mg base 2 "locks_for" ["make", "keys", "doors", "wanted"] F_locks_for := has_of T 24 24 (d := mkD "locks_for" 42) (N := N_locks_for) rfl rfl rfl rfl rfl sc_locks_for rfl rfl (fun _ _ _ _ _ _ us hl => match us, hl with | [_, _, _, _], _ => rfl) fun f cdv A outer s H E hr => have nd := sc_locks_for.nd
  (sd_one (sd_ret (pd_dc (own := [("door", 4)]) rfl nd (id_seq (pd_var 2)) (blkOk_by (by rfl)) (by decide) (fun _ _ _ _ _ => (gd_name (i := 4) nd rfl (by first | exact Or.inl rfl | exact Or.inr rfl))) (fun _ _ _ _ _ => td_nil) (fun _ _ _ _ _ => (pd_var 4)) (fun _ _ _ _ _ => (pd_fnH (ok_lock_in T) hr (by decide) rfl (ad_cons (pd_var 0) (ad_cons (pd_var 1) (ad_cons (pd_lc (own := [("name", 5), ("own", 6)]) rfl nd (id_seq (pd_var 3)) (blkOk_by (by rfl)) (by decide) (fun _ _ _ _ _ => (gd_tup rfl (gsd_cons (gd_name (i := 5) nd rfl (by first | exact Or.inl rfl | exact Or.inr rfl)) (gsd_cons (gd_name (i := 6) nd rfl (by first | exact Or.inl rfl | exact Or.inr rfl)) gsd_nil)) (gsLen_cons (gsLen_cons gsLen_nil)))) (fun _ _ _ _ _ => (td_one (pd_cmpT (op_eqD (u64 hr)) lk_eq (pd_var 6) (pd_var 4) (nomark _)))) (fun _ _ _ _ _ => (pd_var 5))) ad_nil))))))))
abbrev N_clashes_in : List Str := ["make", "keys", "doors", "wanted", "locks", "found", "name", "key", "door"]
theorem sc_clashes_in : FnScope N_clashes_in ["make", "keys", "doors", "wanted"] (defScope (top 43)) := ⟨rfl, rfl, rfl, by decide +kernel, rfl, by decide +kernel, by decide +kernel⟩
def t_clashes_in : DS := (sSeq (sPar 4 5 (aCons (dFn F_locks_for (aCons (dVar 0) (aCons (dVar 1) (aCons (dVar 2) (aCons (dVar 3) aNil))))) (aCons (dCel aNil) aNil))) (sSeq (sFor (dIt (dVar 1)) (gT (gsC (gN 6) (gsC (gN 7) gsN))) (sAug 5 extD (dComp (dIt (dVar 2)) (gN 8) [8] (dAndT (dTest (dOp2 (inA true) (dTup (aCons (dVar 6) (aCons (dVar 8) aNil))) (dVar 3))) (dTru (dFn F_does_open (aCons (dVar 7) (aCons (dOp2 ixA (dVar 4) (dVar 8)) aNil))))) (dTup (aCons (dVar 6) (aCons (dVar 8) aNil)))))) (sRet (dVar 5))))
def F_clashes_in : Fn := fnD 4 9 t_clashes_in
theorem ok_clashes_in (T : Tx fa fn K mg) : Has P w K mg base 3 "clashes_in" ["make", "keys", "doors", "wanted"] F_clashes_in := has_of T 25 25 (d := mkD "clashes_in" 43) (N := N_clashes_in) rfl rfl rfl rfl rfl sc_clashes_in rfl rfl (fun _ _ _ _ _ _ us hl => match us, hl with | [_, _, _, _], _ => rfl) fun f cdv A outer s H E hr => have nd := sc_clashes_in.nd
  (sd_cons (sd_parU (i := 4) (j := 5) rfl nd rfl rfl (Or.inr rfl) (Or.inl rfl) (ad_cons (pd_fnH (ok_locks_for T) hr (by decide) rfl (ad_cons (pd_var 0) (ad_cons (pd_var 1) (ad_cons (pd_var 2) (ad_cons (pd_var 3) ad_nil))))) (ad_cons (pd_cel ad_nil) ad_nil)))
    (sd_cons (sd_for PassesOwn.never rfl (id_seq (pd_var 1)) (gd_tup rfl (gsd_cons (gd_name (i := 6) nd rfl (by first | exact Or.inl rfl | exact Or.inr rfl)) (gsd_cons (gd_name (i := 7) nd rfl (by first | exact Or.inl rfl | exact Or.inr rfl)) gsd_nil)) (gsLen_cons (gsLen_cons gsLen_nil))) (sd_one (sd_aug (i := 5) nd rfl (Or.inl rfl) iop_extD lk_ext (pd_lc (own := [("door", 8)]) rfl nd (id_seq (pd_var 2)) (blkOk_by (by rfl)) (by decide) (fun _ _ _ _ _ => (gd_name (i := 8) nd rfl (by first | exact Or.inl rfl | exact Or.inr rfl))) (fun _ _ _ _ _ => (td_one (PW.pt (wd_and (pd_cmpT (or_notInA (u65 hr)) lk_inA (pd_tup (ad_cons (pd_var 6) (ad_cons (pd_var 8) ad_nil))) (pd_var 3) (by rfl)) (wd_and1 (pd_tru (pd_fnH (ok_does_open T) hr (by decide) rfl (ad_cons (pd_var 7) (ad_cons (pd_ixA (u1 hr) (pd_var 4) (pd_var 8)) ad_nil))))))))) (fun _ _ _ _ _ => (pd_tup (ad_cons (pd_var 6) (ad_cons (pd_var 8) ad_nil))))))))
    (sd_one (sd_ret (pd_var 5)))))
abbrev N_planned : List Str := ["make", "keys", "doors", "wanted", "locks", "door"]
theorem sc_planned : FnScope N_planned ["make", "keys", "doors", "wanted"] (defScope (top 44)) := ⟨rfl, rfl, rfl, by decide +kernel, rfl, by decide +kernel, by decide +kernel⟩
def t_planned : DS := (sSeq (sExp (dFn F_need_all (aCons (dVar 0) (aCons (dVar 1) (aCons (dVar 2) (aCons (dVar 3) aNil)))))) (sSeq (sIf (dTest (dOp2 neD (dFn F_clashes_in (aCons (dVar 0) (aCons (dVar 1) (aCons (dVar 2) (aCons (dVar 3) aNil))))) (dLst aNil))) (sRet (dC .none)) sNil) (sSeq (sSet 4 (dFn F_locks_for (aCons (dVar 0) (aCons (dVar 1) (aCons (dVar 2) (aCons (dVar 3) aNil)))))) (sRet (dTup (aCons (dVar 0) (aCons (dCall tupleN (aCons (dComp (dIt (dVar 2)) (gN 5) [5] tstY (dTup (aCons (dVar 5) (aCons (dOp2 ixA (dVar 4) (dVar 5)) aNil)))) aNil)) (aCons (dVar 1) aNil))))))))
def F_planned : Fn := fnD 4 6 t_planned
theorem ok_planned (T : Tx fa fn K mg) : Has P w K mg base 7 "planned" ["make", "keys", "doors", "wanted"] F_planned := has_of T 26 26 (d := mkD "planned" 44) (N := N_planned) rfl rfl rfl rfl rfl sc_planned rfl rfl (fun _ _ _ _ _ _ us hl => match us, hl with | [_, _, _, _], _ => rfl) fun f cdv A outer s H E hr => have nd := sc_planned.nd
  (sd_cons (sd_exp (pd_fnH (ok_need_all T) hr (by decide) rfl (ad_cons (pd_var 0) (ad_cons (pd_var 1) (ad_cons (pd_var 2) (ad_cons (pd_var 3) ad_nil))))))
    (sd_cons (sd_if (pd_cmpT (op_neD (u64 hr)) lk_ne (pd_fnH (ok_clashes_in T) hr (by decide) rfl (ad_cons (pd_var 0) (ad_cons (pd_var 1) (ad_cons (pd_var 2) (ad_cons (pd_var 3) ad_nil))))) (pd_lst ad_nil) (nomark _)) (sd_one (sd_ret pd_non)) sd_nil)
    (sd_cons (sd_set (i := 4) nd rfl (Or.inr rfl) (pd_fnH (ok_locks_for T) hr (by decide) rfl (ad_cons (pd_var 0) (ad_cons (pd_var 1) (ad_cons (pd_var 2) (ad_cons (pd_var 3) ad_nil))))))
    (sd_one (sd_ret (pd_tup (ad_cons (pd_var 0) (ad_cons (pd_callTy call_tuple_of lk_tuple rfl (T.free 60) (by decide +kernel) (ad_cons (pd_lc (own := [("door", 5)]) rfl nd (id_seq (pd_var 2)) (blkOk_by (by rfl)) (by decide) (fun _ _ _ _ _ => (gd_name (i := 5) nd rfl (by first | exact Or.inl rfl | exact Or.inr rfl))) (fun _ _ _ _ _ => td_nil) (fun _ _ _ _ _ => (pd_tup (ad_cons (pd_var 5) (ad_cons (pd_ixA (u1 hr) (pd_var 4) (pd_var 5)) ad_nil))))) ad_nil)) (ad_cons (pd_var 1) ad_nil)))))))))
abbrev N_need_alike : List Str := ["system", "other", "part", "one"]
theorem sc_need_alike : FnScope N_need_alike ["system", "other"] (defScope (top 45)) := ⟨rfl, rfl, rfl, by decide +kernel, rfl, by decide +kernel, by decide +kernel⟩
def t_need_alike : DS := (sSeq (sExp (dFn F_need_system (aCons (dVar 0) aNil))) (sSeq (sExp (dFn F_need_system (aCons (dVar 1) aNil))) (sSeq (sIf (dTest (dOp2 neD (dOp2 ixD (dVar 0) (dC (.int 0))) (dOp2 ixD (dVar 1) (dC (.int 0))))) sNever sNil) (sFor (dIt (dTup (aCons (dC (.int 1)) (aCons (dC (.int 2)) aNil)))) (gN 2) (sIf (dTest (dOp2 neD (dComp (dIt (dOp2 ixD (dVar 0) (dVar 2))) (gN 3) [3] tstY (dOp2 ixD (dVar 3) (dC (.int 0)))) (dComp (dIt (dOp2 ixD (dVar 1) (dVar 2))) (gN 3) [3] tstY (dOp2 ixD (dVar 3) (dC (.int 0)))))) sNever sNil)))))
def F_need_alike : Fn := fnD 2 4 t_need_alike
theorem ok_need_alike (T : Tx fa fn K mg) : Has P w K mg base 7 "need_alike" ["system", "other"] F_need_alike := has_of T 27 27 (d := mkD "need_alike" 45) (N := N_need_alike) rfl rfl rfl rfl rfl sc_need_alike rfl rfl (fun _ _ _ _ _ _ us hl => match us, hl with | [_, _], _ => rfl) fun f cdv A outer s H E hr => have nd := sc_need_alike.nd
  (sd_cons (sd_exp (pd_fnH (ok_need_system T) hr (by decide) rfl (ad_cons (pd_var 0) ad_nil)))
    (sd_cons (sd_exp (pd_fnH (ok_need_system T) hr (by decide) rfl (ad_cons (pd_var 1) ad_nil)))
    (sd_cons (sd_if (pd_cmpT (op_neD (u64 hr)) lk_ne (pd_ix (pd_var 0) pd_int) (pd_ix (pd_var 1) pd_int) (nomark _)) (sd_one sd_never) sd_nil)
    (sd_one (sd_for PassesOwn.never rfl (id_seq (pd_tup (ad_cons pd_int (ad_cons pd_int ad_nil)))) (gd_name (i := 2) nd rfl (by first | exact Or.inl rfl | exact Or.inr rfl)) (sd_one (sd_if (pd_cmpT (op_neD (u64 hr)) lk_ne (pd_lc (own := [("one", 3)]) rfl nd (id_seq (pd_ix (pd_var 0) (pd_var 2))) (blkOk_by (by rfl)) (by decide) (fun _ _ _ _ _ => (gd_name (i := 3) nd rfl (by first | exact Or.inl rfl | exact Or.inr rfl))) (fun _ _ _ _ _ => td_nil) (fun _ _ _ _ _ => (pd_ix (pd_var 3) pd_int))) (pd_lc (own := [("one", 3)]) rfl nd (id_seq (pd_ix (pd_var 1) (pd_var 2))) (blkOk_by (by rfl)) (by decide) (fun _ _ _ _ _ => (gd_name (i := 3) nd rfl (by first | exact Or.inl rfl | exact Or.inr rfl))) (fun _ _ _ _ _ => td_nil) (fun _ _ _ _ _ => (pd_ix (pd_var 3) pd_int))) (nomark _)) (sd_one sd_never) sd_nil)))))))
abbrev N_pairs_of : List Str := ["system", "table", "name", "door"]
theorem sc_pairs_of : FnScope N_pairs_of ["system"] (defScope (top 46)) := ⟨rfl, rfl, rfl, by decide +kernel, rfl, by decide +kernel, by decide +kernel⟩
def t_pairs_of : DS := (sSeq (sSet 1 (dFn F_table_in (aCons (dVar 0) aNil))) (sRet (dComp2 (dItK (dVar 1)) (gN 2) [2, 3] tstY (dIt (dOp2 ixA (dVar 1) (dVar 2))) (gN 3) [3] tstY (dTup (aCons (dVar 2) (aCons (dVar 3) aNil))))))
def F_pairs_of : Fn := fnD 1 4 t_pairs_of
theorem ok_pairs_of (T : Tx fa fn K mg) : Has P w K mg base 3 "pairs_of" ["system"] F_pairs_of := has_of T 28 28 (d := mkD "pairs_of" 46) (N := N_pairs_of) rfl rfl rfl rfl rfl sc_pairs_of rfl rfl (fun _ _ _ _ _ _ us hl => match us, hl with | [_], _ => rfl) fun f cdv A outer s H E hr => have nd := sc_pairs_of.nd
  (sd_cons (sd_set (i := 1) nd rfl (Or.inr rfl) (pd_fnH (ok_table_in T) hr (by decide) rfl (ad_cons (pd_var 0) ad_nil)))
    (sd_one (sd_ret (pd_lc2 (own := [("name", 2), ("door", 3)]) (vs1 := [3]) rfl nd (id_keys (pd_var 1)) (blkOk_by (by rfl)) (by decide) (by decide) (by decide) (fun _ _ _ _ _ => (gd_name (i := 2) nd rfl (by first | exact Or.inl rfl | exact Or.inr rfl))) (fun _ _ _ _ _ => td_nil) (fun _ _ _ _ _ => (id_seq (pd_ixA (u1 hr) (pd_var 1) (pd_var 2)))) (fun _ _ _ _ _ => (gd_name (i := 3) nd rfl (by first | exact Or.inl rfl | exact Or.inr rfl))) (fun _ _ _ _ _ => td_nil) (fun _ _ _ _ _ => (pd_tup (ad_cons (pd_var 2) (ad_cons (pd_var 3) ad_nil))))))))
abbrev N_changes : List Str := ["system", "other", "one", "two", "pair"]
theorem sc_changes : FnScope N_changes ["system", "other"] (defScope (top 47)) := ⟨rfl, rfl, rfl, by decide +kernel, rfl, by decide +kernel, by decide +kernel⟩
def t_changes : DS := (sSeq (sExp (dFn F_need_alike (aCons (dVar 0) (aCons (dVar 1) aNil)))) (sSeq (sPar 2 3 (aCons (dFn F_pairs_of (aCons (dVar 0) aNil)) (aCons (dFn F_pairs_of (aCons (dVar 1) aNil)) aNil))) (sRet (dTup (aCons (dCall tupleN (aCons (dComp (dIt (dVar 3)) (gN 4) [4] (dTest (dOp2 (inD true) (dVar 4) (dVar 2))) (dVar 4)) aNil)) (aCons (dCall tupleN (aCons (dComp (dIt (dVar 2)) (gN 4) [4] (dTest (dOp2 (inD true) (dVar 4) (dVar 3))) (dVar 4)) aNil)) aNil))))))
def F_changes : Fn := fnD 2 5 t_changes
theorem ok_changes (T : Tx fa fn K mg) : Has P w K mg base 8 "changes" ["system", "other"] F_changes := has_of T 29 29 (d := mkD "changes" 47) (N := N_changes) rfl rfl rfl rfl rfl sc_changes rfl rfl (fun _ _ _ _ _ _ us hl => match us, hl with | [_, _], _ => rfl) fun f cdv A outer s H E hr => have nd := sc_changes.nd
  (sd_cons (sd_exp (pd_fnH (ok_need_alike T) hr (by decide) rfl (ad_cons (pd_var 0) (ad_cons (pd_var 1) ad_nil))))
    (sd_cons (sd_parU (i := 2) (j := 3) rfl nd rfl rfl (Or.inr rfl) (Or.inr rfl) (ad_cons (pd_fnH (ok_pairs_of T) hr (by decide) rfl (ad_cons (pd_var 0) ad_nil)) (ad_cons (pd_fnH (ok_pairs_of T) hr (by decide) rfl (ad_cons (pd_var 1) ad_nil)) ad_nil)))
    (sd_one (sd_ret (pd_tup (ad_cons (pd_callTy call_tuple_of lk_tuple rfl (T.free 60) (by decide +kernel) (ad_cons (pd_lc (own := [("pair", 4)]) rfl nd (id_seq (pd_var 3)) (blkOk_by (by rfl)) (by decide) (fun _ _ _ _ _ => (gd_name (i := 4) nd rfl (by first | exact Or.inl rfl | exact Or.inr rfl))) (fun _ _ _ _ _ => (td_one (pd_cmpT (or_notIn (u65 hr)) lk_in (pd_var 4) (pd_var 2) (by rfl)))) (fun _ _ _ _ _ => (pd_var 4))) ad_nil)) (ad_cons (pd_callTy call_tuple_of lk_tuple rfl (T.free 60) (by decide +kernel) (ad_cons (pd_lc (own := [("pair", 4)]) rfl nd (id_seq (pd_var 2)) (blkOk_by (by rfl)) (by decide) (fun _ _ _ _ _ => (gd_name (i := 4) nd rfl (by first | exact Or.inl rfl | exact Or.inr rfl))) (fun _ _ _ _ _ => (td_one (pd_cmpT (or_notIn (u65 hr)) lk_in (pd_var 4) (pd_var 3) (by rfl)))) (fun _ _ _ _ _ => (pd_var 4))) ad_nil)) ad_nil)))))))
abbrev N_is_tighter : List Str := ["system", "other", "door", "lock", "own", "more", "some", "wide", "cut"]
theorem sc_is_tighter : FnScope N_is_tighter ["system", "other"] (defScope (top 48)) := ⟨rfl, rfl, rfl, by decide +kernel, rfl, by decide +kernel, by decide +kernel⟩
def t_is_tighter : DS := (sSeq (sExp (dFn F_need_alike (aCons (dVar 0) (aCons (dVar 1) aNil)))) (sSeq (sFor (dItA itZip (aCons (dOp2 ixD (dVar 0) (dC (.int 1))) (aCons (dOp2 ixD (dVar 1) (dC (.int 1))) aNil))) (gT (gsC (gT (gsC (gN 2) (gsC (gN 3) gsN))) (gsC (gT (gsC (gN 4) (gsC (gN 5) gsN))) gsN))) (sIf (dNotT (dTru (dCall allN (aCons (dComp2 (dItA itZip (aCons (dVar 3) (aCons (dVar 5) aNil))) (gT (gsC (gN 6) (gsC (gN 7) gsN))) [6, 7, 8] tstY (dIt (dVar 6)) (gN 8) [8] tstY (dOp2 (inD false) (dVar 8) (dVar 7))) aNil)))) (sRet (dC (.bool false))) sNil)) (sRet (dC (.bool true)))))
def F_is_tighter : Fn := fnD 2 9 t_is_tighter
theorem ok_is_tighter (T : Tx fa fn K mg) : Has P w K mg base 8 "is_tighter" ["system", "other"] F_is_tighter := has_of T 30 30 (d := mkD "is_tighter" 48) (N := N_is_tighter) rfl rfl rfl rfl rfl sc_is_tighter rfl rfl (fun _ _ _ _ _ _ us hl => match us, hl with | [_, _], _ => rfl) fun f cdv A outer s H E hr => have nd := sc_is_tighter.nd
  (sd_cons (sd_exp (pd_fnH (ok_need_alike T) hr (by decide) rfl (ad_cons (pd_var 0) (ad_cons (pd_var 1) ad_nil))))
    (sd_cons (sd_for PassesOwn.never rfl (id_zip rfl (T.free 61) (ad_cons (pd_ix (pd_var 0) pd_int) (ad_cons (pd_ix (pd_var 1) pd_int) ad_nil))) (gd_tup rfl (gsd_cons (gd_tup rfl (gsd_cons (gd_name (i := 2) nd rfl (by first | exact Or.inl rfl | exact Or.inr rfl)) (gsd_cons (gd_name (i := 3) nd rfl (by first | exact Or.inl rfl | exact Or.inr rfl)) gsd_nil)) (gsLen_cons (gsLen_cons gsLen_nil))) (gsd_cons (gd_tup rfl (gsd_cons (gd_name (i := 4) nd rfl (by first | exact Or.inl rfl | exact Or.inr rfl)) (gsd_cons (gd_name (i := 5) nd rfl (by first | exact Or.inl rfl | exact Or.inr rfl)) gsd_nil)) (gsLen_cons (gsLen_cons gsLen_nil))) gsd_nil)) (gsLen_cons (gsLen_cons gsLen_nil))) (sd_one (sd_if (pd_notT (pd_tru (pd_callB (cr_all rfl) lk_bools rfl (T.free 47) (by decide +kernel) (ad_cons (pd_lc2 (own := [("some", 6), ("wide", 7), ("cut", 8)]) (vs1 := [8]) rfl nd (id_zip rfl (T.free 61) (ad_cons (pd_var 3) (ad_cons (pd_var 5) ad_nil))) (blkOk_by (by rfl)) (by decide) (by decide) (by decide) (fun _ _ _ _ _ => (gd_tup rfl (gsd_cons (gd_name (i := 6) nd rfl (by first | exact Or.inl rfl | exact Or.inr rfl)) (gsd_cons (gd_name (i := 7) nd rfl (by first | exact Or.inl rfl | exact Or.inr rfl)) gsd_nil)) (gsLen_cons (gsLen_cons gsLen_nil)))) (fun _ _ _ _ _ => td_nil) (fun _ _ _ _ _ => (id_seq (pd_var 6))) (fun _ _ _ _ _ => (gd_name (i := 8) nd rfl (by first | exact Or.inl rfl | exact Or.inr rfl))) (fun _ _ _ _ _ => td_nil) (fun _ _ _ _ _ => (pd_cmp (or_in (u65 hr)) lk_in (pd_var 8) (pd_var 7) (by rfl)))) ad_nil)))) (sd_one (sd_ret pd_bl)) sd_nil)))
    (sd_one (sd_ret pd_bl))))
abbrev N_tightened : List Str := ["system", "table", "found", "door", "lock", "names", "name"]
theorem sc_tightened : FnScope N_tightened ["system"] (defScope (top 49)) := ⟨rfl, rfl, rfl, by decide +kernel, rfl, by decide +kernel, by decide +kernel⟩
def t_tightened : DS := (sSeq (sExp (dFn F_need_system (aCons (dVar 0) aNil))) (sSeq (sPar 1 2 (aCons (dFn F_table_in (aCons (dVar 0) aNil)) (aCons (dCel aNil) aNil))) (sSeq (sFor (dIt (dOp2 ixA (dVar 0) (dC (.int 1)))) (gT (gsC (gN 3) (gsC (gN 4) gsN))) (sSeq (sSet 5 (dComp (dItK (dVar 1)) (gN 6) [6] (dTest (dOp2 (inA false) (dVar 3) (dOp2 ixA (dVar 1) (dVar 6)))) (dVar 6))) (sExp (dApp (dVar 2) (dTup (aCons (dVar 3) (aCons (dIf (dTest (dOp2 neD (dVar 5) (dLst aNil))) (dFn F_lock_in (aCons (dOp2 ixA (dVar 0) (dC (.int 0))) (aCons (dOp2 ixA (dVar 0) (dC (.int 2))) (aCons (dVar 5) aNil)))) (dVar 4)) aNil))))))) (sRet (dTup (aCons (dOp2 ixA (dVar 0) (dC (.int 0))) (aCons (dCall tupleN (aCons (dVar 2) aNil)) (aCons (dOp2 ixA (dVar 0) (dC (.int 2))) aNil))))))))
def F_tightened : Fn := fnD 1 7 t_tightened
theorem ok_tightened (T : Tx fa fn K mg) : Has P w K mg base 7 "tightened" ["system"] F_tightened := has_of T 31 31 (d := mkD "tightened" 49) (N := N_tightened) rfl rfl rfl rfl rfl sc_tightened rfl rfl (fun _ _ _ _ _ _ us hl => match us, hl with | [_], _ => rfl) fun f cdv A outer s H E hr => have nd := sc_tightened.nd
  (sd_cons (sd_exp (pd_fnH (ok_need_system T) hr (by decide) rfl (ad_cons (pd_var 0) ad_nil)))
    (sd_cons (sd_parU (i := 1) (j := 2) rfl nd rfl rfl (Or.inr rfl) (Or.inl rfl) (ad_cons (pd_fnH (ok_table_in T) hr (by decide) rfl (ad_cons (pd_var 0) ad_nil)) (ad_cons (pd_cel ad_nil) ad_nil)))
    (sd_cons (sd_for PassesOwn.never rfl (id_seq (pd_ixA (u1 hr) (pd_var 0) pd_int)) (gd_tup rfl (gsd_cons (gd_name (i := 3) nd rfl (by first | exact Or.inl rfl | exact Or.inr rfl)) (gsd_cons (gd_name (i := 4) nd rfl (by first | exact Or.inl rfl | exact Or.inr rfl)) gsd_nil)) (gsLen_cons (gsLen_cons gsLen_nil))) (sd_cons (sd_setLc (i := 5) (own := [("name", 6)]) rfl nd rfl rfl (sw_true rfl rfl rfl (by rfl)) (id_keys (pd_var 1)) (blkOk_by (by rfl)) (by decide) (fun _ _ _ _ _ => (gd_name (i := 6) nd rfl (by first | exact Or.inl rfl | exact Or.inr rfl))) (fun _ _ _ _ _ => (td_one (pd_cmpT (or_inA (u65 hr)) lk_inA (pd_var 3) (pd_ixA (u1 hr) (pd_var 1) (pd_var 6)) (by rfl)))) (fun _ _ _ _ _ => (pd_var 6)))
    (sd_one (sd_exp (pd_app (pd_var 2) (pd_tup (ad_cons (pd_var 3) (ad_cons (pd_if (pd_cmpT (op_neD (u64 hr)) lk_ne (pd_var 5) (pd_lst ad_nil) (nomark _)) (pd_fnH (ok_lock_in T) hr (by decide) rfl (ad_cons (pd_ixA (u1 hr) (pd_var 0) pd_int) (ad_cons (pd_ixA (u1 hr) (pd_var 0) pd_int) (ad_cons (pd_var 5) ad_nil)))) (pd_var 4)) ad_nil))))))))
    (sd_one (sd_ret (pd_tup (ad_cons (pd_ixA (u1 hr) (pd_var 0) pd_int) (ad_cons (pd_callTy call_tuple_of lk_tuple rfl (T.free 60) (by decide +kernel) (ad_cons (pd_var 2) ad_nil)) (ad_cons (pd_ixA (u1 hr) (pd_var 0) pd_int) ad_nil)))))))))
abbrev N_l_cup : List Str := ["script", "cell"]
theorem sc_l_cup : FnScope N_l_cup ["script"] (defScope (top 51)) := ⟨rfl, rfl, rfl, by decide +kernel, rfl, by decide +kernel, by decide +kernel⟩
def t_l_cup : DS := (sSeq (sSet 1 (dCall absN (aCons (dOp2 ixD (dOp2 addD (dCall listN (aCons (dVar 0) aNil)) (dLst (aCons (dC (.int 0)) aNil))) (dC (.int 0))) aNil))) (sRet (dCel (aCons (dIf (dTest (dOp2 geD (dVar 1) (dOp2 powD (dC (.int 10)) (dC (.int 18))))) (dOp2 fdivD (dVar 1) (dC (.int 173))) (dC (.int 0))) (aCons (dOp2 addD (dOp2 modD (dCall intN (aCons (dOp2 addD (dOp2 mulD' (dVar 1) (dC (.int 449))) (dC (.int 4283))) aNil)) (dC (.int 2077502603))) (dC (.int 311))) aNil)))))
def F_l_cup : Fn := fnN 1 2 t_l_cup
theorem ok_l_cup (T : Tx fa fn K mg) : Has P w K mg base 1 "_law_cup" ["script"] F_l_cup := has_new T 32 32 (d := mkD "_law_cup" 51) (N := N_l_cup) rfl rfl rfl rfl rfl sc_l_cup rfl rfl (fun _ _ _ _ _ _ us hl => match us, hl with | [_], _ => rfl) fun f cdv A outer s H E hr => have nd := sc_l_cup.nd
  (sd_cons (sd_set (i := 1) nd rfl (Or.inl rfl) (pd_callB call_abs lk_abs rfl (T.free 46) (by decide +kernel) (ad_cons (pd_ix (pd_bin or_add lk_add (pd_callTy call_list_of lk_list rfl (T.free 53) (by decide +kernel) (ad_cons (pd_var 0) ad_nil)) (pd_lst (ad_cons pd_int ad_nil))) pd_int) ad_nil)))
    (sd_one (sd_ret (pd_cel (ad_cons (pd_if (pd_cmpT (or_ge (u64 hr)) lk_ord (pd_var 1) (pd_bin op_pow lk_int2 pd_int pd_int) (nomark _)) (pd_bin op_fdiv lk_int2 (pd_var 1) pd_int) pd_int) (ad_cons (pd_bin or_add lk_add (pd_bin op_mod lk_int2 (pd_callTy call_int1 lk_int rfl (T.free 50) (by decide +kernel) (ad_cons (pd_bin or_add lk_add (pd_bin or_mul lk_mul (pd_var 1) pd_int) pd_int) ad_nil)) pd_int) pd_int) ad_nil))))))
abbrev N_l_roll : List Str := ["cup", "many", "found", "deep"]
theorem sc_l_roll : FnScope N_l_roll ["cup", "many"] (defScope (top 52)) := ⟨rfl, rfl, rfl, by decide +kernel, rfl, by decide +kernel, by decide +kernel⟩
def t_l_roll : DS := (sSeq (sIf (dTest (dOp2 gtD (dOp2 ixD (dVar 0) (dC (.int 0))) (dC (.int 0)))) (sSeq (sSet 2 (dOp2 modD (dCall intN (aCons (dOp2 ixD (dVar 0) (dC (.int 0))) aNil)) (dVar 1))) (sSeq (sSetI (dVar 0) (dC (.int 0)) (dOp2 fdivD (dOp2 ixD (dVar 0) (dC (.int 0))) (dVar 1))) (sRet (dVar 2)))) sNil) (sSeq (sSetI (dVar 0) (dC (.int 1)) (dOp2 modD (dCall intN (aCons (dOp2 addD (dOp2 mulD' (dOp2 ixD (dVar 0) (dC (.int 1))) (dC (.int 31147))) (dC (.int 8117))) aNil)) (dC (.int 2147482567)))) (sSeq (sSet 3 (dOp2 modD (dCall intN (aCons (dOp2 mulD' (dOp2 ixD (dVar 0) (dC (.int 1))) (dOp2 addD (dOp2 ixD (dVar 0) (dC (.int 1))) (dC (.int 373)))) aNil)) (dC (.int 2147483059)))) (sRet (dOp2 modD (dCall intN (aCons (dOp2 fdivD (dVar 3) (dC (.int 941))) aNil)) (dVar 1))))))
def F_l_roll : Fn := fnD 2 4 t_l_roll
theorem ok_l_roll (T : Tx fa fn K mg) : Has P w K mg base 1 "_law_roll" ["cup", "many"] F_l_roll := has_of T 33 33 (d := mkD "_law_roll" 52) (N := N_l_roll) rfl rfl rfl rfl rfl sc_l_roll rfl rfl (fun _ _ _ _ _ _ us hl => match us, hl with | [_, _], _ => rfl) fun f cdv A outer s H E hr => have nd := sc_l_roll.nd
  (sd_cons (sd_if (pd_cmpT (or_gt (u64 hr)) lk_ord (pd_ix (pd_var 0) pd_int) pd_int (nomark _)) (sd_cons (sd_set (i := 2) nd rfl (Or.inl rfl) (pd_bin op_mod lk_int2 (pd_callTy call_int1 lk_int rfl (T.free 50) (by decide +kernel) (ad_cons (pd_ix (pd_var 0) pd_int) ad_nil)) (pd_var 1)))
    (sd_cons (sd_setI (pd_var 0) pd_int (pd_bin op_fdiv lk_int2 (pd_ix (pd_var 0) pd_int) (pd_var 1)))
    (sd_one (sd_ret (pd_var 2))))) sd_nil)
    (sd_cons (sd_setI (pd_var 0) pd_int (pd_bin op_mod lk_int2 (pd_callTy call_int1 lk_int rfl (T.free 50) (by decide +kernel) (ad_cons (pd_bin or_add lk_add (pd_bin or_mul lk_mul (pd_ix (pd_var 0) pd_int) pd_int) pd_int) ad_nil)) pd_int))
    (sd_cons (sd_set (i := 3) nd rfl (Or.inl rfl) (pd_bin op_mod lk_int2 (pd_callTy call_int1 lk_int rfl (T.free 50) (by decide +kernel) (ad_cons (pd_bin or_mul lk_mul (pd_ix (pd_var 0) pd_int) (pd_bin or_add lk_add (pd_ix (pd_var 0) pd_int) pd_int)) ad_nil)) pd_int))
    (sd_one (sd_ret (pd_bin op_mod lk_int2 (pd_callTy call_int1 lk_int rfl (T.free 50) (by decide +kernel) (ad_cons (pd_bin op_fdiv lk_int2 (pd_var 3) pd_int) ad_nil)) (pd_var 1)))))))
abbrev N_l_some : List Str := ["cup", "things"]
theorem sc_l_some : FnScope N_l_some ["cup", "things"] (defScope (top 53)) := ⟨rfl, rfl, rfl, by decide +kernel, rfl, by decide +kernel, by decide +kernel⟩
def t_l_some : DS := (sRet (dOp2 ixD (dVar 1) (dFn F_l_roll (aCons (dVar 0) (aCons (dCall lenN (aCons (dVar 1) aNil)) aNil)))))
def F_l_some : Fn := fnD 2 2 t_l_some
theorem ok_l_some (T : Tx fa fn K mg) : Has P w K mg base 2 "_law_some" ["cup", "things"] F_l_some := has_of T 34 34 (d := mkD "_law_some" 53) (N := N_l_some) rfl rfl rfl rfl rfl sc_l_some rfl rfl (fun _ _ _ _ _ _ us hl => match us, hl with | [_, _], _ => rfl) fun f cdv A outer s H E hr => have nd := sc_l_some.nd
  (sd_one (sd_ret (pd_ix (pd_var 1) (pd_fnH (ok_l_roll T) hr (by decide) rfl (ad_cons (pd_var 0) (ad_cons (pd_callB call_len lk_len rfl (T.free 52) (by decide +kernel) (ad_cons (pd_var 1) ad_nil)) ad_nil))))))
abbrev N_l_same : List Str := ["told", "due", "at"]
theorem sc_l_same : FnScope N_l_same ["told", "due"] (defScope (top 54)) := ⟨rfl, rfl, rfl, by decide +kernel, rfl, by decide +kernel, by decide +kernel⟩
def t_l_same (self : Fn) : DS := (sSeq (sIf (dTru (dOp1 (isiD .tuple) (dVar 1))) (sSeq (sIf (dOrT (dNotT (dTru (dOp1 (isiD .tuple) (dVar 0)))) (dTest (dOp2 neD (dCall lenN (aCons (dVar 0) aNil)) (dCall lenN (aCons (dVar 1) aNil))))) (sRet (dC (.bool false))) sNil) (sRet (dCall allN (aCons (dComp (dItA itR1 (aCons (dCall lenN (aCons (dVar 1) aNil)) aNil)) (gN 2) [2] tstY (dFn self (aCons (dOp2 ixD (dVar 0) (dVar 2)) (aCons (dOp2 ixD (dVar 1) (dVar 2)) aNil)))) aNil)))) sNil) (sSeq (sIf (dTest (dOp2 (isD false) (dVar 1) (dC .none))) (sRet (dOp2 (isD false) (dVar 0) (dC .none))) sNil) (sSeq (sIf (dTru (dOp1 (isiD .bool) (dVar 1))) (sRet (dIf (dTru (dVar 1)) (dOp2 (isD false) (dVar 0) (dC (.bool true))) (dOp2 (isD false) (dVar 0) (dC (.bool false))))) sNil) (sSeq (sIf (dTru (dOp1 (isiD .int) (dVar 1))) (sRet (dAndV (dOp1 (isiD .int) (dVar 0)) (dAndV (dNotV (dOp1 (isiD .bool) (dVar 0))) (dOp2 eqD (dCall intN (aCons (dVar 0) aNil)) (dVar 1))))) sNil) (sRet (dAndV (dOp1 (isiD .str) (dVar 0)) (dOp2 eqD (dCall strN (aCons (dVar 0) aNil)) (dVar 1))))))))
def G_l_same : Nat → Fn
  | 0 => fun _ _ => .bad
  | n + 1 => fnD 2 3 (t_l_same (G_l_same n))
theorem okG_l_same (T : Tx fa fn K mg) : ∀ n : Nat, Has P w K mg base (0 + n) "_law_same" ["told", "due"] (G_l_same n)
  | 0 => has_bad T 35 35 (d := mkD "_law_same" 54) _ rfl rfl rfl rfl rfl (fun _ _ _ _ _ _ us hl => match us, hl with | [_, _], _ => rfl)
  | n + 1 => has_of T 35 35 (d := mkD "_law_same" 54) (N := N_l_same) rfl rfl rfl rfl rfl sc_l_same rfl rfl (fun _ _ _ _ _ _ us hl => match us, hl with | [_, _], _ => rfl) fun f cdv A outer s H E hr => have nd := sc_l_same.nd
    have GS := okG_l_same T n
  (sd_cons (sd_if (pd_tru (pd_isi .tuple (by decide) (pd_var 1) rfl (T.free 51) rfl (T.free 60) (by decide +kernel) (by decide +kernel))) (sd_cons (sd_if (PW.pt (wd_or (pd_notT (pd_tru (pd_isi .tuple (by decide) (pd_var 0) rfl (T.free 51) rfl (T.free 60) (by decide +kernel) (by decide +kernel)))) (wd_or1 (pd_cmpT (op_neD (u64 hr)) lk_ne (pd_callB call_len lk_len rfl (T.free 52) (by decide +kernel) (ad_cons (pd_var 0) ad_nil)) (pd_callB call_len lk_len rfl (T.free 52) (by decide +kernel) (ad_cons (pd_var 1) ad_nil)) (nomark _))))) (sd_one (sd_ret pd_bl)) sd_nil)
    (sd_one (sd_ret (pd_callB (cr_all rfl) lk_bools rfl (T.free 47) (by decide +kernel) (ad_cons (pd_lc (own := [("at", 2)]) rfl nd (id_rng1 rfl (T.free 56) (ad_cons (pd_callB call_len lk_len rfl (T.free 52) (by decide +kernel) (ad_cons (pd_var 1) ad_nil)) ad_nil)) (blkOk_by (by rfl)) (by decide) (fun _ _ _ _ _ => (gd_name (i := 2) nd rfl (by first | exact Or.inl rfl | exact Or.inr rfl))) (fun _ _ _ _ _ => td_nil) (fun _ _ _ _ _ => (pd_fnH GS hr (Nat.le_refl _) rfl (ad_cons (pd_ix (pd_var 0) (pd_var 2)) (ad_cons (pd_ix (pd_var 1) (pd_var 2)) ad_nil))))) ad_nil))))) sd_nil)
    (sd_cons (sd_if (pd_cmpT or_is lk_is (pd_var 1) pd_non (nomark _)) (sd_one (sd_ret (pd_cmp or_is lk_is (pd_var 0) pd_non (nomark _)))) sd_nil)
    (sd_cons (sd_if (pd_tru (pd_isi .bool (by decide) (pd_var 1) rfl (T.free 51) rfl (T.free 48) (by decide +kernel) (by decide +kernel))) (sd_one (sd_ret (pd_if (pd_tru (pd_var 1)) (pd_cmp or_is lk_is (pd_var 0) pd_bl (nomark _)) (pd_cmp or_is lk_is (pd_var 0) pd_bl (nomark _))))) sd_nil)
    (sd_cons (sd_if (pd_tru (pd_isi .int (by decide) (pd_var 1) rfl (T.free 51) rfl (T.free 50) (by decide +kernel) (by decide +kernel))) (sd_one (sd_ret (pd_and (pd_isi .int (by decide) (pd_var 0) rfl (T.free 51) rfl (T.free 50) (by decide +kernel) (by decide +kernel)) (pd_and (pd_not (pd_isi .bool (by decide) (pd_var 0) rfl (T.free 51) rfl (T.free 48) (by decide +kernel) (by decide +kernel))) (pd_one (pd_cmp (op_eqD (u64 hr)) lk_eq (pd_callTy call_int1 lk_int rfl (T.free 50) (by decide +kernel) (ad_cons (pd_var 0) ad_nil)) (pd_var 1) (nomark _))))))) sd_nil)
    (sd_one (sd_ret (pd_and (pd_isi .str (by decide) (pd_var 0) rfl (T.free 51) rfl (T.free 59) (by decide +kernel) (by decide +kernel)) (pd_one (pd_cmp (op_eqD (u64 hr)) lk_eq (pd_callTy cr_str lk_str rfl (T.free 59) (by decide +kernel) (ad_cons (pd_var 0) ad_nil)) (pd_var 1) (nomark _))))))))))
def F_l_same : Fn := G_l_same 12
theorem ok_l_same (T : Tx fa fn K mg) : Has P w K mg base 12 "_law_same" ["told", "due"] F_l_same := okG_l_same T 12
abbrev N_l_names : List Str := ["cup", "many", "pool", "found", "turn", "one"]
theorem sc_l_names : FnScope N_l_names ["cup", "many"] (defScope (top 55)) := ⟨rfl, rfl, rfl, by decide +kernel, rfl, by decide +kernel, by decide +kernel⟩
def t_l_names : DS := (sSeq (sSet 2 (dLst (aCons (dC (.str "a")) (aCons (dC (.str "ab")) (aCons (dC (.str "b")) (aCons (dC (.str "b1")) (aCons (dC (.str "c")) (aCons (dC (.str "d")) (aCons (dC (.str "e")) (aCons (dC (.str "ear")) (aCons (dC (.str "f")) (aCons (dC (.str "g")) (aCons (dC (.str "h9")) (aCons (dC (.str "h")) (aCons (dC (.str "i")) (aCons (dC (.str "j")) (aCons (dC (.str "k")) (aCons (dC (.str "k2")) aNil)))))))))))))))))) (sSeq (sSet 2 (dOp2 addD (dVar 2) (dLst (aCons (dC (.str "l")) (aCons (dC (.str "m")) (aCons (dC (.str "n")) (aCons (dC (.str "o")) (aCons (dC (.str "p")) (aCons (dC (.str "q")) (aCons (dC (.str "r")) (aCons (dC (.str "s")) (aCons (dC (.str "t")) (aCons (dC (.str "u")) (aCons (dC (.str "v")) (aCons (dC (.str "w")) (aCons (dC (.str "x")) (aCons (dC (.str "z")) aNil))))))))))))))))) (sSeq (sSet 3 (dCel aNil)) (sSeq (sFor (dItA itR1 (aCons (dVar 1) aNil)) (gN 4) (sSeq (sExp (dApp (dVar 3) (dFn F_l_some (aCons (dVar 0) (aCons (dVar 2) aNil))))) (sSet 2 (dComp (dIt (dVar 2)) (gN 5) [5] (dTest (dOp2 neD (dVar 5) (dOp2 ixD (dVar 3) (dOp1 negD (dC (.int 1)))))) (dVar 5))))) (sRet (dCall sortedN (aCons (dVar 3) aNil)))))))
def F_l_names : Fn := fnD 2 6 t_l_names
theorem ok_l_names (T : Tx fa fn K mg) : Has P w K mg base 3 "_law_names" ["cup", "many"] F_l_names := has_of T 36 36 (d := mkD "_law_names" 55) (N := N_l_names) rfl rfl rfl rfl rfl sc_l_names rfl rfl (fun _ _ _ _ _ _ us hl => match us, hl with | [_, _], _ => rfl) fun f cdv A outer s H E hr => have nd := sc_l_names.nd
  (sd_cons (sd_set (i := 2) nd rfl (Or.inl rfl) (pd_lst (ad_cons pd_str (ad_cons pd_str (ad_cons pd_str (ad_cons pd_str (ad_cons pd_str (ad_cons pd_str (ad_cons pd_str (ad_cons pd_str (ad_cons pd_str (ad_cons pd_str (ad_cons pd_str (ad_cons pd_str (ad_cons pd_str (ad_cons pd_str (ad_cons pd_str (ad_cons pd_str ad_nil))))))))))))))))))
    (sd_cons (sd_set (i := 2) nd rfl (Or.inl rfl) (pd_bin or_add lk_add (pd_var 2) (pd_lst (ad_cons pd_str (ad_cons pd_str (ad_cons pd_str (ad_cons pd_str (ad_cons pd_str (ad_cons pd_str (ad_cons pd_str (ad_cons pd_str (ad_cons pd_str (ad_cons pd_str (ad_cons pd_str (ad_cons pd_str (ad_cons pd_str (ad_cons pd_str ad_nil)))))))))))))))))
    (sd_cons (sd_set (i := 3) nd rfl (Or.inr rfl) (pd_cel ad_nil))
    (sd_cons (sd_for PassesOwn.never rfl (id_rng1 rfl (T.free 56) (ad_cons (pd_var 1) ad_nil)) (gd_name (i := 4) nd rfl (by first | exact Or.inl rfl | exact Or.inr rfl)) (sd_cons (sd_exp (pd_app (pd_var 3) (pd_fnH (ok_l_some T) hr (by decide) rfl (ad_cons (pd_var 0) (ad_cons (pd_var 2) ad_nil)))))
    (sd_one (sd_setLc (i := 2) (own := [("one", 5)]) rfl nd rfl rfl (sw_true rfl rfl rfl (by rfl)) (id_seq (pd_var 2)) (blkOk_by (by rfl)) (by decide) (fun _ _ _ _ _ => (gd_name (i := 5) nd rfl (by first | exact Or.inl rfl | exact Or.inr rfl))) (fun _ _ _ _ _ => (td_one (pd_cmpT (op_neD (u64 hr)) lk_ne (pd_var 5) (pd_ix (pd_var 3) (pd_un un_neg lk_neg pd_int)) (nomark _)))) (fun _ _ _ _ _ => (pd_var 5))))))
    (sd_one (sd_ret (pd_callB (call_sortV (u66 hr)) lk_sorted rfl (T.free 58) (by decide +kernel) (ad_cons (pd_var 3) ad_nil))))))))
abbrev N_l_make : List Str := ["cup", "places", "heights"]
theorem sc_l_make : FnScope N_l_make ["cup", "places", "heights"] (defScope (top 56)) := ⟨rfl, rfl, rfl, by decide +kernel, rfl, by decide +kernel, by decide +kernel⟩
def t_l_make : DS := (sRet (dTup (aCons (dOp2 addD (dC (.int 1)) (dFn F_l_roll (aCons (dVar 0) (aCons (dVar 1) aNil)))) (aCons (dOp2 addD (dC (.int 2)) (dFn F_l_roll (aCons (dVar 0) (aCons (dOp2 subD (dVar 2) (dC (.int 1))) aNil)))) (aCons (dFn F_l_some (aCons (dVar 0) (aCons (dLst (aCons (dC (.int 1)) (aCons (dC (.int 2)) (aCons (dC (.int 3)) (aCons (dC (.int 9)) (aCons (dC (.int 9)) aNil)))))) aNil))) aNil)))))
def F_l_make : Fn := fnD 3 3 t_l_make
theorem ok_l_make (T : Tx fa fn K mg) : Has P w K mg base 3 "_law_make" ["cup", "places", "heights"] F_l_make := has_of T 37 37 (d := mkD "_law_make" 56) (N := N_l_make) rfl rfl rfl rfl rfl sc_l_make rfl rfl (fun _ _ _ _ _ _ us hl => match us, hl with | [_, _, _], _ => rfl) fun f cdv A outer s H E hr => have nd := sc_l_make.nd
  (sd_one (sd_ret (pd_tup (ad_cons (pd_bin or_add lk_add pd_int (pd_fnH (ok_l_roll T) hr (by decide) rfl (ad_cons (pd_var 0) (ad_cons (pd_var 1) ad_nil)))) (ad_cons (pd_bin or_add lk_add pd_int (pd_fnH (ok_l_roll T) hr (by decide) rfl (ad_cons (pd_var 0) (ad_cons (pd_bin op_sub lk_sub (pd_var 2) pd_int) ad_nil)))) (ad_cons (pd_fnH (ok_l_some T) hr (by decide) rfl (ad_cons (pd_var 0) (ad_cons (pd_lst (ad_cons pd_int (ad_cons pd_int (ad_cons pd_int (ad_cons pd_int (ad_cons pd_int ad_nil)))))) ad_nil))) ad_nil))))))
abbrev N_l_key : List Str := ["cup", "make", "key", "low", "high"]
theorem sc_l_key : FnScope N_l_key ["cup", "make"] (defScope (top 57)) := ⟨rfl, rfl, rfl, by decide +kernel, rfl, by decide +kernel, by decide +kernel⟩
def t_l_key : DS := (sSeq (sSet 2 (dTup (aCons (dFn F_l_roll (aCons (dVar 0) (aCons (dOp2 ixD (dVar 1) (dC (.int 1))) aNil))) aNil))) (sSeq (sWhile (dTest (dOp2 ltD (dCall lenN (aCons (dVar 2) aNil)) (dOp2 ixD (dVar 1) (dC (.int 0))))) (sSeq (sPar 3 4 (aCons (dCall maxN2 (aCons (dC (.int 0)) (aCons (dOp2 subD (dOp2 ixD (dVar 2) (dOp1 negD (dC (.int 1)))) (dOp2 ixD (dVar 1) (dC (.int 2)))) aNil))) (aCons (dCall minN2 (aCons (dOp2 subD (dOp2 ixD (dVar 1) (dC (.int 1))) (dC (.int 1))) (aCons (dOp2 addD (dOp2 ixD (dVar 2) (dOp1 negD (dC (.int 1)))) (dOp2 ixD (dVar 1) (dC (.int 2)))) aNil))) aNil))) (sSet 2 (dOp2 addD (dVar 2) (dTup (aCons (dOp2 addD (dVar 3) (dFn F_l_roll (aCons (dVar 0) (aCons (dOp2 addD (dOp2 subD (dVar 4) (dVar 3)) (dC (.int 1))) aNil)))) aNil)))))) (sRet (dVar 2))))
def F_l_key : Fn := fnD 2 5 t_l_key
theorem ok_l_key (T : Tx fa fn K mg) : Has P w K mg base 2 "_law_key" ["cup", "make"] F_l_key := has_of T 38 38 (d := mkD "_law_key" 57) (N := N_l_key) rfl rfl rfl rfl rfl sc_l_key rfl rfl (fun _ _ _ _ _ _ us hl => match us, hl with | [_, _], _ => rfl) fun f cdv A outer s H E hr => have nd := sc_l_key.nd
  (sd_cons (sd_set (i := 2) nd rfl (Or.inl rfl) (pd_tup (ad_cons (pd_fnH (ok_l_roll T) hr (by decide) rfl (ad_cons (pd_var 0) (ad_cons (pd_ix (pd_var 1) pd_int) ad_nil))) ad_nil)))
    (sd_cons (sd_while PassesOwn.never (pd_cmpT (or_lt (u64 hr)) lk_ord (pd_callB call_len lk_len rfl (T.free 52) (by decide +kernel) (ad_cons (pd_var 2) ad_nil)) (pd_ix (pd_var 1) pd_int) (nomark _)) (sd_cons (sd_par (i := 3) (j := 4) rfl nd rfl rfl (by decide) rfl rfl (ad_cons (pd_callB (call_max2 rfl) lk_max2 rfl (T.free 54) (by decide +kernel) (ad_cons pd_int (ad_cons (pd_bin op_sub lk_sub (pd_ix (pd_var 2) (pd_un un_neg lk_neg pd_int)) (pd_ix (pd_var 1) pd_int)) ad_nil))) (ad_cons (pd_callB (call_min2 rfl) lk_min2 rfl (T.free 55) (by decide +kernel) (ad_cons (pd_bin op_sub lk_sub (pd_ix (pd_var 1) pd_int) pd_int) (ad_cons (pd_bin or_add lk_add (pd_ix (pd_var 2) (pd_un un_neg lk_neg pd_int)) (pd_ix (pd_var 1) pd_int)) ad_nil))) ad_nil)) (by rfl))
    (sd_one (sd_set (i := 2) nd rfl (Or.inl rfl) (pd_bin or_add lk_add (pd_var 2) (pd_tup (ad_cons (pd_bin or_add lk_add (pd_var 3) (pd_fnH (ok_l_roll T) hr (by decide) rfl (ad_cons (pd_var 0) (ad_cons (pd_bin or_add lk_add (pd_bin op_sub lk_sub (pd_var 4) (pd_var 3)) pd_int) ad_nil)))) ad_nil)))))))
    (sd_one (sd_ret (pd_var 2)))))
abbrev N_l_lock : List Str := ["cup", "make", "most", "found", "place", "some", "turn"]
theorem sc_l_lock : FnScope N_l_lock ["cup", "make", "most"] (defScope (top 58)) := ⟨rfl, rfl, rfl, by decide +kernel, rfl, by decide +kernel, by decide +kernel⟩
def t_l_lock : DS := (sSeq (sSet 3 (dTup aNil)) (sSeq (sFor (dItA itR1 (aCons (dOp2 ixD (dVar 1) (dC (.int 0))) aNil)) (gN 4) (sSeq (sSet 5 (dCall dictN (aCons (dComp (dItA itR1 (aCons (dOp2 addD (dC (.int 1)) (dFn F_l_roll (aCons (dVar 0) (aCons (dVar 2) aNil)))) aNil)) (gN 6) [6] tstY (dTup (aCons (dFn F_l_roll (aCons (dVar 0) (aCons (dOp2 ixD (dVar 1) (dC (.int 1))) aNil))) (aCons (dC (.bool true)) aNil)))) aNil))) (sSet 3 (dOp2 addD (dVar 3) (dTup (aCons (dCall tupleN (aCons (dCall sortedDI (aCons (dVar 5) aNil)) aNil)) aNil)))))) (sRet (dVar 3))))
def F_l_lock : Fn := fnD 3 7 t_l_lock
theorem ok_l_lock (T : Tx fa fn K mg) : Has P w K mg base 2 "_law_lock" ["cup", "make", "most"] F_l_lock := has_of T 39 39 (d := mkD "_law_lock" 58) (N := N_l_lock) rfl rfl rfl rfl rfl sc_l_lock rfl rfl (fun _ _ _ _ _ _ us hl => match us, hl with | [_, _, _], _ => rfl) fun f cdv A outer s H E hr => have nd := sc_l_lock.nd
  (sd_cons (sd_set (i := 3) nd rfl (Or.inl rfl) (pd_tup ad_nil))
    (sd_cons (sd_for PassesOwn.never rfl (id_rng1 rfl (T.free 56) (ad_cons (pd_ix (pd_var 1) pd_int) ad_nil)) (gd_name (i := 4) nd rfl (by first | exact Or.inl rfl | exact Or.inr rfl)) (sd_cons (sd_set (i := 5) nd rfl (Or.inl rfl) (pd_callTy (call_dictP rfl) lk_dict rfl (T.free 49) (by decide +kernel) (ad_cons (pd_lc (own := [("turn", 6)]) rfl nd (id_rng1 rfl (T.free 56) (ad_cons (pd_bin or_add lk_add pd_int (pd_fnH (ok_l_roll T) hr (by decide) rfl (ad_cons (pd_var 0) (ad_cons (pd_var 2) ad_nil)))) ad_nil)) (blkOk_by (by rfl)) (by decide) (fun _ _ _ _ _ => (gd_name (i := 6) nd rfl (by first | exact Or.inl rfl | exact Or.inr rfl))) (fun _ _ _ _ _ => td_nil) (fun _ _ _ _ _ => (pd_tup (ad_cons (pd_fnH (ok_l_roll T) hr (by decide) rfl (ad_cons (pd_var 0) (ad_cons (pd_ix (pd_var 1) pd_int) ad_nil))) (ad_cons pd_bl ad_nil))))) ad_nil)))
    (sd_one (sd_set (i := 3) nd rfl (Or.inl rfl) (pd_bin or_add lk_add (pd_var 3) (pd_tup (ad_cons (pd_callTy call_tuple_of lk_tuple rfl (T.free 60) (by decide +kernel) (ad_cons (pd_callB (call_sortedDI rfl) lk_sortedDI rfl (T.free 58) (by decide +kernel) (ad_cons (pd_var 5) ad_nil)) ad_nil)) ad_nil)))))))
    (sd_one (sd_ret (pd_var 3)))))
abbrev N_l_opens : List Str := ["key", "lock", "at"]
theorem sc_l_opens : FnScope N_l_opens ["key", "lock"] (defScope (top 59)) := ⟨rfl, rfl, rfl, by decide +kernel, rfl, by decide +kernel, by decide +kernel⟩
def t_l_opens : DS := (sRet (dOp2 eqD (dComp (dItA itR1 (aCons (dCall lenN (aCons (dVar 0) aNil)) aNil)) (gN 2) [2] (dTest (dOp2 (inD true) (dOp2 ixD (dVar 0) (dVar 2)) (dOp2 ixD (dVar 1) (dVar 2)))) (dVar 2)) (dLst aNil)))
def F_l_opens : Fn := fnD 2 3 t_l_opens
theorem ok_l_opens (T : Tx fa fn K mg) : Has P w K mg base 1 "_law_opens" ["key", "lock"] F_l_opens := has_of T 40 40 (d := mkD "_law_opens" 59) (N := N_l_opens) rfl rfl rfl rfl rfl sc_l_opens rfl rfl (fun _ _ _ _ _ _ us hl => match us, hl with | [_, _], _ => rfl) fun f cdv A outer s H E hr => have nd := sc_l_opens.nd
  (sd_one (sd_ret (pd_cmp (op_eqD (u64 hr)) lk_eq (pd_lc (own := [("at", 2)]) rfl nd (id_rng1 rfl (T.free 56) (ad_cons (pd_callB call_len lk_len rfl (T.free 52) (by decide +kernel) (ad_cons (pd_var 0) ad_nil)) ad_nil)) (blkOk_by (by rfl)) (by decide) (fun _ _ _ _ _ => (gd_name (i := 2) nd rfl (by first | exact Or.inl rfl | exact Or.inr rfl))) (fun _ _ _ _ _ => (td_one (pd_cmpT (or_notIn (u65 hr)) lk_in (pd_ix (pd_var 0) (pd_var 2)) (pd_ix (pd_var 1) (pd_var 2)) (by rfl)))) (fun _ _ _ _ _ => (pd_var 2))) (pd_lst ad_nil) (nomark _))))
abbrev N_l_system : List Str := ["cup", "make", "doors", "keys", "cuts", "locks", "turn", "lock", "key", "some", "cut", "one"]
theorem sc_l_system : FnScope N_l_system ["cup", "make", "doors", "keys"] (defScope (top 60)) := ⟨rfl, rfl, rfl, by decide +kernel, rfl, by decide +kernel, by decide +kernel⟩
def t_l_system : DS := (sSeq (sSet 4 (dComp (dItA itR1 (aCons (dVar 3) aNil)) (gN 6) [6] tstY (dFn F_l_key (aCons (dVar 0) (aCons (dVar 1) aNil))))) (sSeq (sSet 5 (dCel aNil)) (sSeq (sFor (dItA itR1 (aCons (dVar 2) aNil)) (gN 6) (sSeq (sSet 7 (dFn F_l_lock (aCons (dVar 0) (aCons (dVar 1) (aCons (dC (.int 2)) aNil))))) (sSeq (sFor (dIt (dVar 4)) (gN 8) (sIf (dTest (dOp2 eqD (dFn F_l_roll (aCons (dVar 0) (aCons (dC (.int 4)) aNil))) (dC (.int 0)))) (sSet 7 (dCall tupleN (aCons (dComp (dItA itZip (aCons (dVar 7) (aCons (dVar 8) aNil))) (gT (gsC (gN 9) (gsC (gN 10) gsN))) [9, 10] tstY (dCall tupleN (aCons (dCall sortedDI (aCons (dCall dictN (aCons (dComp (dIt (dOp2 addD (dVar 9) (dTup (aCons (dVar 10) aNil)))) (gN 11) [11] tstY (dTup (aCons (dVar 11) (aCons (dC (.bool true)) aNil)))) aNil)) aNil)) aNil))) aNil))) sNil)) (sExp (dApp (dVar 5) (dVar 7)))))) (sRet (dTup (aCons (dVar 1) (aCons (dCall tupleN (aCons (dCall listZip (aCons (dFn F_l_names (aCons (dVar 0) (aCons (dVar 2) aNil))) (aCons (dVar 5) aNil))) aNil)) (aCons (dCall tupleN (aCons (dCall listZip (aCons (dFn F_l_names (aCons (dVar 0) (aCons (dVar 3) aNil))) (aCons (dVar 4) aNil))) aNil)) aNil))))))))
def F_l_system : Fn := fnD 4 12 t_l_system
theorem ok_l_system (T : Tx fa fn K mg) : Has P w K mg base 4 "_law_system" ["cup", "make", "doors", "keys"] F_l_system := has_of T 41 41 (d := mkD "_law_system" 60) (N := N_l_system) rfl rfl rfl rfl rfl sc_l_system rfl rfl (fun _ _ _ _ _ _ us hl => match us, hl with | [_, _, _, _], _ => rfl) fun f cdv A outer s H E hr => have nd := sc_l_system.nd
  (sd_cons (sd_setLc (i := 4) (own := [("turn", 6)]) rfl nd rfl rfl (sw_true rfl rfl rfl (by rfl)) (id_rng1 rfl (T.free 56) (ad_cons (pd_var 3) ad_nil)) (blkOk_by (by rfl)) (by decide) (fun _ _ _ _ _ => (gd_name (i := 6) nd rfl (by first | exact Or.inl rfl | exact Or.inr rfl))) (fun _ _ _ _ _ => td_nil) (fun _ _ _ _ _ => (pd_fnH (ok_l_key T) hr (by decide) rfl (ad_cons (pd_var 0) (ad_cons (pd_var 1) ad_nil)))))
    (sd_cons (sd_set (i := 5) nd rfl (Or.inl rfl) (pd_cel ad_nil))
    (sd_cons (sd_for PassesOwn.never rfl (id_rng1 rfl (T.free 56) (ad_cons (pd_var 2) ad_nil)) (gd_name (i := 6) nd rfl (by first | exact Or.inl rfl | exact Or.inr rfl)) (sd_cons (sd_set (i := 7) nd rfl (Or.inl rfl) (pd_fnH (ok_l_lock T) hr (by decide) rfl (ad_cons (pd_var 0) (ad_cons (pd_var 1) (ad_cons pd_int ad_nil)))))
    (sd_cons (sd_for PassesOwn.never rfl (id_seq (pd_var 4)) (gd_name (i := 8) nd rfl (by first | exact Or.inl rfl | exact Or.inr rfl)) (sd_one (sd_if (pd_cmpT (op_eqD (u64 hr)) lk_eq (pd_fnH (ok_l_roll T) hr (by decide) rfl (ad_cons (pd_var 0) (ad_cons pd_int ad_nil))) pd_int (nomark _)) (sd_one (sd_set (i := 7) nd rfl (Or.inl rfl) (pd_callTy call_tuple_of lk_tuple rfl (T.free 60) (by decide +kernel) (ad_cons (pd_lc (own := [("some", 9), ("cut", 10)]) rfl nd (id_zip rfl (T.free 61) (ad_cons (pd_var 7) (ad_cons (pd_var 8) ad_nil))) (blkOk_by (by rfl)) (by decide) (fun _ _ _ _ _ => (gd_tup rfl (gsd_cons (gd_name (i := 9) nd rfl (by first | exact Or.inl rfl | exact Or.inr rfl)) (gsd_cons (gd_name (i := 10) nd rfl (by first | exact Or.inl rfl | exact Or.inr rfl)) gsd_nil)) (gsLen_cons (gsLen_cons gsLen_nil)))) (fun _ _ _ _ _ => td_nil) (fun _ _ _ _ _ => (pd_callTy call_tuple_of lk_tuple rfl (T.free 60) (by decide +kernel) (ad_cons (pd_callB (call_sortedDI rfl) lk_sortedDI rfl (T.free 58) (by decide +kernel) (ad_cons (pd_callTy (call_dictP rfl) lk_dict rfl (T.free 49) (by decide +kernel) (ad_cons (pd_lc (own := [("one", 11)]) rfl nd (id_seq (pd_bin or_add lk_add (pd_var 9) (pd_tup (ad_cons (pd_var 10) ad_nil)))) (blkOk_by (by rfl)) (by decide) (fun _ _ _ _ _ => (gd_name (i := 11) nd rfl (by first | exact Or.inl rfl | exact Or.inr rfl))) (fun _ _ _ _ _ => td_nil) (fun _ _ _ _ _ => (pd_tup (ad_cons (pd_var 11) (ad_cons pd_bl ad_nil))))) ad_nil)) ad_nil)) ad_nil)))) ad_nil)))) sd_nil)))
    (sd_one (sd_exp (pd_app (pd_var 5) (pd_var 7)))))))
    (sd_one (sd_ret (pd_tup (ad_cons (pd_var 1) (ad_cons (pd_callTy call_tuple_of lk_tuple rfl (T.free 60) (by decide +kernel) (ad_cons (pd_lzip rfl rfl (T.free 53) rfl (T.free 61) (ad_cons (pd_fnH (ok_l_names T) hr (by decide) rfl (ad_cons (pd_var 0) (ad_cons (pd_var 2) ad_nil))) (ad_cons (pd_var 5) ad_nil))) ad_nil)) (ad_cons (pd_callTy call_tuple_of lk_tuple rfl (T.free 60) (by decide +kernel) (ad_cons (pd_lzip rfl rfl (T.free 53) rfl (T.free 61) (ad_cons (pd_fnH (ok_l_names T) hr (by decide) rfl (ad_cons (pd_var 0) (ad_cons (pd_var 3) ad_nil))) (ad_cons (pd_var 4) ad_nil))) ad_nil)) ad_nil)))))))))
abbrev N_l_lock_of : List Str := ["make", "keys", "names", "found", "at", "name", "key"]
theorem sc_l_lock_of : FnScope N_l_lock_of ["make", "keys", "names"] (defScope (top 61)) := ⟨rfl, rfl, rfl, by decide +kernel, rfl, by decide +kernel, by decide +kernel⟩
def t_l_lock_of : DS := (sSeq (sSet 3 (dTup aNil)) (sSeq (sFor (dItA itR1 (aCons (dOp2 ixD (dVar 0) (dC (.int 0))) aNil)) (gN 4) (sSet 3 (dOp2 addD (dVar 3) (dTup (aCons (dCall tupleN (aCons (dCall sortedDI (aCons (dCall dictN (aCons (dComp (dIt (dVar 1)) (gT (gsC (gN 5) (gsC (gN 6) gsN))) [5, 6] (dTest (dOp2 (inD false) (dVar 5) (dVar 2))) (dTup (aCons (dOp2 ixD (dVar 6) (dVar 4)) (aCons (dC (.bool true)) aNil)))) aNil)) aNil)) aNil)) aNil))))) (sRet (dVar 3))))
def F_l_lock_of : Fn := fnD 3 7 t_l_lock_of
theorem ok_l_lock_of (T : Tx fa fn K mg) : Has P w K mg base 1 "_law_lock_of" ["make", "keys", "names"] F_l_lock_of := has_of T 42 42 (d := mkD "_law_lock_of" 61) (N := N_l_lock_of) rfl rfl rfl rfl rfl sc_l_lock_of rfl rfl (fun _ _ _ _ _ _ us hl => match us, hl with | [_, _, _], _ => rfl) fun f cdv A outer s H E hr => have nd := sc_l_lock_of.nd
  (sd_cons (sd_set (i := 3) nd rfl (Or.inl rfl) (pd_tup ad_nil))
    (sd_cons (sd_for PassesOwn.never rfl (id_rng1 rfl (T.free 56) (ad_cons (pd_ix (pd_var 0) pd_int) ad_nil)) (gd_name (i := 4) nd rfl (by first | exact Or.inl rfl | exact Or.inr rfl)) (sd_one (sd_set (i := 3) nd rfl (Or.inl rfl) (pd_bin or_add lk_add (pd_var 3) (pd_tup (ad_cons (pd_callTy call_tuple_of lk_tuple rfl (T.free 60) (by decide +kernel) (ad_cons (pd_callB (call_sortedDI rfl) lk_sortedDI rfl (T.free 58) (by decide +kernel) (ad_cons (pd_callTy (call_dictP rfl) lk_dict rfl (T.free 49) (by decide +kernel) (ad_cons (pd_lc (own := [("name", 5), ("key", 6)]) rfl nd (id_seq (pd_var 1)) (blkOk_by (by rfl)) (by decide) (fun _ _ _ _ _ => (gd_tup rfl (gsd_cons (gd_name (i := 5) nd rfl (by first | exact Or.inl rfl | exact Or.inr rfl)) (gsd_cons (gd_name (i := 6) nd rfl (by first | exact Or.inl rfl | exact Or.inr rfl)) gsd_nil)) (gsLen_cons (gsLen_cons gsLen_nil)))) (fun _ _ _ _ _ => (td_one (pd_cmpT (or_in (u65 hr)) lk_in (pd_var 5) (pd_var 2) (by rfl)))) (fun _ _ _ _ _ => (pd_tup (ad_cons (pd_ix (pd_var 6) (pd_var 4)) (ad_cons pd_bl ad_nil))))) ad_nil)) ad_nil)) ad_nil)) ad_nil))))))
    (sd_one (sd_ret (pd_var 3)))))
abbrev N_l_bent : List Str := ["cup", "system", "make", "doors", "keys", "found", "door", "lock", "at", "way", "one"]
theorem sc_l_bent : FnScope N_l_bent ["cup", "system"] (defScope (top 62)) := ⟨rfl, rfl, rfl, by decide +kernel, rfl, by decide +kernel, by decide +kernel⟩
def t_l_bent : DS := (sSeq (sUnp (dVar 1) (gT (gsC (gN 2) (gsC (gN 3) (gsC (gN 4) gsN))))) (sSeq (sSet 5 (dTup aNil)) (sSeq (sFor (dIt (dVar 3)) (gT (gsC (gN 6) (gsC (gN 7) gsN))) (sSeq (sPar 8 9 (aCons (dFn F_l_roll (aCons (dVar 0) (aCons (dOp2 ixD (dVar 2) (dC (.int 0))) aNil))) (aCons (dFn F_l_roll (aCons (dVar 0) (aCons (dC (.int 4)) aNil))) aNil))) (sSeq (sIf (dTest (dOp2 eqD (dVar 9) (dC (.int 0)))) (sSet 7 (dFn F_l_lock (aCons (dVar 0) (aCons (dVar 2) (aCons (dC (.int 3)) aNil))))) (sIf (dTest (dOp2 eqD (dVar 9) (dC (.int 1)))) (sSet 7 (dOp2 addD (dOp2 addD (dSl (dVar 7) oNo (oSo (dVar 8))) (dTup (aCons (dCall tupleN (aCons (dCall sortedDI (aCons (dCall dictN (aCons (dComp (dIt (dOp2 addD (dOp2 ixD (dVar 7) (dVar 8)) (dTup (aCons (dFn F_l_roll (aCons (dVar 0) (aCons (dOp2 ixD (dVar 2) (dC (.int 1))) aNil))) aNil)))) (gN 10) [10] tstY (dTup (aCons (dVar 10) (aCons (dC (.bool true)) aNil)))) aNil)) aNil)) aNil)) aNil))) (dSl (dVar 7) (oSo (dOp2 addD (dVar 8) (dC (.int 1)))) oNo))) (sIf (dAndT (dTest (dOp2 eqD (dVar 9) (dC (.int 2)))) (dTest (dOp2 gtD (dCall lenN (aCons (dOp2 ixD (dVar 7) (dVar 8)) aNil)) (dC (.int 1))))) (sSet 7 (dOp2 addD (dOp2 addD (dSl (dVar 7) oNo (oSo (dVar 8))) (dTup (aCons (dSl (dOp2 ixD (dVar 7) (dVar 8)) (oSo (dC (.int 1))) oNo) aNil))) (dSl (dVar 7) (oSo (dOp2 addD (dVar 8) (dC (.int 1)))) oNo))) sNil))) (sSet 5 (dOp2 addD (dVar 5) (dTup (aCons (dTup (aCons (dVar 6) (aCons (dVar 7) aNil))) aNil))))))) (sRet (dTup (aCons (dVar 2) (aCons (dVar 5) (aCons (dVar 4) aNil))))))))
def F_l_bent : Fn := fnD 2 11 t_l_bent
theorem ok_l_bent (T : Tx fa fn K mg) : Has P w K mg base 3 "_law_bent" ["cup", "system"] F_l_bent := has_of T 43 43 (d := mkD "_law_bent" 62) (N := N_l_bent) rfl rfl rfl rfl rfl sc_l_bent rfl rfl (fun _ _ _ _ _ _ us hl => match us, hl with | [_, _], _ => rfl) fun f cdv A outer s H E hr => have nd := sc_l_bent.nd
  (sd_cons (sd_unp (pd_var 1) (gd_tup rfl (gsd_cons (gd_name (i := 2) nd rfl (by first | exact Or.inl rfl | exact Or.inr rfl)) (gsd_cons (gd_name (i := 3) nd rfl (by first | exact Or.inl rfl | exact Or.inr rfl)) (gsd_cons (gd_name (i := 4) nd rfl (by first | exact Or.inl rfl | exact Or.inr rfl)) gsd_nil))) (gsLen_cons (gsLen_cons (gsLen_cons gsLen_nil)))))
    (sd_cons (sd_set (i := 5) nd rfl (Or.inl rfl) (pd_tup ad_nil))
    (sd_cons (sd_for PassesOwn.never rfl (id_seq (pd_var 3)) (gd_tup rfl (gsd_cons (gd_name (i := 6) nd rfl (by first | exact Or.inl rfl | exact Or.inr rfl)) (gsd_cons (gd_name (i := 7) nd rfl (by first | exact Or.inl rfl | exact Or.inr rfl)) gsd_nil)) (gsLen_cons (gsLen_cons gsLen_nil))) (sd_cons (sd_par (i := 8) (j := 9) rfl nd rfl rfl (by decide) rfl rfl (ad_cons (pd_fnH (ok_l_roll T) hr (by decide) rfl (ad_cons (pd_var 0) (ad_cons (pd_ix (pd_var 2) pd_int) ad_nil))) (ad_cons (pd_fnH (ok_l_roll T) hr (by decide) rfl (ad_cons (pd_var 0) (ad_cons pd_int ad_nil))) ad_nil)) (by rfl))
    (sd_cons (sd_if (pd_cmpT (op_eqD (u64 hr)) lk_eq (pd_var 9) pd_int (nomark _)) (sd_one (sd_set (i := 7) nd rfl (Or.inl rfl) (pd_fnH (ok_l_lock T) hr (by decide) rfl (ad_cons (pd_var 0) (ad_cons (pd_var 2) (ad_cons pd_int ad_nil)))))) (sd_one (sd_if (pd_cmpT (op_eqD (u64 hr)) lk_eq (pd_var 9) pd_int (nomark _)) (sd_one (sd_set (i := 7) nd rfl (Or.inl rfl) (pd_bin or_add lk_add (pd_bin or_add lk_add (pd_sl (pd_var 7) od_no (od_so (pd_var 8))) (pd_tup (ad_cons (pd_callTy call_tuple_of lk_tuple rfl (T.free 60) (by decide +kernel) (ad_cons (pd_callB (call_sortedDI rfl) lk_sortedDI rfl (T.free 58) (by decide +kernel) (ad_cons (pd_callTy (call_dictP rfl) lk_dict rfl (T.free 49) (by decide +kernel) (ad_cons (pd_lc (own := [("one", 10)]) rfl nd (id_seq (pd_bin or_add lk_add (pd_ix (pd_var 7) (pd_var 8)) (pd_tup (ad_cons (pd_fnH (ok_l_roll T) hr (by decide) rfl (ad_cons (pd_var 0) (ad_cons (pd_ix (pd_var 2) pd_int) ad_nil))) ad_nil)))) (blkOk_by (by rfl)) (by decide) (fun _ _ _ _ _ => (gd_name (i := 10) nd rfl (by first | exact Or.inl rfl | exact Or.inr rfl))) (fun _ _ _ _ _ => td_nil) (fun _ _ _ _ _ => (pd_tup (ad_cons (pd_var 10) (ad_cons pd_bl ad_nil))))) ad_nil)) ad_nil)) ad_nil)) ad_nil))) (pd_sl (pd_var 7) (od_so (pd_bin or_add lk_add (pd_var 8) pd_int)) od_no)))) (sd_one (sd_if (PW.pt (wd_and (pd_cmpT (op_eqD (u64 hr)) lk_eq (pd_var 9) pd_int (nomark _)) (wd_and1 (pd_cmpT (or_gt (u64 hr)) lk_ord (pd_callB call_len lk_len rfl (T.free 52) (by decide +kernel) (ad_cons (pd_ix (pd_var 7) (pd_var 8)) ad_nil)) pd_int (nomark _))))) (sd_one (sd_set (i := 7) nd rfl (Or.inl rfl) (pd_bin or_add lk_add (pd_bin or_add lk_add (pd_sl (pd_var 7) od_no (od_so (pd_var 8))) (pd_tup (ad_cons (pd_sl (pd_ix (pd_var 7) (pd_var 8)) (od_so pd_int) od_no) ad_nil))) (pd_sl (pd_var 7) (od_so (pd_bin or_add lk_add (pd_var 8) pd_int)) od_no)))) sd_nil)))))
    (sd_one (sd_set (i := 5) nd rfl (Or.inl rfl) (pd_bin or_add lk_add (pd_var 5) (pd_tup (ad_cons (pd_tup (ad_cons (pd_var 6) (ad_cons (pd_var 7) ad_nil))) ad_nil))))))))
    (sd_one (sd_ret (pd_tup (ad_cons (pd_var 2) (ad_cons (pd_var 5) (ad_cons (pd_var 4) ad_nil)))))))))
abbrev N_law : List Str := ["script", "cup", "turn", "make", "system", "other", "one", "two", "due", "first", "second", "within", "door", "lock", "own", "wide", "least", "names", "told", "doors", "pair", "some", "more", "cut", "name"]
theorem sc_law : FnScope N_law ["script"] (defScope (top 63)) := ⟨rfl, rfl, rfl, by decide +kernel, rfl, by decide +kernel, by decide +kernel⟩
def t_law : DS := (sSeq (sSet 1 (dFn F_l_cup (aCons (dVar 0) aNil))) (sSeq (sFor (dItA itR1 (aCons (dC (.int 5)) aNil)) (gN 2) (sSeq (sSet 3 (dFn F_l_make (aCons (dVar 1) (aCons (dC (.int 5)) (aCons (dC (.int 5)) aNil))))) (sSeq (sSet 4 (dFn F_l_system (aCons (dVar 1) (aCons (dVar 3) (aCons (dOp2 addD (dC (.int 1)) (dFn F_l_roll (aCons (dVar 1) (aCons (dC (.int 6)) aNil)))) (aCons (dOp2 addD (dC (.int 1)) (dFn F_l_roll (aCons (dVar 1) (aCons (dC (.int 7)) aNil)))) aNil)))))) (sSeq (sSet 5 (dFn F_l_bent (aCons (dVar 1) (aCons (dVar 4) aNil)))) (sSeq (sPar 6 7 (aCons (dFn F_who_opens (aCons (dVar 4) aNil)) (aCons (dFn F_who_opens (aCons (dVar 5) aNil)) aNil))) (sSeq (sSet 8 (dTup (aCons (dCall tupleN (aCons (dComp (dIt (dVar 7)) (gN 20) [20] (dTest (dOp2 (inD true) (dVar 20) (dVar 6))) (dVar 20)) aNil)) (aCons (dCall tupleN (aCons (dComp (dIt (dVar 6)) (gN 20) [20] (dTest (dOp2 (inD true) (dVar 20) (dVar 7))) (dVar 20)) aNil)) aNil)))) (sSeq (sIf (dOrT (dNotT (dTru (dFn F_l_same (aCons (dFn F_changes (aCons (dVar 4) (aCons (dVar 5) aNil))) (aCons (dVar 8) aNil))))) (dNotT (dTru (dFn F_l_same (aCons (dFn F_changes (aCons (dVar 5) (aCons (dVar 4) aNil))) (aCons (dOp1 revA (dVar 8)) aNil)))))) (sRet (dC (.bool false))) sNil) (sSeq (sFor (dIt (dTup (aCons (dTup (aCons (dVar 4) (aCons (dVar 5) aNil))) (aCons (dTup (aCons (dVar 5) (aCons (dVar 4) aNil))) (aCons (dTup (aCons (dVar 4) (aCons (dVar 4) aNil))) aNil))))) (gT (gsC (gN 9) (gsC (gN 10) gsN))) (sSeq (sSet 11 (dC (.bool true))) (sSeq (sFor (dItA itZip (aCons (dOp2 ixD (dVar 9) (dC (.int 1))) (aCons (dOp2 ixD (dVar 10) (dC (.int 1))) aNil))) (gT (gsC (gT (gsC (gN 12) (gsC (gN 13) gsN))) (gsC (gT (gsC (gN 14) (gsC (gN 15) gsN))) gsN))) (sSet 11 (dAndV (dVar 11) (dOp2 eqD (dComp (dItA itZip (aCons (dVar 13) (aCons (dVar 15) aNil))) (gT (gsC (gN 21) (gsC (gN 22) gsN))) [21, 22] (dTest (dOp2 neD (dComp (dIt (dVar 21)) (gN 23) [23] (dTest (dOp2 (inD true) (dVar 23) (dVar 22))) (dVar 23)) (dLst aNil))) (dC (.int 1))) (dLst aNil))))) (sIf (dNotT (dTru (dFn F_l_same (aCons (dFn F_is_tighter (aCons (dVar 9) (aCons (dVar 10) aNil))) (aCons (dVar 11) aNil))))) (sRet (dC (.bool false))) sNil)))) (sSeq (sSet 16 (dTup aNil)) (sSeq (sFor (dIt (dOp2 ixD (dVar 4) (dC (.int 1)))) (gT (gsC (gN 12) (gsC (gN 13) gsN))) (sSeq (sSet 17 (dComp (dIt (dVar 6)) (gT (gsC (gN 24) (gsC (gN 14) gsN))) [24, 14] (dTest (dOp2 eqD (dVar 14) (dVar 12))) (dVar 24))) (sSet 16 (dOp2 addD (dVar 16) (dTup (aCons (dTup (aCons (dVar 12) (aCons (dIf (dTest (dOp2 neD (dVar 17) (dLst aNil))) (dFn F_l_lock_of (aCons (dVar 3) (aCons (dOp2 ixD (dVar 4) (dC (.int 2))) (aCons (dVar 17) aNil)))) (dVar 13)) aNil))) aNil)))))) (sSeq (sSet 18 (dFn F_tightened (aCons (dVar 4) aNil))) (sSeq (sIf (dOrT (dNotT (dTru (dFn F_l_same (aCons (dVar 18) (aCons (dTup (aCons (dVar 3) (aCons (dVar 16) (aCons (dOp2 ixD (dVar 4) (dC (.int 2))) aNil)))) aNil))))) (dNotT (dTru (dFn F_l_same (aCons (dFn F_tightened (aCons (dVar 18) aNil)) (aCons (dVar 18) aNil)))))) (sRet (dC (.bool false))) sNil) (sSeq (sIf (dOrT (dNotT (dTru (dFn F_l_same (aCons (dFn F_changes (aCons (dVar 4) (aCons (dVar 18) aNil))) (aCons (dTup (aCons (dTup aNil) (aCons (dTup aNil) aNil))) aNil))))) (dTest (dOp2 (isD true) (dFn F_is_tighter (aCons (dVar 18) (aCons (dVar 4) aNil))) (dC (.bool true))))) (sRet (dC (.bool false))) sNil) (sSeq (sSet 19 (dCall tupleN (aCons (dComp (dIt (dOp2 ixD (dVar 4) (dC (.int 1)))) (gT (gsC (gN 12) (gsC (gN 13) gsN))) [12, 13] (dTest (dOp2 (inD false) (dVar 12) (dComp (dIt (dVar 6)) (gN 20) [20] tstY (dOp2 ixD (dVar 20) (dC (.int 1)))))) (dVar 12)) aNil))) (sSeq (sSet 8 (dTup (aCons (dVar 3) (aCons (dCall tupleN (aCons (dComp (dIt (dVar 16)) (gN 20) [20] (dTest (dOp2 (inD false) (dOp2 ixD (dVar 20) (dC (.int 0))) (dVar 19))) (dVar 20)) aNil)) (aCons (dOp2 ixD (dVar 4) (dC (.int 2))) aNil))))) (sIf (dNotT (dTru (dFn F_l_same (aCons (dFn F_planned (aCons (dVar 3) (aCons (dOp2 ixD (dVar 4) (dC (.int 2))) (aCons (dVar 19) (aCons (dVar 6) aNil))))) (aCons (dVar 8) aNil))))) (sRet (dC (.bool false))) sNil)))))))))))))))) (sRet (dC (.bool true)))))
def F_law : Fn := fnD 1 25 t_law
theorem ok_law (T : Tx fa fn K mg) : Has P w K mg base 13 "law" ["script"] F_law := has_of T 44 44 (d := mkD "law" 63) (N := N_law) rfl rfl rfl rfl rfl sc_law rfl rfl (fun _ _ _ _ _ _ us hl => match us, hl with | [_], _ => rfl) fun f cdv A outer s H E hr => have nd := sc_law.nd
  (sd_cons (sd_set (i := 1) nd rfl (Or.inl rfl) (pd_fnH (ok_l_cup T) hr (by decide) rfl (ad_cons (pd_var 0) ad_nil)))
    (sd_cons (sd_for PassesOwn.never rfl (id_rng1 rfl (T.free 56) (ad_cons pd_int ad_nil)) (gd_name (i := 2) nd rfl (by first | exact Or.inl rfl | exact Or.inr rfl)) (sd_cons (sd_set (i := 3) nd rfl (Or.inl rfl) (pd_fnH (ok_l_make T) hr (by decide) rfl (ad_cons (pd_var 1) (ad_cons pd_int (ad_cons pd_int ad_nil)))))
    (sd_cons (sd_set (i := 4) nd rfl (Or.inl rfl) (pd_fnH (ok_l_system T) hr (by decide) rfl (ad_cons (pd_var 1) (ad_cons (pd_var 3) (ad_cons (pd_bin or_add lk_add pd_int (pd_fnH (ok_l_roll T) hr (by decide) rfl (ad_cons (pd_var 1) (ad_cons pd_int ad_nil)))) (ad_cons (pd_bin or_add lk_add pd_int (pd_fnH (ok_l_roll T) hr (by decide) rfl (ad_cons (pd_var 1) (ad_cons pd_int ad_nil)))) ad_nil))))))
    (sd_cons (sd_set (i := 5) nd rfl (Or.inl rfl) (pd_fnH (ok_l_bent T) hr (by decide) rfl (ad_cons (pd_var 1) (ad_cons (pd_var 4) ad_nil))))
    (sd_cons (sd_parU (i := 6) (j := 7) rfl nd rfl rfl (Or.inr rfl) (Or.inr rfl) (ad_cons (pd_fnH (ok_who_opens T) hr (by decide) rfl (ad_cons (pd_var 4) ad_nil)) (ad_cons (pd_fnH (ok_who_opens T) hr (by decide) rfl (ad_cons (pd_var 5) ad_nil)) ad_nil)))
    (sd_cons (sd_set (i := 8) nd rfl (Or.inl rfl) (pd_tup (ad_cons (pd_callTy call_tuple_of lk_tuple rfl (T.free 60) (by decide +kernel) (ad_cons (pd_lc (own := [("pair", 20)]) rfl nd (id_seq (pd_var 7)) (blkOk_by (by rfl)) (by decide) (fun _ _ _ _ _ => (gd_name (i := 20) nd rfl (by first | exact Or.inl rfl | exact Or.inr rfl))) (fun _ _ _ _ _ => (td_one (pd_cmpT (or_notIn (u65 hr)) lk_in (pd_var 20) (pd_var 6) (by rfl)))) (fun _ _ _ _ _ => (pd_var 20))) ad_nil)) (ad_cons (pd_callTy call_tuple_of lk_tuple rfl (T.free 60) (by decide +kernel) (ad_cons (pd_lc (own := [("pair", 20)]) rfl nd (id_seq (pd_var 6)) (blkOk_by (by rfl)) (by decide) (fun _ _ _ _ _ => (gd_name (i := 20) nd rfl (by first | exact Or.inl rfl | exact Or.inr rfl))) (fun _ _ _ _ _ => (td_one (pd_cmpT (or_notIn (u65 hr)) lk_in (pd_var 20) (pd_var 7) (by rfl)))) (fun _ _ _ _ _ => (pd_var 20))) ad_nil)) ad_nil))))
    (sd_cons (sd_if (PW.pt (wd_or (pd_notT (pd_tru (pd_fnH (ok_l_same T) hr (by decide) rfl (ad_cons (pd_fnH (ok_changes T) hr (by decide) rfl (ad_cons (pd_var 4) (ad_cons (pd_var 5) ad_nil))) (ad_cons (pd_var 8) ad_nil))))) (wd_or1 (pd_notT (pd_tru (pd_fnH (ok_l_same T) hr (by decide) rfl (ad_cons (pd_fnH (ok_changes T) hr (by decide) rfl (ad_cons (pd_var 5) (ad_cons (pd_var 4) ad_nil))) (ad_cons (pd_rev (pd_var 8)) ad_nil)))))))) (sd_one (sd_ret pd_bl)) sd_nil)
    (sd_cons (sd_for PassesOwn.never rfl (id_seq (pd_tup (ad_cons (pd_tup (ad_cons (pd_var 4) (ad_cons (pd_var 5) ad_nil))) (ad_cons (pd_tup (ad_cons (pd_var 5) (ad_cons (pd_var 4) ad_nil))) (ad_cons (pd_tup (ad_cons (pd_var 4) (ad_cons (pd_var 4) ad_nil))) ad_nil))))) (gd_tup rfl (gsd_cons (gd_name (i := 9) nd rfl (by first | exact Or.inl rfl | exact Or.inr rfl)) (gsd_cons (gd_name (i := 10) nd rfl (by first | exact Or.inl rfl | exact Or.inr rfl)) gsd_nil)) (gsLen_cons (gsLen_cons gsLen_nil))) (sd_cons (sd_set (i := 11) nd rfl (Or.inl rfl) pd_bl)
    (sd_cons (sd_for PassesOwn.never rfl (id_zip rfl (T.free 61) (ad_cons (pd_ix (pd_var 9) pd_int) (ad_cons (pd_ix (pd_var 10) pd_int) ad_nil))) (gd_tup rfl (gsd_cons (gd_tup rfl (gsd_cons (gd_name (i := 12) nd rfl (by first | exact Or.inl rfl | exact Or.inr rfl)) (gsd_cons (gd_name (i := 13) nd rfl (by first | exact Or.inl rfl | exact Or.inr rfl)) gsd_nil)) (gsLen_cons (gsLen_cons gsLen_nil))) (gsd_cons (gd_tup rfl (gsd_cons (gd_name (i := 14) nd rfl (by first | exact Or.inl rfl | exact Or.inr rfl)) (gsd_cons (gd_name (i := 15) nd rfl (by first | exact Or.inl rfl | exact Or.inr rfl)) gsd_nil)) (gsLen_cons (gsLen_cons gsLen_nil))) gsd_nil)) (gsLen_cons (gsLen_cons gsLen_nil))) (sd_one (sd_set (i := 11) nd rfl (Or.inl rfl) (pd_and (pd_var 11) (pd_one (pd_cmp (op_eqD (u64 hr)) lk_eq (pd_lc (own := [("some", 21), ("more", 22)]) rfl nd (id_zip rfl (T.free 61) (ad_cons (pd_var 13) (ad_cons (pd_var 15) ad_nil))) (blkOk_by (by rfl)) (by decide) (fun _ _ _ _ _ => (gd_tup rfl (gsd_cons (gd_name (i := 21) nd rfl (by first | exact Or.inl rfl | exact Or.inr rfl)) (gsd_cons (gd_name (i := 22) nd rfl (by first | exact Or.inl rfl | exact Or.inr rfl)) gsd_nil)) (gsLen_cons (gsLen_cons gsLen_nil)))) (fun _ _ _ _ _ => (td_one (pd_cmpT (op_neD (u64 hr)) lk_ne (pd_lc (own := [("cut", 23)]) rfl nd (id_seq (pd_var 21)) (blkOk_by (by rfl)) (by decide) (fun _ _ _ _ _ => (gd_name (i := 23) nd rfl (by first | exact Or.inl rfl | exact Or.inr rfl))) (fun _ _ _ _ _ => (td_one (pd_cmpT (or_notIn (u65 hr)) lk_in (pd_var 23) (pd_var 22) (by rfl)))) (fun _ _ _ _ _ => (pd_var 23))) (pd_lst ad_nil) (nomark _)))) (fun _ _ _ _ _ => pd_int)) (pd_lst ad_nil) (nomark _)))))))
    (sd_one (sd_if (pd_notT (pd_tru (pd_fnH (ok_l_same T) hr (by decide) rfl (ad_cons (pd_fnH (ok_is_tighter T) hr (by decide) rfl (ad_cons (pd_var 9) (ad_cons (pd_var 10) ad_nil))) (ad_cons (pd_var 11) ad_nil))))) (sd_one (sd_ret pd_bl)) sd_nil)))))
    (sd_cons (sd_set (i := 16) nd rfl (Or.inl rfl) (pd_tup ad_nil))
    (sd_cons (sd_for PassesOwn.never rfl (id_seq (pd_ix (pd_var 4) pd_int)) (gd_tup rfl (gsd_cons (gd_name (i := 12) nd rfl (by first | exact Or.inl rfl | exact Or.inr rfl)) (gsd_cons (gd_name (i := 13) nd rfl (by first | exact Or.inl rfl | exact Or.inr rfl)) gsd_nil)) (gsLen_cons (gsLen_cons gsLen_nil))) (sd_cons (sd_setLc (i := 17) (own := [("name", 24), ("own", 14)]) rfl nd rfl rfl (sw_true rfl rfl rfl (by rfl)) (id_seq (pd_var 6)) (blkOk_by (by rfl)) (by decide) (fun _ _ _ _ _ => (gd_tup rfl (gsd_cons (gd_name (i := 24) nd rfl (by first | exact Or.inl rfl | exact Or.inr rfl)) (gsd_cons (gd_name (i := 14) nd rfl (by first | exact Or.inl rfl | exact Or.inr rfl)) gsd_nil)) (gsLen_cons (gsLen_cons gsLen_nil)))) (fun _ _ _ _ _ => (td_one (pd_cmpT (op_eqD (u64 hr)) lk_eq (pd_var 14) (pd_var 12) (nomark _)))) (fun _ _ _ _ _ => (pd_var 24)))
    (sd_one (sd_set (i := 16) nd rfl (Or.inl rfl) (pd_bin or_add lk_add (pd_var 16) (pd_tup (ad_cons (pd_tup (ad_cons (pd_var 12) (ad_cons (pd_if (pd_cmpT (op_neD (u64 hr)) lk_ne (pd_var 17) (pd_lst ad_nil) (nomark _)) (pd_fnH (ok_l_lock_of T) hr (by decide) rfl (ad_cons (pd_var 3) (ad_cons (pd_ix (pd_var 4) pd_int) (ad_cons (pd_var 17) ad_nil)))) (pd_var 13)) ad_nil))) ad_nil)))))))
    (sd_cons (sd_set (i := 18) nd rfl (Or.inl rfl) (pd_fnH (ok_tightened T) hr (by decide) rfl (ad_cons (pd_var 4) ad_nil)))
    (sd_cons (sd_if (PW.pt (wd_or (pd_notT (pd_tru (pd_fnH (ok_l_same T) hr (by decide) rfl (ad_cons (pd_var 18) (ad_cons (pd_tup (ad_cons (pd_var 3) (ad_cons (pd_var 16) (ad_cons (pd_ix (pd_var 4) pd_int) ad_nil)))) ad_nil))))) (wd_or1 (pd_notT (pd_tru (pd_fnH (ok_l_same T) hr (by decide) rfl (ad_cons (pd_fnH (ok_tightened T) hr (by decide) rfl (ad_cons (pd_var 18) ad_nil)) (ad_cons (pd_var 18) ad_nil)))))))) (sd_one (sd_ret pd_bl)) sd_nil)
    (sd_cons (sd_if (PW.pt (wd_or (pd_notT (pd_tru (pd_fnH (ok_l_same T) hr (by decide) rfl (ad_cons (pd_fnH (ok_changes T) hr (by decide) rfl (ad_cons (pd_var 4) (ad_cons (pd_var 18) ad_nil))) (ad_cons (pd_tup (ad_cons (pd_tup ad_nil) (ad_cons (pd_tup ad_nil) ad_nil))) ad_nil))))) (wd_or1 (pd_cmpT or_isNot lk_isNot (pd_fnH (ok_is_tighter T) hr (by decide) rfl (ad_cons (pd_var 18) (ad_cons (pd_var 4) ad_nil))) pd_bl (nomark _))))) (sd_one (sd_ret pd_bl)) sd_nil)
    (sd_cons (sd_set (i := 19) nd rfl (Or.inr rfl) (pd_callTy call_tuple_of lk_tuple rfl (T.free 60) (by decide +kernel) (ad_cons (pd_lc (own := [("door", 12), ("lock", 13)]) rfl nd (id_seq (pd_ix (pd_var 4) pd_int)) (blkOk_by (by rfl)) (by decide) (fun _ _ _ _ _ => (gd_tup rfl (gsd_cons (gd_name (i := 12) nd rfl (by first | exact Or.inl rfl | exact Or.inr rfl)) (gsd_cons (gd_name (i := 13) nd rfl (by first | exact Or.inl rfl | exact Or.inr rfl)) gsd_nil)) (gsLen_cons (gsLen_cons gsLen_nil)))) (fun _ _ _ _ _ => (td_one (pd_cmpT (or_in (u65 hr)) lk_in (pd_var 12) (pd_lc (own := [("pair", 20)]) rfl nd (id_seq (pd_var 6)) (blkOk_by (by rfl)) (by decide) (fun _ _ _ _ _ => (gd_name (i := 20) nd rfl (by first | exact Or.inl rfl | exact Or.inr rfl))) (fun _ _ _ _ _ => td_nil) (fun _ _ _ _ _ => (pd_ix (pd_var 20) pd_int))) (by rfl)))) (fun _ _ _ _ _ => (pd_var 12))) ad_nil)))
    (sd_cons (sd_set (i := 8) nd rfl (Or.inl rfl) (pd_tup (ad_cons (pd_var 3) (ad_cons (pd_callTy call_tuple_of lk_tuple rfl (T.free 60) (by decide +kernel) (ad_cons (pd_lc (own := [("pair", 20)]) rfl nd (id_seq (pd_var 16)) (blkOk_by (by rfl)) (by decide) (fun _ _ _ _ _ => (gd_name (i := 20) nd rfl (by first | exact Or.inl rfl | exact Or.inr rfl))) (fun _ _ _ _ _ => (td_one (pd_cmpT (or_in (u65 hr)) lk_in (pd_ix (pd_var 20) pd_int) (pd_var 19) (by rfl)))) (fun _ _ _ _ _ => (pd_var 20))) ad_nil)) (ad_cons (pd_ix (pd_var 4) pd_int) ad_nil)))))
    (sd_one (sd_if (pd_notT (pd_tru (pd_fnH (ok_l_same T) hr (by decide) rfl (ad_cons (pd_fnH (ok_planned T) hr (by decide) rfl (ad_cons (pd_var 3) (ad_cons (pd_ix (pd_var 4) pd_int) (ad_cons (pd_var 19) (ad_cons (pd_var 6) ad_nil))))) (ad_cons (pd_var 8) ad_nil))))) (sd_one (sd_ret pd_bl)) sd_nil)))))))))))))))))
    (sd_one (sd_ret pd_bl))))
end
def names0 : List PySem.Str := ["PinsError", "InvalidName", "InvalidMake", "InvalidKey", "InvalidSystem", "InvalidRelation", "LETTERS", "SIGNS", "LONGEST", "PLACES", "HEIGHTS", "STEP", "fits_name", "is_whole", "fits_whole", "is_tuple_of", "is_rising", "fits_make", "fits_cuts", "fits_key", "fits_set", "fits_lock", "does_open", "need_make", "MANY_systems", "fits_named", "fits_system", "need_system", "locks_in", "keys_in"]
def names1 : List PySem.Str := ["table_in", "who_opens", "MANY_rights", "need_keys", "need_doors", "need_wanted", "need_all", "lock_in", "locks_for", "clashes_in", "planned", "need_alike", "pairs_of", "changes", "is_tighter", "tightened", "_law_cup", "_law_roll", "_law_some", "_law_same", "_law_names", "_law_make", "_law_key", "_law_lock", "_law_opens", "_law_system", "_law_lock_of", "_law_bent"]
def names : List PySem.Str := names0 ++ names1
abbrev R : PySem.W.OpenRow := PySem.W.OpenLaw.row PySem.Challenge.rw_masterpins_k93_whole_tighter_systems
abbrev hk : PySem.W.Hook := He.hookD 4 fa fn
def ob (s : PySem.W.SharedT) : He.AlD := He.obsDG 4 fa fn (HandSHeadRun.getT s)
theorem ob_eq (s : PySem.W.SharedT) : ob s = hk.obs s.abs := He.obsDG_eq (HandSHeadRun.getT_eq s)
set_option maxHeartbeats 0 in
theorem run (w : World) : HandSHeadRun.RunEq R (PySem.W.view R.prog [63]) hk ob 8000 names w := by
  intro os
  kernel_rfl
/-- the law, from what its function gives -/
theorem law_holds (hF : ∀ ns : List Int, ns.length ≤ 63 → ∃ S', F_law [.s ns] [] = .ok (.d (.bool true)) S') : PySem.Challenge.rw_masterpins_k93_whole_tighter_systems.Holds := by
  w_on; o_law
  refine HandSHeadRun.head_any (r := PySem.W.OpenLaw.row PySem.Challenge.rw_masterpins_k93_whole_tighter_systems) (q := PySem.W.view (PySem.W.OpenLaw.row PySem.Challenge.rw_masterpins_k93_whole_tighter_systems).prog [63]) (H := hk) (ob := ob) (M := 8000) (loose := names) (d := HandSHeadRun.topDef (PySem.W.OpenLaw.row PySem.Challenge.rw_masterpins_k93_whole_tighter_systems).prog 63) (kwd := []) ob_eq
    (by kernel_rfl) (fun s => by kernel_rfl) run (by kernel_rfl) (by kernel_rfl) (by kernel_rfl) (by rfl) (by first | assumption | decide +kernel) (by decide +kernel) ⟨rfl, rfl, rfl, rfl, rfl, by decide +kernel⟩ ?hw ?hc
  case hw => w_witness2
  case hc =>
    refine L2.walk_ofE (l := PySem.Challenge.rw_masterpins_k93_whole_tighter_systems) (n := 63) (k := 13) (x := "script") (CX := L2.CX0) rfl (by decide) (by kernel_rfl) ⟨rfl, by decide, by decide⟩ ?F (fun _ _ _ _ z => z)
    intro w mg fa0 h Y G hmg0
    obtain ⟨K, KX, c⟩ := Y
    have T : Tx fa fn K mg := ⟨⟨h, KX, G⟩, c⟩
    have hmg : mg ("law" : PySem.Str) = some (.ref fa0) := by
      have e : (HandSHeadRun.topDef (PySem.W.OpenLaw.row PySem.Challenge.rw_masterpins_k93_whole_tighter_systems).prog 63).name = ("law" : PySem.Str) := by kernel_rfl
      rw [← e]
      exact hmg0
    have ga : fa0 = He.ga K "law" := by
      have := hmg.symm.trans (T.glo 44)
      cases this
      rfl
    subst ga
    obtain ⟨fd, F⟩ := T.c.def_ 44 (d := mkD "law" 63) rfl
    have b := FunD.bindsA (ps := ["script"]) F fun _ _ _ _ _ _ us hl => match us, hl with | [_], _ => rfl
    refine ⟨K, fd, spD K F_law, KX, fun s v => b s [v] rfl, fun H a ns hl _ hS => law_sp hF H a ns hl hS, fun base _ _ => ?_⟩
    exact has_fd (ok_law (P := PySem.Challenge.rw_masterpins_k93_whole_tighter_systems.prog) (w := w) (base := base) T) F rfl
end LW
namespace LW
open PySem PySem.Spec PyProof.Rows L2 DL
theorem roll_ex (c : Int × Int) {m : Int} {S : Sto} (h : 0 < m) (h2 : m < 1073741824) : ∃ r c', F_l_roll [.r 0, .d (.int m)] (Cup c :: S) = .ok (.d (.int r)) (Cup c' :: S) ∧ 0 ≤ r ∧ r < m := by
  have hd : CDiv c.1 m := ⟨h, h2⟩
  unfold F_l_roll
  rw [fnD_ap]
  unfold t_l_roll
  by_cases hp : 0 < c.1
  · refine ⟨c.1 % m, (c.1 / m, c.2), ?_, Int.emod_nonneg _ (by omega), Int.emod_lt_of_pos _ h⟩
    simp [hp, h, hd]
  · have h1 : CMul c.2 31147 := .inr (by decide)
    have hb1 : 0 ≤ (c.2 * 31147 + 8117) % 2147482567 := Int.emod_nonneg _ (by decide)
    have hb2 : (c.2 * 31147 + 8117) % 2147482567 < 2147482567 := Int.emod_lt_of_pos _ (by decide)
    have h3 : CMul ((c.2 * 31147 + 8117) % 2147482567) ((c.2 * 31147 + 8117) % 2147482567 + 373) := .inl ⟨by omega, by omega⟩
    generalize e : (c.2 * 31147 + 8117) % 2147482567 = b at *
    have h4 : CDiv (b * (b + 373) % 2147483059) 941 := ⟨by decide, by decide⟩
    refine ⟨b * (b + 373) % 2147483059 / 941 % m, (c.1, b), ?_, Int.emod_nonneg _ (by omega), Int.emod_lt_of_pos _ h⟩
    simp [hp, h, hd, h1, e, h3, h4]
theorem cup1 {ns : List Int} (hn63 : ns.length ≤ 63) : ∃ n : Int, dCall absN (aCons (dOp2 ixD (dOp2 addD (dCall listN (aCons (dVar 0) aNil)) (dLst (aCons (dC (.int 0)) aNil))) (dC (.int 0))) aNil) [some (.s ns), none] [] = .ok (.d (.int n)) [] ∧ 0 ≤ n := by
  obtain ⟨n, hn⟩ : ∃ n : Int, atI (ns.map PyData.int ++ [.int 0]) 0 = some (.int n) := by
    cases ns with
    | nil => exact ⟨0, rfl⟩
    | cons n r => exact ⟨n, by simp⟩
  have hl : ns.length ≤ 16777215 := by omega
  exact ⟨n.natAbs, by simp [hl, hn], by omega⟩
theorem cup2 {ns : List Int} {n : Int} (h0 : 0 ≤ n) : ∃ c, (sRet (dCel (aCons (dIf (dTest (dOp2 geD (dVar 1) (dOp2 powD (dC (.int 10)) (dC (.int 18))))) (dOp2 fdivD (dVar 1) (dC (.int 173))) (dC (.int 0))) (aCons (dOp2 addD (dOp2 modD (dCall intN (aCons (dOp2 addD (dOp2 mulD' (dVar 1) (dC (.int 449))) (dC (.int 4283))) aNil)) (dC (.int 2077502603))) (dC (.int 311))) aNil)))) [some (.s ns), some (.d (.int n))] [] = .rt (.r 0) [Cup c] := by
  have h1 : CMul n 449 := .inr (by decide)
  have h2 : CDiv n 173 := ⟨by decide, by decide⟩
  have h3 : CPow 10 18 := ⟨by decide, by decide, by decide⟩
  by_cases hp : 1000000000000000000 ≤ n
  · refine ⟨(n/173, (n*449+4283) % 2077502603 + 311), ?_⟩
    simp [h1, h2, h3, hp]
  · refine ⟨(0, (n*449+4283) % 2077502603 + 311), ?_⟩
    simp [h1, h2, h3, hp]
theorem cup_ex {ns : List Int} (hn63 : ns.length ≤ 63) : ∃ c, F_l_cup [.s ns] [] = .ok (.r 0) [Cup c] := by
  obtain ⟨n, h1, h2⟩ := cup1 hn63
  obtain ⟨c, h3⟩ := cup2 (ns := ns) h2
  refine ⟨c, ?_⟩
  unfold F_l_cup fnN
  rw [if_pos (show [U.s ns].length = 1 from rfl)]
  show (match t_l_cup [some (.s ns), none] [] with
    | .rt u S' => finN u S' 0
    | .ex n fs S' => .ex n fs (S'.take 0)
    | _ => .bad) = _
  have e : t_l_cup [some (.s ns), none] [] = .rt (.r 0) [Cup c] := by
    unfold t_l_cup
    rw [sSeq_ap, sSet_ap, h1]
    exact h3
  rw [e]
  rfl
end LW
namespace LW
open PySem PySem.Spec PyProof.Rows L2 DL
section
variable {S : Sto} {d v : D} {a b c lo hi : Int}
theorem e_is_whole (h : d.canLay0 = true) : F_is_whole [.d d] S = .ok (.d (.bool (match d with | .int _ => true | _ => false))) S := by
  cases d <;> simp -implicitDefEqProofs [F_is_whole, fnD_ap, t_is_whole, isiD, tyOf, isiB, PyData.canLay0] at h ⊢
theorem e_fits_whole (h : d.canLay0 = true) : F_fits_whole [.d d, .d (.int lo), .d (.int hi)] S = .ok (.d (.bool (fw lo hi d))) S := by
  cases d <;> simp -implicitDefEqProofs [F_fits_whole, fnD_ap, t_fits_whole, e_is_whole h, fw]
  case int i => by_cases h1 : lo ≤ i <;> simp [h1]
theorem e_is_tuple_of (h : d.canLay0 = true) : F_is_tuple_of [.d d, .d (.int lo), .d (.int hi)] S = .ok (.d (.bool (tupOf lo hi d))) S := by
  cases d <;> simp -implicitDefEqProofs [F_is_tuple_of, fnD_ap, t_is_tuple_of, isiD, tyOf, isiB, PyData.canLay0, tupOf] at h ⊢
  case tuple xs => by_cases h1 : lo ≤ xs.length <;> simp [h1]
theorem e_is_rising (is : List Int) (hl : is.length ≤ 16777216) : F_is_rising [.d (.tuple (is.map .int))] S = .ok (.d (.bool (steps (fun x y => decide (x < y)) is))) S := by
  have hc := compL_mapY (S := S) (tg := gT (gsC (gN 1) (gsC (gN 2) gsN))) (own := [1, 2]) (el := dOp2 ltD (dVar 1) (dVar 2)) (ρ := [some (.d (.tuple (is.map .int))), none, none])
    (fun q : Int × Int => PyData.tuple [.int q.1, .int q.2]) (fun q => .bool (decide (q.1 < q.2))) (is.zip is.tail) fun q _ => ⟨_, rfl, rfl⟩
  have e : ((is.zip is.tail).map fun q : Int × Int => PyData.bool (decide (q.1 < q.2))) = (((is.zip is.tail).map fun q => decide (q.1 < q.2)).map PyData.bool) := by simp
  have hz := zip_tail is (fun x y => decide (x < y))
  have hl2 : (is.zip is.tail).length ≤ 16777216 := by simp; omega
  simp -implicitDefEqProofs [F_is_rising, fnD_ap, t_is_rising, ← List.map_tail, zipL_ints, hl2, -List.length_zip]
  rw [hc, e]
  simp [all_b, ← hz, -List.map_map]
theorem e_fits_make (h : d.canLay0 = true) : F_fits_make [.d d] S = .ok (.d (.bool (makeB d))) S := by
  by_cases h3 : tupOf 3 3 d = true
  · obtain ⟨a, b, c, rfl⟩ : ∃ a b c, d = .tuple [a, b, c] := by
      cases d <;> simp [tupOf] at h3
      case tuple xs =>
        match xs, h3 with
        | [a, b, c], _ => exact ⟨a, b, c, rfl⟩
        | [], h3 => simp at h3
        | [_], h3 => simp at h3
        | [_, _], h3 => simp at h3
        | _ :: _ :: _ :: _ :: _, h3 => simp at h3; omega
    have h' := h
    simp only [PyData.canLay0, PyData.canLayAll0, Bool.and_eq_true] at h'
    simp -implicitDefEqProofs [F_fits_make, fnD_ap, t_fits_make, e_is_tuple_of h, h3, e_fits_whole h'.1, e_fits_whole h'.2.1, e_fits_whole h'.2.2.1, makeB]
    by_cases h4 : fw 1 8 a = true
    · simp [h4]
      by_cases h5 : fw 2 10 b = true <;> simp [h5, e_fits_whole h'.2.1, e_fits_whole h'.2.2.1]
    · simp [h4]
  · have : makeB d = false := by
      cases d <;> try rfl
      case tuple xs =>
        match xs, h3 with
        | [a, b, c], h3 => exact absurd rfl h3
        | [], h3 => rfl
        | [_], h3 => rfl
        | [_, _], h3 => rfl
        | _ :: _ :: _ :: _ :: _, h3 => rfl
    simp -implicitDefEqProofs [F_fits_make, fnD_ap, t_fits_make, e_is_tuple_of h, h3, this]
theorem all_map_bool (xs : List D) (f : D → Bool) : allN [.d (.list (xs.map fun x => .bool (f x)))] S = .ok (.d (.bool (xs.all f))) S := by
  have e : (xs.map fun x => PyData.bool (f x)) = (xs.map f).map .bool := by simp
  rw [e, all_b]
  simp
theorem intsL_all {xs : List D} {b : Int} : xs.all (fw 0 (b - 1)) = (match intsL xs with | some is => is.all (fun i => decide (0 ≤ i) && decide (i < b)) | none => false) := by
  induction xs with
  | nil => rfl
  | cons x r ih =>
    cases x <;> simp [intsL, fw]
    case int i =>
      rw [ih]
      cases intsL r with
      | none => simp
      | some is =>
        have e : decide (i ≤ b - 1) = decide (i < b) := by
          simp only [decide_eq_decide]
          omega
        simp [e]
theorem fw_ints {xs : List D} {lo hi : Int} (h : xs.all (fw lo hi) = true) : ∃ is : List Int, xs = is.map .int ∧ ∀ i, i ∈ is → lo ≤ i ∧ i ≤ hi := by
  induction xs with
  | nil => exact ⟨[], rfl, fun _ h => by cases h⟩
  | cons x r ih =>
    rw [List.all_cons, Bool.and_eq_true] at h
    obtain ⟨is, rfl, k⟩ := ih h.2
    have h1 := h.1
    cases x <;> simp [fw] at h1
    case int i =>
      exact ⟨i :: is, rfl, fun j hj => by
        rcases List.mem_cons.mp hj with rfl | hj
        · exact h1
        · exact k j hj⟩
theorem e_fits_cuts (h : v.canLay0 = true) (hl : a ≤ 16777216) : F_fits_cuts [.d (mkD' a b c), .d v] S = .ok (.d (.bool (cutsB a b v))) S := by
  by_cases h3 : tupOf a a v = true
  · cases v <;> simp [tupOf] at h3
    case tuple xs =>
      have hx : ∀ x, x ∈ xs → x.canLay0 = true := canAll_iff.mp (by simpa [PyData.canLay0] using h)
      have hc := compL_idY (S := S) (tg := gN 2) (own := [2]) (el := dFn F_fits_whole (aCons (dVar 2) (aCons (dC (.int 0)) (aCons (dOp2 subD (dOp2 ixD (dVar 0) (dC (.int 1))) (dC (.int 1))) aNil)))) (ρ := [some (.d (mkD' a b c)), some (.d (.tuple xs)), none])
        (fun x => .bool (fw 0 (b - 1) x)) xs fun x hx' => ⟨_, rfl, by simp [mkD', e_fits_whole (hx x hx')]⟩
      simp [mkD'] at hc
      have e1 : (xs.length : Int) = a := by omega
      have e2 : xs.length ≤ 16777216 := by omega
      simp -implicitDefEqProofs [F_fits_cuts, fnD_ap, t_fits_cuts, e_is_tuple_of h, mkD', tupOf, cutsB, h3, e1, e2, hc, all_map_bool]
  · have e : cutsB a b v = false := by
      cases v <;> simp [tupOf, cutsB] at h3 ⊢
      omega
    simp -implicitDefEqProofs [F_fits_cuts, fnD_ap, t_fits_cuts, e_is_tuple_of h, mkD', h3, e]
end
end LW
namespace LW
open PySem PySem.Spec PyProof.Rows L2 DL
section
variable {S : Sto} {d v : D} {a b c lo hi : Int}
theorem steps_congr {g g' : Int → Int → Bool} (h : ∀ x y, g x y = g' x y) : ∀ is, steps g is = steps g' is
  | [] => rfl
  | [_] => rfl
  | x :: y :: r => by simp only [steps, h, steps_congr h (y :: r)]
theorem cutsB_ints (h : cutsB a b v = true) : ∃ is : List Int, v = .tuple (is.map .int) ∧ (is.length : Int) = a ∧ ∀ i, i ∈ is → 0 ≤ i ∧ i < b := by
  cases v <;> simp [cutsB, -List.all_eq_true] at h
  case tuple xs =>
    obtain ⟨is, rfl, k⟩ := fw_ints h.2
    exact ⟨is, rfl, by simpa using h.1, fun i hi => ⟨(k i hi).1, by have := (k i hi).2; omega⟩⟩
theorem keyB_eq (a b c : Int) (v : D) : keyB a b c v = (cutsB a b v && (match v with | .tuple xs => (match intsL xs with | some is => steps (fun x y => decide (-c ≤ x - y) && decide (x - y ≤ c)) is | none => false) | _ => false)) := by
  cases v <;> simp [keyB, cutsB, intsL_all, -List.all_eq_true]
  case tuple xs =>
    cases intsL xs <;> simp [Bool.and_assoc]
theorem keyB_ints {is : List Int} : keyB a b c (.tuple (is.map .int)) = (cutsB a b (.tuple (is.map .int)) && steps (fun x y => decide (-c ≤ x - y) && decide (x - y ≤ c)) is) := by
  rw [keyB_eq]
  simp only [intsL_map]
theorem e_fits_key (h : v.canLay0 = true) (hl : a ≤ 16777216) : F_fits_key [.d (mkD' a b c), .d v] S = .ok (.d (.bool (keyB a b c v))) S := by
  by_cases h3 : cutsB a b v = true
  · obtain ⟨is, rfl, k1, k2⟩ := cutsB_ints h3
    have hc := compL_mapY (S := S) (tg := gT (gsC (gN 2) (gsC (gN 3) gsN))) (own := [2, 3]) (el := dOp2 leD (dCall absN (aCons (dOp2 subD (dVar 2) (dVar 3)) aNil)) (dOp2 ixD (dVar 0) (dC (.int 2)))) (ρ := [some (.d (mkD' a b c)), some (.d (.tuple (is.map .int))), none, none])
      (fun q : Int × Int => PyData.tuple [.int q.1, .int q.2]) (fun q => .bool (decide (-c ≤ q.1 - q.2) && decide (q.1 - q.2 ≤ c))) (is.zip is.tail) fun q _ => ⟨_, rfl, by
        simp [mkD']
        rw [← Bool.decide_and]
        simp only [decide_eq_decide]
        omega⟩
    have e : ((is.zip is.tail).map fun q : Int × Int => PyData.bool (decide (-c ≤ q.1 - q.2) && decide (q.1 - q.2 ≤ c))) = (((is.zip is.tail).map fun q => decide (-c ≤ q.1 - q.2) && decide (q.1 - q.2 ≤ c)).map PyData.bool) := by simp
    have hz := zip_tail is (fun x y => decide (-c ≤ x - y) && decide (x - y ≤ c))
    have hl2 : (is.zip is.tail).length ≤ 16777216 := by simp; omega
    simp -implicitDefEqProofs [F_fits_key, fnD_ap, t_fits_key, e_fits_cuts h hl, h3, ← List.map_tail, zipL_ints, hl2, -List.length_zip]
    rw [hc, e]
    simp [all_b, keyB_ints, ← hz, -List.map_map, h3]
  · have e : keyB a b c v = false := by rw [keyB_eq]; simp [h3]
    simp -implicitDefEqProofs [F_fits_key, fnD_ap, t_fits_key, e_fits_cuts h hl, h3, e]
theorem steps_lt_len {b : Int} : ∀ (is : List Int) (lo : Int), lo ≤ b → steps (fun x y => decide (x < y)) is = true → (∀ i, i ∈ is → lo ≤ i ∧ i < b) → (is.length : Int) ≤ b - lo
  | [], lo, h, _, _ => by simp; omega
  | [x], lo, h, _, k => by have := k x (by simp); simp; omega
  | x :: y :: r, lo, h, hs, k => by
    simp [steps] at hs
    have hx := k x (by simp)
    have hr := steps_lt_len (b := b) (y :: r) (x + 1) (by omega) hs.2 fun i hi => by
      have h2 := k i (List.mem_cons_of_mem _ hi)
      refine ⟨?_, h2.2⟩
      have : ∀ (l : List Int) (z : Int), steps (fun x y => decide (x < y)) (z :: l) = true → ∀ j, j ∈ z :: l → z ≤ j := by
        intro l
        induction l with
        | nil => intro z _ j hj; simp at hj; omega
        | cons w l ih =>
          intro z hz j hj
          simp [steps] at hz
          rcases List.mem_cons.mp hj with rfl | hj
          · omega
          · have := ih w hz.2 j hj
            omega
      have := this r y hs.2 i hi
      omega
    simp only [List.length_cons] at hr ⊢
    omega
theorem setB_eq (b : Int) (xs : List D) : setB b (.tuple xs) = (!xs.isEmpty && (xs.all (fw 0 (b - 1)) && (match intsL xs with | some is => steps (fun x y => decide (x < y)) is | none => false))) := by
  rw [intsL_all]
  simp only [setB]
  cases intsL xs <;> simp
theorem e_fits_set (h : v.canLay0 = true) (hb : 1 ≤ b) (hl : b ≤ 16777216) : F_fits_set [.d (mkD' a b c), .d v] S = .ok (.d (.bool (setB b v))) S := by
  by_cases h3 : tupOf 1 b v = true
  · cases v <;> simp [tupOf] at h3
    case tuple xs =>
      have hx : ∀ x, x ∈ xs → x.canLay0 = true := canAll_iff.mp (by simpa [PyData.canLay0] using h)
      have hc := compL_idY (S := S) (tg := gN 2) (own := [2]) (el := dFn F_fits_whole (aCons (dVar 2) (aCons (dC (.int 0)) (aCons (dOp2 subD (dOp2 ixD (dVar 0) (dC (.int 1))) (dC (.int 1))) aNil)))) (ρ := [some (.d (mkD' a b c)), some (.d (.tuple xs)), none])
        (fun x => .bool (fw 0 (b - 1) x)) xs fun x hx' => ⟨_, rfl, by simp [mkD', e_fits_whole (hx x hx')]⟩
      simp [mkD'] at hc
      have e2 : xs.length ≤ 16777216 := by omega
      have e3 : xs ≠ [] := by rintro rfl; simp at h3
      by_cases h4 : xs.all (fw 0 (b - 1)) = true
      · obtain ⟨is, rfl, k⟩ := fw_ints h4
        have e4 : is.length ≤ 16777216 := by simpa using e2
        rw [setB_eq, intsL_map, h4]
        simp -implicitDefEqProofs [F_fits_set, fnD_ap, t_fits_set, e_is_tuple_of h, mkD', tupOf, h3, e2, hc, all_map_bool, h4, -List.all_eq_true, -List.map_map, -List.all_map, e_is_rising _ e4, -List.length_map]
        cases is with
        | nil => exact absurd rfl e3
        | cons i r => exact fun _ z => by cases z
      · rw [setB_eq]
        simp -implicitDefEqProofs [F_fits_set, fnD_ap, t_fits_set, e_is_tuple_of h, mkD', tupOf, h3, e2, hc, all_map_bool, h4, -List.all_eq_true]
  · have e : setB b v = false := by
      cases v <;> try rfl
      case tuple xs =>
        cases hs : setB b (.tuple xs) with
        | false => rfl
        | true =>
          rw [setB_eq] at hs
          simp only [Bool.and_eq_true] at hs
          obtain ⟨is, rfl, k⟩ := fw_ints hs.2.1
          rw [intsL_map] at hs
          have := steps_lt_len (b := b) is 0 (by omega) hs.2.2 fun i hi => ⟨(k i hi).1, by have := (k i hi).2; omega⟩
          cases is with
          | nil => simp at hs
          | cons i r => simp [tupOf] at h3; simp at this; omega
    simp -implicitDefEqProofs [F_fits_set, fnD_ap, t_fits_set, e_is_tuple_of h, mkD', h3, e]
theorem e_fits_lock (h : v.canLay0 = true) (hl : a ≤ 16777216) (hb : 1 ≤ b) (hl2 : b ≤ 16777216) : F_fits_lock [.d (mkD' a b c), .d v] S = .ok (.d (.bool (lockB a b v))) S := by
  by_cases h3 : tupOf a a v = true
  · cases v <;> simp [tupOf] at h3
    case tuple xs =>
      have hx : ∀ x, x ∈ xs → x.canLay0 = true := canAll_iff.mp (by simpa [PyData.canLay0] using h)
      have hc := compL_idY (S := S) (tg := gN 2) (own := [2]) (el := dFn F_fits_set (aCons (dVar 0) (aCons (dVar 2) aNil))) (ρ := [some (.d (mkD' a b c)), some (.d (.tuple xs)), none])
        (fun x => .bool (setB b x)) xs fun x hx' => ⟨_, rfl, by simp [e_fits_set (hx x hx') hb hl2]⟩
      simp [mkD'] at hc
      have e1 : (xs.length : Int) = a := by omega
      have e2 : xs.length ≤ 16777216 := by omega
      simp -implicitDefEqProofs [F_fits_lock, fnD_ap, t_fits_lock, e_is_tuple_of h, mkD', tupOf, lockB, h3, e1, e2, hc, all_map_bool]
  · have e : lockB a b v = false := by
      cases v <;> simp [tupOf, lockB] at h3 ⊢
      omega
    simp -implicitDefEqProofs [F_fits_lock, fnD_ap, t_fits_lock, e_is_tuple_of h, mkD', h3, e]
theorem e_need_make (h : d.canLay0 = true) (hm : makeB d = true) : F_need_make [.d d] S = .ok (.d .none) S := by
  simp -implicitDefEqProofs [F_need_make, fnD_ap, t_need_make, e_fits_make h, hm]
theorem makeB_mk : makeB (mkD' a b c) = (decide (1 ≤ a ∧ a ≤ 8) && decide (2 ≤ b ∧ b ≤ 10) && decide (1 ≤ c ∧ c ≤ 9)) := by
  simp [makeB, mkD', fw, Bool.and_assoc, Bool.decide_and]
def MkOk (a b c : Int) : Prop := (1 ≤ a ∧ a ≤ 8) ∧ (2 ≤ b ∧ b ≤ 10) ∧ 1 ≤ c ∧ c ≤ 9
theorem makeB_ok (h : MkOk a b c) : makeB (mkD' a b c) = true := by
  rw [makeB_mk]
  simp [h.1, h.2.1, h.2.2]
theorem mk_can : (mkD' a b c).canLay0 = true := rfl
end
end LW
namespace LW
open PySem PySem.Spec PyProof.Rows L2 DL
section
variable {S : Sto} {d v : D} {a b c lo hi : Int}
theorem e_same_bool {p q : Bool} : F_l_same [.d (.bool p), .d (.bool q)] S = .ok (.d (.bool (p == q))) S := by
  show G_l_same (11 + 1) _ _ = _
  rw [G_l_same]
  cases p <;> cases q <;> simp [fnD_ap, t_l_same, isiD, tyOf, isiB, isNo]
theorem some_ex (c : Int × Int) {xs : List D} (h : 0 < xs.length) (h2 : xs.length < 1073741824) : ∃ x c', F_l_some [.r 0, .d (.list xs)] (Cup c :: S) = .ok (.d x) (Cup c' :: S) ∧ x ∈ xs := by
  obtain ⟨r, c', e, r0, r1⟩ := roll_ex (S := S) c (m := (xs.length : Int)) (by omega) (by omega)
  obtain ⟨n, rfl⟩ : ∃ n : Nat, r = n := ⟨r.toNat, by omega⟩
  have hn : n < xs.length := by omega
  refine ⟨xs[n], c', ?_, List.getElem_mem hn⟩
  simp -implicitDefEqProofs [F_l_some, fnD_ap, t_l_some, e, atI_nat hn, List.getElem?_eq_getElem hn]
theorem make_ex (u : Int × Int) {p h : Int} (hp : 0 < p ∧ p ≤ 8) (hh : 2 ≤ h ∧ h ≤ 10) : ∃ a b c u', F_l_make [.r 0, .d (.int p), .d (.int h)] (Cup u :: S) = .ok (.d (mkD' a b c)) (Cup u' :: S) ∧ (1 ≤ a ∧ a ≤ p) ∧ (2 ≤ b ∧ b ≤ h) ∧ (1 ≤ c ∧ c ≤ 9) := by
  obtain ⟨r, u1, e, r0, r1⟩ := roll_ex (S := S) u (m := p) (by omega) (by omega)
  obtain ⟨r2, u2, e2, r20, r21⟩ := roll_ex (S := S) u1 (m := h - 1) (by omega) (by omega)
  obtain ⟨x, u3, e3, h3⟩ := some_ex (S := S) u2 (xs := [.int 1, .int 2, .int 3, .int 9, .int 9]) (by simp) (by simp)
  obtain ⟨z, rfl, hz⟩ : ∃ z : Int, x = .int z ∧ 1 ≤ z ∧ z ≤ 9 := by
    simp at h3
    rcases h3 with rfl | rfl | rfl | rfl <;> exact ⟨_, rfl, by decide, by decide⟩
  refine ⟨1 + r, 2 + r2, z, u3, ?_, by omega, by omega, hz⟩
  simp -implicitDefEqProofs [F_l_make, fnD_ap, t_l_make, e, e2, e3, mkD']
theorem steps_snoc {g : Int → Int → Bool} : ∀ (is : List Int) (x y : Int), steps g (is ++ [x]) = true → g x y = true → steps g (is ++ [x] ++ [y]) = true
  | [], x, y, _, h => by simp [steps, h]
  | [z], x, y, h, h2 => by simp [steps] at h ⊢; exact ⟨h, h2⟩
  | z :: w :: r, x, y, h, h2 => by
    simp only [List.cons_append, steps, Bool.and_eq_true] at h ⊢
    exact ⟨h.1, steps_snoc (w :: r) x y h.2 h2⟩
def KeyInv (a b c : Int) (is : List Int) : Prop := is ≠ [] ∧ (is.length : Int) ≤ a ∧ (∀ i, i ∈ is → 0 ≤ i ∧ i < b) ∧ steps (fun x y => decide (-c ≤ x - y) && decide (x - y ≤ c)) is = true
theorem key_ex (u : Int × Int) (hm : MkOk a b c) : ∃ is u', F_l_key [.r 0, .d (mkD' a b c)] (Cup u :: S) = .ok (.d (.tuple (is.map .int))) (Cup u' :: S) ∧ (is.length : Int) = a ∧ KeyInv a b c is := by
  obtain ⟨⟨a1, a2⟩, ⟨b1, b2⟩, c1, c2⟩ := hm
  obtain ⟨r, u1, e, r0, r1⟩ := roll_ex (S := S) u (m := b) (by omega) (by omega)
  generalize hR : F_l_key _ _ = R
  simp -implicitDefEqProofs [F_l_key, fnD_ap, t_l_key, e] at hR
  generalize hX : sWhile _ _ _ _ = X at hR
  have hw : X.To (fun ρ S' => ∃ is u' x y, ρ = [some (.r 0), some (.d (mkD' a b c)), some (.d (.tuple (is.map .int))), x, y] ∧ S' = Cup u' :: S ∧ (is.length : Int) = a ∧ KeyInv a b c is) fun _ _ => False := by
    rw [← hX]
    refine while_to (fun m ρ S' => ∃ is u' x y, ρ = [some (.r 0), some (.d (mkD' a b c)), some (.d (.tuple (is.map .int))), x, y] ∧ S' = Cup u' :: S ∧ m + is.length = a ∧ KeyInv a b c is) ?_ fuel (a - 1).toNat _ _ (by unfold fuel; omega) ⟨[r], u1, none, none, rfl, rfl, by simp; omega, by simp, by simp; omega, by simp; omega, rfl⟩
    rintro m ρ S' ⟨is, u', x, y, rfl, rfl, hma, hne, hle, hin, hst⟩
    refine ⟨decide ((is.length : Int) < a), Cup u' :: S, by simp, fun hb => ?_, fun hb => ?_⟩
    · simp at hb
      obtain ⟨js, z, rfl⟩ : ∃ js z, is = js ++ [z] := ⟨is.dropLast, is.getLast hne, (List.dropLast_concat_getLast hne).symm⟩
      have hz := hin z (by simp)
      obtain ⟨lo, hlo⟩ : ∃ lo, lo = max 0 (z - c) := ⟨_, rfl⟩
      obtain ⟨hi, hhi⟩ : ∃ hi, hi = min (b - 1) (z + c) := ⟨_, rfl⟩
      have hlo2 : 0 ≤ lo ∧ z - c ≤ lo ∧ lo ≤ z := by omega
      have hhi2 : hi < b ∧ hi ≤ z + c ∧ z ≤ hi := by omega
      obtain ⟨r, u2, e, r0, r1⟩ := roll_ex (S := S) u' (m := hi - lo + 1) (by omega) (by omega)
      have hlen : (js.length : Int) + 1 < a := by simpa using hb
      have hlen2 : js.length + 1 + 1 ≤ 16777216 := by omega
      conv => arg 1; simp -implicitDefEqProofs [L2.atI_last, ← hlo, ← hhi, e, hlen2]
      refine ⟨m - 1, by simp at hma; omega, js ++ [z] ++ [lo + r], u2, some (.d (.int lo)), some (.d (.int hi)), ?_, rfl, by simp at hma ⊢; omega, by simp, by simp; omega, fun i hi => ?_, steps_snoc js z _ hst (by simp; omega)⟩
      · simp
      · rw [List.mem_append] at hi
        rcases hi with hi | hi
        · exact hin i hi
        · simp at hi
          omega
    · simp at hb
      exact ⟨is, u', x, y, rfl, rfl, by omega, hne, hle, hin, hst⟩
  obtain ⟨ρ', S', rfl, is, u', x, y, rfl, rfl, h1, h2⟩ := To_nx_inv hw
  exact ⟨is, u', by rw [← hR]; simp, h1, h2⟩
end
end LW
namespace LW
open PySem PySem.Spec PyProof.Rows L2 DL
section
variable {S : Sto} {d v : D} {a b c lo hi : Int}
/-- a set of cuts -/
def SetOk (b : Int) (n : Int) (x : D) : Prop := ∃ is : List Int, x = .tuple (is.map .int) ∧ is ≠ [] ∧ (is.length : Int) ≤ n ∧ (∀ i, i ∈ is → 0 ≤ i ∧ i < b) ∧ is.Pairwise (· < ·)
theorem ded_ne {is : List Int} (h : is ≠ []) : sortI (ded is) ≠ [] := by
  intro e
  cases is with
  | nil => exact h rfl
  | cons i r =>
    have h1 : i ∈ ded (i :: r) := mem_ded.mpr (by simp)
    have h2 := (sortI_perm (ded (i :: r))).mem_iff.mpr h1
    rw [e] at h2
    cases h2
theorem ded_len (is : List Int) : (ded is).length ≤ is.length := by simpa [ded] using ded_len_go is []
theorem lock_ex (u : Int × Int) {n : Int} (ha : 1 ≤ a ∧ a ≤ 8) (hb : 1 ≤ b ∧ b ≤ 60) (hn : 1 ≤ n ∧ n ≤ 60) : ∃ xs u', F_l_lock [.r 0, .d (mkD' a b c), .d (.int n)] (Cup u :: S) = .ok (.d (.tuple xs)) (Cup u' :: S) ∧ (xs.length : Int) = a ∧ ∀ x, x ∈ xs → SetOk b n x := by
  generalize hR : F_l_lock _ _ = R
  simp -implicitDefEqProofs [F_l_lock, fnD_ap, t_l_lock] at hR
  rw [if_pos (by omega)] at hR
  simp at hR
  generalize hX : forL _ _ _ _ _ = X at hR
  have hw : X.To (fun ρ S' => ∃ xs u' x y z, ρ = [some (.r 0), some (.d (mkD' a b c)), some (.d (.int n)), some (.d (.tuple xs)), x, y, z] ∧ S' = Cup u' :: S ∧ (xs.length : Int) = a ∧ ∀ x, x ∈ xs → SetOk b n x) fun _ _ => False := by
    rw [← hX]
    refine for_to (fun i ρ S' => ∃ xs u' x y z, ρ = [some (.r 0), some (.d (mkD' a b c)), some (.d (.int n)), some (.d (.tuple xs)), x, y, z] ∧ S' = Cup u' :: S ∧ xs.length = i ∧ ∀ x, x ∈ xs → SetOk b n x) ⟨[], u, none, none, none, rfl, rfl, rfl, fun _ h => by cases h⟩ ?_ ?_
    · rintro ρ S' ⟨xs, u', x, y, z, rfl, rfl, hl, hx⟩
      exact ⟨xs, u', x, y, z, rfl, rfl, by rw [hl, rngL_len]; omega, hx⟩
    · rintro i d ρ S' hd ⟨xs, u', x, y, z, rfl, rfl, hl, hx⟩
      obtain ⟨hi, rfl⟩ := rngL_get hd
      refine ⟨_, rfl, ?_⟩
      obtain ⟨r, u1, e, r0, r1⟩ := roll_ex (S := S) u' (m := n) (by omega) (by omega)
      obtain ⟨ys, S', hc, ⟨u2, rfl⟩, hyl, hy⟩ := compL_inv (tg := gN 6) (own := [6]) (tst := tstY) (el := dTup (aCons (dFn F_l_roll (aCons (dVar 0) (aCons (dOp2 ixD (dVar 1) (dC (.int 1))) aNil))) (aCons (dC (.bool true)) aNil))) (ρ := [some (.r 0), some (.d (mkD' a b c)), some (.d (.int n)), some (.d (.tuple xs)), some (.d (.int (0 + i))), y, z])
        (fun S' => ∃ u, S' = Cup u :: S) (fun y => ∃ i : Int, y = .tuple [.int i, .bool true] ∧ 0 ≤ i ∧ i < b) (rngL 0 (1 + r).toNat) (Cup u1 :: S) ⟨u1, rfl⟩ (by
          rintro x hx _ ⟨u, rfl⟩
          obtain ⟨j, hj, rfl⟩ := rngL_mem.mp hx
          obtain ⟨q, u1, e, q0, q1⟩ := roll_ex (S := S) u (m := b) (by omega) (by omega)
          exact ⟨_, rfl, rfl, .tuple [.int q, .bool true], Cup u1 :: S, by simp [e], ⟨u1, rfl⟩, q, rfl, q0, q1⟩)
      obtain ⟨is, rfl, his⟩ := map_of (g := fun i : Int => PyData.tuple [.int i, .bool true]) hy
      rw [rngL_len, List.length_map] at hyl
      have h1 : (ded is).length < 64 := by have := ded_len is; omega
      have h2 : -4611686018427387904 ≤ 1 + r ∧ 1 + r < 4611686018427387904 := by omega
      have h3 : (1 + r).toNat ≤ 16777216 := by omega
      have h4 : xs.length + 1 ≤ 16777216 := by omega
      simp only [Int.zero_add] at hc
      conv => arg 1; simp -implicitDefEqProofs [e, h2, h3, hc, dictN_ints, sortedDI_ints _ _ _ h1, h4]
      refine ⟨_, u2, _, _, _, rfl, rfl, by simp [hl], fun x hx' => ?_⟩
      rw [List.mem_append] at hx'
      rcases hx' with hx' | hx'
      · exact hx x hx'
      · simp at hx'
        have hne : is ≠ [] := by rintro rfl; simp at hyl; omega
        refine ⟨sortI (ded is), by rw [hx'], ded_ne hne, ?_, fun i hi => his i (mem_ded.mp ((sortI_perm _).mem_iff.mp hi)), sortI_strict (ded_nodup _)⟩
        have h5 := (sortI_perm (ded is)).length_eq
        have h6 := ded_len is
        omega
  obtain ⟨ρ', S', rfl, xs, u', x, y, z, rfl, rfl, h1, h2⟩ := To_nx_inv hw
  exact ⟨xs, u', by rw [← hR]; simp, h1, h2⟩
end
end LW
namespace LW
open PySem PySem.Spec PyProof.Rows L2 DL
section
variable {S : Sto} {d v : D} {a b c lo hi : Int}
/-- a name -/
def nameB : D → Bool
  | .str z => decide (1 ≤ z.length ∧ z.length ≤ 12) && ((match z.cps.toList with | ch :: _ => signIn ⟨#[ch]⟩ "abcdefghijklmnopqrstuvwxyz" | [] => false) && z.cps.toList.all fun ch => signIn ⟨#[ch]⟩ "abcdefghijklmnopqrstuvwxyz0123456789")
  | _ => false
theorem e_fits_name (h : d.canLay0 = true) (hz : ∀ z, d = .str z → z.length ≤ 16777216) : F_fits_name [.d d] S = .ok (.d (.bool (nameB d))) S := by
  cases d <;> try (simp -implicitDefEqProofs [F_fits_name, fnD_ap, t_fits_name, isiD, tyOf, isiB, nameB, PyData.canLay0] at h ⊢; done)
  case str z =>
    have hl := hz z rfl
    by_cases h1 : 1 ≤ z.length
    · have h1' : (1 : Int) ≤ z.length := by omega
      by_cases h2 : z.length ≤ 12
      · have h2' : (z.length : Int) ≤ 12 := by omega
        have hc := compL_mapY (S := S) (tg := gN 1) (own := [1]) (el := dOp2 (inD false) (dVar 1) (dC (.str "abcdefghijklmnopqrstuvwxyz0123456789"))) (ρ := [some (.d (.str z)), none])
          (fun ch : Nat => PyData.str ⟨#[ch]⟩) (fun ch => .bool (signIn ⟨#[ch]⟩ "abcdefghijklmnopqrstuvwxyz0123456789")) z.cps.toList fun q _ => ⟨_, rfl, by simp⟩
        have e : (z.cps.toList.map fun ch => PyData.bool (signIn ⟨#[ch]⟩ "abcdefghijklmnopqrstuvwxyz0123456789")) = (z.cps.toList.map fun ch => signIn ⟨#[ch]⟩ "abcdefghijklmnopqrstuvwxyz0123456789").map PyData.bool := by simp
        rw [e] at hc
        have hs : DL.signs z = z.cps.toList.map fun ch => PyData.str ⟨#[ch]⟩ := rfl
        have hsz : z.cps.toList.length = z.length := by simp [Str.length]
        obtain ⟨ch, r, hcr⟩ : ∃ ch r, z.cps.toList = ch :: r := by
          cases e : z.cps.toList with
          | nil => rw [e] at hsz; simp at hsz; omega
          | cons ch r => exact ⟨ch, r, rfl⟩
        have hsz2 : z.cps.toList.length ≤ 16777216 := by omega
        simp only [F_fits_name, fnD_ap, t_fits_name, nameB]
        by_cases h5 : signIn ⟨#[ch]⟩ "abcdefghijklmnopqrstuvwxyz" = true
        · simp [isiD, tyOf, isiB, hl, h1, h2, h1', h2', ixD_s, hcr, h5, hs]
          rw [hcr] at hc hsz2
          simp only [List.length_cons] at hsz2
          simp only [List.map_cons] at hc
          simp [show r.length ≤ 16777215 by omega, hc, all_b]
          have := all_b (S := S) (bs := (ch :: r).map fun ch => signIn ⟨#[ch]⟩ "abcdefghijklmnopqrstuvwxyz0123456789")
          simp at this
          simp [this]
        · simp [isiD, tyOf, isiB, hl, h1, h2, h1', h2', ixD_s, hcr, h5]
      · have h2' : ¬ (z.length : Int) ≤ 12 := by omega
        simp -implicitDefEqProofs [F_fits_name, fnD_ap, t_fits_name, isiD, tyOf, isiB, nameB, hl, h1, h2, h1', h2']
    · have h1' : ¬ (1 : Int) ≤ z.length := by omega
      simp -implicitDefEqProofs [F_fits_name, fnD_ap, t_fits_name, isiD, tyOf, isiB, nameB, hl, h1, h1']
end
end LW
namespace LW
open PySem PySem.Spec PyProof.Rows L2 DL
section
variable {S : Sto} {d v : D} {a b c lo hi : Int}
def pool0 : List Str := ["a", "ab", "b", "b1", "c", "d", "e", "ear", "f", "g", "h9", "h", "i", "j", "k", "k2", "l", "m", "n", "o", "p", "q", "r", "s", "t", "u", "v", "w", "x", "z"]
theorem pool0_ok : ∀ z, z ∈ pool0 → PyData.strOk z = true := by decide +kernel
theorem pool0_name : ∀ z, z ∈ pool0 → nameB (.str z) = true := by decide +kernel
/-- names, one behind the other -/
def NamesOk (zs : List Str) : Prop := zs.Pairwise (fun x y => sLt x y = true) ∧ ∀ z, z ∈ zs → nameB (.str z) = true ∧ PyData.strOk z = true
theorem names_exT (u : Int × Int) {T : Sto} {n : Int} (hn : 0 ≤ n ∧ n ≤ 29) : ∃ zs : List Str, ∃ u', F_l_names [.r 0, .d (.int n)] (Cup u :: T) = .ok (.d (.list (zs.map .str))) (Cup u' :: T) ∧ (zs.length : Int) = n ∧ (∀ z, z ∈ zs → z ∈ pool0) ∧ NamesOk zs := by
  generalize hR : F_l_names _ _ = R
  simp -implicitDefEqProofs [F_l_names, fnD_ap, t_l_names] at hR
  rw [if_pos (by omega)] at hR
  simp at hR
  generalize hX : forL _ _ _ _ _ = X at hR
  have hw : X.To (fun ρ S' => ∃ (zs : List Str) (p x y : Option U) (u' : Int × Int), ρ = [some (.r 0), some (.d (.int n)), p, some (.r (T.length + 1)), x, y] ∧ S' = Cup u' :: (T ++ [.lst (zs.map .str)]) ∧ (zs.length : Int) = n ∧ zs.Nodup ∧ ∀ z, z ∈ zs → z ∈ pool0) fun _ _ => False := by
    rw [← hX]
    refine for_to (fun i ρ S' => ∃ (zs ps : List Str) (x y : Option U) (u' : Int × Int), ρ = [some (.r 0), some (.d (.int n)), some (.d (.list (ps.map .str))), some (.r (T.length + 1)), x, y] ∧ S' = Cup u' :: (T ++ [.lst (zs.map .str)]) ∧ zs.length = i ∧ (∀ z, z ∈ zs → z ∈ pool0) ∧ ps.Nodup ∧ (∀ z, z ∈ ps → z ∈ pool0) ∧ 30 ≤ ps.length + i ∧ ps.length ≤ 30 ∧ zs.Nodup ∧ ∀ z, z ∈ zs → z ∉ ps) ⟨[], pool0, none, none, u, rfl, rfl, rfl, (fun _ h => by cases h), by decide +kernel, fun _ h => h, by decide, by decide, List.nodup_nil, fun _ h => by cases h⟩ ?_ ?_
    · rintro ρ S' ⟨zs, ps, x, y, u', rfl, rfl, hl, hz, _, _, _, _, hd, _⟩
      exact ⟨zs, _, x, y, u', rfl, rfl, by rw [hl, rngL_len]; omega, hd, hz⟩
    · rintro i d ρ S' hd ⟨zs, ps, x, y, u', rfl, rfl, hl, hz, hnd, hps, hl1, hl2, hzd, hzp⟩
      obtain ⟨hi, rfl⟩ := rngL_get hd
      refine ⟨_, rfl, ?_⟩
      obtain ⟨w, u1, e, hw⟩ := some_ex (S := T ++ [.lst (zs.map .str)]) u' (xs := ps.map .str) (by simp; omega) (by simp; omega)
      obtain ⟨q, hq, rfl⟩ := List.mem_map.mp hw
      have h1 : zs.length < 16777216 := by omega
      have h2 : ps.length ≤ 16777216 := by omega
      have hc := compL_map (S := Cup u1 :: (T ++ [.lst ((zs.map .str) ++ [.str q])])) (tg := gN 5) (own := [5]) (tst := (dTest (dOp2 neD (dVar 5) (dOp2 ixD (dVar 3) (dOp1 negD (dC (.int 1))))))) (el := dVar 5) (ρ := [some (.r 0), some (.d (.int n)), some (.d (.list (ps.map .str))), some (.r (T.length + 1)), some (.d (.int (i : Int))), y])
        PyData.str (fun z => !(z == q)) PyData.str ps fun z hz => ⟨_, rfl, by simp [cellT_ix, L2.atI_last, shaped_s (pool0_ok _ (hps _ hz)), shaped_s (pool0_ok _ (hps _ hq))], fun _ => rfl⟩
      conv => arg 1; simp -implicitDefEqProofs [cellT_isl, e, cellT_app, h1, h2, hc]
      have hfe : (ps.filter fun z => !(z == q)) = ps.erase q := by
        rw [List.Nodup.erase_eq_filter hnd q]
        rfl
      refine ⟨zs ++ [q], ps.filter fun z => !(z == q), _, _, u1, rfl, by simp, by simp [hl], fun z hz' => ?_, hnd.filter _, fun z hz' => hps z (List.mem_filter.mp hz').1, ?_, ?_, ?_, fun z hz' => ?_⟩
      · rw [List.mem_append] at hz'
        rcases hz' with h | h
        · exact hz z h
        · simp at h
          rw [h]
          exact hps _ hq
      · rw [hfe, List.length_erase]
        split <;> omega
      · have := List.length_filter_le (fun z => !(z == q)) ps
        omega
      · rw [List.nodup_append]
        refine ⟨hzd, by simp, fun x hx y hy => ?_⟩
        simp at hy
        rw [hy]
        rintro rfl
        exact hzp x hx hq
      · rw [List.mem_append] at hz'
        rw [List.mem_filter]
        rcases hz' with h | h
        · exact fun z' => hzp z h z'.1
        · simp at h
          rw [h]
          simp
  obtain ⟨ρ', S', rfl, zs, p, x, y, u', rfl, rfl, h1, h0, h2⟩ := To_nx_inv hw
  have h3 : sortOk (zs.map .str) = true := sortOk_strs fun z hz => pool0_ok z (h2 z hz)
  simp [cellT_sort, h3] at hR
  obtain ⟨zs', e1, e2, e3⟩ := sort_strs h0
  have hm : ∀ z, z ∈ zs' → z ∈ pool0 := fun z hz => h2 z (e2.mem_iff.mp hz)
  refine ⟨zs', u', by rw [← hR, e1], ?_, hm, e3, fun z hz => ⟨pool0_name z (hm z hz), pool0_ok z (hm z hz)⟩⟩
  rw [e2.length_eq]
  exact h1
end
end LW
namespace LW
open PySem PySem.Spec PyProof.Rows L2 DL
section
variable {S : Sto} {d v : D} {a b c lo hi : Int}
def pairB : D → Bool
  | .tuple [_, _] => true
  | _ => false
def fstD : D → D
  | .tuple (x :: _) => x
  | _ => .none
def sndD : D → D
  | .tuple (_ :: y :: _) => y
  | _ => .none
def strZ : D → Str
  | .str z => z
  | _ => ""
def shortB : D → Bool
  | .str z => decide (z.length ≤ 16777216)
  | _ => true
def namedB (v : D) : Bool := match v with
  | .tuple xs => decide (xs.length ≤ 40) && (xs.all pairB && (xs.all (fun x => nameB (fstD x)) && risS (xs.map fun x => strZ (fstD x))))
  | _ => false
/-- its names are short -/
def ShortN (v : D) : Prop := ∀ xs, v = .tuple xs → ∀ x, x ∈ xs → shortB (fstD x) = true
theorem e_rising_s (zs : List Str) (hz : ∀ z, z ∈ zs → PyData.strOk z = true) (hl : zs.length ≤ 16777216) : F_is_rising [.d (.list (zs.map .str))] S = .ok (.d (.bool (risS zs))) S := by
  have hm : ∀ q, q ∈ zs.zip zs.tail → PyData.strOk q.1 = true ∧ PyData.strOk q.2 = true := fun q hq => by
    obtain ⟨h1, h2⟩ := List.of_mem_zip (show (q.1, q.2) ∈ zs.zip zs.tail from hq)
    exact ⟨hz _ h1, hz _ (List.mem_of_mem_tail h2)⟩
  have hc := compL_mapY (S := S) (tg := gT (gsC (gN 1) (gsC (gN 2) gsN))) (own := [1, 2]) (el := dOp2 ltD (dVar 1) (dVar 2)) (ρ := [some (.d (.list (zs.map .str))), none, none])
    (fun q : Str × Str => PyData.tuple [.str q.1, .str q.2]) (fun q => .bool (sLt q.1 q.2)) (zs.zip zs.tail) fun q hq => ⟨_, rfl, by simp [ltD_s (hm q hq).1 (hm q hq).2]⟩
  have hl2 : (zs.zip zs.tail).length ≤ 16777216 := by simp; omega
  simp -implicitDefEqProofs [F_is_rising, fnD_ap, t_is_rising, ← List.map_tail, zipL_strs, hl2, -List.length_zip]
  rw [hc]
  simp [all_mapb, risS_zip]
theorem tupOf_pair {x : D} : tupOf 2 2 x = pairB x := by
  cases x <;> try rfl
  case tuple xs =>
    match xs with
    | [] => rfl
    | [_] => rfl
    | [_, _] => rfl
    | _ :: _ :: _ :: r => simp [tupOf, pairB]; omega
theorem can_pair {xs : List D} (h : (PyData.tuple xs).canLay0 = true) : ∀ x, x ∈ xs → x.canLay0 = true := canAll_iff.mp (by simpa [PyData.canLay0] using h)
theorem pair_of {x : D} (h : pairB x = true) : ∃ p q, x = .tuple [p, q] := by
  cases x <;> try cases h
  case tuple xs =>
    match xs, h with
    | [p, q], _ => exact ⟨p, q, rfl⟩
theorem nameB_str {x : D} (h : nameB x = true) : ∃ z, x = .str z := by
  cases x <;> try cases h
  exact ⟨_, rfl⟩
theorem e_fits_named (h : v.canLay0 = true) (hN : ShortN v) : F_fits_named [.d v] S = .ok (.d (.bool (namedB v))) S := by
  by_cases h3 : tupOf 0 40 v = true
  · cases v <;> simp [tupOf] at h3
    case tuple xs =>
      have hx := can_pair h
      have hs := hN xs rfl
      have e2 : xs.length ≤ 16777216 := by omega
      have e3 : xs.length ≤ 40 := by omega
      have c1 := compL_idY (S := S) (tg := gN 1) (own := [1]) (el := dFn F_is_tuple_of (aCons (dVar 1) (aCons (dC (.int 2)) (aCons (dC (.int 2)) aNil)))) (ρ := [some (.d (.tuple xs)), none])
        (fun x => .bool (pairB x)) xs fun x hx' => ⟨_, rfl, by simp [e_is_tuple_of (hx x hx'), tupOf_pair]⟩
      simp only [F_fits_named, fnD_ap, t_fits_named, namedB]
      by_cases h4 : xs.all pairB = true
      · have c2 := compL_idY (S := S) (tg := gN 1) (own := [1]) (el := dFn F_fits_name (aCons (dOp2 ixD (dVar 1) (dC (.int 0))) aNil)) (ρ := [some (.d (.tuple xs)), none])
          (fun x => .bool (nameB (fstD x))) xs fun x hx' => ⟨_, rfl, by
            obtain ⟨p, q, rfl⟩ := pair_of (List.all_eq_true.mp h4 x hx')
            have hp := can_pair (hx _ hx') p (by simp)
            have hq := hs _ hx'
            simp [fstD] at hq
            simp [e_fits_name hp (fun z e => by subst e; simpa [shortB] using hq), fstD]⟩
        by_cases h5 : (xs.all fun x => nameB (fstD x)) = true
        · have c3 := compL_idY (S := S) (tg := gN 1) (own := [1]) (el := dOp2 ixD (dVar 1) (dC (.int 0))) (ρ := [some (.d (.tuple xs)), none])
            (fun x => .str (strZ (fstD x))) xs fun x hx' => ⟨_, rfl, by
              obtain ⟨p, q, rfl⟩ := pair_of (List.all_eq_true.mp h4 x hx')
              obtain ⟨z, hz⟩ := nameB_str (List.all_eq_true.mp h5 _ hx')
              simp [fstD] at hz
              simp [fstD, hz, strZ]⟩
          have e4 : (xs.map fun x => PyData.str (strZ (fstD x))) = (xs.map fun x => strZ (fstD x)).map .str := by simp
          rw [e4] at c3
          have hr := e_rising_s (S := S) (xs.map fun x => strZ (fstD x)) (fun z hz => by
            obtain ⟨x, hx', rfl⟩ := List.mem_map.mp hz
            obtain ⟨p, q, rfl⟩ := pair_of (List.all_eq_true.mp h4 x hx')
            obtain ⟨z, hz⟩ := nameB_str (List.all_eq_true.mp h5 _ hx')
            have hp := can_pair (hx _ hx') p (by simp)
            simp [fstD] at hz
            subst hz
            simpa [fstD, strZ, PyData.canLay0] using hp) (by simpa using e2)
          simp -implicitDefEqProofs [e_is_tuple_of h, tupOf, h3, e2, e3, c1, all_mapb, h4, c2, h5, c3, hr, -List.map_map, -List.all_eq_true]
        · simp -implicitDefEqProofs [e_is_tuple_of h, tupOf, h3, e2, e3, c1, all_mapb, h4, c2, h5, -List.all_eq_true]
      · simp -implicitDefEqProofs [e_is_tuple_of h, tupOf, h3, e2, e3, c1, all_mapb, h4, -List.all_eq_true]
  · have e : namedB v = false := by
      cases v <;> try rfl
      case tuple xs =>
        simp [tupOf] at h3
        simp [namedB]
        omega
    simp -implicitDefEqProofs [F_fits_named, fnD_ap, t_fits_named, e_is_tuple_of h, h3, e]
theorem namedB_items (h : namedB v = true) : ∃ xs, v = .tuple xs ∧ xs.length ≤ 40 ∧ ∀ x, x ∈ xs → pairB x = true := by
  cases v <;> try cases h
  case tuple xs =>
    simp [namedB] at h
    exact ⟨xs, rfl, h.1, h.2.1⟩
theorem makeB_inv (h : makeB d = true) : ∃ a b c, d = mkD' a b c ∧ MkOk a b c := by
  cases d <;> try cases h
  case tuple xs =>
    match xs, h with
    | [x, y, z], h =>
      simp only [makeB, Bool.and_eq_true] at h
      obtain ⟨h1, h2, h3⟩ := h
      cases x <;> simp [fw] at h1
      cases y <;> simp [fw] at h2
      cases z <;> simp [fw] at h3
      exact ⟨_, _, _, rfl, h1, h2, h3⟩
def itemsD : D → List D
  | .tuple xs => xs
  | _ => []
def sysB : D → Bool
  | .tuple [.tuple [.int a, .int b, .int c], ds, ks] => makeB (mkD' a b c) && (namedB ds && namedB ks && ((itemsD ds).all (fun x => lockB a b (sndD x)) && (itemsD ks).all (fun x => keyB a b c (sndD x))))
  | _ => false
theorem e_fits_system (h : d.canLay0 = true) (hN : ∀ m ds ks, d = .tuple [m, ds, ks] → ShortN ds ∧ ShortN ks) : F_fits_system [.d d] S = .ok (.d (.bool (sysB d))) S := by
  by_cases h3 : tupOf 3 3 d = true
  · obtain ⟨m, ds, ks, rfl⟩ : ∃ x y z, d = .tuple [x, y, z] := by
      cases d <;> simp [tupOf] at h3
      case tuple xs =>
        match xs, h3 with
        | [x, y, z], _ => exact ⟨x, y, z, rfl⟩
        | [], h3 => simp at h3
        | [_], h3 => simp at h3
        | [_, _], h3 => simp at h3
        | _ :: _ :: _ :: _ :: _, h3 => simp at h3; omega
    obtain ⟨n1, n2⟩ := hN m ds ks rfl
    have hc := can_pair h
    have c1 := hc m (by simp)
    have c2 := hc ds (by simp)
    have c3 := hc ks (by simp)
    simp only [F_fits_system, fnD_ap, t_fits_system]
    by_cases h4 : makeB m = true
    · obtain ⟨a, b, c, rfl, hm⟩ := makeB_inv h4
      have a1 := hm.1
      have b1 := hm.2.1
      by_cases h5 : namedB ds = true
      · by_cases h6 : namedB ks = true
        · obtain ⟨xs, rfl, l1, p1⟩ := namedB_items h5
          obtain ⟨ys, rfl, l2, p2⟩ := namedB_items h6
          have k1 := compL_idY (S := S) (tg := gT (gsC (gN 1) (gsC (gN 2) gsN))) (own := [1, 2]) (el := dFn F_fits_lock (aCons (dOp2 ixD (dVar 0) (dC (.int 0))) (aCons (dVar 2) aNil))) (ρ := [some (.d (.tuple [mkD' a b c, .tuple xs, .tuple ys])), none, none, none])
            (fun x => .bool (lockB a b (sndD x))) xs fun x hx' => by
              obtain ⟨p, q, rfl⟩ := pair_of (p1 x hx')
              have hq := can_pair (can_pair c2 _ hx') q (by simp)
              exact ⟨_, rfl, by simp [e_fits_lock hq (show a ≤ 16777216 by omega) (show 1 ≤ b by omega) (show b ≤ 16777216 by omega), sndD]⟩
          have k2 := compL_idY (S := S) (tg := gT (gsC (gN 1) (gsC (gN 3) gsN))) (own := [1, 3]) (el := dFn F_fits_key (aCons (dOp2 ixD (dVar 0) (dC (.int 0))) (aCons (dVar 3) aNil))) (ρ := [some (.d (.tuple [mkD' a b c, .tuple xs, .tuple ys])), none, none, none])
            (fun x => .bool (keyB a b c (sndD x))) ys fun x hx' => by
              obtain ⟨p, q, rfl⟩ := pair_of (p2 x hx')
              have hq := can_pair (can_pair c3 _ hx') q (by simp)
              exact ⟨_, rfl, by simp [e_fits_key hq (show a ≤ 16777216 by omega), sndD]⟩
          have i1 : ixD (.d (.tuple [mkD' a b c, .tuple xs, .tuple ys])) (.d (.int 1)) S = .ok (.d (.tuple xs)) S := rfl
          have i2 : ixD (.d (.tuple [mkD' a b c, .tuple xs, .tuple ys])) (.d (.int 2)) S = .ok (.d (.tuple ys)) S := rfl
          have e1 : xs.length ≤ 16777216 := by omega
          have e2 : ys.length ≤ 16777216 := by omega
          have e : sysB (.tuple [mkD' a b c, .tuple xs, .tuple ys]) = (xs.all (fun x => lockB a b (sndD x)) && ys.all (fun x => keyB a b c (sndD x))) := by
            show (makeB (mkD' a b c) && (namedB _ && namedB _ && _)) = _
            rw [h4, h5, h6]
            simp [itemsD]
          rw [e]
          cases h7 : xs.all (fun x => lockB a b (sndD x)) <;>
          simp -implicitDefEqProofs [e_is_tuple_of h, h3, i1, i2, e_fits_make mk_can, h4, e_fits_named c2 n1, e_fits_named c3 n2, h5, h6, e1, e2, k1, k2, all_mapb, h7, -List.all_eq_true]
        · have e : sysB (.tuple [mkD' a b c, ds, ks]) = false := by
            show (makeB (mkD' a b c) && (namedB _ && namedB _ && _)) = _
            simp [h6]
          have i1 : ixD (.d (.tuple [mkD' a b c, ds, ks])) (.d (.int 1)) S = .ok (.d ds) S := rfl
          have i2 : ixD (.d (.tuple [mkD' a b c, ds, ks])) (.d (.int 2)) S = .ok (.d ks) S := rfl
          simp -implicitDefEqProofs [e_is_tuple_of h, h3, i1, i2, e_fits_make mk_can, h4, e_fits_named c2 n1, e_fits_named c3 n2, h5, h6, e]
      · have e : sysB (.tuple [mkD' a b c, ds, ks]) = false := by
          show (makeB (mkD' a b c) && (namedB _ && namedB _ && _)) = _
          simp [h5]
        have i1 : ixD (.d (.tuple [mkD' a b c, ds, ks])) (.d (.int 1)) S = .ok (.d ds) S := rfl
        simp -implicitDefEqProofs [e_is_tuple_of h, h3, i1, e_fits_make mk_can, h4, e_fits_named c2 n1, h5, e]
    · have e : sysB (.tuple [m, ds, ks]) = false := by
        unfold sysB
        split
        · rename_i he
          cases he
          have h4 : ¬ makeB (mkD' _ _ _) = true := h4
          simp [h4]
        · rfl
      simp -implicitDefEqProofs [e_is_tuple_of h, h3, e_fits_make c1, h4, e]
  · have e : sysB d = false := by
      unfold sysB
      split
      · rename_i he
        exact absurd rfl h3
      · rfl
    simp -implicitDefEqProofs [F_fits_system, fnD_ap, t_fits_system, e_is_tuple_of h, h3, e]
end
end LW
namespace LW
open PySem PySem.Spec PyProof.Rows L2 DL
section
variable {S : Sto} {d v : D} {a b c lo hi : Int} {K : List Int} {L : List (List Int)}
def KeyOk (a b c : Int) (K : List Int) : Prop := (K.length : Int) = a ∧ KeyInv a b c K
def LockOk (a b : Int) (L : List (List Int)) : Prop := (L.length : Int) = a ∧ ∀ s, s ∈ L → SetI b s
theorem KeyOk.keyB (h : KeyOk a b c K) : keyB a b c (keyD K) = true := by
  obtain ⟨hl, _, _, h3, h4⟩ := h
  unfold keyD
  rw [keyB_ints, h4]
  simp [cutsB, hl, fw]
  intro i hi
  have := h3 i hi
  omega
theorem SetI.setB {s : List Int} (h : SetI b s) : setB b (keyD s) = true := by
  unfold keyD
  rw [setB_eq, intsL_map]
  simp [h.ne, steps_pw, h.up, fw]
  intro i hi
  have := h.mem i hi
  omega
theorem LockOk.lockB (h : LockOk a b L) : lockB a b (lockD L) = true := by
  simp [DL.lockB, lockD, h.1]
  exact fun s hs => SetI.setB (h.2 s hs)
theorem e_does_open {n : Nat} (h1 : K.length = n) (h2 : L.length = n) (hn : n ≤ 16777216) : F_does_open [.d (keyD K), .d (lockD L)] S = .ok (.d (.bool (opensB K L))) S := by
  have hc := compL_mapY (S := S) (tg := gT (gsC (gN 2) (gsC (gN 3) gsN))) (own := [2, 3]) (el := dOp2 (inD false) (dVar 2) (dVar 3)) (ρ := [some (.d (keyD K)), some (.d (lockD L)), none, none])
    (fun i : Nat => PyData.tuple [.int (kA K i), keyD (lA L i)]) (fun i => .bool (decide (kA K i ∈ lA L i))) (List.range n) fun q _ => ⟨_, rfl, by simp [keyD, inD_ints]⟩
  simp only [F_does_open, fnD_ap, t_does_open]
  have hz : itZip [.d (keyD K), .d (lockD L)] S = .ok ((List.range n).map fun i => .tuple [.int (kA K i), keyD (lA L i)]) S := by
    rw [← zipL_key h1 h2]
    rfl
  simp [hz, hn]
  rw [hc]
  simp [all_mapb, opensB, h1]
end
end LW
namespace LW
open PySem PySem.Spec PyProof.Rows L2 DL
section
variable {S : Sto} {d v : D} {a b c lo hi : Int} {ds : List (Str × List (List Int))} {ks : List (Str × List Int)}
def pairsD {α : Type} (f : α → D) (kvs : List (Str × α)) : D := .tuple (kvs.map fun kv => .tuple [.str kv.1, f kv.2])
def sysD (m : D) (ds : List (Str × List (List Int))) (ks : List (Str × List Int)) : D := .tuple [m, pairsD lockD ds, pairsD keyD ks]
structure SysOk (a b c : Int) (ds : List (Str × List (List Int))) (ks : List (Str × List Int)) : Prop where
  mo : MkOk a b c
  dn : NamesOk (ds.map (·.1))
  kn : NamesOk (ks.map (·.1))
  dl : ds.length ≤ 40
  kl : ks.length ≤ 40
  lk : ∀ d, d ∈ ds → LockOk a b d.2
  ky : ∀ k, k ∈ ks → KeyOk a b c k.2
theorem pairs_can {α : Type} {f : α → D} {kvs : List (Str × α)} (h : ∀ kv, kv ∈ kvs → PyData.strOk kv.1 = true ∧ (f kv.2).canLay0 = true) : (pairsD f kvs).canLay0 = true := by
  unfold pairsD
  simp only [PyData.canLay0]
  refine canAll_iff.mpr fun x hx => ?_
  obtain ⟨kv, hk, rfl⟩ := List.mem_map.mp hx
  obtain ⟨h1, h2⟩ := h kv hk
  simp [PyData.canLay0, PyData.canLayAll0, h1, h2]
theorem name_len {z : Str} (h : nameB (.str z) = true) : z.length ≤ 12 := by
  simp only [nameB, Bool.and_eq_true, decide_eq_true_eq] at h
  exact h.1.2
theorem pairs_short {α : Type} {f : α → D} {kvs : List (Str × α)} (h : ∀ kv, kv ∈ kvs → nameB (.str kv.1) = true) : ShortN (pairsD f kvs) := by
  rintro xs e x hx
  cases e
  obtain ⟨kv, hk, rfl⟩ := List.mem_map.mp hx
  have := name_len (h kv hk)
  simp [fstD, shortB]
  omega
theorem pairs_named {α : Type} {f : α → D} {kvs : List (Str × α)} (h : NamesOk (kvs.map (·.1))) (hl : kvs.length ≤ 40) : namedB (pairsD f kvs) = true := by
  have h1 : ∀ kv, kv ∈ kvs → nameB (.str kv.1) = true := fun kv hk => (h.2 kv.1 (List.mem_map.mpr ⟨kv, hk, rfl⟩)).1
  have h2 : (kvs.map fun kv => kv.1) = kvs.map (·.1) := rfl
  unfold pairsD namedB
  simp only [List.length_map, hl, decide_true, Bool.true_and, List.map_map, List.all_map, Function.comp_def, fstD, strZ, pairB, risS_pw.mpr h.1]
  simp
  exact fun a x hx => h1 _ hx
theorem SysOk.dname (h : SysOk a b c ds ks) {kv : Str × List (List Int)} (hk : kv ∈ ds) : nameB (.str kv.1) = true ∧ PyData.strOk kv.1 = true := h.dn.2 kv.1 (List.mem_map.mpr ⟨kv, hk, rfl⟩)
theorem SysOk.kname (h : SysOk a b c ds ks) {kv : Str × List Int} (hk : kv ∈ ks) : nameB (.str kv.1) = true ∧ PyData.strOk kv.1 = true := h.kn.2 kv.1 (List.mem_map.mpr ⟨kv, hk, rfl⟩)
theorem SysOk.sysB (h : SysOk a b c ds ks) : sysB (sysD (mkD' a b c) ds ks) = true := by
  show (makeB (mkD' a b c) && (namedB (pairsD lockD ds) && namedB (pairsD keyD ks) && _)) = true
  rw [makeB_ok h.mo, pairs_named h.dn h.dl, pairs_named h.kn h.kl]
  simp [itemsD, pairsD, sndD]
  exact ⟨fun _ _ hx => (h.lk _ hx).lockB, fun _ _ hx => (h.ky _ hx).keyB⟩
theorem SysOk.can (h : SysOk a b c ds ks) : (sysD (mkD' a b c) ds ks).canLay0 = true := by
  have h1 := pairs_can (f := lockD) (kvs := ds) fun kv hk => ⟨(h.dname hk).2, lock_can⟩
  have h2 := pairs_can (f := keyD) (kvs := ks) fun kv hk => ⟨(h.kname hk).2, key_can⟩
  simp [sysD, PyData.canLay0, PyData.canLayAll0, h1, h2, mkD']
theorem SysOk.short (h : SysOk a b c ds ks) : ∀ m x y, sysD (mkD' a b c) ds ks = .tuple [m, x, y] → ShortN x ∧ ShortN y := by
  rintro m x y e
  cases e
  exact ⟨pairs_short fun kv hk => (h.dname hk).1, pairs_short fun kv hk => (h.kname hk).1⟩
theorem e_fits_sys (h : SysOk a b c ds ks) : F_fits_system [.d (sysD (mkD' a b c) ds ks)] S = .ok (.d (.bool true)) S := by
  rw [e_fits_system h.can h.short, h.sysB]
theorem e_need_system (h : SysOk a b c ds ks) : F_need_system [.d (sysD (mkD' a b c) ds ks)] S = .ok (.d .none) S := by
  simp -implicitDefEqProofs [F_need_system, fnD_ap, t_need_system, e_fits_sys h]
theorem e_locks_in (hn : (ds.map (·.1)).Nodup) (hl : ds.length ≤ 16777216) (m : D) : F_locks_in [.d (sysD m ds ks)] S = .ok (.d (sdD lockD ds)) S := by
  have hc := dcL_s (S := S) (tg := gT (gsC (gN 1) (gsC (gN 2) gsN))) (own := [1, 2]) (kx := dVar 1) (vx := dVar 2) (ρ := [some (.d (sysD m ds ks)), none, none]) (fun kv : Str × List (List Int) => PyData.tuple [.str kv.1, lockD kv.2]) (·.1) (fun kv => lockD kv.2) ds [] (fun q _ => ⟨_, rfl, rfl, rfl⟩) hn (fun q _ z => by cases z)
  have i1 : ixD (.d (sysD m ds ks)) (.d (.int 1)) S = .ok (.d (.tuple (ds.map fun kv => .tuple [.str kv.1, lockD kv.2]))) S := rfl
  simp -implicitDefEqProofs [F_locks_in, fnD_ap, t_locks_in, i1, hl]
  rw [hc]
  simp [dictK_s, sdD]
theorem e_keys_in (hn : (ks.map (·.1)).Nodup) (hl : ks.length ≤ 16777216) (m : D) : F_keys_in [.d (sysD m ds ks)] S = .ok (.d (sdD keyD ks)) S := by
  have hc := dcL_s (S := S) (tg := gT (gsC (gN 1) (gsC (gN 2) gsN))) (own := [1, 2]) (kx := dVar 1) (vx := dVar 2) (ρ := [some (.d (sysD m ds ks)), none, none]) (fun kv : Str × List Int => PyData.tuple [.str kv.1, keyD kv.2]) (·.1) (fun kv => keyD kv.2) ks [] (fun q _ => ⟨_, rfl, rfl, rfl⟩) hn (fun q _ z => by cases z)
  have i1 : ixD (.d (sysD m ds ks)) (.d (.int 2)) S = .ok (.d (.tuple (ks.map fun kv => .tuple [.str kv.1, keyD kv.2]))) S := rfl
  simp -implicitDefEqProofs [F_keys_in, fnD_ap, t_keys_in, i1, hl]
  rw [hc]
  simp [dictK_s, sdD]
/-- the doors that a key opens -/
def opened (ds : List (Str × List (List Int))) (K : List Int) : List Str := (ds.filter fun d => opensB K d.2).map (·.1)
def strsL (zs : List Str) : D := .list (zs.map .str)
theorem e_does_open' (h : SysOk a b c ds ks) {d : Str × List (List Int)} {k : Str × List Int} (hd : d ∈ ds) (hk : k ∈ ks) : F_does_open [.d (keyD k.2), .d (lockD d.2)] S = .ok (.d (.bool (opensB k.2 d.2))) S := by
  have h1 := (h.lk d hd).1
  have h2 := (h.ky k hk).1
  have h3 := h.mo.1
  exact e_does_open (n := k.2.length) rfl (by omega) (by omega)
theorem e_table_in (h : SysOk a b c ds ks) : F_table_in [.d (sysD (mkD' a b c) ds ks)] S = .ok (.d (sdD (fun K => strsL (opened ds K)) ks)) S := by
  have nd := pw_nodup h.dn.1
  have nk := pw_nodup h.kn.1
  have l1 : ds.length ≤ 16777216 := by have := h.dl; omega
  have l2 : ks.length ≤ 16777216 := by have := h.kl; omega
  have hc := dcL_s (S := S) (tg := gN 3) (own := [3]) (kx := dVar 3) (vx := dComp (dItK (dVar 1)) (gN 4) [4] (dTru (dFn F_does_open (aCons (dOp2 ixA (dVar 2) (dVar 3)) (aCons (dOp2 ixA (dVar 1) (dVar 4)) aNil)))) (dVar 4)) (ρ := [some (.d (sysD (mkD' a b c) ds ks)), some (.d (sdD lockD ds)), some (.d (sdD keyD ks)), none, none])
    (fun kv : Str × List Int => PyData.str kv.1) (·.1) (fun kv => strsL (opened ds kv.2)) ks [] (fun k hk => ⟨_, rfl, rfl, by
      have g1 : getS ks k.1 = some k.2 := getS_mem nk hk
      have hi := compL_map (S := S) (tg := gN 4) (own := [4]) (tst := dTru (dFn F_does_open (aCons (dOp2 ixA (dVar 2) (dVar 3)) (aCons (dOp2 ixA (dVar 1) (dVar 4)) aNil)))) (el := dVar 4) (ρ := [some (.d (sysD (mkD' a b c) ds ks)), some (.d (sdD lockD ds)), some (.d (sdD keyD ks)), some (.d (.str k.1)), none])
        (fun d : Str × List (List Int) => PyData.str d.1) (fun d => opensB k.2 d.2) (fun d => PyData.str d.1) ds fun d hd => ⟨_, rfl, by
          have g2 : getS ds d.1 = some d.2 := getS_mem nd hd
          simp [ixA_s g1, ixA_s g2, e_does_open' h hd hk], fun _ => rfl⟩
      simp -implicitDefEqProofs [itKeys_s, l1, hi]
      simp [strsL, opened, List.map_map, Function.comp_def]⟩) nk (fun q _ z => by cases z)
  simp -implicitDefEqProofs [F_table_in, fnD_ap, t_table_in, e_locks_in nd l1, e_keys_in nk l2, itKeys_s, l2]
  rw [hc]
  simp [dictK_s, sdD]
theorem any_strs {zs : List Str} {z : Str} : ((zs.map PyData.str).any fun w => PyData.eqv w (.str z)) = decide (z ∈ zs) := by
  induction zs with
  | nil => rfl
  | cons w r ih =>
    rw [List.map_cons, List.any_cons, ih, eqv_s]
    by_cases e : w = z
    · simp [e]
    · have : z ≠ w := fun q => e q.symm
      simp [e, this]
theorem inD_strsL {neg : Bool} {zs : List Str} {z : Str} (h : ∀ w, w ∈ zs → PyData.strOk w = true) (hz : PyData.strOk z = true) : inD neg (.d (.str z)) (.d (strsL zs)) S = .ok (.d (.bool (if neg = true then !decide (z ∈ zs) else decide (z ∈ zs)))) S := by
  have hs : SeqAt.shaped (strsL zs) = true := by
    simp only [shaped_iff, strsL, PyData.canLay0, PyData.depth]
    refine ⟨canAll_iff.mpr fun x hx => ?_, ?_⟩
    · obtain ⟨w, hw, rfl⟩ := List.mem_map.mp hx
      simpa [PyData.canLay0] using h w hw
    · have : ∀ zs : List Str, PyData.depthAll (zs.map .str) = 0 := fun zs => by
        induction zs with
        | nil => rfl
        | cons w r ih => simp [PyData.depthAll, PyData.depth, ih]
      rw [this]
      omega
  show (if SeqAt.shaped (.str z) = true ∧ SeqAt.shaped (strsL zs) = true then Rs.ok (U.d (.bool (if neg = true then !((zs.map PyData.str).any fun w => PyData.eqv w (.str z)) else (zs.map PyData.str).any fun w => PyData.eqv w (.str z)))) S else .bad) = _
  rw [if_pos ⟨shaped_s hz, hs⟩, any_strs]
end
end LW
namespace DL
open PySem PySem.Spec PyProof.Rows L2
/-- what _law_same tells apart: no lists, not too deep -/
inductive Smp : Nat → D → Prop
  | non (n : Nat) : Smp n .none
  | bl (n : Nat) (b : Bool) : Smp n (.bool b)
  | int (n : Nat) (i : Int) : Smp n (.int i)
  | str (n : Nat) (z : Str) : PyData.strOk z = true → Smp n (.str z)
  | tup (n : Nat) (xs : List D) : (∀ x, x ∈ xs → Smp n x) → xs.length ≤ 16777216 → Smp (n + 1) (.tuple xs)
end DL
namespace LW
open PySem PySem.Spec PyProof.Rows L2 DL
theorem same_tup {F : Fn} {xs : List D} {S : Sto} (hl : xs.length ≤ 16777216) (h : ∀ x, x ∈ xs → F [.d x, .d x] S = .ok (.d (.bool true)) S) : fnD 2 3 (t_l_same F) [.d (.tuple xs), .d (.tuple xs)] S = .ok (.d (.bool true)) S := by
  have hc := compL_mapY (S := S) (tg := gN 2) (own := [2]) (el := dFn F (aCons (dOp2 ixD (dVar 0) (dVar 2)) (aCons (dOp2 ixD (dVar 1) (dVar 2)) aNil))) (ρ := [some (.d (.tuple xs)), some (.d (.tuple xs)), none])
    (fun i : Nat => PyData.int (i : Nat)) (fun _ => .bool true) (List.range xs.length) fun i hi => ⟨_, rfl, by
      have hi' : i < xs.length := List.mem_range.mp hi
      have hm : xs[i] ∈ xs := List.getElem_mem hi'
      simp [atI_nat hi', List.getElem?_eq_getElem hi', h _ hm]⟩
  have hr := itR1_nat (S := S) hl
  have ha := all_mapb (S := S) (List.range xs.length) fun _ => true
  simp only [fnD_ap, t_l_same]
  simp -implicitDefEqProofs [isiD, tyOf, isiB, hr, hl]
  rw [hc]
  simp [ha]
theorem G_same_refl : ∀ (m n : Nat) (x : D) (S : Sto), n < m → Smp n x → G_l_same m [.d x, .d x] S = .ok (.d (.bool true)) S := by
  intro m
  induction m with
  | zero => intro n x S h; omega
  | succ m ih =>
    intro n x S h hx
    rw [G_l_same]
    cases hx with
    | non => simp [fnD_ap, t_l_same, isiD, tyOf, isiB, isNo]
    | bl _ b => cases b <;> simp [fnD_ap, t_l_same, isiD, tyOf, isiB, isNo]
    | int _ i => simp [fnD_ap, t_l_same, isiD, tyOf, isiB, isNo]
    | str _ z hz =>
      have e : strN [.d (.str z)] S = .ok (.d (.str z)) S := rfl
      have hs : SeqAt.shaped (.str z) = true := by simp [shaped_iff, PyData.canLay0, PyData.depth, hz]
      have hq : PyData.eqv (.str z) (.str z) = true := by simp [PyData.eqv]
      simp [fnD_ap, t_l_same, isiD, tyOf, isiB, isNo, e, hs, hq]
    | tup n' xs hxs hl => exact same_tup hl fun x hx => ih n' x S (by omega) (hxs x hx)
theorem e_same_refl {x : D} {n : Nat} {S : Sto} (hx : Smp n x) (h : n < 12) : F_l_same [.d x, .d x] S = .ok (.d (.bool true)) S := G_same_refl 12 n x S h hx
end LW
namespace LW
open PySem PySem.Spec PyProof.Rows L2 DL
section
variable {S : Sto} {d v : D} {a b c lo hi : Int} {ds : List (Str × List (List Int))} {ks : List (Str × List Int)}
theorem opened_len (K : List Int) : (opened ds K).length ≤ ds.length := by
  unfold opened
  rw [List.length_map]
  exact List.length_filter_le _ _
theorem opened_mem {K : List Int} {z : Str} (h : z ∈ opened ds K) : z ∈ ds.map (·.1) := by
  obtain ⟨d, hd, rfl⟩ := List.mem_map.mp h
  exact List.mem_map.mpr ⟨d, (List.mem_filter.mp hd).1, rfl⟩
def openers (ds : List (Str × List (List Int))) (ks : List (Str × List Int)) (z : Str) : List Str := (ks.filter fun k => decide (z ∈ opened ds k.2)).map (·.1)
def pairsOf (ds : List (Str × List (List Int))) (ks : List (Str × List Int)) : List (Str × Str) := ks.flatMap fun k => (opened ds k.2).map fun n => (k.1, n)
def pairD (q : Str × Str) : D := .tuple [.str q.1, .str q.2]
theorem e_who_opens (h : SysOk a b c ds ks) : F_who_opens [.d (sysD (mkD' a b c) ds ks)] S = .ok (.d (.tuple ((pairsOf ds ks).map pairD))) S := by
  have hl : ks.length ≤ 16777216 := by have := h.kl; omega
  have hc := comp2L_map (S := S) (tg := gN 2) (own := [2, 3]) (tst := tstY) (it1 := dIt (dOp2 ixA (dVar 1) (dVar 2))) (tg1 := gN 3) (own1 := [3]) (tst1 := tstY) (el := dTup (aCons (dVar 2) (aCons (dVar 3) aNil))) (ρ := [some (.d (sysD (mkD' a b c) ds ks)), some (.d (sdD (fun K => strsL (opened ds K)) ks)), none, none])
    (fun k : Str × List Int => PyData.str k.1) (fun k => (opened ds k.2).map .str) (fun k => (opened ds k.2).map fun n => pairD (k.1, n)) 40 ks [] (fun k hk => ⟨_, rfl, rfl, by
      have hi : ixA (.d (sdD (fun K => strsL (opened ds K)) ks)) (.d (.str k.1)) S = .ok (.d (strsL (opened ds k.2))) S := ixA_s (getS_mem (pw_nodup h.kn.1) hk)
      simp [hi]
      rfl, by
      exact compL_mapY (S := S) PyData.str (fun n => pairD (k.1, n)) (opened ds k.2) fun n _ => ⟨_, rfl, by simp [pairD]⟩, by
      have := opened_len (ds := ds) k.2
      have := h.dl
      rw [List.length_map]
      omega, by
      have := opened_len (ds := ds) k.2
      have := h.dl
      rw [List.length_map]
      omega⟩) (by have := h.kl; simp; omega)
  simp -implicitDefEqProofs [F_who_opens, fnD_ap, t_who_opens, e_need_system h, e_table_in h, itKeys_s, hc]
  simp [pairsOf, List.map_flatMap, Function.comp_def]
theorem smp_strs (n : Nat) {zs : List Str} (h : ∀ z, z ∈ zs → PyData.strOk z = true) (hl : zs.length ≤ 16777216) : Smp (n + 1) (.tuple (zs.map .str)) := Smp.tup n _ (fun x hx => by
  obtain ⟨z, hz, rfl⟩ := List.mem_map.mp hx
  exact .str _ _ (h z hz)) (by simpa using hl)
theorem smp_pairs (n : Nat) {qs : List (Str × Str)} (h : ∀ q, q ∈ qs → PyData.strOk q.1 = true ∧ PyData.strOk q.2 = true) (hl : qs.length ≤ 16777216) : Smp (n + 2) (.tuple (qs.map pairD)) := Smp.tup (n + 1) _ (fun x hx => by
  obtain ⟨q, hq, rfl⟩ := List.mem_map.mp hx
  obtain ⟨h1, h2⟩ := h q hq
  refine Smp.tup n _ (fun y hy => ?_) (by simp)
  simp at hy
  rcases hy with rfl | rfl
  · exact .str _ _ h1
  · exact .str _ _ h2) (by simpa using hl)
theorem pairs_mem {q : Str × Str} (h : q ∈ pairsOf ds ks) : q.1 ∈ ks.map (·.1) ∧ q.2 ∈ ds.map (·.1) := by
  obtain ⟨k, hk, hq⟩ := List.mem_flatMap.mp h
  obtain ⟨n, hn, rfl⟩ := List.mem_map.mp hq
  exact ⟨List.mem_map.mpr ⟨k, hk, rfl⟩, opened_mem hn⟩
theorem flat_len {α β : Type} {f : α → List β} {n : Nat} (h : ∀ x, (f x).length ≤ n) : ∀ xs : List α, (xs.flatMap f).length ≤ n * xs.length
  | [] => by simp
  | x :: xs => by
    rw [List.flatMap_cons, List.length_append, List.length_cons, Nat.mul_succ]
    have := flat_len h xs
    have := h x
    omega
theorem pairs_len : (pairsOf ds ks).length ≤ ds.length * ks.length := flat_len (fun k => by rw [List.length_map]; exact opened_len k.2) ks
theorem SysOk.smp_who (h : SysOk a b c ds ks) : Smp 2 (.tuple ((pairsOf ds ks).map pairD)) := smp_pairs 0 (fun q hq => by
  obtain ⟨h1, h2⟩ := pairs_mem hq
  exact ⟨(h.kn.2 _ h1).2, (h.dn.2 _ h2).2⟩) (by
  have h1 := pairs_len (ds := ds) (ks := ks)
  have h2 : ds.length * ks.length ≤ 40 * 40 := Nat.mul_le_mul h.dl h.kl
  omega)
end
end LW
namespace LW
open PySem PySem.Spec PyProof.Rows L2 DL
section
variable {S : Sto} {d v : D} {a b c lo hi off : Int} {K : List Int} {L : List (List Int)} {C : Cell}
theorem lock_exL (u : Int × Int) {n : Int} (ha : 1 ≤ a ∧ a ≤ 8) (hb : 1 ≤ b ∧ b ≤ 60) (hn : 1 ≤ n ∧ n ≤ 60) : ∃ (L : List (List Int)) (u' : Int × Int), F_l_lock [.r 0, .d (mkD' a b c), .d (.int n)] (Cup u :: S) = .ok (.d (lockD L)) (Cup u' :: S) ∧ LockOk a b L := by
  obtain ⟨xs, u', e, hl, hx⟩ := lock_ex (S := S) (a := a) (b := b) (c := c) u (n := n) ha hb hn
  obtain ⟨L, rfl, hL⟩ := map_of (ys := xs) (g := keyD) (P := SetI b) fun y hy => by
    obtain ⟨is, rfl, h1, _, h2, h3⟩ := hx y hy
    exact ⟨is, rfl, h1, h2, h3⟩
  exact ⟨L, u', e, by simpa using hl, hL⟩
theorem smp_key (n : Nat) {s : List Int} (h : s.length ≤ 16777216) : Smp (n + 1) (keyD s) := Smp.tup n _ (fun x hx => by
  obtain ⟨i, _, rfl⟩ := List.mem_map.mp hx
  exact .int _ _) (by simpa using h)
theorem smp_lock (n : Nat) (hm : MkOk a b c) (hl : LockOk a b L) : Smp (n + 2) (lockD L) := Smp.tup (n + 1) _ (fun x hx => by
  obtain ⟨s, hs, rfl⟩ := List.mem_map.mp hx
  exact smp_key n (by have := (hl.2 s hs).len; have := hm.2.1; omega)) (by have := hl.1; have := hm.1; rw [List.length_map]; omega)
end
end LW
namespace LW
open PySem PySem.Spec PyProof.Rows L2 DL
section
variable {S : Sto} {d v : D} {a b c lo hi : Int} {ds : List (Str × List (List Int))} {ks : List (Str × List Int)} {K : List Int} {L : List (List Int)}
/-- the lock around a lock and a key -/
def widK (L : List (List Int)) (K : List Int) : List (List Int) := (List.range K.length).map fun i => sortI (ded (lA L i ++ [kA K i]))
theorem widK_at {i : Nat} (hi : i < K.length) : lA (widK L K) i = sortI (ded (lA L i ++ [kA K i])) := by
  simp [widK, lA, List.getD_eq_getElem?_getD, List.getElem?_map, List.getElem?_range hi]
theorem lock_mem {i : Nat} (hi : i < L.length) : lA L i ∈ L := by
  have : lA L i = L[i] := by simp [lA, List.getD_eq_getElem?_getD, List.getElem?_eq_getElem hi]
  rw [this]
  exact List.getElem_mem _
theorem key_mem {i : Nat} (hi : i < K.length) : kA K i ∈ K := by
  have : kA K i = K[i] := by simp [kA, List.getD_eq_getElem?_getD, List.getElem?_eq_getElem hi]
  rw [this]
  exact List.getElem_mem _
theorem widK_in (hL : LockOk a b L) (hK : KeyOk a b c K) {i : Nat} (hi : i < K.length) : ∀ z, z ∈ lA L i ++ [kA K i] → 0 ≤ z ∧ z < b := by
  intro z hz
  have hl := hL.1
  have hk := hK.1
  rw [List.mem_append] at hz
  rcases hz with hz | hz
  · exact (hL.2 (lA L i) (lock_mem (by omega))).mem z hz
  · rw [List.mem_singleton.mp hz]
    exact hK.2.2.2.1 _ (key_mem hi)
theorem widK_ok (hL : LockOk a b L) (hK : KeyOk a b c K) : LockOk a b (widK L K) := by
  refine ⟨by have := hK.1; simp [widK]; omega, fun s hs => ?_⟩
  obtain ⟨i, hi, rfl⟩ := List.mem_map.mp hs
  exact sort_ded_setI (by simp) (widK_in hL hK (List.mem_range.mp hi))
theorem around_c (hm : MkOk a b c) (hL : LockOk a b L) (hK : KeyOk a b c K) {x0 x1 x2 x3 x4 x5 x6 x9 x10 x11 : Option U} : compL (gT (gsC (gN 9) (gsC (gN 10) gsN))) [9, 10] tstY (dCall tupleN (aCons (dCall sortedDI (aCons (dCall dictN (aCons (dComp (dIt (dOp2 addD (dVar 9) (dTup (aCons (dVar 10) aNil)))) (gN 11) [11] tstY (dTup (aCons (dVar 11) (aCons (dC (.bool true)) aNil)))) aNil)) aNil)) aNil))
    [x0, x1, x2, x3, x4, x5, x6, some (.d (lockD L)), some (.d (keyD K)), x9, x10, x11] (zipL (L.map keyD) (K.map .int)) S = .ok ((widK L K).map keyD) S := by
  have hl := hL.1
  have hk := hK.1
  have hb := hm.2.1
  have ha := hm.1
  rw [zipL_lk (n := K.length) rfl (by omega)]
  have := compL_mapY (S := S) (tg := gT (gsC (gN 9) (gsC (gN 10) gsN))) (own := [9, 10]) (el := (dCall tupleN (aCons (dCall sortedDI (aCons (dCall dictN (aCons (dComp (dIt (dOp2 addD (dVar 9) (dTup (aCons (dVar 10) aNil)))) (gN 11) [11] tstY (dTup (aCons (dVar 11) (aCons (dC (.bool true)) aNil)))) aNil)) aNil)) aNil)))
    (ρ := [x0, x1, x2, x3, x4, x5, x6, some (.d (lockD L)), some (.d (keyD K)), x9, x10, x11])
    (fun i : Nat => PyData.tuple [keyD (lA L i), .int (kA K i)]) (fun i => keyD (sortI (ded (lA L i ++ [kA K i])))) (List.range K.length) fun i hi => ⟨_, rfl, by
      have hi' : i < K.length := List.mem_range.mp hi
      have hin := widK_in hL hK hi'
      have h2 := (hL.2 (lA L i) (lock_mem (by omega))).len
      have hd := ded_lt (b := b) (by omega) hin
      have hd' : (ded (lA L i ++ [kA K i])).length < 64 := by omega
      have hll : (lA L i).length + 1 ≤ 16777216 := by omega
      have hc := compL_mapY (S := S) (tg := gN 11) (own := [11]) (el := dTup (aCons (dVar 11) (aCons (dC (.bool true)) aNil))) (ρ := [x0, x1, x2, x3, x4, x5, x6, some (.d (lockD L)), some (.d (keyD K)), some (.d (keyD (lA L i))), some (.d (.int (kA K i))), x11])
        PyData.int (fun i => .tuple [.int i, .bool true]) (lA L i ++ [kA K i]) fun i _ => ⟨_, rfl, by simp⟩
      have ha2 : addD (.d (keyD (lA L i))) (.d (.tuple [.int (kA K i)])) S = .ok (.d (.tuple ((lA L i ++ [kA K i]).map .int))) S := by simp [keyD, hll]
      have hl3 : ((lA L i ++ [kA K i]).map PyData.int).length ≤ 16777216 := by simp; omega
      generalize hsq : lA L i ++ [kA K i] = sq at *
      simp -implicitDefEqProofs [ha2, -List.length_map, hl3, hc, dictN_ints, sortedDI_ints _ _ _ hd']
      rfl⟩
  rw [this]
  simp [widK, Function.comp_def]
theorem pairs_zip {α : Type} (f : α → D) (zs : List Str) (xs : List α) (h : zs.length = xs.length) : zipL (zs.map .str) (xs.map f) = (zs.zip xs).map fun kv => .tuple [.str kv.1, f kv.2] := by
  unfold zipL
  rw [List.zip_map, List.map_map]
  rfl
theorem fst_zip {α : Type} (zs : List Str) (xs : List α) (h : zs.length = xs.length) : (zs.zip xs).map (·.1) = zs := List.map_fst_zip (by omega)
theorem system_ex (u : Int × Int) {T : Sto} (hm : MkOk a b c) {nd nk : Int} (hd : 0 ≤ nd ∧ nd ≤ 29) (hk : 0 ≤ nk ∧ nk ≤ 29) : ∃ (ds : List (Str × List (List Int))) (ks : List (Str × List Int)) (u' : Int × Int), F_l_system [.r 0, .d (mkD' a b c), .d (.int nd), .d (.int nk)] (Cup u :: T) = .ok (.d (sysD (mkD' a b c) ds ks)) (Cup u' :: T) ∧
    SysOk a b c ds ks ∧ (ds.length : Int) = nd ∧ (ks.length : Int) = nk ∧ (∀ z, z ∈ ds.map (·.1) → z ∈ pool0) ∧ ∀ z, z ∈ ks.map (·.1) → z ∈ pool0 := by
  have ha := hm.1
  have hb := hm.2.1
  generalize hR : F_l_system _ _ = R
  have hr1 := itR1_pos (b := nk) (S := Cup u :: T) hk.1 (by omega)
  have hlk : nk.toNat ≤ 16777216 := by omega
  obtain ⟨ys, S', hc, ⟨u1, rfl⟩, hyl, hy⟩ := compL_inv (tg := gN 6) (own := [6]) (tst := tstY) (el := dFn F_l_key (aCons (dVar 0) (aCons (dVar 1) aNil))) (ρ := [some (.r 0), some (.d (mkD' a b c)), some (.d (.int nd)), some (.d (.int nk)), none, none, none, none, none, none, none, none])
    (fun S' => ∃ u, S' = Cup u :: T) (fun y => ∃ K : List Int, y = keyD K ∧ KeyOk a b c K) ((List.range nk.toNat).map fun i : Nat => PyData.int (i : Nat)) (Cup u :: T) ⟨u, rfl⟩ (by
      rintro x hx _ ⟨u, rfl⟩
      obtain ⟨j, hj, rfl⟩ := List.mem_map.mp hx
      obtain ⟨K, u', e, h1, h2⟩ := key_ex (S := T) u hm
      exact ⟨_, rfl, rfl, keyD K, Cup u' :: T, by simp [e, keyD], ⟨u', rfl⟩, K, rfl, h1, h2⟩)
  obtain ⟨Ks, rfl, hKs⟩ := map_of (g := keyD) hy
  rw [List.length_map, List.length_map, List.length_range] at hyl
  simp -implicitDefEqProofs [F_l_system, fnD_ap, t_l_system, hr1, hlk, hc] at hR
  have hc2 : -4611686018427387904 ≤ nd ∧ nd < 4611686018427387904 := by omega
  simp -implicitDefEqProofs [hc2] at hR
  generalize hX : forL _ _ _ _ _ = X at hR
  have hw : X.To (fun ρ S' => ∃ (Ls : List (List (List Int))) (u' : Int × Int) (x6 x7 x8 : Option U), ρ = [some (.r 0), some (.d (mkD' a b c)), some (.d (.int nd)), some (.d (.int nk)), some (.d (.list (Ks.map keyD))), some (.r (T.length + 1)), x6, x7, x8, none, none, none] ∧ S' = Cup u' :: (T ++ [.lst (Ls.map lockD)]) ∧ (Ls.length : Int) = nd ∧ ∀ L, L ∈ Ls → LockOk a b L) fun _ _ => False := by
    rw [← hX]
    refine for_to (fun i ρ S' => ∃ (Ls : List (List (List Int))) (u' : Int × Int) (x6 x7 x8 : Option U), ρ = [some (.r 0), some (.d (mkD' a b c)), some (.d (.int nd)), some (.d (.int nk)), some (.d (.list (Ks.map keyD))), some (.r (T.length + 1)), x6, x7, x8, none, none, none] ∧ S' = Cup u' :: (T ++ [.lst (Ls.map lockD)]) ∧ Ls.length = i ∧ ∀ L, L ∈ Ls → LockOk a b L) ⟨[], u1, none, none, none, rfl, rfl, rfl, fun _ h => by cases h⟩ ?_ ?_
    · rintro ρ S' ⟨Ls, u', x6, x7, x8, rfl, rfl, hl, hx⟩
      exact ⟨Ls, u', x6, x7, x8, rfl, rfl, by rw [hl, rngL_len]; omega, hx⟩
    · rintro i d ρ S' hd' ⟨Ls, u', x6, x7, x8, rfl, rfl, hl, hx⟩
      obtain ⟨hi, rfl⟩ := rngL_get hd'
      refine ⟨_, rfl, ?_⟩
      obtain ⟨L0, u2, e2, hL0⟩ := lock_exL (S := T ++ [.lst (Ls.map lockD)]) (a := a) (b := b) (c := c) u' (n := 2) (by omega) (by omega) (by omega)
      conv => arg 1; simp -implicitDefEqProofs [e2]
      generalize hY : forL _ _ _ _ _ = Y
      have hw2 : Y.To (fun ρ S' => ∃ (L : List (List Int)) (u' : Int × Int) (x8 : Option U), ρ = [some (.r 0), some (.d (mkD' a b c)), some (.d (.int nd)), some (.d (.int nk)), some (.d (.list (Ks.map keyD))), some (.r (T.length + 1)), some (.d (.int (i : Nat))), some (.d (lockD L)), x8, none, none, none] ∧ S' = Cup u' :: (T ++ [.lst (Ls.map lockD)]) ∧ LockOk a b L) fun _ _ => False := by
        rw [← hY]
        refine for_to (fun j ρ S' => ∃ (L : List (List Int)) (u' : Int × Int) (x8 : Option U), ρ = [some (.r 0), some (.d (mkD' a b c)), some (.d (.int nd)), some (.d (.int nk)), some (.d (.list (Ks.map keyD))), some (.r (T.length + 1)), some (.d (.int (i : Nat))), some (.d (lockD L)), x8, none, none, none] ∧ S' = Cup u' :: (T ++ [.lst (Ls.map lockD)]) ∧ LockOk a b L) ⟨L0, u2, _, rfl, rfl, hL0⟩ ?_ ?_
        · rintro ρ S' ⟨L, u', x8, rfl, rfl, h⟩
          exact ⟨L, u', x8, rfl, rfl, h⟩
        · rintro j d ρ S' hd'' ⟨L, u', x8, rfl, rfl, h⟩
          rw [List.getElem?_map] at hd''
          obtain ⟨K, hK, rfl⟩ := Option.map_eq_some_iff.mp hd''
          have hKo := hKs K (List.mem_of_getElem? hK)
          refine ⟨_, rfl, ?_⟩
          obtain ⟨r, u3, e3, r0, r1⟩ := roll_ex (S := T ++ [.lst (Ls.map lockD)]) u' (m := 4) (by omega) (by omega)
          have hi1 : SeqAt.shaped (.int r) = true := rfl
          by_cases hr : r = 0
          · subst hr
            have hz : itZip [.d (lockD L), .d (keyD K)] (Cup u3 :: (T ++ [.lst (Ls.map lockD)])) = .ok (zipL (L.map keyD) (K.map .int)) (Cup u3 :: (T ++ [.lst (Ls.map lockD)])) := rfl
            have hzl : (zipL (L.map keyD) (K.map .int)).length ≤ 16777216 := by
              have := h.1
              rw [zipL_len, List.length_map]
              omega
            have hcc := around_c (S := Cup u3 :: (T ++ [.lst (Ls.map lockD)])) hm h hKo (x0 := some (.r 0)) (x1 := some (.d (mkD' a b c))) (x2 := some (.d (.int nd))) (x3 := some (.d (.int nk))) (x4 := some (.d (.list (Ks.map keyD)))) (x5 := some (.r (T.length + 1))) (x6 := some (.d (.int (i : Nat)))) (x9 := none) (x10 := none) (x11 := none)
            have ht : tupleN [.d (.list ((widK L K).map keyD))] (Cup u3 :: (T ++ [.lst (Ls.map lockD)])) = .ok (.d (lockD (widK L K))) (Cup u3 :: (T ++ [.lst (Ls.map lockD)])) := rfl
            conv => arg 1; simp -implicitDefEqProofs [e3, hz, hzl, hcc, ht, PyData.eqv, -tupleN_l]
            exact ⟨widK L K, u3, _, rfl, rfl, widK_ok h hKo⟩
          · have he : PyData.eqv (.int r) (.int 0) = false := by simp [PyData.eqv, hr]
            conv => arg 1; simp -implicitDefEqProofs [e3, he]
            exact ⟨L, u3, _, rfl, rfl, h⟩
      obtain ⟨ρ', S', rfl, L, u3, x8', rfl, rfl, hL⟩ := To_nx_inv hw2
      have hlen : Ls.length < 16777216 := by omega
      conv => arg 1; simp -implicitDefEqProofs [cellT_isl, cellT_app, hlen]
      refine ⟨Ls ++ [L], u3, _, _, _, rfl, by simp, by simp [hl], fun L' hL' => ?_⟩
      rw [List.mem_append] at hL'
      rcases hL' with hL' | hL'
      · exact hx L' hL'
      · rw [List.mem_singleton.mp hL']
        exact hL
  obtain ⟨ρ', S', rfl, Ls, u2, x6, x7, x8, rfl, rfl, hLl, hLs⟩ := To_nx_inv hw
  obtain ⟨zs, u3, e3, hzl, hzp, hzn⟩ := names_exT u2 (T := T ++ [.lst (Ls.map lockD)]) (n := nd) hd
  obtain ⟨ws, u4, e4, hwl, hwp, hwn⟩ := names_exT u3 (T := T ++ [.fz (.list (Ls.map lockD))]) (n := nk) hk
  have tf : toDs [.d (.list (zs.map .str)), .r (T.length + 1)] (Cup u3 :: (T ++ [.lst (Ls.map lockD)])) = .ok [.list (zs.map .str), .list (Ls.map lockD)] (Cup u3 :: (T ++ [.fz (.list (Ls.map lockD))])) := by
    simp [cellT_toD]
  have lz1 : listZip [.d (.list (zs.map .str)), .r (T.length + 1)] (Cup u3 :: (T ++ [.lst (Ls.map lockD)])) = .ok (.d (.list (zipL (zs.map .str) (Ls.map lockD)))) (Cup u3 :: (T ++ [.fz (.list (Ls.map lockD))])) := by
    unfold listZip
    rw [tf]
    rfl
  have el1 : zs.length = Ls.length := by omega
  have el2 : ws.length = Ks.length := by omega
  simp -implicitDefEqProofs [e3, lz1, e4, pairs_zip _ _ _ el1, pairs_zip _ _ _ el2] at hR
  refine ⟨zs.zip Ls, ws.zip Ks, u4, ?_, ⟨hm, by rw [fst_zip _ _ el1]; exact hzn, by rw [fst_zip _ _ el2]; exact hwn, by rw [List.length_zip]; omega, by rw [List.length_zip]; omega, fun q hq => hLs _ (List.of_mem_zip (show (q.1, q.2) ∈ zs.zip Ls from hq)).2, fun q hq => hKs _ (List.of_mem_zip (show (q.1, q.2) ∈ ws.zip Ks from hq)).2⟩, by rw [List.length_zip]; omega, by rw [List.length_zip]; omega, by rw [fst_zip _ _ el1]; exact hzp, by rw [fst_zip _ _ el2]; exact hwp⟩
  rw [← hR]
  rfl
end
end LW
namespace LW
open PySem PySem.Spec PyProof.Rows L2 DL
section
variable {S : Sto} {a b c : Int} {ds es : List (Str × List (List Int))} {ks : List (Str × List Int)} {K : List Int} {L M : List (List Int)} {n : Nat}
def fstS {α : Type} (kvs : List (Str × α)) : List Str := kvs.map (·.1)
theorem pairs_its {α : Type} {f : α → D} {kvs : List (Str × α)} : itSeq (.d (pairsD f kvs)) S = .ok (kvs.map fun kv => .tuple [.str kv.1, f kv.2]) S := rfl
theorem ix_ds {m : D} : ixA (.d (sysD m ds ks)) (.d (.int 1)) S = .ok (.d (pairsD lockD ds)) S := by
  unfold sysD
  rw [ixA_t]
  simp
theorem ix_ks {m : D} : ixA (.d (sysD m ds ks)) (.d (.int 2)) S = .ok (.d (pairsD keyD ks)) S := by
  unfold sysD
  rw [ixA_t]
  simp
theorem ix_mk {m : D} : ixA (.d (sysD m ds ks)) (.d (.int 0)) S = .ok (.d m) S := by
  unfold sysD
  rw [ixA_t]
  simp
theorem jx_ds {m : D} : ixD (.d (sysD m ds ks)) (.d (.int 1)) S = .ok (.d (pairsD lockD ds)) S := by
  unfold sysD
  simp
theorem jx_ks {m : D} : ixD (.d (sysD m ds ks)) (.d (.int 2)) S = .ok (.d (pairsD keyD ks)) S := by
  unfold sysD
  simp
theorem jx_mk {m : D} : ixD (.d (sysD m ds ks)) (.d (.int 0)) S = .ok (.d m) S := by
  unfold sysD
  simp
theorem fst_comp {α : Type} {f : α → D} {kvs : List (Str × α)} {x0 x1 x2 : Option U} : compL (gN 3) [3] tstY (dOp2 ixD (dVar 3) (dC (.int 0))) [x0, x1, x2, none] (kvs.map fun kv => .tuple [.str kv.1, f kv.2]) S = .ok ((fstS kvs).map .str) S := by
  have hc := compL_mapY (S := S) (tg := gN 3) (own := [3]) (el := dOp2 ixD (dVar 3) (dC (.int 0))) (ρ := [x0, x1, x2, none])
    (fun kv : Str × α => PyData.tuple [.str kv.1, f kv.2]) (fun kv => .str kv.1) kvs fun kv _ => ⟨_, rfl, by simp⟩
  rw [hc]
  simp [fstS]
theorem mk_shaped : SeqAt.shaped (mkD' a b c) = true := rfl
theorem mk_eqv : PyData.eqv (mkD' a b c) (mkD' a b c) = true := by
  show PyData.eqvAll ([a, b, c].map .int) ([a, b, c].map .int) = true
  rw [eqvAll_ints]
  simp
theorem e_need_alike (h : SysOk a b c ds ks) (h2 : SysOk a b c es ks) (hn : fstS ds = fstS es) : F_need_alike [.d (sysD (mkD' a b c) ds ks), .d (sysD (mkD' a b c) es ks)] S = .ok (.d .none) S := by
  have l1 : ds.length ≤ 16777216 := by have := h.dl; omega
  have l2 : ks.length ≤ 16777216 := by have := h.kl; omega
  have l3 : es.length ≤ 16777216 := by have := h2.dl; omega
  have n1 := neD_strsL (S := S) (xs := fstS ds) (ys := fstS es) (fun z hz => (h.dn.2 z hz).2) fun z hz => (h2.dn.2 z hz).2
  have n2 := neD_strsL (S := S) (xs := fstS ks) (ys := fstS ks) (fun z hz => (h.kn.2 z hz).2) fun z hz => (h.kn.2 z hz).2
  rw [hn] at n1
  have n3 : neD (.d (mkD' a b c)) (.d (mkD' a b c)) S = .ok (.d (.bool false)) S := by
    rw [neD_d, if_pos ⟨mk_shaped, mk_shaped⟩, mk_eqv]
    rfl
  simp -implicitDefEqProofs only [F_need_alike, fnD_ap, t_need_alike]
  simp -implicitDefEqProofs [e_need_system h, e_need_system h2, jx_mk, n3, -neD_d]
  simp -implicitDefEqProofs [forL, jx_ds, jx_ks, pairs_its, l1, l2, l3, fst_comp, n1, n2, hn, -neD_d]
theorem e_pairs_of (h : SysOk a b c ds ks) : F_pairs_of [.d (sysD (mkD' a b c) ds ks)] S = .ok (.d (.list ((pairsOf ds ks).map pD))) S := by
  have hl : ks.length ≤ 16777216 := by have := h.kl; omega
  have hc := comp2L_map (S := S) (tg := gN 2) (own := [2, 3]) (tst := tstY) (it1 := dIt (dOp2 ixA (dVar 1) (dVar 2))) (tg1 := gN 3) (own1 := [3]) (tst1 := tstY) (el := dTup (aCons (dVar 2) (aCons (dVar 3) aNil))) (ρ := [some (.d (sysD (mkD' a b c) ds ks)), some (.d (sdD (fun K => strsL (opened ds K)) ks)), none, none])
    (fun k : Str × List Int => PyData.str k.1) (fun k => (opened ds k.2).map .str) (fun k => (opened ds k.2).map fun n => pD (k.1, n)) 40 ks [] (fun k hk => ⟨_, rfl, rfl, by
      have hi : ixA (.d (sdD (fun K => strsL (opened ds K)) ks)) (.d (.str k.1)) S = .ok (.d (strsL (opened ds k.2))) S := ixA_s (getS_mem (pw_nodup h.kn.1) hk)
      simp [hi]
      rfl, by
      exact compL_mapY (S := S) PyData.str (fun n => pD (k.1, n)) (opened ds k.2) fun n _ => ⟨_, rfl, by simp [pD]⟩, by
      have := opened_len (ds := ds) k.2
      have := h.dl
      rw [List.length_map]
      omega, by
      have := opened_len (ds := ds) k.2
      have := h.dl
      rw [List.length_map]
      omega⟩) (by have := h.kl; simp; omega)
  simp -implicitDefEqProofs [F_pairs_of, fnD_ap, t_pairs_of, e_table_in h, itKeys_s, hc]
  simp [pairsOf, List.map_flatMap, Function.comp_def]
theorem pairs_ok (h : SysOk a b c ds ks) : ∀ q, q ∈ pairsOf ds ks → POk q := fun q hq => by
  obtain ⟨h1, h2⟩ := pairs_mem hq
  exact ⟨(h.kn.2 _ h1).2, (h.dn.2 _ h2).2⟩
/-- the pairs of the former that the latter lacks -/
def lackP (ps qs : List (Str × Str)) : List (Str × Str) := ps.filter fun q => !decide (q ∈ qs)
def psT (ps : List (Str × Str)) : D := .tuple (ps.map pD)
theorem lack_comp {i j k : Nat} {ρ : Rho} {ps qs : List (Str × Str)} {S : Sto} (h1 : ∀ q, q ∈ ps → POk q) (h2 : ∀ q, q ∈ qs → POk q) {tst : DT} {el : DE} (g : ∀ q, q ∈ ps → ∃ ρ1, gN k (pD q) (wipeR ρ [k]) = some ρ1 ∧ tst ρ1 S = .ok (!decide (q ∈ qs)) S ∧ el ρ1 S = .ok (.d (pD q)) S) :
    compL (gN k) [k] tst el ρ (ps.map pD) S = .ok ((lackP ps qs).map pD) S := compL_map pD (fun q => !decide (q ∈ qs)) pD ps fun q hq => by
  obtain ⟨ρ1, g1, g2, g3⟩ := g q hq
  exact ⟨ρ1, g1, g2, fun _ => g3⟩
theorem e_changes (h : SysOk a b c ds ks) (h2 : SysOk a b c es ks) (hn : fstS ds = fstS es) : F_changes [.d (sysD (mkD' a b c) ds ks), .d (sysD (mkD' a b c) es ks)] S = .ok (.d (.tuple [psT (lackP (pairsOf es ks) (pairsOf ds ks)), psT (lackP (pairsOf ds ks) (pairsOf es ks))])) S := by
  have k1 := pairs_ok h
  have k2 := pairs_ok h2
  have l1 : (pairsOf ds ks).length ≤ 16777216 := by
    have := pairs_len (ds := ds) (ks := ks)
    have := Nat.mul_le_mul h.dl h.kl
    omega
  have l2 : (pairsOf es ks).length ≤ 16777216 := by
    have := pairs_len (ds := es) (ks := ks)
    have := Nat.mul_le_mul h2.dl h2.kl
    omega
  have e1 := e_pairs_of (S := S) h
  have e2 := e_pairs_of (S := S) h2
  have e3 := e_need_alike (S := S) h h2 hn
  generalize pairsOf ds ks = ps at *
  generalize pairsOf es ks = qs at *
  have c1 := lack_comp (S := S) (i := 0) (j := 0) (k := 4) (ρ := [some (.d (sysD (mkD' a b c) ds ks)), some (.d (sysD (mkD' a b c) es ks)), some (.d (.list (ps.map pD))), some (.d (.list (qs.map pD))), none]) k2 k1 (tst := dTest (dOp2 (inD true) (dVar 4) (dVar 2))) (el := dVar 4) fun q hq => ⟨_, rfl, by
    have := inD_psL (S := S) (neg := true) (k2 q hq) k1
    simp -implicitDefEqProofs [this], rfl⟩
  have c2 := lack_comp (S := S) (i := 0) (j := 0) (k := 4) (ρ := [some (.d (sysD (mkD' a b c) ds ks)), some (.d (sysD (mkD' a b c) es ks)), some (.d (.list (ps.map pD))), some (.d (.list (qs.map pD))), none]) k1 k2 (tst := dTest (dOp2 (inD true) (dVar 4) (dVar 3))) (el := dVar 4) fun q hq => ⟨_, rfl, by
    have := inD_psL (S := S) (neg := true) (k1 q hq) k2
    simp -implicitDefEqProofs [this], rfl⟩
  simp -implicitDefEqProofs [F_changes, fnD_ap, t_changes, e1, e2, e3, l1, l2, c1, c2]
  exact ⟨rfl, rfl⟩
/-- each set within the other one -/
def subL (L M : List (List Int)) : Bool := (List.range L.length).all fun i => (lA L i).all fun x => decide (x ∈ lA M i)
def tightB (ds es : List (Str × List (List Int))) : Bool := (ds.zip es).all fun p => subL p.1.2 p.2.2
theorem zip_lk (h1 : L.length = n) (h2 : M.length = n) : itZip [.d (lockD L), .d (lockD M)] S = .ok ((List.range n).map fun i => .tuple [keyD (lA L i), keyD (lA M i)]) S := by
  have : zipL (L.map keyD) (M.map keyD) = (List.range n).map fun i => .tuple [keyD (lA L i), keyD (lA M i)] := by
    unfold zipL
    rw [List.zip_map, List.map_map]
    apply List.ext_getElem?
    intro i
    by_cases hi : i < n
    · have e1 : L[i]? = some (lA L i) := by simp [lA, List.getD_eq_getElem?_getD, List.getElem?_eq_getElem (show i < L.length by omega)]
      have e2 : M[i]? = some (lA M i) := by simp [lA, List.getD_eq_getElem?_getD, List.getElem?_eq_getElem (show i < M.length by omega)]
      have hz : (L.zip M)[i]? = some (lA L i, lA M i) := List.getElem?_zip_eq_some.mpr ⟨e1, e2⟩
      rw [List.getElem?_map, hz, List.getElem?_map, List.getElem?_range hi]
      rfl
    · rw [List.getElem?_eq_none (by simp; omega), List.getElem?_eq_none (by simp; omega)]
  rw [← this]
  rfl
theorem all_flat {α : Type} {f : α → List Bool} : ∀ l : List α, (l.flatMap f).all id = l.all fun x => (f x).all id
  | [] => rfl
  | x :: l => by rw [List.flatMap_cons, List.all_append, all_flat l, List.all_cons]
theorem e_sub {x0 x1 x2 x4 : Option U} (hm : MkOk a b c) (hL : LockOk a b L) (hM : LockOk a b M) : dCall allN (aCons (dComp2 (dItA itZip (aCons (dVar 3) (aCons (dVar 5) aNil))) (gT (gsC (gN 6) (gsC (gN 7) gsN))) [6, 7, 8] tstY (dIt (dVar 6)) (gN 8) [8] tstY (dOp2 (inD false) (dVar 8) (dVar 7))) aNil) [x0, x1, x2, some (.d (lockD L)), x4, some (.d (lockD M)), none, none, none] S = .ok (.d (.bool (subL L M))) S := by
  have ha := hm.1
  have hb := hm.2.1
  have hl := hL.1
  have hl2 := hM.1
  have hz := zip_lk (S := S) (L := L) (M := M) (n := L.length) rfl (by omega)
  have hlen : ∀ i, i < L.length → (lA L i).length ≤ 16 := fun i hi => by
    have := (hL.2 _ (lock_mem hi)).len
    omega
  have hc := comp2L_map (S := S) (tg := gT (gsC (gN 6) (gsC (gN 7) gsN))) (own := [6, 7, 8]) (tst := tstY) (it1 := dIt (dVar 6)) (tg1 := gN 8) (own1 := [8]) (tst1 := tstY) (el := dOp2 (inD false) (dVar 8) (dVar 7)) (ρ := [x0, x1, x2, some (.d (lockD L)), x4, some (.d (lockD M)), none, none, none])
    (fun i : Nat => PyData.tuple [keyD (lA L i), keyD (lA M i)]) (fun i => (lA L i).map .int) (fun i => (lA L i).map fun x => .bool (decide (x ∈ lA M i))) 16 (List.range L.length) [] (fun i hi => ⟨_, rfl, rfl, by
      simp
      rfl, by
      exact compL_mapY (S := S) PyData.int (fun x => .bool (decide (x ∈ lA M i))) (lA L i) fun x _ => ⟨_, rfl, by
        have := inD_ints (S := S) (neg := false) (is := lA M i) (i := x)
        have : inD false (.d (.int x)) (.d (keyD (lA M i))) S = .ok (.d (.bool (decide (x ∈ lA M i)))) S := this
        simp -implicitDefEqProofs [this]⟩, by
      have := hlen i (List.mem_range.mp hi)
      rw [List.length_map]
      omega, by
      have := hlen i (List.mem_range.mp hi)
      rw [List.length_map]
      omega⟩) (by simp; omega)
  have he : ((List.range L.length).flatMap fun i => (lA L i).map fun x => PyData.bool (decide (x ∈ lA M i))) = ((List.range L.length).flatMap fun i => (lA L i).map fun x => decide (x ∈ lA M i)).map .bool := by
    rw [List.map_flatMap]
    simp [Function.comp_def]
  have hall := all_mapb (S := S) ((List.range L.length).flatMap fun i => (lA L i).map fun x => decide (x ∈ lA M i)) id
  have hs : ((List.range L.length).flatMap fun i => (lA L i).map fun x => decide (x ∈ lA M i)).all id = subL L M := by
    rw [all_flat]
    unfold subL
    simp [List.all_map, Function.comp_def]
  rw [hs] at hall
  simp -implicitDefEqProofs [hz]
  rw [hc, List.nil_append, he]
  simp -implicitDefEqProofs only [bnd_ok]
  exact hall
theorem pair_zip {α β : Type} (f : α → D) (g : β → D) (xs : List α) (ys : List β) : zipL (xs.map f) (ys.map g) = (xs.zip ys).map fun p => .tuple [f p.1, g p.2] := by
  unfold zipL
  rw [List.zip_map, List.map_map]
  rfl
def pr {α : Type} (f : α → D) (kv : Str × α) : D := .tuple [.str kv.1, f kv.2]
theorem zip_pairs : itZip [.d (pairsD lockD ds), .d (pairsD lockD es)] S = .ok ((ds.zip es).map fun p => .tuple [pr lockD p.1, pr lockD p.2]) S := by
  have := pair_zip (pr lockD) (pr lockD) ds es
  rw [← this]
  rfl
theorem e_is_tighter (h : SysOk a b c ds ks) (h2 : SysOk a b c es ks) (hn : fstS ds = fstS es) : F_is_tighter [.d (sysD (mkD' a b c) ds ks), .d (sysD (mkD' a b c) es ks)] S = .ok (.d (.bool (tightB ds es))) S := by
  generalize hR : F_is_tighter _ _ = R
  simp -implicitDefEqProofs [F_is_tighter, fnD_ap, t_is_tighter, e_need_alike h h2 hn, jx_ds, zip_pairs] at hR
  generalize hX : forL _ _ _ _ _ = X at hR
  have hw : X.To (fun ρ S' => S' = S ∧ tightB ds es = true) fun u S' => u = .d (.bool false) ∧ S' = S ∧ tightB ds es = false := by
    rw [← hX]
    refine for_to (fun i ρ S' => S' = S ∧ ((ds.zip es).take i).all (fun p => subL p.1.2 p.2.2) = true ∧ ∃ x2 x3 x4 x5, ρ = [some (.d (sysD (mkD' a b c) ds ks)), some (.d (sysD (mkD' a b c) es ks)), x2, x3, x4, x5, none, none, none]) ⟨rfl, rfl, _, _, _, _, rfl⟩ ?_ ?_
    · rintro ρ S' ⟨rfl, h1, _⟩
      rw [List.length_map, List.take_length] at h1
      exact ⟨rfl, h1⟩
    · rintro i d ρ S' hd ⟨rfl, h1, x2, x3, x4, x5, rfl⟩
      rw [List.getElem?_map, Option.map_eq_some_iff] at hd
      obtain ⟨p, hp, rfl⟩ := hd
      have hpm := List.mem_of_getElem? hp
      obtain ⟨m1, m2⟩ := List.of_mem_zip (show (p.1, p.2) ∈ ds.zip es from hpm)
      have e := e_sub (S := S') (x0 := some (.d (sysD (mkD' a b c) ds ks))) (x1 := some (.d (sysD (mkD' a b c) es ks))) (x2 := some (.d (.str p.1.1))) (x4 := some (.d (.str p.2.1))) h.mo (h.lk _ m1) (h2.lk _ m2)
      refine ⟨[some (.d (sysD (mkD' a b c) ds ks)), some (.d (sysD (mkD' a b c) es ks)), some (.d (.str p.1.1)), some (.d (lockD p.1.2)), some (.d (.str p.2.1)), some (.d (lockD p.2.2)), none, none, none], rfl, ?_⟩
      have hb : ∀ b : Bool, b = true ∨ b = false := by decide
      simp -implicitDefEqProofs only [sIf_ap, dNotT_ap, dTru_ap, e, bnd_ok, truU_b, goR_ok]
      rcases hb (subL p.1.2 p.2.2) with hs | hs
      · rw [hs]
        refine ⟨rfl, ?_, _, _, _, _, rfl⟩
        rw [List.take_add_one, hp, List.all_append, h1]
        simp [hs]
      · rw [hs]
        refine ⟨rfl, rfl, ?_⟩
        unfold tightB
        rw [List.all_eq_false]
        exact ⟨p, hpm, by rw [hs]; simp⟩
  rw [← hR]
  cases X with
  | nx ρ S' =>
    obtain ⟨rfl, h1⟩ := hw
    rw [h1]
    simp
  | rt u S' =>
    obtain ⟨rfl, rfl, h1⟩ := hw
    rw [h1]
    simp
  | _ => exact hw.elim
end
end LW
namespace LW
open PySem PySem.Spec PyProof.Rows L2 DL
section
variable {S : Sto} {a b c : Int} {ds es : List (Str × List (List Int))} {ks : List (Str × List Int)} {K : List Int} {L M : List (List Int)} {n : Nat} {zs : List Str} {z : Str}
/-- the least lock for some keys -/
def colK (ks : List (Str × List Int)) (zs : List Str) (i : Nat) : List Int := (ks.filter fun k => decide (k.1 ∈ zs)).map fun k => kA k.2 i
def leastL (n : Nat) (ks : List (Str × List Int)) (zs : List Str) : List (List Int) := (List.range n).map fun i => sortI (ded (colK ks zs i))
theorem colK_len {i : Nat} : (colK ks zs i).length ≤ ks.length := by
  unfold colK
  rw [List.length_map]
  exact List.length_filter_le _ _
theorem e_lock_in (h : SysOk a b c ds ks) (hz : ∀ z, z ∈ zs → PyData.strOk z = true) : F_lock_in [.d (mkD' a b c), .d (pairsD keyD ks), .d (strsL zs)] S = .ok (.d (lockD (leastL a.toNat ks zs))) S := by
  have ha := h.mo.1
  have hl : ks.length ≤ 16777216 := by have := h.kl; omega
  have hr := itR1_pos (b := a) (S := S) (by omega) (by omega)
  have hc := compL_mapY (S := S) (tg := gN 3) (own := [3]) (el := dCall tupleN (aCons (dCall sortSetN (aCons (dComp (dIt (dVar 1)) (gT (gsC (gN 4) (gsC (gN 5) gsN))) [4, 5] (dTest (dOp2 (inD false) (dVar 4) (dVar 2))) (dOp2 ixD (dVar 5) (dVar 3))) aNil)) aNil)) (ρ := [some (.d (mkD' a b c)), some (.d (pairsD keyD ks)), some (.d (strsL zs)), none, none, none])
    (fun i : Nat => PyData.int (i : Nat)) (fun i => keyD (sortI (ded (colK ks zs i)))) (List.range a.toNat) fun i hi => ⟨_, rfl, by
      have hi' := List.mem_range.mp hi
      have hc := compL_map (S := S) (tg := gT (gsC (gN 4) (gsC (gN 5) gsN))) (own := [4, 5]) (tst := dTest (dOp2 (inD false) (dVar 4) (dVar 2))) (el := dOp2 ixD (dVar 5) (dVar 3)) (ρ := [some (.d (mkD' a b c)), some (.d (pairsD keyD ks)), some (.d (strsL zs)), some (.d (.int (i : Nat))), none, none])
        (fun k : Str × List Int => PyData.tuple [.str k.1, keyD k.2]) (fun k => decide (k.1 ∈ zs)) (fun k => .int (kA k.2 i)) ks fun k hk => ⟨_, rfl, by
          have := inD_strsL (S := S) (neg := false) hz (h.kname hk).2
          simp -implicitDefEqProofs [this], fun _ => by
          have hl := (h.ky k hk).1
          simp -implicitDefEqProofs [key_at (show i < k.2.length by omega)]⟩
      have he : ((ks.filter fun k => decide (k.1 ∈ zs)).map fun k => PyData.int (kA k.2 i)) = (colK ks zs i).map .int := by
        unfold colK
        rw [List.map_map]
        rfl
      rw [he] at hc
      have hs := sortSet_l (S := S) (is := colK ks zs i) (by have := colK_len (ks := ks) (zs := zs) (i := i); have := h.kl; omega)
      have ht : tupleN [.d (.list ((sortI (ded (colK ks zs i))).map .int))] S = .ok (.d (keyD (sortI (ded (colK ks zs i))))) S := rfl
      simp -implicitDefEqProofs [pairs_its, hl, hc, hs, ht, -tupleN_l]⟩
  have ht : tupleN [.d (.list ((List.range a.toNat).map fun i => keyD (sortI (ded (colK ks zs i)))))] S = .ok (.d (lockD (leastL a.toNat ks zs))) S := by
    unfold leastL lockD
    rw [List.map_map]
    rfl
  have hl2 : a.toNat ≤ 16777216 := by omega
  simp -implicitDefEqProofs [F_lock_in, fnD_ap, t_lock_in, hr, hl2, hc, ht, -tupleN_l]
def opD (ds : List (Str × List (List Int))) (ks : List (Str × List Int)) (d : Str × List (List Int)) : Str × List (List Int) := (d.1, if openers ds ks d.1 = [] then d.2 else leastL d.2.length ks (openers ds ks d.1))
def tightD (ds : List (Str × List (List Int))) (ks : List (Str × List Int)) : List (Str × List (List Int)) := ds.map (opD ds ks)
theorem openers_ok (h : SysOk a b c ds ks) : ∀ w, w ∈ openers ds ks z → PyData.strOk w = true := fun w hw => by
  obtain ⟨k, hk, rfl⟩ := List.mem_map.mp hw
  exact (h.kname (List.mem_filter.mp hk).1).2
theorem eqN_strs : eqD (.d (strsL zs)) (.d (.list [])) S = (if SeqAt.shaped (strsL zs) = true then .ok (.d (.bool zs.isEmpty)) S else .bad) := by
  rw [eqD_d]
  have : PyData.eqv (strsL zs) (.list []) = zs.isEmpty := by
    show PyData.eqvAll (zs.map .str) [] = _
    rw [eqvAll_nil]
    cases zs <;> rfl
  simp [this]
theorem neN_strs (h : ∀ w, w ∈ zs → PyData.strOk w = true) : neD (.d (strsL zs)) (.d (.list [])) S = .ok (.d (.bool (!zs.isEmpty))) S := by
  rw [neD_d]
  have : PyData.eqv (strsL zs) (.list []) = zs.isEmpty := by
    show PyData.eqvAll (zs.map .str) [] = _
    rw [eqvAll_nil]
    cases zs <;> rfl
  rw [if_pos ⟨(shaped_strs h).1, shaped_nil⟩, this]
theorem e_tightened (h : SysOk a b c ds ks) : F_tightened [.d (sysD (mkD' a b c) ds ks)] S = .ok (.d (sysD (mkD' a b c) (tightD ds ks) ks)) S := by
  have l1 : ds.length ≤ 40 := h.dl
  have l2 : ks.length ≤ 16777216 := by have := h.kl; omega
  generalize hR : F_tightened _ _ = R
  simp -implicitDefEqProofs [F_tightened, fnD_ap, t_tightened, e_need_system h, e_table_in h, ix_ds, pairs_its] at hR
  generalize hX : forL _ _ _ _ _ = X at hR
  have hw : X.To (fun ρ S' => S' = S ++ [.lst ((tightD ds ks).map (pr lockD))] ∧ ∃ x3 x4 x5, ρ = [some (.d (sysD (mkD' a b c) ds ks)), some (.d (sdD (fun K => strsL (opened ds K)) ks)), some (.r S.length), x3, x4, x5, none]) fun _ _ => False := by
    rw [← hX]
    refine for_to (fun i ρ S' => S' = S ++ [.lst (((ds.take i).map (opD ds ks)).map (pr lockD))] ∧ ∃ x3 x4 x5, ρ = [some (.d (sysD (mkD' a b c) ds ks)), some (.d (sdD (fun K => strsL (opened ds K)) ks)), some (.r S.length), x3, x4, x5, none]) ⟨rfl, _, _, _, rfl⟩ ?_ ?_
    · rintro ρ S' ⟨rfl, h1⟩
      rw [List.length_map, List.take_length]
      exact ⟨rfl, h1⟩
    · rintro i d ρ S' hd ⟨rfl, x3, x4, x5, rfl⟩
      rw [List.getElem?_map, Option.map_eq_some_iff] at hd
      obtain ⟨d, hi, rfl⟩ := hd
      have hdm := List.mem_of_getElem? hi
      have hdn := (h.dname hdm).2
      have hil : i < ds.length := (List.getElem?_eq_some_iff.mp hi).1
      refine ⟨_, rfl, ?_⟩
      have hc := fun T : Sto => compL_map (S := T) (tg := gN 6) (own := [6]) (tst := dTest (dOp2 (inA false) (dVar 3) (dOp2 ixA (dVar 1) (dVar 6)))) (el := dVar 6) (ρ := [some (.d (sysD (mkD' a b c) ds ks)), some (.d (sdD (fun K => strsL (opened ds K)) ks)), some (.r S.length), some (.d (.str d.1)), some (.d (lockD d.2)), x5, none])
        (fun k : Str × List Int => PyData.str k.1) (fun k => decide (d.1 ∈ opened ds k.2)) (fun k => .str k.1) ks fun k hk => ⟨_, rfl, by
          have e1 : ixA (.d (sdD (fun K => strsL (opened ds K)) ks)) (.d (.str k.1)) T = .ok (.d (strsL (opened ds k.2))) T := ixA_s (getS_mem (pw_nodup h.kn.1) hk)
          have e2 := inD_strsL (S := T) (neg := false) (zs := opened ds k.2) (z := d.1) (fun w hw => (h.dn.2 w (opened_mem hw)).2) hdn
          have e2 : inA false (.d (.str d.1)) (.d (strsL (opened ds k.2))) T = .ok (.d (.bool (decide (d.1 ∈ opened ds k.2)))) T := e2
          simp -implicitDefEqProofs [e1, e2], fun _ => rfl⟩
      have ho : ((ks.filter fun k => decide (d.1 ∈ opened ds k.2)).map fun k => PyData.str k.1) = (openers ds ks d.1).map .str := by
        unfold openers
        rw [List.map_map]
        rfl
      rw [ho] at hc
      have hlst : ∀ zs : List Str, PyData.list (zs.map .str) = strsL zs := fun _ => rfl
      have hne := fun T : Sto => neN_strs (S := T) (zs := openers ds ks d.1) (openers_ok h)
      have hli := fun T : Sto => e_lock_in (S := T) (zs := openers ds ks d.1) h (openers_ok h)
      have hcast : (d.2.length : Int) = a := (h.lk d hdm).1
      have hcast : a.toNat = d.2.length := by omega
      rw [hcast] at hli
      have hts : ((ds.take (i + 1)).map (opD ds ks)).map (pr lockD) = ((ds.take i).map (opD ds ks)).map (pr lockD) ++ [pr lockD (opD ds ks d)] := by
        rw [List.take_add_one, hi]
        simp
      have happ := app_end (S := S) (xs := ((ds.take i).map (opD ds ks)).map (pr lockD)) (x := pr lockD (opD ds ks d)) (by
        simp
        omega)
      rw [← hts] at happ
      generalize hxs : ((ds.take i).map (opD ds ks)).map (pr lockD) = xs at *
      generalize hys : ((ds.take (i + 1)).map (opD ds ks)).map (pr lockD) = ys at *
      conv => arg 1; simp -implicitDefEqProofs [itKeys_s, l2, hc, hlst, hne, isLst_end, ix_mk, ix_ks, hli, -neD_d]
      by_cases hz : openers ds ks d.1 = []
      · have hpr : pr lockD (opD ds ks d) = .tuple [.str d.1, lockD d.2] := by simp [pr, opD, hz]
        rw [hpr] at happ
        conv => arg 1; simp -implicitDefEqProofs [hz, happ]
        exact ⟨rfl, _, _, _, rfl⟩
      · have hpr : pr lockD (opD ds ks d) = .tuple [.str d.1, lockD (leastL d.2.length ks (openers ds ks d.1))] := by simp [pr, opD, hz]
        rw [hpr] at happ
        have hz' : (openers ds ks d.1).isEmpty = false := by cases h : openers ds ks d.1 <;> simp_all
        conv => arg 1; simp -implicitDefEqProofs [hz, hz', happ]
        exact ⟨rfl, _, _, _, rfl⟩
  obtain ⟨ρ', S', rfl, rfl, x3, x4, x5, rfl⟩ := To_nx_inv hw
  rw [← hR]
  have ht : ∀ ys : List D, tupleN [.r S.length] (S ++ [.lst ys]) = .ok (.d (.tuple ys)) (S ++ [.lst ys]) := fun _ => tupleN_end
  have hpd : PyData.tuple ((tightD ds ks).map (pr lockD)) = pairsD lockD (tightD ds ks) := rfl
  simp -implicitDefEqProofs [ix_mk, ix_ks, ht, hpd]
  rfl
end
end LW
namespace LW
open PySem PySem.Spec PyProof.Rows L2 DL
section
variable {S : Sto} {a b c : Int} {ds es : List (Str × List (List Int))} {ks : List (Str × List Int)} {K : List Int} {L M : List (List Int)} {n : Nat} {zs : List Str} {qs : List (Str × Str)} {z : Str}
/-- a make, named keys, doors and wanted pairs -/
structure PlanOk (a b c : Int) (ks : List (Str × List Int)) (zs : List Str) (qs : List (Str × Str)) : Prop where
  sy : SysOk a b c [] ks
  zn : NamesOk zs
  zl : zs.length ≤ 40
  ql : qs.length ≤ 100000
  qr : qs.Pairwise fun x y => pLt x y = true
  qi : ∀ q, q ∈ qs → q.1 ∈ ks.map (·.1) ∧ q.2 ∈ zs
  qz : ∀ z, z ∈ zs → ∃ q, q ∈ qs ∧ q.2 = z
theorem PlanOk.ok (h : PlanOk a b c ks zs qs) : ∀ q, q ∈ qs → POk q := fun q hq => ⟨(h.sy.kn.2 _ (h.qi q hq).1).2, (h.zn.2 _ (h.qi q hq).2).2⟩
def sndS (qs : List (Str × Str)) : List Str := qs.map (·.2)
theorem strs_can (h : ∀ z, z ∈ zs → PyData.strOk z = true) : (PyData.tuple (zs.map .str)).canLay0 = true := (shaped_iff.mp (shaped_strs h).2).1
theorem e_rising_t (h : NamesOk zs) (hl : zs.length ≤ 16777216) : F_is_rising [.d (.tuple (zs.map .str))] S = .ok (.d (.bool true)) S := by
  have hm : ∀ q, q ∈ zs.zip zs.tail → PyData.strOk q.1 = true ∧ PyData.strOk q.2 = true := fun q hq => by
    obtain ⟨h1, h2⟩ := List.of_mem_zip (show (q.1, q.2) ∈ zs.zip zs.tail from hq)
    exact ⟨(h.2 _ h1).2, (h.2 _ (List.mem_of_mem_tail h2)).2⟩
  have hc := compL_mapY (S := S) (tg := gT (gsC (gN 1) (gsC (gN 2) gsN))) (own := [1, 2]) (el := dOp2 ltD (dVar 1) (dVar 2)) (ρ := [some (.d (.tuple (zs.map .str))), none, none])
    (fun q : Str × Str => PyData.tuple [.str q.1, .str q.2]) (fun q => .bool (sLt q.1 q.2)) (zs.zip zs.tail) fun q hq => ⟨_, rfl, by simp [ltD_s (hm q hq).1 (hm q hq).2]⟩
  have hl2 : (zs.zip zs.tail).length ≤ 16777216 := by simp; omega
  simp -implicitDefEqProofs [F_is_rising, fnD_ap, t_is_rising, ← List.map_tail, zipL_strs, hl2, -List.length_zip]
  rw [hc]
  simp [all_mapb, risS_zip, risS_pw.mpr h.1]
theorem zip_pw {α : Type} {R : α → α → Prop} : ∀ {l : List α}, l.Pairwise R → ∀ q, q ∈ l.zip l.tail → R q.1 q.2
  | [], _, q, hq => by simp at hq
  | [x], _, q, hq => by simp at hq
  | x :: y :: r, h, q, hq => by
    rw [List.tail_cons, List.zip_cons_cons] at hq
    rcases List.mem_cons.mp hq with rfl | hq
    · exact List.rel_of_pairwise_cons h (by simp)
    · exact zip_pw (List.pairwise_cons.mp h).2 q hq
theorem e_rising_p (h1 : ∀ q, q ∈ qs → POk q) (h2 : qs.Pairwise fun x y => pLt x y = true) (hl : qs.length ≤ 16777216) : F_is_rising [.d (.tuple (qs.map pD))] S = .ok (.d (.bool true)) S := by
  have hc := compL_mapY (S := S) (tg := gT (gsC (gN 1) (gsC (gN 2) gsN))) (own := [1, 2]) (el := dOp2 ltD (dVar 1) (dVar 2)) (ρ := [some (.d (.tuple (qs.map pD))), none, none])
    (fun q : (Str × Str) × (Str × Str) => PyData.tuple [pD q.1, pD q.2]) (fun _ => .bool true) (qs.zip qs.tail) fun q hq => ⟨_, rfl, by
      obtain ⟨m1, m2⟩ := List.of_mem_zip (show (q.1, q.2) ∈ qs.zip qs.tail from hq)
      simp [ltD_p (h1 _ m1) (h1 _ (List.mem_of_mem_tail m2)) (zip_pw h2 q hq)]⟩
  have hl2 : (qs.zip qs.tail).length ≤ 16777216 := by simp; omega
  have hz : zipL (qs.map pD) (qs.tail.map pD) = (qs.zip qs.tail).map fun q => .tuple [pD q.1, pD q.2] := pair_zip _ _ _ _
  have hall := all_mapb (S := S) (qs.zip qs.tail) fun _ => true
  simp -implicitDefEqProofs [F_is_rising, fnD_ap, t_is_rising, ← List.map_tail, hz, hl2, -List.length_zip]
  rw [hc]
  simp [hall]
theorem e_need_keys (h : SysOk a b c [] ks) : F_need_keys [.d (mkD' a b c), .d (pairsD keyD ks)] S = .ok (.d .none) S := by
  have ha := h.mo.1
  have hl : ks.length ≤ 16777216 := by have := h.kl; omega
  have e1 := e_fits_named (S := S) (v := pairsD keyD ks) (pairs_can fun kv hk => ⟨(h.kname hk).2, key_can⟩) (pairs_short fun kv hk => (h.kname hk).1)
  rw [pairs_named h.kn h.kl] at e1
  have hc := compL_mapY (S := S) (tg := gT (gsC (gN 2) (gsC (gN 3) gsN))) (own := [2, 3]) (el := dFn F_fits_key (aCons (dVar 0) (aCons (dVar 3) aNil))) (ρ := [some (.d (mkD' a b c)), some (.d (pairsD keyD ks)), none, none])
    (fun k : Str × List Int => PyData.tuple [.str k.1, keyD k.2]) (fun _ => .bool true) ks fun k hk => ⟨_, rfl, by
      have := e_fits_key (S := S) (a := a) (b := b) (c := c) (v := keyD k.2) key_can (by omega)
      rw [(h.ky k hk).keyB] at this
      simp -implicitDefEqProofs [this]⟩
  have hall := all_mapb (S := S) ks fun _ => true
  simp -implicitDefEqProofs [F_need_keys, fnD_ap, t_need_keys, e1, pairs_its, hl]
  rw [hc]
  simp [hall]
theorem e_need_doors (h : NamesOk zs) (hl : zs.length ≤ 40) : F_need_doors [.d (.tuple (zs.map .str))] S = .ok (.d .none) S := by
  have e1 := e_is_tuple_of (S := S) (lo := 0) (hi := 40) (strs_can fun z hz => (h.2 z hz).2)
  have e2 : tupOf 0 40 (.tuple (zs.map .str)) = true := by
    simp [tupOf]
    omega
  rw [e2] at e1
  have hl2 : zs.length ≤ 16777216 := by omega
  have hc := compL_mapY (S := S) (tg := gN 1) (own := [1]) (el := dFn F_fits_name (aCons (dVar 1) aNil)) (ρ := [some (.d (.tuple (zs.map .str))), none])
    PyData.str (fun _ => .bool true) zs fun z hz => ⟨_, rfl, by
      have hn := h.2 z hz
      have := e_fits_name (S := S) (d := .str z) (by simp [PyData.canLay0, hn.2]) (fun w e => by cases e; have := name_len hn.1; omega)
      rw [hn.1] at this
      simp -implicitDefEqProofs [this]⟩
  have hall := all_mapb (S := S) zs fun _ => true
  simp -implicitDefEqProofs [F_need_doors, fnD_ap, t_need_doors, e1, hl2, e_rising_t h hl2]
  rw [hc]
  simp [hall, e_rising_t h hl2]
theorem e_need_wanted (h : PlanOk a b c ks zs qs) : F_need_wanted [.d (pairsD keyD ks), .d (.tuple (zs.map .str)), .d (.tuple (qs.map pD))] S = .ok (.d .none) S := by
  have hkl : ks.length ≤ 16777216 := by have := h.sy.kl; omega
  have hzl : zs.length ≤ 16777216 := by have := h.zl; omega
  have hql : qs.length ≤ 16777216 := by have := h.ql; omega
  have hp := h.ok
  have hkn : ∀ z, z ∈ fstS ks → PyData.strOk z = true := fun z hz => (h.sy.kn.2 z hz).2
  have hzn : ∀ z, z ∈ zs → PyData.strOk z = true := fun z hz => (h.zn.2 z hz).2
  have c1 := compL_mapY (S := S) (tg := gT (gsC (gN 4) (gsC (gN 5) gsN))) (own := [4, 5]) (el := dVar 4) (ρ := [some (.d (pairsD keyD ks)), some (.d (.tuple (zs.map .str))), some (.d (.tuple (qs.map pD))), none, none, none, none, none, none])
    (fun k : Str × List Int => PyData.tuple [.str k.1, keyD k.2]) (fun k => .str k.1) ks fun k hk => ⟨_, rfl, rfl⟩
  have f1 : ks.map (fun k => PyData.str k.1) = (fstS ks).map .str := by simp [fstS]
  rw [f1] at c1
  have c2 := compL_mapY (S := S) (tg := gN 6) (own := [6]) (el := dFn F_is_tuple_of (aCons (dVar 6) (aCons (dC (.int 2)) (aCons (dC (.int 2)) aNil)))) (ρ := [some (.d (pairsD keyD ks)), some (.d (.tuple (zs.map .str))), some (.d (.tuple (qs.map pD))), some (.d (.list ((fstS ks).map .str))), none, none, none, none, none])
    pD (fun _ => .bool true) qs fun q hq => ⟨_, rfl, by
      have := e_is_tuple_of (S := S) (lo := 2) (hi := 2) (pD_can (hp q hq)).1
      have e2 : tupOf 2 2 (pD q) = true := rfl
      rw [e2] at this
      simp -implicitDefEqProofs [this]⟩
  have c3 := compL_mapY (S := S) (tg := gT (gsC (gN 4) (gsC (gN 7) gsN))) (own := [4, 7]) (el := dAndV (dFn F_fits_name (aCons (dVar 4) aNil)) (dAndV (dOp2 (inD false) (dVar 4) (dVar 3)) (dAndV (dFn F_fits_name (aCons (dVar 7) aNil)) (dOp2 (inD false) (dVar 7) (dVar 1))))) (ρ := [some (.d (pairsD keyD ks)), some (.d (.tuple (zs.map .str))), some (.d (.tuple (qs.map pD))), some (.d (.list ((fstS ks).map .str))), none, none, none, none, none])
    pD (fun _ => .bool true) qs fun q hq => ⟨_, rfl, by
      obtain ⟨i1, i2⟩ := h.qi q hq
      have n1 := h.sy.kn.2 _ i1
      have n2 := h.zn.2 _ i2
      have g1 := e_fits_name (S := S) (d := .str q.1) (by simp [PyData.canLay0, n1.2]) (fun w e => by cases e; have := name_len n1.1; omega)
      rw [n1.1] at g1
      have g2 := e_fits_name (S := S) (d := .str q.2) (by simp [PyData.canLay0, n2.2]) (fun w e => by cases e; have := name_len n2.1; omega)
      rw [n2.1] at g2
      have g3 := (inD_ss (S := S) (neg := false) (zs := fstS ks) n1.2 hkn).1
      have i1' : q.1 ∈ fstS ks := i1
      have g4 := (inD_ss (S := S) (neg := false) (zs := zs) n2.2 hzn).2
      simp -implicitDefEqProofs [g1, g2, g3, g4, i1', i2]⟩
  have c4 := compL_map (S := S) (tg := gN 7) (own := [7]) (tst := dTest (dOp2 (inD true) (dVar 7) (dComp (dIt (dVar 2)) (gN 8) [8] tstY (dOp2 ixD (dVar 8) (dC (.int 1)))))) (el := dVar 7) (ρ := [some (.d (pairsD keyD ks)), some (.d (.tuple (zs.map .str))), some (.d (.tuple (qs.map pD))), some (.d (.list ((fstS ks).map .str))), none, none, none, none, none])
    PyData.str (fun _ => false) PyData.str zs fun z hz => ⟨_, rfl, by
      have c5 := compL_mapY (S := S) (tg := gN 8) (own := [8]) (el := dOp2 ixD (dVar 8) (dC (.int 1))) (ρ := [some (.d (pairsD keyD ks)), some (.d (.tuple (zs.map .str))), some (.d (.tuple (qs.map pD))), some (.d (.list ((fstS ks).map .str))), none, none, none, some (.d (.str z)), none]) pD (fun q => .str q.2) qs fun q hq => ⟨_, rfl, by simp [pD]⟩
      have f2 : qs.map (fun q => PyData.str q.2) = (sndS qs).map .str := by simp [sndS]
      rw [f2] at c5
      have g5 := (inD_ss (S := S) (neg := true) (zs := sndS qs) (hzn z hz) (fun w hw => by
        obtain ⟨q, hq, rfl⟩ := List.mem_map.mp hw
        exact (hp q hq).2)).1
      obtain ⟨q, hq, rfl⟩ := h.qz z hz
      have m : q.2 ∈ sndS qs := List.mem_map.mpr ⟨q, hq, rfl⟩
      simp -implicitDefEqProofs only [if_true, m, decide_true, Bool.not_true] at g5
      simp -implicitDefEqProofs [hql, c5, g5], fun h => by cases h⟩
  have f3 : (zs.filter fun _ => false) = [] := by simp
  rw [f3] at c4
  have hall := all_mapb (S := S) qs fun _ => true
  have hr := e_rising_p (S := S) hp h.qr hql
  have his : isiD .tuple (.d (.tuple (qs.map pD))) S = .ok (.d (.bool true)) S := rfl
  have hpi : itSeq (.d (.tuple (qs.map pD))) S = .ok (qs.map pD) S := rfl
  simp -implicitDefEqProofs [F_need_wanted, fnD_ap, t_need_wanted, pairs_its, hkl, hzl, hql, c1, c2, c3, c4, hall, hr, his, -List.map_const, -List.map_const']
theorem e_need_all (h : PlanOk a b c ks zs qs) : F_need_all [.d (mkD' a b c), .d (pairsD keyD ks), .d (.tuple (zs.map .str)), .d (.tuple (qs.map pD))] S = .ok (.d .none) S := by
  simp -implicitDefEqProofs [F_need_all, fnD_ap, t_need_all, e_need_make mk_can (makeB_ok h.sy.mo), e_need_keys h.sy, e_need_doors h.zn h.zl, e_need_wanted h]
/-- the keys that shall open a door -/
def wantK (qs : List (Str × Str)) (z : Str) : List Str := (qs.filter fun q => decide (q.2 = z)).map (·.1)
def planL (n : Nat) (ks : List (Str × List Int)) (qs : List (Str × Str)) (zs : List Str) : List (Str × List (List Int)) := zs.map fun z => (z, leastL n ks (wantK qs z))
theorem wantK_ok (h : PlanOk a b c ks zs qs) : ∀ w, w ∈ wantK qs z → PyData.strOk w = true := fun w hw => by
  obtain ⟨q, hq, rfl⟩ := List.mem_map.mp hw
  exact (h.ok q (List.mem_filter.mp hq).1).1
theorem e_locks_for (h : PlanOk a b c ks zs qs) : F_locks_for [.d (mkD' a b c), .d (pairsD keyD ks), .d (.tuple (zs.map .str)), .d (.tuple (qs.map pD))] S = .ok (.d (sdD lockD (planL a.toNat ks qs zs))) S := by
  have hzl : zs.length ≤ 16777216 := by have := h.zl; omega
  have hql : qs.length ≤ 16777216 := by have := h.ql; omega
  have hc := dcL_s (S := S) (tg := gN 4) (own := [4]) (kx := dVar 4) (vx := dFn F_lock_in (aCons (dVar 0) (aCons (dVar 1) (aCons (dComp (dIt (dVar 3)) (gT (gsC (gN 5) (gsC (gN 6) gsN))) [5, 6] (dTest (dOp2 eqD (dVar 6) (dVar 4))) (dVar 5)) aNil)))) (ρ := [some (.d (mkD' a b c)), some (.d (pairsD keyD ks)), some (.d (.tuple (zs.map .str))), some (.d (.tuple (qs.map pD))), none, none, none])
    PyData.str id (fun z => lockD (leastL a.toNat ks (wantK qs z))) zs [] (fun z hz => ⟨_, rfl, rfl, by
      have hzs := (h.zn.2 z hz).2
      have hi := compL_map (S := S) (tg := gT (gsC (gN 5) (gsC (gN 6) gsN))) (own := [5, 6]) (tst := dTest (dOp2 eqD (dVar 6) (dVar 4))) (el := dVar 5) (ρ := [some (.d (mkD' a b c)), some (.d (pairsD keyD ks)), some (.d (.tuple (zs.map .str))), some (.d (.tuple (qs.map pD))), some (.d (.str z)), none, none])
        pD (fun q => decide (q.2 = z)) (fun q => .str q.1) qs fun q hq => ⟨_, rfl, by
          have := eqv_s (x := q.2) (y := z)
          simp -implicitDefEqProofs [shaped_s hzs, shaped_s (h.ok q hq).2, this]
          rw [Bool.eq_iff_iff]
          simp, fun _ => rfl⟩
      have he : ((qs.filter fun q => decide (q.2 = z)).map fun q => PyData.str q.1) = (wantK qs z).map .str := by
        unfold wantK
        rw [List.map_map]
        rfl
      rw [he] at hi
      have hl := e_lock_in (S := S) (zs := wantK qs z) h.sy (wantK_ok h)
      have hs : PyData.list ((wantK qs z).map .str) = strsL (wantK qs z) := rfl
      simp -implicitDefEqProofs [hql, hi, hs, hl]⟩) (by rw [List.map_id]; exact pw_nodup h.zn.1) (fun q _ z => by cases z)
  have hd : (zs.map fun z => ((Sum.inr (id z) : Key), lockD (leastL a.toNat ks (wantK qs z)))) = zs.map fun z => ((.inr (id z) : Key), lockD (leastL a.toNat ks (wantK qs z))) := rfl
  simp -implicitDefEqProofs [F_locks_for, fnD_ap, t_locks_for, hzl]
  rw [hc, List.nil_append]
  simp -implicitDefEqProofs only [bnd_ok, goR_ok, fin_rt, List.take_length, dictK_s]
  congr 3
  unfold planL
  rw [List.map_map]
  rfl
/-- a pair that is not wanted, and that the plan lets -/
def clashB (n : Nat) (ks : List (Str × List Int)) (qs : List (Str × Str)) (k : Str × List Int) (z : Str) : Bool := !decide ((k.1, z) ∈ qs) && opensB k.2 (leastL n ks (wantK qs z))
def clashP (n : Nat) (ks : List (Str × List Int)) (qs : List (Str × Str)) (zs : List Str) (k : Str × List Int) : List (Str × Str) := (zs.filter fun z => clashB n ks qs k z).map fun z => (k.1, z)
theorem leastL_len : (leastL n ks zs).length = n := by simp [leastL]
theorem plan_get (hn : zs.Nodup) (hz : z ∈ zs) : getS (planL n ks qs zs) z = some (leastL n ks (wantK qs z)) := by
  have := getS_mem (kvs := planL n ks qs zs) (k := z) (x := leastL n ks (wantK qs z)) (by
    have e : (planL n ks qs zs).map (·.1) = zs := by simp [planL, Function.comp_def]
    rw [e]
    exact hn) (List.mem_map.mpr ⟨z, hz, rfl⟩)
  exact this
theorem clashP_len {k : Str × List Int} : (clashP n ks qs zs k).length ≤ zs.length := by
  unfold clashP
  rw [List.length_map]
  exact List.length_filter_le _ _
theorem e_clashes_in (h : PlanOk a b c ks zs qs) : F_clashes_in [.d (mkD' a b c), .d (pairsD keyD ks), .d (.tuple (zs.map .str)), .d (.tuple (qs.map pD))] S = .ok (.d (.list ((ks.flatMap (clashP a.toNat ks qs zs)).map pD))) S := by
  have ha := h.sy.mo.1
  have hzl : zs.length ≤ 16777216 := by have := h.zl; omega
  have hnd := pw_nodup h.zn.1
  generalize hR : F_clashes_in _ _ = R
  simp -implicitDefEqProofs [F_clashes_in, fnD_ap, t_clashes_in, e_locks_for h, pairs_its] at hR
  generalize hX : forL _ _ _ _ _ = X at hR
  have hw : X.To (fun ρ S' => S' = S ++ [.lst ((ks.flatMap (clashP a.toNat ks qs zs)).map pD)] ∧ ∃ x6 x7, ρ = [some (.d (mkD' a b c)), some (.d (pairsD keyD ks)), some (.d (.tuple (zs.map .str))), some (.d (.tuple (qs.map pD))), some (.d (sdD lockD (planL a.toNat ks qs zs))), some (.r S.length), x6, x7, none]) fun _ _ => False := by
    rw [← hX]
    refine for_to (fun i ρ S' => S' = S ++ [.lst (((ks.take i).flatMap (clashP a.toNat ks qs zs)).map pD)] ∧ ∃ x6 x7, ρ = [some (.d (mkD' a b c)), some (.d (pairsD keyD ks)), some (.d (.tuple (zs.map .str))), some (.d (.tuple (qs.map pD))), some (.d (sdD lockD (planL a.toNat ks qs zs))), some (.r S.length), x6, x7, none]) ⟨rfl, _, _, rfl⟩ ?_ ?_
    · rintro ρ S' ⟨rfl, h1⟩
      rw [List.length_map, List.take_length]
      exact ⟨rfl, h1⟩
    · rintro i d ρ S' hd ⟨rfl, x6, x7, rfl⟩
      rw [List.getElem?_map, Option.map_eq_some_iff] at hd
      obtain ⟨k, hi, rfl⟩ := hd
      have hkm := List.mem_of_getElem? hi
      have hk := h.sy.ky k hkm
      have hkl := hk.1
      have hil : i < ks.length := (List.getElem?_eq_some_iff.mp hi).1
      refine ⟨_, rfl, ?_⟩
      have hc := fun T : Sto => compL_map (S := T) (tg := gN 8) (own := [8]) (tst := dAndT (dTest (dOp2 (inA true) (dTup (aCons (dVar 6) (aCons (dVar 8) aNil))) (dVar 3))) (dTru (dFn F_does_open (aCons (dVar 7) (aCons (dOp2 ixA (dVar 4) (dVar 8)) aNil))))) (el := dTup (aCons (dVar 6) (aCons (dVar 8) aNil))) (ρ := [some (.d (mkD' a b c)), some (.d (pairsD keyD ks)), some (.d (.tuple (zs.map .str))), some (.d (.tuple (qs.map pD))), some (.d (sdD lockD (planL a.toNat ks qs zs))), some (.r S.length), some (.d (.str k.1)), some (.d (keyD k.2)), none])
        PyData.str (fun z => clashB a.toNat ks qs k z) (fun z => pD (k.1, z)) zs fun z hz => ⟨_, rfl, by
          have e1 := inA_psT (S := T) (neg := true) (q := (k.1, z)) (qs := qs) ⟨(h.sy.kname hkm).2, (h.zn.2 z hz).2⟩ h.ok
          have e1 : inA true (.d (.tuple [.str k.1, .str z])) (.d (.tuple (qs.map pD))) T = .ok (.d (.bool (!decide ((k.1, z) ∈ qs)))) T := e1
          have e2 : ixA (.d (sdD lockD (planL a.toNat ks qs zs))) (.d (.str z)) T = .ok (.d (lockD (leastL a.toNat ks (wantK qs z)))) T := ixA_s (plan_get hnd hz)
          have e3 := e_does_open (S := T) (K := k.2) (L := leastL a.toNat ks (wantK qs z)) (n := a.toNat) (by omega) leastL_len (by omega)
          have hb : ∀ b : Bool, b = true ∨ b = false := by decide
          unfold clashB
          generalize opensB k.2 (leastL a.toNat ks (wantK qs z)) = o at *
          generalize decide ((k.1, z) ∈ qs) = w at *
          cases w <;> simp -implicitDefEqProofs [e1, e2, e3], fun _ => by simp [pD]⟩
      have he : ((zs.filter fun z => clashB a.toNat ks qs k z).map fun z => pD (k.1, z)) = (clashP a.toNat ks qs zs k).map pD := by
        unfold clashP
        rw [List.map_map]
        rfl
      rw [he] at hc
      have htk : (ks.take (i + 1)).flatMap (clashP a.toNat ks qs zs) = (ks.take i).flatMap (clashP a.toNat ks qs zs) ++ clashP a.toNat ks qs zs k := by
        rw [List.take_add_one, hi, List.flatMap_append]
        simp
      have hfl : ((ks.take i).flatMap (clashP a.toNat ks qs zs)).length ≤ 40 * (ks.take i).length := flat_len (fun k => by have := clashP_len (n := a.toNat) (ks := ks) (qs := qs) (zs := zs) (k := k); have := h.zl; omega) _
      have hfl2 := List.length_take_le i ks
      have hkl2 := h.sy.kl
      have hcl := clashP_len (n := a.toNat) (ks := ks) (qs := qs) (zs := zs) (k := k)
      have hzl2 := h.zl
      rw [htk, List.map_append]
      generalize (ks.take i).flatMap (clashP a.toNat ks qs zs) = xs at *
      generalize clashP a.toNat ks qs zs k = ys at *
      have hext := extD_l (n := S.length) (S := S ++ [.lst (xs.map pD)]) (xs := xs.map pD) (ys := ys.map pD) (by simp) (by simp; omega)
      have hset : (S ++ [Cell.lst (xs.map pD)]).set S.length (.lst (xs.map pD ++ ys.map pD)) = S ++ [.lst (xs.map pD ++ ys.map pD)] := by simp
      rw [hset] at hext
      conv => arg 1; simp -implicitDefEqProofs [hzl, hc, hext]
      exact ⟨rfl, _, _, rfl⟩
  obtain ⟨ρ', S', rfl, rfl, x6, x7, rfl⟩ := To_nx_inv hw
  rw [← hR]
  have hcell : ∀ xs : List D, (S ++ [Cell.lst xs])[S.length]? = some (.lst xs) := fun _ => by simp
  simp -implicitDefEqProofs [hcell, Cell.dat]
theorem e_planned (h : PlanOk a b c ks zs qs) (hno : ks.flatMap (clashP a.toNat ks qs zs) = []) : F_planned [.d (mkD' a b c), .d (pairsD keyD ks), .d (.tuple (zs.map .str)), .d (.tuple (qs.map pD))] S = .ok (.d (sysD (mkD' a b c) (planL a.toNat ks qs zs) ks)) S := by
  have hzl : zs.length ≤ 16777216 := by have := h.zl; omega
  have e1 := e_clashes_in (S := S) h
  rw [hno] at e1
  have hnd := pw_nodup h.zn.1
  have hc := compL_mapY (S := S) (tg := gN 5) (own := [5]) (el := dTup (aCons (dVar 5) (aCons (dOp2 ixA (dVar 4) (dVar 5)) aNil))) (ρ := [some (.d (mkD' a b c)), some (.d (pairsD keyD ks)), some (.d (.tuple (zs.map .str))), some (.d (.tuple (qs.map pD))), some (.d (sdD lockD (planL a.toNat ks qs zs))), none])
    PyData.str (fun z => pr lockD (z, leastL a.toNat ks (wantK qs z))) zs fun z hz => ⟨_, rfl, by
      have e2 : ixA (.d (sdD lockD (planL a.toNat ks qs zs))) (.d (.str z)) S = .ok (.d (lockD (leastL a.toNat ks (wantK qs z)))) S := ixA_s (plan_get hnd hz)
      simp -implicitDefEqProofs [e2, pr]⟩
  have ht : tupleN [.d (.list (zs.map fun z => pr lockD (z, leastL a.toNat ks (wantK qs z))))] S = .ok (.d (pairsD lockD (planL a.toNat ks qs zs))) S := by
    unfold planL pairsD
    rw [List.map_map]
    rfl
  simp -implicitDefEqProofs [F_planned, fnD_ap, t_planned, e_need_all h, e1, e_locks_for h, hzl, hc, ht, -tupleN_l]
  rfl
end
end LW
namespace LW
open PySem PySem.Spec PyProof.Rows L2 DL
section
variable {S : Sto} {a b c : Int} {ds es : List (Str × List (List Int))} {ks : List (Str × List Int)} {K : List Int} {L M : List (List Int)} {n : Nat} {zs : List Str} {qs : List (Str × Str)} {z : Str}
theorem e_l_lock_of (h : SysOk a b c ds ks) (hz : ∀ z, z ∈ zs → PyData.strOk z = true) : F_l_lock_of [.d (mkD' a b c), .d (pairsD keyD ks), .d (strsL zs)] S = .ok (.d (lockD (leastL a.toNat ks zs))) S := by
  have ha := h.mo.1
  have hl : ks.length ≤ 16777216 := by have := h.kl; omega
  have hr := itR1_pos (b := a) (S := S) (by omega) (by omega)
  generalize hR : F_l_lock_of _ _ = R
  simp -implicitDefEqProofs [F_l_lock_of, fnD_ap, t_l_lock_of, hr] at hR
  generalize hX : forL _ _ _ _ _ = X at hR
  have hw : X.To (fun ρ S' => S' = S ∧ ∃ x4 x5 x6, ρ = [some (.d (mkD' a b c)), some (.d (pairsD keyD ks)), some (.d (strsL zs)), some (.d (lockD (leastL a.toNat ks zs))), x4, x5, x6]) fun _ _ => False := by
    rw [← hX]
    refine for_to (fun i ρ S' => S' = S ∧ ∃ x4, ρ = [some (.d (mkD' a b c)), some (.d (pairsD keyD ks)), some (.d (strsL zs)), some (.d (lockD (leastL i ks zs))), x4, none, none]) ⟨rfl, _, rfl⟩ ?_ ?_
    · rintro ρ S' ⟨rfl, x4, h1⟩
      rw [List.length_map, List.length_range] at h1
      exact ⟨rfl, x4, _, _, h1⟩
    · rintro i d ρ S' hd ⟨rfl, x4, rfl⟩
      rw [List.getElem?_map, Option.map_eq_some_iff] at hd
      obtain ⟨j, hj, rfl⟩ := hd
      obtain ⟨hj1, hj2⟩ := List.getElem?_eq_some_iff.mp hj
      have hji : j = i := by simpa using hj2.symm
      subst hji
      have hj1 : j < a.toNat := by simpa using hj1
      refine ⟨_, rfl, ?_⟩
      have hc := compL_map (S := S') (tg := gT (gsC (gN 5) (gsC (gN 6) gsN))) (own := [5, 6]) (tst := dTest (dOp2 (inD false) (dVar 5) (dVar 2))) (el := dTup (aCons (dOp2 ixD (dVar 6) (dVar 4)) (aCons (dC (.bool true)) aNil))) (ρ := [some (.d (mkD' a b c)), some (.d (pairsD keyD ks)), some (.d (strsL zs)), some (.d (lockD (leastL j ks zs))), some (.d (.int (j : Nat))), none, none])
        (fun k : Str × List Int => PyData.tuple [.str k.1, keyD k.2]) (fun k => decide (k.1 ∈ zs)) (fun k => .tuple [.int (kA k.2 j), .bool true]) ks fun k hk => ⟨_, rfl, by
          have := inD_strsL (S := S') (neg := false) hz (h.kname hk).2
          simp -implicitDefEqProofs [this], fun _ => by
          have hl := (h.ky k hk).1
          simp -implicitDefEqProofs [key_at (show j < k.2.length by omega)]⟩
      have he : ((ks.filter fun k => decide (k.1 ∈ zs)).map fun k => PyData.tuple [.int (kA k.2 j), .bool true]) = (colK ks zs j).map fun i => .tuple [.int i, .bool true] := by
        unfold colK
        rw [List.map_map]
        rfl
      rw [he] at hc
      have hcl := colK_len (ks := ks) (zs := zs) (i := j)
      have hdl := ded_len (colK ks zs j)
      have hs := sortedDI_ints (.bool true) (ded (colK ks zs j)) S' (by have := h.kl; omega)
      have hd := dictN_ints (.bool true) (colK ks zs j) S'
      have ht : tupleN [.d (.list ((sortI (ded (colK ks zs j))).map .int))] S' = .ok (.d (keyD (sortI (ded (colK ks zs j))))) S' := rfl
      have hadd : addD (.d (lockD (leastL j ks zs))) (.d (.tuple [keyD (sortI (ded (colK ks zs j)))])) S' = .ok (.d (lockD (leastL (j + 1) ks zs))) S' := by
        unfold lockD
        rw [addD_t, if_pos (by simp [leastL]; omega)]
        simp [leastL, List.range_succ]
      conv => arg 1; simp -implicitDefEqProofs [pairs_its, hl, hc, hs, hd, ht, hadd, -tupleN_l]
      exact ⟨rfl, _, rfl⟩
  obtain ⟨ρ', S', rfl, rfl, x4, x5, x6, rfl⟩ := To_nx_inv hw
  rw [← hR]
  simp -implicitDefEqProofs
theorem put_ok {s : List Int} (hL : LockOk a b L) (hn : n < L.length) (hs : SetI b s) : LockOk a b (L.take n ++ [s] ++ L.drop (n + 1)) := by
  have hl := hL.1
  refine ⟨by simp; omega, fun t ht => ?_⟩
  rw [List.mem_append, List.mem_append] at ht
  rcases ht with (ht | ht) | ht
  · exact hL.2 t (List.mem_of_mem_take ht)
  · rw [List.mem_singleton.mp ht]
    exact hs
  · exact hL.2 t (List.mem_of_mem_drop ht)
theorem put_d {s : List Int} (hL : L.length ≤ 16) (hn : n < L.length) : slD (.d (lockD L)) none (some (n : Int)) S = .ok (.d (lockD (L.take n))) S ∧ slD (.d (lockD L)) (some ((n : Int) + 1)) none S = .ok (.d (lockD (L.drop (n + 1)))) S ∧
    addD (.d (lockD (L.take n))) (.d (.tuple [keyD s])) S = .ok (.d (lockD (L.take n ++ [s]))) S ∧ addD (.d (lockD (L.take n ++ [s]))) (.d (lockD (L.drop (n + 1)))) S = .ok (.d (lockD (L.take n ++ [s] ++ L.drop (n + 1)))) S := by
  unfold lockD
  refine ⟨?_, ?_, ?_, ?_⟩
  · rw [slD_t, cut_to (by simp; omega), List.map_take]
  · rw [slD_t, show ((n : Int) + 1) = ((n + 1 : Nat) : Int) by omega, cut_from (by simp; omega), List.map_drop]
  · rw [addD_t, if_pos (by simp; omega), List.map_append]
    rfl
  · rw [addD_t, if_pos (by simp; omega)]
    simp only [List.map_append]
def bentT : DS := (sSeq (sPar 8 9 (aCons (dFn F_l_roll (aCons (dVar 0) (aCons (dOp2 ixD (dVar 2) (dC (.int 0))) aNil))) (aCons (dFn F_l_roll (aCons (dVar 0) (aCons (dC (.int 4)) aNil))) aNil))) (sSeq (sIf (dTest (dOp2 eqD (dVar 9) (dC (.int 0)))) (sSet 7 (dFn F_l_lock (aCons (dVar 0) (aCons (dVar 2) (aCons (dC (.int 3)) aNil))))) (sIf (dTest (dOp2 eqD (dVar 9) (dC (.int 1)))) (sSet 7 (dOp2 addD (dOp2 addD (dSl (dVar 7) oNo (oSo (dVar 8))) (dTup (aCons (dCall tupleN (aCons (dCall sortedDI (aCons (dCall dictN (aCons (dComp (dIt (dOp2 addD (dOp2 ixD (dVar 7) (dVar 8)) (dTup (aCons (dFn F_l_roll (aCons (dVar 0) (aCons (dOp2 ixD (dVar 2) (dC (.int 1))) aNil))) aNil)))) (gN 10) [10] tstY (dTup (aCons (dVar 10) (aCons (dC (.bool true)) aNil)))) aNil)) aNil)) aNil)) aNil))) (dSl (dVar 7) (oSo (dOp2 addD (dVar 8) (dC (.int 1)))) oNo))) (sIf (dAndT (dTest (dOp2 eqD (dVar 9) (dC (.int 2)))) (dTest (dOp2 gtD (dCall lenN (aCons (dOp2 ixD (dVar 7) (dVar 8)) aNil)) (dC (.int 1))))) (sSet 7 (dOp2 addD (dOp2 addD (dSl (dVar 7) oNo (oSo (dVar 8))) (dTup (aCons (dSl (dOp2 ixD (dVar 7) (dVar 8)) (oSo (dC (.int 1))) oNo) aNil))) (dSl (dVar 7) (oSo (dOp2 addD (dVar 8) (dC (.int 1)))) oNo))) sNil))) (sSet 5 (dOp2 addD (dVar 5) (dTup (aCons (dTup (aCons (dVar 6) (aCons (dVar 7) aNil))) aNil))))))
theorem bent_body (u : Int × Int) {T : Sto} {d : Str × List (List Int)} {xs : List D} {x1 x3 x4 x8 x9 : Option U} (hm : MkOk a b c) (hL : LockOk a b d.2) (hx : xs.length ≤ 40) :
    ∃ (L' : List (List Int)) (u' : Int × Int) (y8 y9 : Option U), LockOk a b L' ∧ bentT [some (.r 0), x1, some (.d (mkD' a b c)), x3, x4, some (.d (.tuple xs)), some (.d (.str d.1)), some (.d (lockD d.2)), x8, x9, none] (Cup u :: T) = .nx [some (.r 0), x1, some (.d (mkD' a b c)), x3, x4, some (.d (.tuple (xs ++ [pr lockD (d.1, L')]))), some (.d (.str d.1)), some (.d (lockD L')), y8, y9, none] (Cup u' :: T) := by
  have ha := hm.1
  have hb := hm.2.1
  obtain ⟨z, L⟩ := d
  simp only at hL ⊢
  have hl := hL.1
  obtain ⟨r, u1, e1, r0, r1⟩ := roll_ex (S := T) u (m := a) (by omega) (by omega)
  obtain ⟨n, rfl⟩ : ∃ n : Nat, r = n := ⟨r.toNat, by omega⟩
  obtain ⟨w, u2, e2, w0, w1⟩ := roll_ex (S := T) u1 (m := 4) (by omega) (by omega)
  have hn : n < L.length := by omega
  have hsI := hL.2 _ (lock_mem hn)
  have hsl := hsI.len
  have hxl : xs.length + 1 ≤ 16777216 := by omega
  have hpr : ∀ M, pr lockD (z, M) = .tuple [.str z, lockD M] := fun _ => rfl
  unfold bentT
  by_cases h0 : w = 0
  · obtain ⟨M, u3, e3, hM⟩ := lock_exL (S := T) (a := a) (b := b) (c := c) u2 (n := 3) ha ⟨by omega, by omega⟩ (by omega)
    refine ⟨M, u3, some (.d (.int (n : Nat))), some (.d (.int w)), hM, ?_⟩
    simp -implicitDefEqProofs [e1, e2, h0, e3, hxl, hpr]
  · by_cases h1 : w = 1
    · obtain ⟨q, u3, e3, q0, q1⟩ := roll_ex (S := T) u2 (m := b) (by omega) (by omega)
      have hmem : ∀ i, i ∈ lA L n ++ [q] → 0 ≤ i ∧ i < b := by
        intro i hi
        rw [List.mem_append] at hi
        rcases hi with hi | hi
        · exact hsI.mem i hi
        · rw [List.mem_singleton.mp hi]; omega
      have hs := sort_ded_setI (s := lA L n ++ [q]) (by simp) hmem
      have hd := ded_lt (b := b) (by omega) hmem
      have hd' : (ded (lA L n ++ [q])).length < 64 := by omega
      obtain ⟨p1, p2, p3, p4⟩ := put_d (S := Cup u3 :: T) (s := sortI (ded (lA L n ++ [q]))) (L := L) (by omega) hn
      obtain ⟨p1', _, _, _⟩ := put_d (S := Cup u2 :: T) (s := sortI (ded (lA L n ++ [q]))) (L := L) (by omega) hn
      have hM := put_ok hL hn hs
      refine ⟨_, u3, some (.d (.int (n : Nat))), some (.d (.int w)), hM, ?_⟩
      have hc := compL_mapY (S := Cup u3 :: T) (tg := gN 10) (own := [10]) (el := dTup (aCons (dVar 10) (aCons (dC (.bool true)) aNil))) (ρ := [some (.r 0), x1, some (.d (mkD' a b c)), x3, x4, some (.d (.tuple xs)), some (.d (.str z)), some (.d (lockD L)), some (.d (.int (n : Nat))), some (.d (.int w)), none])
        PyData.int (fun i => .tuple [.int i, .bool true]) (lA L n ++ [q]) fun i _ => ⟨_, rfl, by simp⟩
      have ha2 : addD (.d (keyD (lA L n))) (.d (.tuple [.int q])) (Cup u3 :: T) = .ok (.d (.tuple ((lA L n ++ [q]).map .int))) (Cup u3 :: T) := by
        unfold keyD
        rw [addD_t, if_pos (by simp; omega), List.map_append]
        rfl
      have hl3 : ((lA L n ++ [q]).map PyData.int).length ≤ 16777216 := by simp; omega
      have hlk := fun S : Sto => lock_at (S := S) (show n < L.length from hn)
      have ht : ∀ s : List Int, tupleN [.d (.list (s.map .int))] (Cup u3 :: T) = .ok (.d (keyD s)) (Cup u3 :: T) := fun _ => rfl
      generalize lA L n ++ [q] = sq at *
      subst h1
      simp -implicitDefEqProofs [e1, e2, e3, hlk, p1, p1', p2, p3, p4, ha2, -List.length_map, hl3, hc, dictN_ints, sortedDI_ints _ _ _ hd', ht, -tupleN_l, hxl, hpr]
    · by_cases h2 : w = 2 ∧ 1 < (lA L n).length
      · obtain ⟨h2, h3⟩ := h2
        have hlk := fun S : Sto => lock_at (S := S) (show n < L.length from hn)
        have hcut : slD (.d (keyD (lA L n))) (some 1) none (Cup u2 :: T) = .ok (.d (keyD (lA L n).tail)) (Cup u2 :: T) := by
          unfold keyD
          rw [slD_t, cut1, List.map_tail]
        have hlen : lenN [.d (keyD (lA L n))] (Cup u2 :: T) = .ok (.d (.int (lA L n).length)) (Cup u2 :: T) := by
          unfold keyD
          rw [lenN_t, List.length_map]
        have hsub : ∀ i, i ∈ (lA L n).tail → i ∈ lA L n := fun i hi => List.mem_of_mem_tail hi
        have hT : SetI b (lA L n).tail := ⟨fun e => by
          have := congrArg List.length e
          simp at this
          omega, fun i hi => hsI.mem i (hsub i hi), hsI.up.sublist (List.tail_sublist _)⟩
        obtain ⟨p1, p2, p3, p4⟩ := put_d (S := Cup u2 :: T) (s := (lA L n).tail) (L := L) (by omega) hn
        have hM := put_ok hL hn hT
        refine ⟨_, u2, some (.d (.int (n : Nat))), some (.d (.int w)), hM, ?_⟩
        have h3' : (1 : Int) < (lA L n).length := by omega
        subst h2
        generalize (lA L n).tail = tl at *
        generalize lA L n = sq at *
        simp -implicitDefEqProofs [e1, e2, hlk, hlen, h3', hcut, p1, p2, p3, p4, hxl, hpr]
      · have hlk := fun S : Sto => lock_at (S := S) (show n < L.length from hn)
        have hlen : lenN [.d (keyD (lA L n))] (Cup u2 :: T) = .ok (.d (.int (lA L n).length)) (Cup u2 :: T) := by
          unfold keyD
          rw [lenN_t, List.length_map]
        refine ⟨L, u2, some (.d (.int (n : Nat))), some (.d (.int w)), hL, ?_⟩
        by_cases h3 : w = 2
        · have h4 : ¬ (1 : Int) < (lA L n).length := by
            intro h4
            exact h2 ⟨h3, by omega⟩
          subst h3
          simp -implicitDefEqProofs [e1, e2, hlk, hlen, h4, hxl, hpr]
        · simp -implicitDefEqProofs [e1, e2, h0, h1, h3, hxl, hpr]
end
end LW
namespace LW
open PySem PySem.Spec PyProof.Rows L2 DL
section
variable {S : Sto} {a b c : Int} {ds es : List (Str × List (List Int))} {ks : List (Str × List Int)} {K : List Int} {L M : List (List Int)} {n : Nat} {zs : List Str} {qs : List (Str × Str)} {z : Str}
theorem fst_inj {α : Type} {kvs : List (Str × α)} (hn : (kvs.map (·.1)).Nodup) {p q : Str × α} (hp : p ∈ kvs) (hq : q ∈ kvs) (e : p.1 = q.1) : p = q := by
  have h1 := getS_mem hn (show (p.1, p.2) ∈ kvs from hp)
  have h2 := getS_mem hn (show (q.1, q.2) ∈ kvs from hq)
  rw [e, h2] at h1
  have h1 : q.2 = p.2 := by injection h1
  exact Prod.ext e h1.symm
theorem opened_iff (hn : (ds.map (·.1)).Nodup) {d : Str × List (List Int)} (hd : d ∈ ds) : d.1 ∈ opened ds K ↔ opensB K d.2 = true := by
  unfold opened
  constructor
  · intro h
    obtain ⟨d', hd', e⟩ := List.mem_map.mp h
    obtain ⟨h1, h2⟩ := List.mem_filter.mp hd'
    rw [fst_inj hn h1 hd e] at h2
    exact h2
  · intro h
    exact List.mem_map.mpr ⟨d, List.mem_filter.mpr ⟨hd, h⟩, rfl⟩
theorem openers_iff (h : SysOk a b c ds ks) {d : Str × List (List Int)} (hd : d ∈ ds) {k : Str × List Int} (hk : k ∈ ks) : k.1 ∈ openers ds ks d.1 ↔ opensB k.2 d.2 = true := by
  rw [← opened_iff (pw_nodup h.dn.1) hd]
  unfold openers
  constructor
  · intro hh
    obtain ⟨k', hk', e⟩ := List.mem_map.mp hh
    obtain ⟨h1, h2⟩ := List.mem_filter.mp hk'
    rw [fst_inj (pw_nodup h.kn.1) h1 hk e] at h2
    simpa using h2
  · intro hh
    exact List.mem_map.mpr ⟨k, List.mem_filter.mpr ⟨hk, by simpa using hh⟩, rfl⟩
theorem least_at {i : Nat} (hi : i < n) : lA (leastL n ks zs) i = sortI (ded (colK ks zs i)) := by
  unfold leastL
  simp [lA, List.getD_eq_getElem?_getD, List.getElem?_map, List.getElem?_range hi]
theorem least_mem {i : Nat} (hi : i < n) {x : Int} : x ∈ lA (leastL n ks zs) i ↔ ∃ k, k ∈ ks ∧ k.1 ∈ zs ∧ kA k.2 i = x := by
  rw [least_at hi, mem_sort_ded]
  unfold colK
  rw [List.mem_map]
  constructor
  · rintro ⟨k, hk, rfl⟩
    obtain ⟨h1, h2⟩ := List.mem_filter.mp hk
    exact ⟨k, h1, by simpa using h2, rfl⟩
  · rintro ⟨k, h1, h2, rfl⟩
    exact ⟨k, List.mem_filter.mpr ⟨h1, by simpa using h2⟩, rfl⟩
theorem least_in_lock (h : SysOk a b c ds ks) {d : Str × List (List Int)} (hd : d ∈ ds) {i : Nat} (hi : i < d.2.length) {x : Int} (hx : x ∈ lA (leastL d.2.length ks (openers ds ks d.1)) i) : x ∈ lA d.2 i := by
  obtain ⟨k, h1, h2, rfl⟩ := (least_mem hi).mp hx
  have ho := (openers_iff h hd h1).mp h2
  unfold opensB at ho
  simp only [List.all_eq_true, List.mem_range, decide_eq_true_eq] at ho
  have hl := (h.ky k h1).1
  have hl2 := (h.lk d hd).1
  exact ho i (by omega)
theorem least_opens (h : SysOk a b c ds ks) {d : Str × List (List Int)} (hd : d ∈ ds) {k : Str × List Int} (hk : k ∈ ks) : opensB k.2 (leastL d.2.length ks (openers ds ks d.1)) = opensB k.2 d.2 := by
  have hl := (h.ky k hk).1
  have hl2 := (h.lk d hd).1
  rw [Bool.eq_iff_iff]
  constructor
  · intro ho
    unfold opensB at ho ⊢
    simp only [List.all_eq_true, List.mem_range, decide_eq_true_eq] at ho ⊢
    intro i hi
    exact least_in_lock h hd (by omega) (ho i hi)
  · intro ho
    have hm := (openers_iff h hd hk).mpr ho
    unfold opensB
    simp only [List.all_eq_true, List.mem_range, decide_eq_true_eq]
    intro i hi
    exact (least_mem (by omega)).mpr ⟨k, hk, hm, rfl⟩
theorem opD_opens (h : SysOk a b c ds ks) {d : Str × List (List Int)} (hd : d ∈ ds) {k : Str × List Int} (hk : k ∈ ks) : opensB k.2 (opD ds ks d).2 = opensB k.2 d.2 := by
  unfold opD
  by_cases hz : openers ds ks d.1 = []
  · simp [hz]
  · simp only [hz, if_false]
    exact least_opens h hd hk
theorem tight_opened (h : SysOk a b c ds ks) {k : Str × List Int} (hk : k ∈ ks) : opened (tightD ds ks) k.2 = opened ds k.2 := by
  unfold opened tightD
  rw [List.filter_map, List.map_map]
  have e : ds.filter ((fun d => opensB k.2 d.2) ∘ opD ds ks) = ds.filter fun d => opensB k.2 d.2 := List.filter_congr fun d hd => opD_opens h hd hk
  rw [e]
  rfl
theorem tight_openers (h : SysOk a b c ds ks) : openers (tightD ds ks) ks z = openers ds ks z := by
  unfold openers
  rw [List.filter_congr (q := fun k => decide (z ∈ opened ds k.2)) fun k hk => by rw [tight_opened h hk]]
theorem tight_pairs (h : SysOk a b c ds ks) : pairsOf (tightD ds ks) ks = pairsOf ds ks := by
  unfold pairsOf
  have : ∀ l : List (Str × List Int), (∀ k, k ∈ l → k ∈ ks) → (l.flatMap fun k => (opened (tightD ds ks) k.2).map fun n => (k.1, n)) = l.flatMap fun k => (opened ds k.2).map fun n => (k.1, n) := by
    intro l
    induction l with
    | nil => intro _; rfl
    | cons k l ih =>
      intro hl
      rw [List.flatMap_cons, List.flatMap_cons, ih fun k hk => hl k (by simp [hk]), tight_opened h (hl k (by simp))]
  exact this ks fun _ h => h
theorem tight_names : fstS (tightD ds ks) = fstS ds := by
  unfold fstS tightD
  rw [List.map_map]
  rfl
theorem least_ok (h : SysOk a b c ds ks) {d : Str × List (List Int)} (hd : d ∈ ds) (hz : openers ds ks d.1 ≠ []) : LockOk a b (leastL d.2.length ks (openers ds ks d.1)) := by
  have hl := (h.lk d hd).1
  refine ⟨by rw [leastL_len]; exact hl, fun s hs => ?_⟩
  obtain ⟨i, hi, rfl⟩ := List.mem_map.mp hs
  have hi := List.mem_range.mp hi
  refine sort_ded_setI ?_ fun x hx => ?_
  · intro e
    obtain ⟨w, hw⟩ := List.exists_mem_of_ne_nil _ hz
    obtain ⟨k, hk, e2⟩ := List.mem_map.mp hw
    have hk := (List.mem_filter.mp hk).1
    have : kA k.2 i ∈ colK ks (openers ds ks d.1) i := List.mem_map.mpr ⟨k, List.mem_filter.mpr ⟨hk, by rw [e2]; simpa using hw⟩, rfl⟩
    rw [e] at this
    cases this
  · obtain ⟨k, hk, rfl⟩ := List.mem_map.mp hx
    have hk := (List.mem_filter.mp hk).1
    have hky := h.ky k hk
    have hkl := hky.1
    exact hky.2.2.2.1 _ (key_mem (show i < k.2.length by omega))
theorem tight_sys (h : SysOk a b c ds ks) : SysOk a b c (tightD ds ks) ks := ⟨h.mo, by
    have := tight_names (ds := ds) (ks := ks)
    show NamesOk (fstS (tightD ds ks))
    rw [this]
    exact h.dn, h.kn, by simp [tightD]; exact h.dl, h.kl, fun e he => by
    obtain ⟨d, hd, rfl⟩ := List.mem_map.mp he
    unfold opD
    by_cases hz : openers ds ks d.1 = []
    · simp only [hz, if_true]
      exact h.lk d hd
    · simp only [hz, if_false]
      exact least_ok h hd hz, h.ky⟩
theorem tight_tight (h : SysOk a b c ds ks) : tightD (tightD ds ks) ks = tightD ds ks := by
  show (ds.map (opD ds ks)).map (opD (tightD ds ks) ks) = ds.map (opD ds ks)
  rw [List.map_map]
  apply List.map_congr_left
  intro d hd
  show opD (tightD ds ks) ks (opD ds ks d) = opD ds ks d
  have e : (opD ds ks d).1 = d.1 := rfl
  unfold opD
  simp only [tight_openers h]
  by_cases hz : openers ds ks d.1 = []
  · simp [hz]
  · simp [hz, leastL_len]
theorem subL_refl : subL L L = true := by
  unfold subL
  simp
theorem tight_tighter (h : SysOk a b c ds ks) : tightB (tightD ds ks) ds = true := by
  have : ∀ l : List (Str × List (List Int)), (∀ d, d ∈ l → d ∈ ds) → (((l.map (opD ds ks)).zip l).all fun p => subL p.1.2 p.2.2) = true := by
    intro l
    induction l with
    | nil => intro _; rfl
    | cons d l ih =>
      intro hl
      have hd := hl d (by simp)
      rw [List.map_cons, List.zip_cons_cons, List.all_cons, ih fun k hk => hl k (by simp [hk]), Bool.and_true]
      unfold opD
      by_cases hz : openers ds ks d.1 = []
      · simp only [hz, if_true]
        exact subL_refl
      · simp only [hz, if_false]
        unfold subL
        simp only [List.all_eq_true, List.mem_range, decide_eq_true_eq, leastL_len]
        intro i hi x hx
        exact least_in_lock h hd hi hx
  exact this ds fun _ h => h
theorem tighter_self : tightB ds ds = true := by
  unfold tightB
  rw [List.all_eq_true]
  intro p hp
  have : ∀ (l : List (Str × List (List Int))) (p : (Str × List (List Int)) × (Str × List (List Int))), p ∈ l.zip l → p.1 = p.2 := by
    intro l
    induction l with
    | nil => intro p hp; simp at hp
    | cons d l ih =>
      intro p hp
      rw [List.zip_cons_cons] at hp
      rcases List.mem_cons.mp hp with rfl | hp
      · rfl
      · exact ih p hp
  rw [this ds p hp]
  exact subL_refl
theorem lack_self {ps : List (Str × Str)} : lackP ps ps = [] := by
  unfold lackP
  rw [List.filter_eq_nil_iff]
  intro q hq
  simp [hq]
theorem filter_eq_nodup {l : List Str} (hn : l.Nodup) : l.filter (fun w => decide (w = z)) = if z ∈ l then [z] else [] := by
  induction l with
  | nil => rfl
  | cons x l ih =>
    rw [List.nodup_cons] at hn
    rw [List.filter_cons, ih hn.2]
    by_cases hx : x = z
    · subst hx
      simp [hn.1]
    · have : ¬ z = x := fun e => hx e.symm
      simp [hx, this]
theorem want_openers (hn : (ds.map (·.1)).Nodup) : wantK (pairsOf ds ks) z = openers ds ks z := by
  unfold wantK pairsOf openers
  induction ks with
  | nil => rfl
  | cons k r ih =>
    have ho : (opened ds k.2).Nodup := (hn.sublist ((List.filter_sublist).map _))
    have e : (((opened ds k.2).map fun n => (k.1, n)).filter fun q => decide (q.2 = z)).map (·.1) = if z ∈ opened ds k.2 then [k.1] else [] := by
      rw [List.filter_map, List.map_map]
      have := filter_eq_nodup (z := z) ho
      have e2 : (opened ds k.2).filter ((fun q : Str × Str => decide (q.2 = z)) ∘ fun n => (k.1, n)) = (opened ds k.2).filter fun w => decide (w = z) := rfl
      rw [e2, this]
      split <;> rfl
    rw [List.flatMap_cons, List.filter_append, List.map_append, ih, e, List.filter_cons]
    by_cases hz : z ∈ opened ds k.2 <;> simp [hz]
theorem pairs_mem_iff (h : SysOk a b c ds ks) {d : Str × List (List Int)} (hd : d ∈ ds) {k : Str × List Int} (hk : k ∈ ks) : (k.1, d.1) ∈ pairsOf ds ks ↔ opensB k.2 d.2 = true := by
  rw [← opened_iff (pw_nodup h.dn.1) hd]
  unfold pairsOf
  rw [List.mem_flatMap]
  constructor
  · rintro ⟨k', hk', hm⟩
    obtain ⟨w, hw, e⟩ := List.mem_map.mp hm
    have e1 : k'.1 = k.1 := congrArg (fun q : Str × Str => q.1) e
    have e2 : w = d.1 := congrArg (fun q : Str × Str => q.2) e
    rw [fst_inj (pw_nodup h.kn.1) hk' hk e1, e2] at hw
    exact hw
  · intro hm
    exact ⟨k, hk, List.mem_map.mpr ⟨_, hm, rfl⟩⟩
/-- the doors that some key opens -/
def doorsO (ds : List (Str × List (List Int))) (ks : List (Str × List Int)) : List Str := (ds.filter fun d => decide (d.1 ∈ sndS (pairsOf ds ks))).map (·.1)
theorem snd_iff (h : SysOk a b c ds ks) {d : Str × List (List Int)} (hd : d ∈ ds) : d.1 ∈ sndS (pairsOf ds ks) ↔ openers ds ks d.1 ≠ [] := by
  rw [← want_openers (pw_nodup h.dn.1)]
  unfold sndS wantK
  constructor
  · intro hm e
    obtain ⟨q, hq, e2⟩ := List.mem_map.mp hm
    have : q.1 ∈ (((pairsOf ds ks).filter fun q => decide (q.2 = d.1)).map (·.1)) := List.mem_map.mpr ⟨q, List.mem_filter.mpr ⟨hq, by simpa using e2⟩, rfl⟩
    rw [e] at this
    cases this
  · intro hne
    obtain ⟨w, hw⟩ := List.exists_mem_of_ne_nil _ hne
    obtain ⟨q, hq, _⟩ := List.mem_map.mp hw
    obtain ⟨h1, h2⟩ := List.mem_filter.mp hq
    exact List.mem_map.mpr ⟨q, h1, by simpa using h2⟩
theorem pw_flat {α β : Type} {R : β → β → Prop} {f : α → List β} : ∀ {l : List α}, (∀ x, x ∈ l → (f x).Pairwise R) → l.Pairwise (fun x y => ∀ p, p ∈ f x → ∀ q, q ∈ f y → R p q) → (l.flatMap f).Pairwise R
  | [], _, _ => by simp
  | x :: l, h1, h2 => by
    rw [List.flatMap_cons, List.pairwise_append]
    obtain ⟨h3, h4⟩ := List.pairwise_cons.mp h2
    refine ⟨h1 x (by simp), pw_flat (fun y hy => h1 y (by simp [hy])) h4, fun p hp q hq => ?_⟩
    obtain ⟨y, hy, hq⟩ := List.mem_flatMap.mp hq
    exact h3 y hy p hp q hq
theorem pairs_sorted (h : SysOk a b c ds ks) : (pairsOf ds ks).Pairwise fun x y => pLt x y = true := by
  refine pw_flat (fun k hk => ?_) ?_
  · rw [List.pairwise_map]
    have h1 : (opened ds k.2).Pairwise fun x y => sLt x y = true := by
      unfold opened
      exact (h.dn.1).sublist ((List.filter_sublist).map _)
    exact h1.imp fun {x y} hxy => by simp [pLt, hxy]
  · have h1 := h.kn.1
    rw [List.pairwise_map] at h1
    refine h1.imp fun {k k'} hkk p hp q hq => ?_
    obtain ⟨w, _, rfl⟩ := List.mem_map.mp hp
    obtain ⟨v, _, rfl⟩ := List.mem_map.mp hq
    simp [pLt, hkk]
theorem doorsO_sub : ∀ z, z ∈ doorsO ds ks → z ∈ ds.map (·.1) := fun z hz => by
  obtain ⟨d, hd, rfl⟩ := List.mem_map.mp hz
  exact List.mem_map.mpr ⟨d, (List.mem_filter.mp hd).1, rfl⟩
theorem plan_ok (h : SysOk a b c ds ks) : PlanOk a b c ks (doorsO ds ks) (pairsOf ds ks) where
  sy := ⟨h.mo, ⟨by simp, fun z hz => by cases hz⟩, h.kn, by simp, h.kl, (fun d hd => by cases hd), h.ky⟩
  zn := ⟨by
    have h1 := h.dn.1
    exact h1.sublist ((List.filter_sublist).map _), fun z hz => h.dn.2 z (doorsO_sub z hz)⟩
  zl := by
    unfold doorsO
    rw [List.length_map]
    have := List.length_filter_le (fun d : Str × List (List Int) => decide (d.1 ∈ sndS (pairsOf ds ks))) ds
    have := h.dl
    omega
  ql := by
    have := pairs_len (ds := ds) (ks := ks)
    have := Nat.mul_le_mul h.dl h.kl
    omega
  qr := pairs_sorted h
  qi := fun q hq => by
    obtain ⟨h1, h2⟩ := pairs_mem hq
    refine ⟨h1, ?_⟩
    obtain ⟨d, hd, e⟩ := List.mem_map.mp h2
    exact List.mem_map.mpr ⟨d, List.mem_filter.mpr ⟨hd, by rw [decide_eq_true_eq, e]; exact List.mem_map.mpr ⟨q, hq, rfl⟩⟩, e⟩
  qz := fun z hz => by
    obtain ⟨d, hd, rfl⟩ := List.mem_map.mp hz
    have := (List.mem_filter.mp hd).2
    obtain ⟨q, hq, e⟩ := List.mem_map.mp (of_decide_eq_true this)
    exact ⟨q, hq, e⟩
theorem door_of {z : Str} (hz : z ∈ doorsO ds ks) : ∃ d, d ∈ ds ∧ d.1 = z ∧ d.1 ∈ sndS (pairsOf ds ks) := by
  obtain ⟨d, hd, rfl⟩ := List.mem_map.mp hz
  obtain ⟨h1, h2⟩ := List.mem_filter.mp hd
  exact ⟨d, h1, rfl, by simpa using h2⟩
theorem no_clash (h : SysOk a b c ds ks) : ks.flatMap (clashP a.toNat ks (pairsOf ds ks) (doorsO ds ks)) = [] := by
  rw [List.flatMap_eq_nil_iff]
  intro k hk
  unfold clashP
  rw [List.map_eq_nil_iff, List.filter_eq_nil_iff]
  intro z hz
  obtain ⟨d, hd, rfl, _⟩ := door_of hz
  unfold clashB
  rw [want_openers (pw_nodup h.dn.1)]
  have hcast : a.toNat = d.2.length := by have := (h.lk d hd).1; omega
  rw [hcast, least_opens h hd hk]
  have := pairs_mem_iff h hd hk
  by_cases ho : opensB k.2 d.2 = true
  · simp [this.mpr ho]
  · simp [ho]
theorem plan_eq (h : SysOk a b c ds ks) : planL a.toNat ks (pairsOf ds ks) (doorsO ds ks) = (tightD ds ks).filter fun d => decide (d.1 ∈ doorsO ds ks) := by
  unfold planL tightD
  rw [List.filter_map]
  have e : (ds.filter ((fun d => decide (d.1 ∈ doorsO ds ks)) ∘ opD ds ks)) = ds.filter fun d => decide (d.1 ∈ sndS (pairsOf ds ks)) := List.filter_congr fun d hd => by
    show decide (d.1 ∈ doorsO ds ks) = _
    rw [Bool.eq_iff_iff]
    simp only [decide_eq_true_eq]
    constructor
    · intro hm
      obtain ⟨d', hd', e1, e2⟩ := door_of hm
      rw [e1] at e2
      exact e2
    · intro hm
      exact List.mem_map.mpr ⟨d, List.mem_filter.mpr ⟨hd, by simpa using hm⟩, rfl⟩
  rw [e]
  show (List.map (fun d : Str × List (List Int) => d.1) (ds.filter fun d => decide (d.1 ∈ sndS (pairsOf ds ks)))).map (fun z => (z, leastL a.toNat ks (wantK (pairsOf ds ks) z))) = _
  rw [List.map_map]
  apply List.map_congr_left
  intro d hd
  obtain ⟨h1, h2⟩ := List.mem_filter.mp hd
  have hne := (snd_iff h h1).mp (by simpa using h2)
  have hcast : a.toNat = d.2.length := by have := (h.lk d h1).1; omega
  show (d.1, leastL a.toNat ks (wantK (pairsOf ds ks) d.1)) = opD ds ks d
  rw [want_openers (pw_nodup h.dn.1), hcast]
  unfold opD
  simp [hne]
end
end LW
namespace LW
open PySem PySem.Spec PyProof.Rows L2 DL
def lawB1 : DS := (sSeq (sSet 3 (dFn F_l_make (aCons (dVar 1) (aCons (dC (.int 5)) (aCons (dC (.int 5)) aNil))))) (sSeq (sSet 4 (dFn F_l_system (aCons (dVar 1) (aCons (dVar 3) (aCons (dOp2 addD (dC (.int 1)) (dFn F_l_roll (aCons (dVar 1) (aCons (dC (.int 6)) aNil)))) (aCons (dOp2 addD (dC (.int 1)) (dFn F_l_roll (aCons (dVar 1) (aCons (dC (.int 7)) aNil)))) aNil)))))) (sSeq (sSet 5 (dFn F_l_bent (aCons (dVar 1) (aCons (dVar 4) aNil)))) (sSeq (sPar 6 7 (aCons (dFn F_who_opens (aCons (dVar 4) aNil)) (aCons (dFn F_who_opens (aCons (dVar 5) aNil)) aNil))) (sSeq (sSet 8 (dTup (aCons (dCall tupleN (aCons (dComp (dIt (dVar 7)) (gN 20) [20] (dTest (dOp2 (inD true) (dVar 20) (dVar 6))) (dVar 20)) aNil)) (aCons (dCall tupleN (aCons (dComp (dIt (dVar 6)) (gN 20) [20] (dTest (dOp2 (inD true) (dVar 20) (dVar 7))) (dVar 20)) aNil)) aNil)))) (sSeq (sIf (dOrT (dNotT (dTru (dFn F_l_same (aCons (dFn F_changes (aCons (dVar 4) (aCons (dVar 5) aNil))) (aCons (dVar 8) aNil))))) (dNotT (dTru (dFn F_l_same (aCons (dFn F_changes (aCons (dVar 5) (aCons (dVar 4) aNil))) (aCons (dOp1 revA (dVar 8)) aNil)))))) (sRet (dC (.bool false))) sNil) (sSeq (sFor (dIt (dTup (aCons (dTup (aCons (dVar 4) (aCons (dVar 5) aNil))) (aCons (dTup (aCons (dVar 5) (aCons (dVar 4) aNil))) (aCons (dTup (aCons (dVar 4) (aCons (dVar 4) aNil))) aNil))))) (gT (gsC (gN 9) (gsC (gN 10) gsN))) (sSeq (sSet 11 (dC (.bool true))) (sSeq (sFor (dItA itZip (aCons (dOp2 ixD (dVar 9) (dC (.int 1))) (aCons (dOp2 ixD (dVar 10) (dC (.int 1))) aNil))) (gT (gsC (gT (gsC (gN 12) (gsC (gN 13) gsN))) (gsC (gT (gsC (gN 14) (gsC (gN 15) gsN))) gsN))) (sSet 11 (dAndV (dVar 11) (dOp2 eqD (dComp (dItA itZip (aCons (dVar 13) (aCons (dVar 15) aNil))) (gT (gsC (gN 21) (gsC (gN 22) gsN))) [21, 22] (dTest (dOp2 neD (dComp (dIt (dVar 21)) (gN 23) [23] (dTest (dOp2 (inD true) (dVar 23) (dVar 22))) (dVar 23)) (dLst aNil))) (dC (.int 1))) (dLst aNil))))) (sIf (dNotT (dTru (dFn F_l_same (aCons (dFn F_is_tighter (aCons (dVar 9) (aCons (dVar 10) aNil))) (aCons (dVar 11) aNil))))) (sRet (dC (.bool false))) sNil)))) (sSeq (sSet 16 (dTup aNil)) (sSeq (sFor (dIt (dOp2 ixD (dVar 4) (dC (.int 1)))) (gT (gsC (gN 12) (gsC (gN 13) gsN))) (sSeq (sSet 17 (dComp (dIt (dVar 6)) (gT (gsC (gN 24) (gsC (gN 14) gsN))) [24, 14] (dTest (dOp2 eqD (dVar 14) (dVar 12))) (dVar 24))) (sSet 16 (dOp2 addD (dVar 16) (dTup (aCons (dTup (aCons (dVar 12) (aCons (dIf (dTest (dOp2 neD (dVar 17) (dLst aNil))) (dFn F_l_lock_of (aCons (dVar 3) (aCons (dOp2 ixD (dVar 4) (dC (.int 2))) (aCons (dVar 17) aNil)))) (dVar 13)) aNil))) aNil)))))) (sSeq (sSet 18 (dFn F_tightened (aCons (dVar 4) aNil))) (sSeq (sIf (dOrT (dNotT (dTru (dFn F_l_same (aCons (dVar 18) (aCons (dTup (aCons (dVar 3) (aCons (dVar 16) (aCons (dOp2 ixD (dVar 4) (dC (.int 2))) aNil)))) aNil))))) (dNotT (dTru (dFn F_l_same (aCons (dFn F_tightened (aCons (dVar 18) aNil)) (aCons (dVar 18) aNil)))))) (sRet (dC (.bool false))) sNil) (sSeq (sIf (dOrT (dNotT (dTru (dFn F_l_same (aCons (dFn F_changes (aCons (dVar 4) (aCons (dVar 18) aNil))) (aCons (dTup (aCons (dTup aNil) (aCons (dTup aNil) aNil))) aNil))))) (dTest (dOp2 (isD true) (dFn F_is_tighter (aCons (dVar 18) (aCons (dVar 4) aNil))) (dC (.bool true))))) (sRet (dC (.bool false))) sNil) (sSeq (sSet 19 (dCall tupleN (aCons (dComp (dIt (dOp2 ixD (dVar 4) (dC (.int 1)))) (gT (gsC (gN 12) (gsC (gN 13) gsN))) [12, 13] (dTest (dOp2 (inD false) (dVar 12) (dComp (dIt (dVar 6)) (gN 20) [20] tstY (dOp2 ixD (dVar 20) (dC (.int 1)))))) (dVar 12)) aNil))) (sSeq (sSet 8 (dTup (aCons (dVar 3) (aCons (dCall tupleN (aCons (dComp (dIt (dVar 16)) (gN 20) [20] (dTest (dOp2 (inD false) (dOp2 ixD (dVar 20) (dC (.int 0))) (dVar 19))) (dVar 20)) aNil)) (aCons (dOp2 ixD (dVar 4) (dC (.int 2))) aNil))))) (sIf (dNotT (dTru (dFn F_l_same (aCons (dFn F_planned (aCons (dVar 3) (aCons (dOp2 ixD (dVar 4) (dC (.int 2))) (aCons (dVar 19) (aCons (dVar 6) aNil))))) (aCons (dVar 8) aNil))))) (sRet (dC (.bool false))) sNil)))))))))))))))
def lawB2 : DS := (sSeq (sSet 11 (dC (.bool true))) (sSeq (sFor (dItA itZip (aCons (dOp2 ixD (dVar 9) (dC (.int 1))) (aCons (dOp2 ixD (dVar 10) (dC (.int 1))) aNil))) (gT (gsC (gT (gsC (gN 12) (gsC (gN 13) gsN))) (gsC (gT (gsC (gN 14) (gsC (gN 15) gsN))) gsN))) (sSet 11 (dAndV (dVar 11) (dOp2 eqD (dComp (dItA itZip (aCons (dVar 13) (aCons (dVar 15) aNil))) (gT (gsC (gN 21) (gsC (gN 22) gsN))) [21, 22] (dTest (dOp2 neD (dComp (dIt (dVar 21)) (gN 23) [23] (dTest (dOp2 (inD true) (dVar 23) (dVar 22))) (dVar 23)) (dLst aNil))) (dC (.int 1))) (dLst aNil))))) (sIf (dNotT (dTru (dFn F_l_same (aCons (dFn F_is_tighter (aCons (dVar 9) (aCons (dVar 10) aNil))) (aCons (dVar 11) aNil))))) (sRet (dC (.bool false))) sNil)))
def lawB3 : DS := (sSet 11 (dAndV (dVar 11) (dOp2 eqD (dComp (dItA itZip (aCons (dVar 13) (aCons (dVar 15) aNil))) (gT (gsC (gN 21) (gsC (gN 22) gsN))) [21, 22] (dTest (dOp2 neD (dComp (dIt (dVar 21)) (gN 23) [23] (dTest (dOp2 (inD true) (dVar 23) (dVar 22))) (dVar 23)) (dLst aNil))) (dC (.int 1))) (dLst aNil))))
def lawB4 : DS := (sSeq (sSet 17 (dComp (dIt (dVar 6)) (gT (gsC (gN 24) (gsC (gN 14) gsN))) [24, 14] (dTest (dOp2 eqD (dVar 14) (dVar 12))) (dVar 24))) (sSet 16 (dOp2 addD (dVar 16) (dTup (aCons (dTup (aCons (dVar 12) (aCons (dIf (dTest (dOp2 neD (dVar 17) (dLst aNil))) (dFn F_l_lock_of (aCons (dVar 3) (aCons (dOp2 ixD (dVar 4) (dC (.int 2))) (aCons (dVar 17) aNil)))) (dVar 13)) aNil))) aNil)))))
section
variable {S : Sto} {a b c : Int} {ds es : List (Str × List (List Int))} {ks : List (Str × List Int)} {K : List Int} {L M : List (List Int)} {n : Nat} {zs : List Str} {ps qs : List (Str × Str)} {z : Str} {o0 o2 o3 o4 o5 o6 o7 o8 o9 o10 o11 o12 o13 o14 o15 o16 o17 o18 o19 o20 o21 o22 o23 o24 : Option U}
theorem e_l_bent (h : SysOk a b c ds ks) (u : Int × Int) {T : Sto} : ∃ es u', F_l_bent [.r 0, .d (sysD (mkD' a b c) ds ks)] (Cup u :: T) = .ok (.d (sysD (mkD' a b c) es ks)) (Cup u' :: T) ∧ SysOk a b c es ks ∧ fstS ds = fstS es := by
  generalize hR : F_l_bent _ _ = R
  have hsys : toD (.d (sysD (mkD' a b c) ds ks)) (Cup u :: T) = .ok (.tuple [mkD' a b c, pairsD lockD ds, pairsD keyD ks]) (Cup u :: T) := rfl
  simp -implicitDefEqProofs only [F_l_bent, fnD_ap, t_l_bent] at hR
  simp -implicitDefEqProofs [hsys, -toD_d, pairs_its] at hR
  generalize hX : forL _ _ _ _ _ = X at hR
  have hdl := h.dl
  have hw : X.To (fun ρ S' => ∃ (es : List (Str × List (List Int))) (u' : Int × Int) (x6 x7 x8 x9 : Option U), fstS es = fstS ds ∧ (∀ e, e ∈ es → LockOk a b e.2) ∧ S' = Cup u' :: T ∧ ρ = [some (.r 0), some (.d (sysD (mkD' a b c) ds ks)), some (.d (mkD' a b c)), some (.d (pairsD lockD ds)), some (.d (pairsD keyD ks)), some (.d (pairsD lockD es)), x6, x7, x8, x9, none]) fun _ _ => False := by
    rw [← hX]
    refine for_to (fun i ρ S' => ∃ (es : List (Str × List (List Int))) (u' : Int × Int) (x6 x7 x8 x9 : Option U), fstS es = fstS (ds.take i) ∧ (∀ e, e ∈ es → LockOk a b e.2) ∧ S' = Cup u' :: T ∧ ρ = [some (.r 0), some (.d (sysD (mkD' a b c) ds ks)), some (.d (mkD' a b c)), some (.d (pairsD lockD ds)), some (.d (pairsD keyD ks)), some (.d (pairsD lockD es)), x6, x7, x8, x9, none]) ⟨[], u, _, _, _, _, rfl, (fun e he => by cases he), rfl, rfl⟩ ?_ ?_
    · rintro ρ S' ⟨es, u', x6, x7, x8, x9, h1, h2, h3, h4⟩
      rw [List.length_map, List.take_length] at h1
      exact ⟨es, u', x6, x7, x8, x9, h1, h2, h3, h4⟩
    · rintro i d ρ S' hd ⟨es, u', x6, x7, x8, x9, h1, h2, rfl, rfl⟩
      rw [List.getElem?_map, Option.map_eq_some_iff] at hd
      obtain ⟨d, hi, rfl⟩ := hd
      have hdm := List.mem_of_getElem? hi
      have hel : es.length ≤ 40 := by
        have e1 : (fstS es).length = (fstS (ds.take i)).length := by rw [h1]
        simp only [fstS, List.length_map, List.length_take] at e1
        omega
      obtain ⟨L', u2, y8, y9, hL', e⟩ := bent_body (T := T) (d := d) (xs := es.map (pr lockD)) (x1 := some (.d (sysD (mkD' a b c) ds ks))) (x3 := some (.d (pairsD lockD ds))) (x4 := some (.d (pairsD keyD ks))) (x8 := x8) (x9 := x9) u' h.mo (h.lk d hdm) (by simpa using hel)
      refine ⟨[some (.r 0), some (.d (sysD (mkD' a b c) ds ks)), some (.d (mkD' a b c)), some (.d (pairsD lockD ds)), some (.d (pairsD keyD ks)), some (.d (pairsD lockD es)), some (.d (.str d.1)), some (.d (lockD d.2)), x8, x9, none], rfl, ?_⟩
      show (bentT _ _).ToB _ _ _
      have hpd : pairsD lockD es = .tuple (es.map (pr lockD)) := rfl
      rw [hpd, e]
      refine ⟨es ++ [(d.1, L')], u2, some (.d (.str d.1)), some (.d (lockD L')), y8, y9, ?_, ?_, rfl, ?_⟩
      · rw [List.take_add_one, hi]
        unfold fstS at h1 ⊢
        rw [List.map_append, h1, List.map_append]
        rfl
      · intro e he
        rcases List.mem_append.mp he with he | he
        · exact h2 e he
        · rw [List.mem_singleton.mp he]
          exact hL'
      · unfold pairsD
        rw [List.map_append]
        rfl
  obtain ⟨ρ', S', rfl, es, u', x6, x7, x8, x9, h1, h2, rfl, rfl⟩ := To_nx_inv hw
  refine ⟨es, u', ?_, ⟨h.mo, ?_, h.kn, ?_, h.kl, h2, h.ky⟩, h1.symm⟩
  · rw [← hR]
    simp -implicitDefEqProofs
    rfl
  · show NamesOk (fstS es)
    rw [h1]
    exact h.dn
  · have e1 : (fstS es).length = (fstS ds).length := by rw [h1]
    simp only [fstS, List.length_map] at e1
    omega
theorem e_who (h : SysOk a b c ds ks) : F_who_opens [.d (sysD (mkD' a b c) ds ks)] S = .ok (.d (psT (pairsOf ds ks))) S := e_who_opens h
theorem smp_ps (n : Nat) (h : ∀ q, q ∈ ps → POk q) (hl : ps.length ≤ 16777216) : Smp (n + 2) (psT ps) := Smp.tup (n + 1) _ (fun x hx => by
  obtain ⟨q, hq, rfl⟩ := List.mem_map.mp hx
  exact Smp.tup n _ (fun x hx => by
    simp only [List.mem_cons, List.not_mem_nil, or_false] at hx
    rcases hx with rfl | rfl
    · exact .str _ _ (h q hq).1
    · exact .str _ _ (h q hq).2) (by simp)) (by simpa using hl)
theorem smp_pairsD {α : Type} {f : α → D} {kvs : List (Str × α)} (n : Nat) (h : ∀ kv, kv ∈ kvs → PyData.strOk kv.1 = true ∧ Smp n (f kv.2)) (hl : kvs.length ≤ 16777216) : Smp (n + 2) (pairsD f kvs) := Smp.tup (n + 1) _ (fun x hx => by
  obtain ⟨kv, hk, rfl⟩ := List.mem_map.mp hx
  exact Smp.tup n _ (fun x hx => by
    simp only [List.mem_cons, List.not_mem_nil, or_false] at hx
    rcases hx with rfl | rfl
    · exact .str _ _ (h kv hk).1
    · exact (h kv hk).2) (by simp)) (by simpa using hl)
theorem smp_sys (h : SysOk a b c ds ks) : Smp 5 (sysD (mkD' a b c) ds ks) := by
  have hdl := h.dl
  have hkl := h.kl
  have ha := h.mo.1
  have h1 := smp_pairsD (f := lockD) (kvs := ds) 2 (fun kv hk => ⟨(h.dname hk).2, smp_lock 0 h.mo (h.lk kv hk)⟩) (by omega)
  have h2 := smp_pairsD (f := keyD) (kvs := ks) 2 (fun kv hk => ⟨(h.kname hk).2, smp_key 1 (by have := (h.ky kv hk).1; omega)⟩) (by omega)
  exact Smp.tup 4 _ (fun x hx => by
    simp only [List.mem_cons, List.not_mem_nil, or_false] at hx
    rcases hx with rfl | rfl | rfl
    · exact Smp.tup 3 _ (fun x hx => by
        simp only [List.mem_cons, List.not_mem_nil, or_false] at hx
        rcases hx with rfl | rfl | rfl <;> exact .int _ _) (by simp)
    · exact h1
    · exact h2) (by simp)
end
end LW
namespace LW
open PySem PySem.Spec PyProof.Rows L2 DL
section
variable {S : Sto} {d v : D} {a b c lo hi : Int}
theorem ones_iff {xs : List D} {p : D → Bool} : ((xs.filter p).map fun _ => PyData.int 1) = ((xs.filter p).map fun _ => (1 : Int)).map .int := by simp
theorem ones_eqv {α : Type} {xs : List α} {p : α → Bool} : PyData.eqv (.list ((xs.filter p).map fun _ => PyData.int 1)) (.list []) = xs.all (fun x => !p x) := by
  show PyData.eqvAll _ [] = _
  rw [eqvAll_nil]
  induction xs with
  | nil => rfl
  | cons x r ih => cases h : p x <;> simp [List.filter_cons, h, ih]
theorem ones_shaped {α : Type} {xs : List α} {p : α → Bool} : SeqAt.shaped (.list ((xs.filter p).map fun _ => PyData.int 1)) = true := (shaped_seq fun x hx => by
  obtain ⟨_, _, rfl⟩ := List.mem_map.mp hx
  exact ⟨rfl, Nat.zero_le _⟩).1
theorem compL_ones {α : Type} {tg : Tg} {own : List Nat} {tst : DT} {ρ : Rho} (g : α → D) (p : α → Bool) (xs : List α)
    (h : ∀ x, x ∈ xs → ∃ ρ1, tg (g x) (wipeR ρ own) = some ρ1 ∧ tst ρ1 S = .ok (!p x) S) :
    ∃ L, compL tg own tst (dC (.int 1)) ρ (xs.map g) S = .ok L S ∧ PyData.eqv (.list L) (.list []) = xs.all p ∧ SeqAt.shaped (.list L) = true := by
  refine ⟨_, compL_map g (fun x => !p x) (fun _ => .int 1) xs fun x hx => ?_, ?_, ones_shaped⟩
  · obtain ⟨ρ1, a, b⟩ := h x hx
    exact ⟨ρ1, a, b, fun _ => rfl⟩
  · rw [ones_eqv]
    simp
theorem compL_ones' {tg : Tg} {own : List Nat} {tst : DT} {ρ : Rho} (p : D → Bool) (xs : List D)
    (h : ∀ x, x ∈ xs → ∃ ρ1, tg x (wipeR ρ own) = some ρ1 ∧ tst ρ1 S = .ok (!p x) S) :
    ∃ L, compL tg own tst (dC (.int 1)) ρ xs S = .ok L S ∧ PyData.eqv (.list L) (.list []) = xs.all p ∧ SeqAt.shaped (.list L) = true := by
  have := compL_ones (S := S) (tg := tg) (own := own) (tst := tst) (ρ := ρ) id p xs h
  rwa [List.map_id] at this
end
end LW
namespace LW
open PySem PySem.Spec PyProof.Rows L2 DL
section
variable {S : Sto} {a b c : Int} {ds es : List (Str × List (List Int))} {ks : List (Str × List Int)} {K : List Int} {L M : List (List Int)} {n : Nat} {zs : List Str} {ps qs : List (Str × Str)} {z : Str} {o1 o0 o2 o3 o4 o5 o6 o7 o8 o9 o10 o11 o12 o13 o14 o15 o16 o17 o18 o19 o20 o21 o22 o23 o24 : Option U}
theorem e_l_sub (hL : LockOk a b L) (hM : LockOk a b M) (hb : b ≤ 10) (ha : a ≤ 8) : (dOp2 eqD (dComp (dItA itZip (aCons (dVar 13) (aCons (dVar 15) aNil))) (gT (gsC (gN 21) (gsC (gN 22) gsN))) [21, 22] (dTest (dOp2 neD (dComp (dIt (dVar 21)) (gN 23) [23] (dTest (dOp2 (inD true) (dVar 23) (dVar 22))) (dVar 23)) (dLst aNil))) (dC (.int 1))) (dLst aNil)) [o0, some (.r 0), o2, o3, o4, o5, o6, o7, o8, o9, o10, o11, o12, some (.d (lockD L)), o14, some (.d (lockD M)), o16, o17, o18, o19, o20, o21, o22, o23, o24] S = .ok (.d (.bool (subL L M))) S := by
  have hl := hL.1
  have hl2 := hM.1
  have hz := zip_lk (S := S) (L := L) (M := M) (n := L.length) rfl (by omega)
  obtain ⟨xs, e1, e2, e3⟩ := compL_ones (S := S) (tg := gT (gsC (gN 21) (gsC (gN 22) gsN))) (own := [21, 22]) (tst := (dTest (dOp2 neD (dComp (dIt (dVar 21)) (gN 23) [23] (dTest (dOp2 (inD true) (dVar 23) (dVar 22))) (dVar 23)) (dLst aNil)))) (ρ := [o0, some (.r 0), o2, o3, o4, o5, o6, o7, o8, o9, o10, o11, o12, some (.d (lockD L)), o14, some (.d (lockD M)), o16, o17, o18, o19, o20, o21, o22, o23, o24])
    (fun i : Nat => PyData.tuple [keyD (lA L i), keyD (lA M i)]) (fun i => (lA L i).all fun x => decide (x ∈ lA M i)) (List.range L.length) fun i hi => ⟨_, rfl, by
      have hi' := List.mem_range.mp hi
      have hlen := (hL.2 _ (lock_mem hi')).len
      have hlen' : (lA L i).length ≤ 16777216 := by omega
      have hc := compL_map (S := S) (tg := gN 23) (own := [23]) (tst := (dTest (dOp2 (inD true) (dVar 23) (dVar 22)))) (el := dVar 23) (ρ := [o0, some (.r 0), o2, o3, o4, o5, o6, o7, o8, o9, o10, o11, o12, some (.d (lockD L)), o14, some (.d (lockD M)), o16, o17, o18, o19, o20, some (.d (keyD (lA L i))), some (.d (keyD (lA M i))), o23, o24])
        PyData.int (fun x => !decide (x ∈ lA M i)) PyData.int (lA L i) fun x _ => ⟨_, rfl, by
          have := inD_ints (S := S) (neg := true) (is := lA M i) (i := x)
          have : inD true (.d (.int x)) (.d (keyD (lA M i))) S = .ok (.d (.bool (!decide (x ∈ lA M i)))) S := this
          simp -implicitDefEqProofs [this], fun _ => rfl⟩
      have hit : itSeq (.d (keyD (lA L i))) S = .ok ((lA L i).map .int) S := rfl
      have hne : ∀ is : List Int, neD (.d (.list (is.map .int))) (.d (.list [])) S = .ok (.d (.bool (!is.isEmpty))) S := fun is => by
        rw [neD_d, if_pos ⟨shaped_ints.1, shaped_nil⟩]
        have : PyData.eqv (.list (is.map .int)) (.list []) = is.isEmpty := by cases is <;> rfl
        rw [this]
      have he : ((lA L i).filter fun x => !decide (x ∈ lA M i)).isEmpty = (lA L i).all fun x => decide (x ∈ lA M i) := by
        rw [Bool.eq_iff_iff, List.isEmpty_iff, List.filter_eq_nil_iff, List.all_eq_true]
        simp
      simp -implicitDefEqProofs [hit, hlen', hc, hne, he, -neD_d]⟩
  have hll : L.length ≤ 16777216 := by omega
  simp -implicitDefEqProofs [hz, hll, e1, e3, e2]
  rfl
theorem within_loop (h : SysOk a b c ds ks) (h2 : SysOk a b c es ks) : (forL (gT (gsC (gT (gsC (gN 12) (gsC (gN 13) gsN))) (gsC (gT (gsC (gN 14) (gsC (gN 15) gsN))) gsN))) lawB3 ((ds.zip es).map fun p => .tuple [pr lockD p.1, pr lockD p.2]) [o0, some (.r 0), o2, o3, o4, o5, o6, o7, o8, some (.d (sysD (mkD' a b c) ds ks)), some (.d (sysD (mkD' a b c) es ks)), some (.d (.bool true)), o12, o13, o14, o15, o16, o17, o18, o19, o20, o21, o22, o23, o24] S).To
    (fun ρ S' => S' = S ∧ ∃ o12 o13 o14 o15, ρ = [o0, some (.r 0), o2, o3, o4, o5, o6, o7, o8, some (.d (sysD (mkD' a b c) ds ks)), some (.d (sysD (mkD' a b c) es ks)), some (.d (.bool (tightB ds es))), o12, o13, o14, o15, o16, o17, o18, o19, o20, o21, o22, o23, o24]) fun _ _ => False := by
  refine for_to (fun i ρ S' => S' = S ∧ ∃ o12 o13 o14 o15, ρ = [o0, some (.r 0), o2, o3, o4, o5, o6, o7, o8, some (.d (sysD (mkD' a b c) ds ks)), some (.d (sysD (mkD' a b c) es ks)), some (.d (.bool (((ds.zip es).take i).all fun p => subL p.1.2 p.2.2))), o12, o13, o14, o15, o16, o17, o18, o19, o20, o21, o22, o23, o24]) ⟨rfl, _, _, _, _, rfl⟩ ?_ ?_
  · rintro ρ S' ⟨rfl, o12, o13, o14, o15, rfl⟩
    refine ⟨rfl, o12, o13, o14, o15, ?_⟩
    rw [List.length_map, List.take_length]
    rfl
  · rintro i d ρ S' hd ⟨rfl, o12, o13, o14, o15, rfl⟩
    rw [List.getElem?_map, Option.map_eq_some_iff] at hd
    obtain ⟨p, hp, rfl⟩ := hd
    have hpm := List.mem_of_getElem? hp
    obtain ⟨m1, m2⟩ := List.of_mem_zip (show (p.1, p.2) ∈ ds.zip es from hpm)
    have e := e_l_sub (S := S') (L := p.1.2) (M := p.2.2) (o0 := o0) (o2 := o2) (o3 := o3) (o4 := o4) (o5 := o5) (o6 := o6) (o7 := o7) (o8 := o8) (o9 := some (.d (sysD (mkD' a b c) ds ks))) (o10 := some (.d (sysD (mkD' a b c) es ks))) (o11 := some (.d (.bool (((ds.zip es).take i).all fun p => subL p.1.2 p.2.2)))) (o12 := some (.d (.str p.1.1))) (o14 := some (.d (.str p.2.1))) (o16 := o16) (o17 := o17) (o18 := o18) (o19 := o19) (o20 := o20) (o21 := o21) (o22 := o22) (o23 := o23) (o24 := o24) (h.lk _ m1) (h2.lk _ m2) h.mo.2.1.2 h.mo.1.2
    have hta : (((ds.zip es).take (i + 1)).all fun p => subL p.1.2 p.2.2) = ((((ds.zip es).take i).all fun p => subL p.1.2 p.2.2) && subL p.1.2 p.2.2) := by
      rw [List.take_add_one, hp, List.all_append]
      simp
    rw [hta]
    generalize (((ds.zip es).take i).all fun p => subL p.1.2 p.2.2) = w at *
    generalize subL p.1.2 p.2.2 = v at *
    refine ⟨[o0, some (.r 0), o2, o3, o4, o5, o6, o7, o8, some (.d (sysD (mkD' a b c) ds ks)), some (.d (sysD (mkD' a b c) es ks)), some (.d (.bool w)), some (.d (.str p.1.1)), some (.d (lockD p.1.2)), some (.d (.str p.2.1)), some (.d (lockD p.2.2)), o16, o17, o18, o19, o20, o21, o22, o23, o24], rfl, ?_⟩
    unfold lawB3
    generalize dOp2 eqD (dComp (dItA itZip (aCons (dVar 13) (aCons (dVar 15) aNil))) (gT (gsC (gN 21) (gsC (gN 22) gsN))) [21, 22] (dTest (dOp2 neD (dComp (dIt (dVar 21)) (gN 23) [23] (dTest (dOp2 (inD true) (dVar 23) (dVar 22))) (dVar 23)) (dLst aNil))) (dC (.int 1))) (dLst aNil) = E at *
    cases w <;> (conv => arg 1; simp -implicitDefEqProofs [e]) <;> exact ⟨rfl, _, _, _, _, rfl⟩
theorem pair_body (h : SysOk a b c ds ks) (h2 : SysOk a b c es ks) (hn : fstS ds = fstS es) : ∃ p11 p12 p13 p14 p15, lawB2 [o0, some (.r 0), o2, o3, o4, o5, o6, o7, o8, some (.d (sysD (mkD' a b c) ds ks)), some (.d (sysD (mkD' a b c) es ks)), o11, o12, o13, o14, o15, o16, o17, o18, o19, o20, o21, o22, o23, o24] S = .nx [o0, some (.r 0), o2, o3, o4, o5, o6, o7, o8, some (.d (sysD (mkD' a b c) ds ks)), some (.d (sysD (mkD' a b c) es ks)), p11, p12, p13, p14, p15, o16, o17, o18, o19, o20, o21, o22, o23, o24] S := by
  have hw := within_loop (S := S) (o0 := o0) (o2 := o2) (o3 := o3) (o4 := o4) (o5 := o5) (o6 := o6) (o7 := o7) (o8 := o8) (o12 := o12) (o13 := o13) (o14 := o14) (o15 := o15) (o16 := o16) (o17 := o17) (o18 := o18) (o19 := o19) (o20 := o20) (o21 := o21) (o22 := o22) (o23 := o23) (o24 := o24) h h2
  obtain ⟨ρ', S', e, rfl, p12, p13, p14, p15, rfl⟩ := To_nx_inv hw
  have e2 := e_is_tighter (S := S') h h2 hn
  have e3 : ∀ p : Bool, F_l_same [.d (.bool p), .d (.bool p)] S' = .ok (.d (.bool true)) S' := fun p => by rw [e_same_bool]; simp
  refine ⟨some (.d (.bool (tightB ds es))), p12, p13, p14, p15, ?_⟩
  have hz := zip_pairs (S := S') (ds := ds) (es := es)
  unfold lawB2
  have q0 : sFor (dItA itZip (aCons (dOp2 ixD (dVar 9) (dC (.int 1))) (aCons (dOp2 ixD (dVar 10) (dC (.int 1))) aNil))) (gT (gsC (gT (gsC (gN 12) (gsC (gN 13) gsN))) (gsC (gT (gsC (gN 14) (gsC (gN 15) gsN))) gsN))) lawB3 [o0, some (.r 0), o2, o3, o4, o5, o6, o7, o8, some (.d (sysD (mkD' a b c) ds ks)), some (.d (sysD (mkD' a b c) es ks)), some (.d (.bool true)), o12, o13, o14, o15, o16, o17, o18, o19, o20, o21, o22, o23, o24] S' = .nx [o0, some (.r 0), o2, o3, o4, o5, o6, o7, o8, some (.d (sysD (mkD' a b c) ds ks)), some (.d (sysD (mkD' a b c) es ks)), some (.d (.bool (tightB ds es))), p12, p13, p14, p15, o16, o17, o18, o19, o20, o21, o22, o23, o24] S' := by
    simp -implicitDefEqProofs [jx_ds, hz]
    exact e
  have q1 : sSet 11 (dC (.bool true)) [o0, some (.r 0), o2, o3, o4, o5, o6, o7, o8, some (.d (sysD (mkD' a b c) ds ks)), some (.d (sysD (mkD' a b c) es ks)), o11, o12, o13, o14, o15, o16, o17, o18, o19, o20, o21, o22, o23, o24] S' = .nx [o0, some (.r 0), o2, o3, o4, o5, o6, o7, o8, some (.d (sysD (mkD' a b c) ds ks)), some (.d (sysD (mkD' a b c) es ks)), some (.d (.bool true)), o12, o13, o14, o15, o16, o17, o18, o19, o20, o21, o22, o23, o24] S' := rfl
  unfold lawB3 at q0
  simp -implicitDefEqProofs only [sSeq_ap, q1, q0, thn_nx]
  simp -implicitDefEqProofs [e2, e3]
theorem least_loop (h : SysOk a b c ds ks) : (forL (gT (gsC (gN 12) (gsC (gN 13) gsN))) lawB4 (ds.map fun kv => .tuple [.str kv.1, lockD kv.2]) [o0, some (.r 0), o2, some (.d (mkD' a b c)), some (.d (sysD (mkD' a b c) ds ks)), o5, some (.d (psT (pairsOf ds ks))), o7, o8, o9, o10, o11, o12, o13, o14, o15, some (.d (.tuple [])), o17, o18, o19, o20, o21, o22, o23, o24] S).To
    (fun ρ S' => S' = S ∧ ∃ o12 o13 o17, ρ = [o0, some (.r 0), o2, some (.d (mkD' a b c)), some (.d (sysD (mkD' a b c) ds ks)), o5, some (.d (psT (pairsOf ds ks))), o7, o8, o9, o10, o11, o12, o13, o14, o15, some (.d (pairsD lockD (tightD ds ks))), o17, o18, o19, o20, o21, o22, o23, o24]) fun _ _ => False := by
  have hdl := h.dl
  have hps := pairs_ok h
  have hpl : (pairsOf ds ks).length ≤ 16777216 := by
    have := pairs_len (ds := ds) (ks := ks)
    have := Nat.mul_le_mul h.dl h.kl
    omega
  refine for_to (fun i ρ S' => S' = S ∧ ∃ o12 o13 o17, ρ = [o0, some (.r 0), o2, some (.d (mkD' a b c)), some (.d (sysD (mkD' a b c) ds ks)), o5, some (.d (psT (pairsOf ds ks))), o7, o8, o9, o10, o11, o12, o13, o14, o15, some (.d (pairsD lockD ((ds.take i).map (opD ds ks)))), o17, o18, o19, o20, o21, o22, o23, o24]) ⟨rfl, _, _, _, rfl⟩ ?_ ?_
  · rintro ρ S' ⟨rfl, o12, o13, o17, rfl⟩
    refine ⟨rfl, o12, o13, o17, ?_⟩
    rw [List.length_map, List.take_length]
    rfl
  · rintro i d ρ S' hd ⟨rfl, o12, o13, o17, rfl⟩
    rw [List.getElem?_map, Option.map_eq_some_iff] at hd
    obtain ⟨d, hi, rfl⟩ := hd
    have hdm := List.mem_of_getElem? hi
    have hdn := (h.dname hdm).2
    have hil : i < ds.length := (List.getElem?_eq_some_iff.mp hi).1
    refine ⟨[o0, some (.r 0), o2, some (.d (mkD' a b c)), some (.d (sysD (mkD' a b c) ds ks)), o5, some (.d (psT (pairsOf ds ks))), o7, o8, o9, o10, o11, some (.d (.str d.1)), some (.d (lockD d.2)), o14, o15, some (.d (pairsD lockD ((ds.take i).map (opD ds ks)))), o17, o18, o19, o20, o21, o22, o23, o24], rfl, ?_⟩
    have hc := compL_map (S := S') (tg := gT (gsC (gN 24) (gsC (gN 14) gsN))) (own := [24, 14]) (tst := (dTest (dOp2 eqD (dVar 14) (dVar 12)))) (el := dVar 24) (ρ := [o0, some (.r 0), o2, some (.d (mkD' a b c)), some (.d (sysD (mkD' a b c) ds ks)), o5, some (.d (psT (pairsOf ds ks))), o7, o8, o9, o10, o11, some (.d (.str d.1)), some (.d (lockD d.2)), o14, o15, some (.d (pairsD lockD ((ds.take i).map (opD ds ks)))), o17, o18, o19, o20, o21, o22, o23, o24])
      pD (fun q => decide (q.2 = d.1)) (fun q => .str q.1) (pairsOf ds ks) fun q hq => ⟨_, rfl, by
        have := eqv_s (x := q.2) (y := d.1)
        simp -implicitDefEqProofs [shaped_s hdn, shaped_s (hps q hq).2, this]
        rw [Bool.eq_iff_iff]
        simp, fun _ => rfl⟩
    have he : (((pairsOf ds ks).filter fun q => decide (q.2 = d.1)).map fun q => PyData.str q.1) = (openers ds ks d.1).map .str := by
      rw [← want_openers (pw_nodup h.dn.1)]
      unfold wantK
      rw [List.map_map]
      rfl
    rw [he] at hc
    have hlst : ∀ zs : List Str, PyData.list (zs.map .str) = strsL zs := fun _ => rfl
    have hne := neN_strs (S := S') (zs := openers ds ks d.1) (openers_ok h)
    have hli := e_l_lock_of (S := S') (zs := openers ds ks d.1) h (openers_ok h)
    have hcast : (d.2.length : Int) = a := (h.lk d hdm).1
    have hcast : a.toNat = d.2.length := by omega
    rw [hcast] at hli
    have hit : itSeq (.d (psT (pairsOf ds ks))) S' = .ok ((pairsOf ds ks).map pD) S' := rfl
    have hadd : addD (.d (pairsD lockD ((ds.take i).map (opD ds ks)))) (.d (.tuple [pr lockD (opD ds ks d)])) S' = .ok (.d (pairsD lockD ((ds.take (i + 1)).map (opD ds ks)))) S' := by
      unfold pairsD
      rw [addD_t, if_pos (by simp; omega), List.take_add_one, hi]
      simp [pr]
    have hw0 : pairsD lockD ((ds.take i).map (opD ds ks)) = pairsD lockD ((ds.take i).map (opD ds ks)) := rfl
    generalize pairsD lockD ((ds.take i).map (opD ds ks)) = X at *
    generalize pairsD lockD ((ds.take (i + 1)).map (opD ds ks)) = Y at *
    unfold lawB4
    by_cases hz : openers ds ks d.1 = []
    · have hpr : pr lockD (opD ds ks d) = .tuple [.str d.1, lockD d.2] := by simp [pr, opD, hz]
      rw [hpr] at hadd
      have hz' : (openers ds ks d.1).isEmpty = true := by rw [hz]; rfl
      conv => arg 1; simp -implicitDefEqProofs [hit, hpl, hc, hlst, hne, hz', hadd, -neD_d]
      exact ⟨rfl, _, _, _, rfl⟩
    · have hpr : pr lockD (opD ds ks d) = .tuple [.str d.1, lockD (leastL d.2.length ks (openers ds ks d.1))] := by simp [pr, opD, hz]
      rw [hpr] at hadd
      have hz' : (openers ds ks d.1).isEmpty = false := by cases h : openers ds ks d.1 <;> simp_all
      conv => arg 1; simp -implicitDefEqProofs [hit, hpl, hc, hlst, hne, hz', jx_ks, hli, hadd, -neD_d]
      exact ⟨rfl, _, _, _, rfl⟩
end
end LW
namespace LW
open PySem PySem.Spec PyProof.Rows L2 DL
section
variable {S : Sto} {a b c : Int} {ds es : List (Str × List (List Int))} {ks : List (Str × List Int)} {K : List Int} {L M : List (List Int)} {n : Nat} {zs : List Str} {ps qs : List (Str × Str)} {z : Str} {o1 o0 o2 o3 o4 o5 o6 o7 o8 o9 o10 o11 o12 o13 o14 o15 o16 o17 o18 o19 o20 o21 o22 o23 o24 : Option U}
theorem three_loop (h : SysOk a b c ds ks) (h2 : SysOk a b c es ks) (hn : fstS ds = fstS es) : (forL (gT (gsC (gN 9) (gsC (gN 10) gsN))) lawB2 [.tuple [sysD (mkD' a b c) ds ks, sysD (mkD' a b c) es ks], .tuple [sysD (mkD' a b c) es ks, sysD (mkD' a b c) ds ks], .tuple [sysD (mkD' a b c) ds ks, sysD (mkD' a b c) ds ks]] [o0, some (.r 0), o2, some (.d (mkD' a b c)), some (.d (sysD (mkD' a b c) ds ks)), some (.d (sysD (mkD' a b c) es ks)), some (.d (psT (pairsOf ds ks))), some (.d (psT (pairsOf es ks))), some (.d (.tuple [psT (lackP (pairsOf es ks) (pairsOf ds ks)), psT (lackP (pairsOf ds ks) (pairsOf es ks))])), o9, o10, o11, o12, o13, o14, o15, o16, o17, o18, o19, o20, o21, o22, o23, o24] S).To
    (fun ρ S' => S' = S ∧ ∃ o9 o10 o11 o12 o13 o14 o15, ρ = [o0, some (.r 0), o2, some (.d (mkD' a b c)), some (.d (sysD (mkD' a b c) ds ks)), some (.d (sysD (mkD' a b c) es ks)), some (.d (psT (pairsOf ds ks))), some (.d (psT (pairsOf es ks))), some (.d (.tuple [psT (lackP (pairsOf es ks) (pairsOf ds ks)), psT (lackP (pairsOf ds ks) (pairsOf es ks))])), o9, o10, o11, o12, o13, o14, o15, o16, o17, o18, o19, o20, o21, o22, o23, o24]) fun _ _ => False := by
  refine for_to (fun i ρ S' => S' = S ∧ ∃ o9 o10 o11 o12 o13 o14 o15, ρ = [o0, some (.r 0), o2, some (.d (mkD' a b c)), some (.d (sysD (mkD' a b c) ds ks)), some (.d (sysD (mkD' a b c) es ks)), some (.d (psT (pairsOf ds ks))), some (.d (psT (pairsOf es ks))), some (.d (.tuple [psT (lackP (pairsOf es ks) (pairsOf ds ks)), psT (lackP (pairsOf ds ks) (pairsOf es ks))])), o9, o10, o11, o12, o13, o14, o15, o16, o17, o18, o19, o20, o21, o22, o23, o24]) ⟨rfl, _, _, _, _, _, _, _, rfl⟩ (fun ρ S' h => h) ?_
  rintro i d ρ S' hd ⟨rfl, o9, o10, o11, o12, o13, o14, o15, rfl⟩
  obtain ⟨xs, ys, rfl, hx, hy, hxy⟩ : ∃ xs ys, d = .tuple [sysD (mkD' a b c) xs ks, sysD (mkD' a b c) ys ks] ∧ SysOk a b c xs ks ∧ SysOk a b c ys ks ∧ fstS xs = fstS ys := by
    match i, hd with
    | 0, hd => cases hd; exact ⟨_, _, rfl, h, h2, hn⟩
    | 1, hd => cases hd; exact ⟨_, _, rfl, h2, h, hn.symm⟩
    | 2, hd => cases hd; exact ⟨_, _, rfl, h, h, rfl⟩
  refine ⟨[o0, some (.r 0), o2, some (.d (mkD' a b c)), some (.d (sysD (mkD' a b c) ds ks)), some (.d (sysD (mkD' a b c) es ks)), some (.d (psT (pairsOf ds ks))), some (.d (psT (pairsOf es ks))), some (.d (.tuple [psT (lackP (pairsOf es ks) (pairsOf ds ks)), psT (lackP (pairsOf ds ks) (pairsOf es ks))])), some (.d (sysD (mkD' a b c) xs ks)), some (.d (sysD (mkD' a b c) ys ks)), o11, o12, o13, o14, o15, o16, o17, o18, o19, o20, o21, o22, o23, o24], rfl, ?_⟩
  obtain ⟨p11, p12, p13, p14, p15, e⟩ := pair_body (S := S') (o0 := o0) (o2 := o2) (o11 := o11) (o12 := o12) (o13 := o13) (o14 := o14) (o15 := o15) (o16 := o16) (o17 := o17) (o18 := o18) (o19 := o19) (o20 := o20) (o21 := o21) (o22 := o22) (o23 := o23) (o24 := o24) (o3 := some (.d (mkD' a b c))) (o4 := some (.d (sysD (mkD' a b c) ds ks))) (o5 := some (.d (sysD (mkD' a b c) es ks))) (o6 := some (.d (psT (pairsOf ds ks)))) (o7 := some (.d (psT (pairsOf es ks)))) (o8 := some (.d (.tuple [psT (lackP (pairsOf es ks) (pairsOf ds ks)), psT (lackP (pairsOf ds ks) (pairsOf es ks))]))) hx hy hxy
  rw [e]
  exact ⟨rfl, _, _, _, _, _, _, _, rfl⟩
theorem turn_body (u : Int × Int) : (lawB1 [o0, some (.r 0), o2, o3, o4, o5, o6, o7, o8, o9, o10, o11, o12, o13, o14, o15, o16, o17, o18, o19, o20, o21, o22, o23, o24] [Cup u]).ToB (fun ρ S' => ∃ u' o3 o4 o5 o6 o7 o8 o9 o10 o11 o12 o13 o14 o15 o16 o17 o18 o19 o20 o21 o22 o23 o24, S' = [Cup u'] ∧ ρ = [o0, some (.r 0), o2, o3, o4, o5, o6, o7, o8, o9, o10, o11, o12, o13, o14, o15, o16, o17, o18, o19, o20, o21, o22, o23, o24]) (fun _ _ => False) fun _ _ => False := by
  obtain ⟨a, b, c, u1, e1, ha, hb, hc⟩ := make_ex (S := []) u (p := 5) (h := 5) (by omega) (by omega)
  have hm : MkOk a b c := ⟨by omega, by omega, by omega⟩
  obtain ⟨r1, u2, e2, r10, r11⟩ := roll_ex (S := []) u1 (m := 6) (by omega) (by omega)
  obtain ⟨r2, u3, e3, r20, r21⟩ := roll_ex (S := []) u2 (m := 7) (by omega) (by omega)
  obtain ⟨ds, ks, u4, e4, h, hdl, hkl, _, _⟩ := system_ex (T := []) u3 hm (nd := 1 + r1) (nk := 1 + r2) (by omega) (by omega)
  obtain ⟨es, u5, e5, h2, hn⟩ := e_l_bent (T := []) h u4
  have hT := tight_sys h
  have q0 : (sSet 3 (dFn F_l_make (aCons (dVar 1) (aCons (dC (.int 5)) (aCons (dC (.int 5)) aNil))))) [o0, some (.r 0), o2, o3, o4, o5, o6, o7, o8, o9, o10, o11, o12, o13, o14, o15, o16, o17, o18, o19, o20, o21, o22, o23, o24] [Cup u] = .nx [o0, some (.r 0), o2, some (.d (mkD' a b c)), o4, o5, o6, o7, o8, o9, o10, o11, o12, o13, o14, o15, o16, o17, o18, o19, o20, o21, o22, o23, o24] [Cup u1] := by
    simp -implicitDefEqProofs [e1]
  have q1 : (sSet 4 (dFn F_l_system (aCons (dVar 1) (aCons (dVar 3) (aCons (dOp2 addD (dC (.int 1)) (dFn F_l_roll (aCons (dVar 1) (aCons (dC (.int 6)) aNil)))) (aCons (dOp2 addD (dC (.int 1)) (dFn F_l_roll (aCons (dVar 1) (aCons (dC (.int 7)) aNil)))) aNil)))))) [o0, some (.r 0), o2, some (.d (mkD' a b c)), o4, o5, o6, o7, o8, o9, o10, o11, o12, o13, o14, o15, o16, o17, o18, o19, o20, o21, o22, o23, o24] [Cup u1] = .nx [o0, some (.r 0), o2, some (.d (mkD' a b c)), some (.d (sysD (mkD' a b c) ds ks)), o5, o6, o7, o8, o9, o10, o11, o12, o13, o14, o15, o16, o17, o18, o19, o20, o21, o22, o23, o24] [Cup u4] := by
    simp -implicitDefEqProofs [e2, e3, e4]
  have q2 : (sSet 5 (dFn F_l_bent (aCons (dVar 1) (aCons (dVar 4) aNil)))) [o0, some (.r 0), o2, some (.d (mkD' a b c)), some (.d (sysD (mkD' a b c) ds ks)), o5, o6, o7, o8, o9, o10, o11, o12, o13, o14, o15, o16, o17, o18, o19, o20, o21, o22, o23, o24] [Cup u4] = .nx [o0, some (.r 0), o2, some (.d (mkD' a b c)), some (.d (sysD (mkD' a b c) ds ks)), some (.d (sysD (mkD' a b c) es ks)), o6, o7, o8, o9, o10, o11, o12, o13, o14, o15, o16, o17, o18, o19, o20, o21, o22, o23, o24] [Cup u5] := by
    simp -implicitDefEqProofs [e5]
  have q3 : (sPar 6 7 (aCons (dFn F_who_opens (aCons (dVar 4) aNil)) (aCons (dFn F_who_opens (aCons (dVar 5) aNil)) aNil))) [o0, some (.r 0), o2, some (.d (mkD' a b c)), some (.d (sysD (mkD' a b c) ds ks)), some (.d (sysD (mkD' a b c) es ks)), o6, o7, o8, o9, o10, o11, o12, o13, o14, o15, o16, o17, o18, o19, o20, o21, o22, o23, o24] [Cup u5] = .nx [o0, some (.r 0), o2, some (.d (mkD' a b c)), some (.d (sysD (mkD' a b c) ds ks)), some (.d (sysD (mkD' a b c) es ks)), some (.d (psT (pairsOf ds ks))), some (.d (psT (pairsOf es ks))), o8, o9, o10, o11, o12, o13, o14, o15, o16, o17, o18, o19, o20, o21, o22, o23, o24] [Cup u5] := by
    have w1 := e_who (S := [Cup u5]) h
    have w2 := e_who (S := [Cup u5]) h2
    simp -implicitDefEqProofs [w1, w2]
  have k1 := pairs_ok h
  have k2 := pairs_ok h2
  have l1 : (pairsOf ds ks).length ≤ 1600 := Nat.le_trans pairs_len (Nat.mul_le_mul h.dl h.kl)
  have l2 : (pairsOf es ks).length ≤ 1600 := Nat.le_trans pairs_len (Nat.mul_le_mul h2.dl h2.kl)
  have q4 : (sSet 8 (dTup (aCons (dCall tupleN (aCons (dComp (dIt (dVar 7)) (gN 20) [20] (dTest (dOp2 (inD true) (dVar 20) (dVar 6))) (dVar 20)) aNil)) (aCons (dCall tupleN (aCons (dComp (dIt (dVar 6)) (gN 20) [20] (dTest (dOp2 (inD true) (dVar 20) (dVar 7))) (dVar 20)) aNil)) aNil)))) [o0, some (.r 0), o2, some (.d (mkD' a b c)), some (.d (sysD (mkD' a b c) ds ks)), some (.d (sysD (mkD' a b c) es ks)), some (.d (psT (pairsOf ds ks))), some (.d (psT (pairsOf es ks))), o8, o9, o10, o11, o12, o13, o14, o15, o16, o17, o18, o19, o20, o21, o22, o23, o24] [Cup u5] = .nx [o0, some (.r 0), o2, some (.d (mkD' a b c)), some (.d (sysD (mkD' a b c) ds ks)), some (.d (sysD (mkD' a b c) es ks)), some (.d (psT (pairsOf ds ks))), some (.d (psT (pairsOf es ks))), some (.d (.tuple [psT (lackP (pairsOf es ks) (pairsOf ds ks)), psT (lackP (pairsOf ds ks) (pairsOf es ks))])), o9, o10, o11, o12, o13, o14, o15, o16, o17, o18, o19, o20, o21, o22, o23, o24] [Cup u5] := by
    have c1 := lack_comp (S := [Cup u5]) (i := 0) (j := 0) (k := 20) (ρ := [o0, some (.r 0), o2, some (.d (mkD' a b c)), some (.d (sysD (mkD' a b c) ds ks)), some (.d (sysD (mkD' a b c) es ks)), some (.d (psT (pairsOf ds ks))), some (.d (psT (pairsOf es ks))), o8, o9, o10, o11, o12, o13, o14, o15, o16, o17, o18, o19, o20, o21, o22, o23, o24]) k2 k1 (tst := dTest (dOp2 (inD true) (dVar 20) (dVar 6))) (el := dVar 20) fun q hq => ⟨_, rfl, by
      have := inD_psT (S := [Cup u5]) (neg := true) (k2 q hq) k1
      have : inD true (.d (pD q)) (.d (psT (pairsOf ds ks))) [Cup u5] = .ok (.d (.bool (!decide (q ∈ pairsOf ds ks)))) [Cup u5] := this
      simp -implicitDefEqProofs [this], rfl⟩
    have c2 := lack_comp (S := [Cup u5]) (i := 0) (j := 0) (k := 20) (ρ := [o0, some (.r 0), o2, some (.d (mkD' a b c)), some (.d (sysD (mkD' a b c) ds ks)), some (.d (sysD (mkD' a b c) es ks)), some (.d (psT (pairsOf ds ks))), some (.d (psT (pairsOf es ks))), o8, o9, o10, o11, o12, o13, o14, o15, o16, o17, o18, o19, o20, o21, o22, o23, o24]) k1 k2 (tst := dTest (dOp2 (inD true) (dVar 20) (dVar 7))) (el := dVar 20) fun q hq => ⟨_, rfl, by
      have := inD_psT (S := [Cup u5]) (neg := true) (k1 q hq) k2
      have : inD true (.d (pD q)) (.d (psT (pairsOf es ks))) [Cup u5] = .ok (.d (.bool (!decide (q ∈ pairsOf es ks)))) [Cup u5] := this
      simp -implicitDefEqProofs [this], rfl⟩
    have i1 : ∀ ps, itSeq (.d (psT ps)) [Cup u5] = .ok (ps.map pD) [Cup u5] := fun _ => rfl
    have i2 : ∀ ps : List (Str × Str), tupleN [.d (.list (ps.map pD))] [Cup u5] = .ok (.d (psT ps)) [Cup u5] := fun _ => rfl
    have l1' : (pairsOf ds ks).length ≤ 16777216 := by omega
    have l2' : (pairsOf es ks).length ≤ 16777216 := by omega
    simp -implicitDefEqProofs [i1, i2, l1', l2', c1, c2, -tupleN_l]
  have lk1 : ∀ q, q ∈ lackP (pairsOf es ks) (pairsOf ds ks) → POk q := fun q hq => k2 q (List.mem_filter.mp hq).1
  have lk2 : ∀ q, q ∈ lackP (pairsOf ds ks) (pairsOf es ks) → POk q := fun q hq => k1 q (List.mem_filter.mp hq).1
  have ll1 : (lackP (pairsOf es ks) (pairsOf ds ks)).length ≤ 16777216 := by
    have := List.length_filter_le (fun q => !decide (q ∈ pairsOf ds ks)) (pairsOf es ks)
    unfold lackP
    omega
  have ll2 : (lackP (pairsOf ds ks) (pairsOf es ks)).length ≤ 16777216 := by
    have := List.length_filter_le (fun q => !decide (q ∈ pairsOf es ks)) (pairsOf ds ks)
    unfold lackP
    omega
  have sm1 := smp_ps 0 lk1 ll1
  have sm2 := smp_ps 0 lk2 ll2
  have f1 := e_changes (S := [Cup u5]) h h2 hn
  have f2 := e_changes (S := [Cup u5]) h2 h hn.symm
  have sp : ∀ x y : D, Smp 2 x → Smp 2 y → F_l_same [.d (.tuple [x, y]), .d (.tuple [x, y])] [Cup u5] = .ok (.d (.bool true)) [Cup u5] := fun x y hx hy => e_same_refl (n := 3) (Smp.tup 2 _ (fun w hw => by
    simp only [List.mem_cons, List.not_mem_nil, or_false] at hw
    rcases hw with rfl | rfl
    · exact hx
    · exact hy) (by simp)) (by omega)
  have f3 := sp _ _ sm1 sm2
  have f4 := sp _ _ sm2 sm1
  have q5 : (sIf (dOrT (dNotT (dTru (dFn F_l_same (aCons (dFn F_changes (aCons (dVar 4) (aCons (dVar 5) aNil))) (aCons (dVar 8) aNil))))) (dNotT (dTru (dFn F_l_same (aCons (dFn F_changes (aCons (dVar 5) (aCons (dVar 4) aNil))) (aCons (dOp1 revA (dVar 8)) aNil)))))) (sRet (dC (.bool false))) sNil) [o0, some (.r 0), o2, some (.d (mkD' a b c)), some (.d (sysD (mkD' a b c) ds ks)), some (.d (sysD (mkD' a b c) es ks)), some (.d (psT (pairsOf ds ks))), some (.d (psT (pairsOf es ks))), some (.d (.tuple [psT (lackP (pairsOf es ks) (pairsOf ds ks)), psT (lackP (pairsOf ds ks) (pairsOf es ks))])), o9, o10, o11, o12, o13, o14, o15, o16, o17, o18, o19, o20, o21, o22, o23, o24] [Cup u5] = .nx [o0, some (.r 0), o2, some (.d (mkD' a b c)), some (.d (sysD (mkD' a b c) ds ks)), some (.d (sysD (mkD' a b c) es ks)), some (.d (psT (pairsOf ds ks))), some (.d (psT (pairsOf es ks))), some (.d (.tuple [psT (lackP (pairsOf es ks) (pairsOf ds ks)), psT (lackP (pairsOf ds ks) (pairsOf es ks))])), o9, o10, o11, o12, o13, o14, o15, o16, o17, o18, o19, o20, o21, o22, o23, o24] [Cup u5] := by
    simp -implicitDefEqProofs [f1, f2, f3, f4]
  obtain ⟨ρ6, S6, g6, rfl, p9, p10, p11, p12, p13, p14, p15, rfl⟩ := To_nx_inv (three_loop (S := [Cup u5]) (o0 := o0) (o2 := o2) (o9 := o9) (o10 := o10) (o11 := o11) (o12 := o12) (o13 := o13) (o14 := o14) (o15 := o15) (o16 := o16) (o17 := o17) (o18 := o18) (o19 := o19) (o20 := o20) (o21 := o21) (o22 := o22) (o23 := o23) (o24 := o24) h h2 hn)
  have q6 : (sFor (dIt (dTup (aCons (dTup (aCons (dVar 4) (aCons (dVar 5) aNil))) (aCons (dTup (aCons (dVar 5) (aCons (dVar 4) aNil))) (aCons (dTup (aCons (dVar 4) (aCons (dVar 4) aNil))) aNil))))) (gT (gsC (gN 9) (gsC (gN 10) gsN))) (sSeq (sSet 11 (dC (.bool true))) (sSeq (sFor (dItA itZip (aCons (dOp2 ixD (dVar 9) (dC (.int 1))) (aCons (dOp2 ixD (dVar 10) (dC (.int 1))) aNil))) (gT (gsC (gT (gsC (gN 12) (gsC (gN 13) gsN))) (gsC (gT (gsC (gN 14) (gsC (gN 15) gsN))) gsN))) (sSet 11 (dAndV (dVar 11) (dOp2 eqD (dComp (dItA itZip (aCons (dVar 13) (aCons (dVar 15) aNil))) (gT (gsC (gN 21) (gsC (gN 22) gsN))) [21, 22] (dTest (dOp2 neD (dComp (dIt (dVar 21)) (gN 23) [23] (dTest (dOp2 (inD true) (dVar 23) (dVar 22))) (dVar 23)) (dLst aNil))) (dC (.int 1))) (dLst aNil))))) (sIf (dNotT (dTru (dFn F_l_same (aCons (dFn F_is_tighter (aCons (dVar 9) (aCons (dVar 10) aNil))) (aCons (dVar 11) aNil))))) (sRet (dC (.bool false))) sNil)))) [o0, some (.r 0), o2, some (.d (mkD' a b c)), some (.d (sysD (mkD' a b c) ds ks)), some (.d (sysD (mkD' a b c) es ks)), some (.d (psT (pairsOf ds ks))), some (.d (psT (pairsOf es ks))), some (.d (.tuple [psT (lackP (pairsOf es ks) (pairsOf ds ks)), psT (lackP (pairsOf ds ks) (pairsOf es ks))])), o9, o10, o11, o12, o13, o14, o15, o16, o17, o18, o19, o20, o21, o22, o23, o24] [Cup u5] = .nx [o0, some (.r 0), o2, some (.d (mkD' a b c)), some (.d (sysD (mkD' a b c) ds ks)), some (.d (sysD (mkD' a b c) es ks)), some (.d (psT (pairsOf ds ks))), some (.d (psT (pairsOf es ks))), some (.d (.tuple [psT (lackP (pairsOf es ks) (pairsOf ds ks)), psT (lackP (pairsOf ds ks) (pairsOf es ks))])), p9, p10, p11, p12, p13, p14, p15, o16, o17, o18, o19, o20, o21, o22, o23, o24] [Cup u5] := by
    show (sFor _ _ lawB2) _ _ = _
    simp -implicitDefEqProofs
    exact g6
  have q7 : (sSet 16 (dTup aNil)) [o0, some (.r 0), o2, some (.d (mkD' a b c)), some (.d (sysD (mkD' a b c) ds ks)), some (.d (sysD (mkD' a b c) es ks)), some (.d (psT (pairsOf ds ks))), some (.d (psT (pairsOf es ks))), some (.d (.tuple [psT (lackP (pairsOf es ks) (pairsOf ds ks)), psT (lackP (pairsOf ds ks) (pairsOf es ks))])), p9, p10, p11, p12, p13, p14, p15, o16, o17, o18, o19, o20, o21, o22, o23, o24] [Cup u5] = .nx [o0, some (.r 0), o2, some (.d (mkD' a b c)), some (.d (sysD (mkD' a b c) ds ks)), some (.d (sysD (mkD' a b c) es ks)), some (.d (psT (pairsOf ds ks))), some (.d (psT (pairsOf es ks))), some (.d (.tuple [psT (lackP (pairsOf es ks) (pairsOf ds ks)), psT (lackP (pairsOf ds ks) (pairsOf es ks))])), p9, p10, p11, p12, p13, p14, p15, some (.d (.tuple [])), o17, o18, o19, o20, o21, o22, o23, o24] [Cup u5] := by
    rfl
  obtain ⟨ρ8, S8, g8, rfl, q12, q13, q17, rfl⟩ := To_nx_inv (least_loop (S := [Cup u5]) (o0 := o0) (o2 := o2) (o5 := some (.d (sysD (mkD' a b c) es ks))) (o7 := some (.d (psT (pairsOf es ks)))) (o8 := some (.d (.tuple [psT (lackP (pairsOf es ks) (pairsOf ds ks)), psT (lackP (pairsOf ds ks) (pairsOf es ks))]))) (o9 := p9) (o10 := p10) (o11 := p11) (o12 := p12) (o13 := p13) (o14 := p14) (o15 := p15) (o17 := o17) (o18 := o18) (o19 := o19) (o20 := o20) (o21 := o21) (o22 := o22) (o23 := o23) (o24 := o24) h)
  have q8 : (sFor (dIt (dOp2 ixD (dVar 4) (dC (.int 1)))) (gT (gsC (gN 12) (gsC (gN 13) gsN))) (sSeq (sSet 17 (dComp (dIt (dVar 6)) (gT (gsC (gN 24) (gsC (gN 14) gsN))) [24, 14] (dTest (dOp2 eqD (dVar 14) (dVar 12))) (dVar 24))) (sSet 16 (dOp2 addD (dVar 16) (dTup (aCons (dTup (aCons (dVar 12) (aCons (dIf (dTest (dOp2 neD (dVar 17) (dLst aNil))) (dFn F_l_lock_of (aCons (dVar 3) (aCons (dOp2 ixD (dVar 4) (dC (.int 2))) (aCons (dVar 17) aNil)))) (dVar 13)) aNil))) aNil)))))) [o0, some (.r 0), o2, some (.d (mkD' a b c)), some (.d (sysD (mkD' a b c) ds ks)), some (.d (sysD (mkD' a b c) es ks)), some (.d (psT (pairsOf ds ks))), some (.d (psT (pairsOf es ks))), some (.d (.tuple [psT (lackP (pairsOf es ks) (pairsOf ds ks)), psT (lackP (pairsOf ds ks) (pairsOf es ks))])), p9, p10, p11, p12, p13, p14, p15, some (.d (.tuple [])), o17, o18, o19, o20, o21, o22, o23, o24] [Cup u5] = .nx [o0, some (.r 0), o2, some (.d (mkD' a b c)), some (.d (sysD (mkD' a b c) ds ks)), some (.d (sysD (mkD' a b c) es ks)), some (.d (psT (pairsOf ds ks))), some (.d (psT (pairsOf es ks))), some (.d (.tuple [psT (lackP (pairsOf es ks) (pairsOf ds ks)), psT (lackP (pairsOf ds ks) (pairsOf es ks))])), p9, p10, p11, q12, q13, p14, p15, some (.d (pairsD lockD (tightD ds ks))), q17, o18, o19, o20, o21, o22, o23, o24] [Cup u5] := by
    show (sFor _ _ lawB4) _ _ = _
    simp -implicitDefEqProofs [jx_ds, pairs_its]
    exact g8
  have f5 := e_tightened (S := [Cup u5]) h
  have f6 := e_tightened (S := [Cup u5]) hT
  rw [tight_tight h] at f6
  have f7 := e_same_refl (S := [Cup u5]) (smp_sys hT) (by omega)
  have q9 : (sSet 18 (dFn F_tightened (aCons (dVar 4) aNil))) [o0, some (.r 0), o2, some (.d (mkD' a b c)), some (.d (sysD (mkD' a b c) ds ks)), some (.d (sysD (mkD' a b c) es ks)), some (.d (psT (pairsOf ds ks))), some (.d (psT (pairsOf es ks))), some (.d (.tuple [psT (lackP (pairsOf es ks) (pairsOf ds ks)), psT (lackP (pairsOf ds ks) (pairsOf es ks))])), p9, p10, p11, q12, q13, p14, p15, some (.d (pairsD lockD (tightD ds ks))), q17, o18, o19, o20, o21, o22, o23, o24] [Cup u5] = .nx [o0, some (.r 0), o2, some (.d (mkD' a b c)), some (.d (sysD (mkD' a b c) ds ks)), some (.d (sysD (mkD' a b c) es ks)), some (.d (psT (pairsOf ds ks))), some (.d (psT (pairsOf es ks))), some (.d (.tuple [psT (lackP (pairsOf es ks) (pairsOf ds ks)), psT (lackP (pairsOf ds ks) (pairsOf es ks))])), p9, p10, p11, q12, q13, p14, p15, some (.d (pairsD lockD (tightD ds ks))), q17, some (.d (sysD (mkD' a b c) (tightD ds ks) ks)), o19, o20, o21, o22, o23, o24] [Cup u5] := by
    simp -implicitDefEqProofs [f5]
  have q10 : (sIf (dOrT (dNotT (dTru (dFn F_l_same (aCons (dVar 18) (aCons (dTup (aCons (dVar 3) (aCons (dVar 16) (aCons (dOp2 ixD (dVar 4) (dC (.int 2))) aNil)))) aNil))))) (dNotT (dTru (dFn F_l_same (aCons (dFn F_tightened (aCons (dVar 18) aNil)) (aCons (dVar 18) aNil)))))) (sRet (dC (.bool false))) sNil) [o0, some (.r 0), o2, some (.d (mkD' a b c)), some (.d (sysD (mkD' a b c) ds ks)), some (.d (sysD (mkD' a b c) es ks)), some (.d (psT (pairsOf ds ks))), some (.d (psT (pairsOf es ks))), some (.d (.tuple [psT (lackP (pairsOf es ks) (pairsOf ds ks)), psT (lackP (pairsOf ds ks) (pairsOf es ks))])), p9, p10, p11, q12, q13, p14, p15, some (.d (pairsD lockD (tightD ds ks))), q17, some (.d (sysD (mkD' a b c) (tightD ds ks) ks)), o19, o20, o21, o22, o23, o24] [Cup u5] = .nx [o0, some (.r 0), o2, some (.d (mkD' a b c)), some (.d (sysD (mkD' a b c) ds ks)), some (.d (sysD (mkD' a b c) es ks)), some (.d (psT (pairsOf ds ks))), some (.d (psT (pairsOf es ks))), some (.d (.tuple [psT (lackP (pairsOf es ks) (pairsOf ds ks)), psT (lackP (pairsOf ds ks) (pairsOf es ks))])), p9, p10, p11, q12, q13, p14, p15, some (.d (pairsD lockD (tightD ds ks))), q17, some (.d (sysD (mkD' a b c) (tightD ds ks) ks)), o19, o20, o21, o22, o23, o24] [Cup u5] := by
    have hd : PyData.tuple [mkD' a b c, pairsD lockD (tightD ds ks), pairsD keyD ks] = sysD (mkD' a b c) (tightD ds ks) ks := rfl
    simp -implicitDefEqProofs [jx_ks, hd, f6, f7]
  have f8 := e_changes (S := [Cup u5]) h hT tight_names.symm
  rw [tight_pairs h, lack_self] at f8
  have hnil : psT [] = .tuple [] := rfl
  rw [hnil] at f8
  have f9 := e_is_tighter (S := [Cup u5]) hT h tight_names
  rw [tight_tighter h] at f9
  have sn : Smp 2 (.tuple []) := Smp.tup 1 _ (fun x hx => by cases hx) (by simp)
  have f10 := sp _ _ sn sn
  have q11 : (sIf (dOrT (dNotT (dTru (dFn F_l_same (aCons (dFn F_changes (aCons (dVar 4) (aCons (dVar 18) aNil))) (aCons (dTup (aCons (dTup aNil) (aCons (dTup aNil) aNil))) aNil))))) (dTest (dOp2 (isD true) (dFn F_is_tighter (aCons (dVar 18) (aCons (dVar 4) aNil))) (dC (.bool true))))) (sRet (dC (.bool false))) sNil) [o0, some (.r 0), o2, some (.d (mkD' a b c)), some (.d (sysD (mkD' a b c) ds ks)), some (.d (sysD (mkD' a b c) es ks)), some (.d (psT (pairsOf ds ks))), some (.d (psT (pairsOf es ks))), some (.d (.tuple [psT (lackP (pairsOf es ks) (pairsOf ds ks)), psT (lackP (pairsOf ds ks) (pairsOf es ks))])), p9, p10, p11, q12, q13, p14, p15, some (.d (pairsD lockD (tightD ds ks))), q17, some (.d (sysD (mkD' a b c) (tightD ds ks) ks)), o19, o20, o21, o22, o23, o24] [Cup u5] = .nx [o0, some (.r 0), o2, some (.d (mkD' a b c)), some (.d (sysD (mkD' a b c) ds ks)), some (.d (sysD (mkD' a b c) es ks)), some (.d (psT (pairsOf ds ks))), some (.d (psT (pairsOf es ks))), some (.d (.tuple [psT (lackP (pairsOf es ks) (pairsOf ds ks)), psT (lackP (pairsOf ds ks) (pairsOf es ks))])), p9, p10, p11, q12, q13, p14, p15, some (.d (pairsD lockD (tightD ds ks))), q17, some (.d (sysD (mkD' a b c) (tightD ds ks) ks)), o19, o20, o21, o22, o23, o24] [Cup u5] := by
    simp -implicitDefEqProofs [f8, f9, f10]
  have hdl' : ds.length ≤ 16777216 := by have := h.dl; omega
  have q12' : (sSet 19 (dCall tupleN (aCons (dComp (dIt (dOp2 ixD (dVar 4) (dC (.int 1)))) (gT (gsC (gN 12) (gsC (gN 13) gsN))) [12, 13] (dTest (dOp2 (inD false) (dVar 12) (dComp (dIt (dVar 6)) (gN 20) [20] tstY (dOp2 ixD (dVar 20) (dC (.int 1)))))) (dVar 12)) aNil))) [o0, some (.r 0), o2, some (.d (mkD' a b c)), some (.d (sysD (mkD' a b c) ds ks)), some (.d (sysD (mkD' a b c) es ks)), some (.d (psT (pairsOf ds ks))), some (.d (psT (pairsOf es ks))), some (.d (.tuple [psT (lackP (pairsOf es ks) (pairsOf ds ks)), psT (lackP (pairsOf ds ks) (pairsOf es ks))])), p9, p10, p11, q12, q13, p14, p15, some (.d (pairsD lockD (tightD ds ks))), q17, some (.d (sysD (mkD' a b c) (tightD ds ks) ks)), o19, o20, o21, o22, o23, o24] [Cup u5] = .nx [o0, some (.r 0), o2, some (.d (mkD' a b c)), some (.d (sysD (mkD' a b c) ds ks)), some (.d (sysD (mkD' a b c) es ks)), some (.d (psT (pairsOf ds ks))), some (.d (psT (pairsOf es ks))), some (.d (.tuple [psT (lackP (pairsOf es ks) (pairsOf ds ks)), psT (lackP (pairsOf ds ks) (pairsOf es ks))])), p9, p10, p11, q12, q13, p14, p15, some (.d (pairsD lockD (tightD ds ks))), q17, some (.d (sysD (mkD' a b c) (tightD ds ks) ks)), some (.d (.tuple ((doorsO ds ks).map .str))), o20, o21, o22, o23, o24] [Cup u5] := by
    have hc := compL_map (S := [Cup u5]) (tg := gT (gsC (gN 12) (gsC (gN 13) gsN))) (own := [12, 13]) (tst := dTest (dOp2 (inD false) (dVar 12) (dComp (dIt (dVar 6)) (gN 20) [20] tstY (dOp2 ixD (dVar 20) (dC (.int 1)))))) (el := dVar 12) (ρ := [o0, some (.r 0), o2, some (.d (mkD' a b c)), some (.d (sysD (mkD' a b c) ds ks)), some (.d (sysD (mkD' a b c) es ks)), some (.d (psT (pairsOf ds ks))), some (.d (psT (pairsOf es ks))), some (.d (.tuple [psT (lackP (pairsOf es ks) (pairsOf ds ks)), psT (lackP (pairsOf ds ks) (pairsOf es ks))])), p9, p10, p11, q12, q13, p14, p15, some (.d (pairsD lockD (tightD ds ks))), q17, some (.d (sysD (mkD' a b c) (tightD ds ks) ks)), o19, o20, o21, o22, o23, o24])
      (fun kv : Str × List (List Int) => PyData.tuple [.str kv.1, lockD kv.2]) (fun d => decide (d.1 ∈ sndS (pairsOf ds ks))) (fun d => .str d.1) ds fun d hd => ⟨_, rfl, by
        have c5 := compL_mapY (S := [Cup u5]) (tg := gN 20) (own := [20]) (el := dOp2 ixD (dVar 20) (dC (.int 1))) (ρ := [o0, some (.r 0), o2, some (.d (mkD' a b c)), some (.d (sysD (mkD' a b c) ds ks)), some (.d (sysD (mkD' a b c) es ks)), some (.d (psT (pairsOf ds ks))), some (.d (psT (pairsOf es ks))), some (.d (.tuple [psT (lackP (pairsOf es ks) (pairsOf ds ks)), psT (lackP (pairsOf ds ks) (pairsOf es ks))])), p9, p10, p11, some (.d (.str d.1)), some (.d (lockD d.2)), p14, p15, some (.d (pairsD lockD (tightD ds ks))), q17, some (.d (sysD (mkD' a b c) (tightD ds ks) ks)), o19, o20, o21, o22, o23, o24]) pD (fun q => .str q.2) (pairsOf ds ks) fun q hq => ⟨_, rfl, by simp [pD]⟩
        have f2 : (pairsOf ds ks).map (fun q => PyData.str q.2) = (sndS (pairsOf ds ks)).map .str := by simp [sndS]
        rw [f2] at c5
        have g5 := (inD_ss (S := [Cup u5]) (neg := false) (zs := sndS (pairsOf ds ks)) (h.dname hd).2 (fun w hw => by
          obtain ⟨q, hq, rfl⟩ := List.mem_map.mp hw
          exact (k1 q hq).2)).1
        have i1 : ∀ ps, itSeq (.d (psT ps)) [Cup u5] = .ok (ps.map pD) [Cup u5] := fun _ => rfl
        have l1' : (pairsOf ds ks).length ≤ 16777216 := by omega
        simp -implicitDefEqProofs [i1, l1', c5, g5], fun _ => rfl⟩
    have he : ((ds.filter fun d => decide (d.1 ∈ sndS (pairsOf ds ks))).map fun d => PyData.str d.1) = (doorsO ds ks).map .str := by
      unfold doorsO
      rw [List.map_map]
      rfl
    rw [he] at hc
    simp -implicitDefEqProofs [jx_ds, pairs_its, hdl', hc]
  have hdo : ∀ w, w ∈ doorsO ds ks → PyData.strOk w = true := fun w hw => (h.dn.2 w (doorsO_sub w hw)).2
  have q13' : (sSet 8 (dTup (aCons (dVar 3) (aCons (dCall tupleN (aCons (dComp (dIt (dVar 16)) (gN 20) [20] (dTest (dOp2 (inD false) (dOp2 ixD (dVar 20) (dC (.int 0))) (dVar 19))) (dVar 20)) aNil)) (aCons (dOp2 ixD (dVar 4) (dC (.int 2))) aNil))))) [o0, some (.r 0), o2, some (.d (mkD' a b c)), some (.d (sysD (mkD' a b c) ds ks)), some (.d (sysD (mkD' a b c) es ks)), some (.d (psT (pairsOf ds ks))), some (.d (psT (pairsOf es ks))), some (.d (.tuple [psT (lackP (pairsOf es ks) (pairsOf ds ks)), psT (lackP (pairsOf ds ks) (pairsOf es ks))])), p9, p10, p11, q12, q13, p14, p15, some (.d (pairsD lockD (tightD ds ks))), q17, some (.d (sysD (mkD' a b c) (tightD ds ks) ks)), some (.d (.tuple ((doorsO ds ks).map .str))), o20, o21, o22, o23, o24] [Cup u5] = .nx [o0, some (.r 0), o2, some (.d (mkD' a b c)), some (.d (sysD (mkD' a b c) ds ks)), some (.d (sysD (mkD' a b c) es ks)), some (.d (psT (pairsOf ds ks))), some (.d (psT (pairsOf es ks))), some (.d (sysD (mkD' a b c) ((tightD ds ks).filter fun d => decide (d.1 ∈ doorsO ds ks)) ks)), p9, p10, p11, q12, q13, p14, p15, some (.d (pairsD lockD (tightD ds ks))), q17, some (.d (sysD (mkD' a b c) (tightD ds ks) ks)), some (.d (.tuple ((doorsO ds ks).map .str))), o20, o21, o22, o23, o24] [Cup u5] := by
    have hc := compL_map (S := [Cup u5]) (tg := gN 20) (own := [20]) (tst := dTest (dOp2 (inD false) (dOp2 ixD (dVar 20) (dC (.int 0))) (dVar 19))) (el := dVar 20) (ρ := [o0, some (.r 0), o2, some (.d (mkD' a b c)), some (.d (sysD (mkD' a b c) ds ks)), some (.d (sysD (mkD' a b c) es ks)), some (.d (psT (pairsOf ds ks))), some (.d (psT (pairsOf es ks))), some (.d (.tuple [psT (lackP (pairsOf es ks) (pairsOf ds ks)), psT (lackP (pairsOf ds ks) (pairsOf es ks))])), p9, p10, p11, q12, q13, p14, p15, some (.d (pairsD lockD (tightD ds ks))), q17, some (.d (sysD (mkD' a b c) (tightD ds ks) ks)), some (.d (.tuple ((doorsO ds ks).map .str))), o20, o21, o22, o23, o24])
      (pr lockD) (fun d => decide (d.1 ∈ doorsO ds ks)) (pr lockD) (tightD ds ks) fun d hd => ⟨_, rfl, by
        have g5 := (inD_ss (S := [Cup u5]) (neg := false) (zs := doorsO ds ks) (hT.dname hd).2 hdo).2
        simp -implicitDefEqProofs [pr, g5], fun _ => rfl⟩
    have hit : itSeq (.d (pairsD lockD (tightD ds ks))) [Cup u5] = .ok ((tightD ds ks).map (pr lockD)) [Cup u5] := rfl
    have htl : (tightD ds ks).length ≤ 16777216 := by have := hT.dl; omega
    have ht : ∀ xs : List (Str × List (List Int)), tupleN [.d (.list (xs.map (pr lockD)))] [Cup u5] = .ok (.d (pairsD lockD xs)) [Cup u5] := fun _ => rfl
    simp -implicitDefEqProofs [hit, htl, hc, ht, jx_ks, -tupleN_l]
    rfl
  have f11 := e_planned (S := [Cup u5]) (plan_ok h) (no_clash h)
  rw [plan_eq h] at f11
  have hP : SysOk a b c ((tightD ds ks).filter fun d => decide (d.1 ∈ doorsO ds ks)) ks := ⟨hm, ⟨(hT.dn.1).sublist ((List.filter_sublist).map _), fun w hw => by
    obtain ⟨d, hd, rfl⟩ := List.mem_map.mp hw
    exact hT.dname (List.mem_filter.mp hd).1⟩, h.kn, by
      have := List.length_filter_le (fun d : Str × List (List Int) => decide (d.1 ∈ doorsO ds ks)) (tightD ds ks)
      have := hT.dl
      omega, h.kl, fun d hd => hT.lk d (List.mem_filter.mp hd).1, h.ky⟩
  have f12 := e_same_refl (S := [Cup u5]) (smp_sys hP) (by omega)
  have hps : PyData.tuple ((pairsOf ds ks).map pD) = psT (pairsOf ds ks) := rfl
  rw [hps] at f11
  have q14 : (sIf (dNotT (dTru (dFn F_l_same (aCons (dFn F_planned (aCons (dVar 3) (aCons (dOp2 ixD (dVar 4) (dC (.int 2))) (aCons (dVar 19) (aCons (dVar 6) aNil))))) (aCons (dVar 8) aNil))))) (sRet (dC (.bool false))) sNil) [o0, some (.r 0), o2, some (.d (mkD' a b c)), some (.d (sysD (mkD' a b c) ds ks)), some (.d (sysD (mkD' a b c) es ks)), some (.d (psT (pairsOf ds ks))), some (.d (psT (pairsOf es ks))), some (.d (sysD (mkD' a b c) ((tightD ds ks).filter fun d => decide (d.1 ∈ doorsO ds ks)) ks)), p9, p10, p11, q12, q13, p14, p15, some (.d (pairsD lockD (tightD ds ks))), q17, some (.d (sysD (mkD' a b c) (tightD ds ks) ks)), some (.d (.tuple ((doorsO ds ks).map .str))), o20, o21, o22, o23, o24] [Cup u5] = .nx [o0, some (.r 0), o2, some (.d (mkD' a b c)), some (.d (sysD (mkD' a b c) ds ks)), some (.d (sysD (mkD' a b c) es ks)), some (.d (psT (pairsOf ds ks))), some (.d (psT (pairsOf es ks))), some (.d (sysD (mkD' a b c) ((tightD ds ks).filter fun d => decide (d.1 ∈ doorsO ds ks)) ks)), p9, p10, p11, q12, q13, p14, p15, some (.d (pairsD lockD (tightD ds ks))), q17, some (.d (sysD (mkD' a b c) (tightD ds ks) ks)), some (.d (.tuple ((doorsO ds ks).map .str))), o20, o21, o22, o23, o24] [Cup u5] := by
    simp -implicitDefEqProofs [jx_ks, f11, f12]
  unfold lawB1
  simp -implicitDefEqProofs only [sSeq_ap, q0, q1, q2, q3, q4, q5, q6, q7, q8, q9, q10, q11, q12', q13', q14, thn_nx]
  exact ⟨u5, _, _, _, _, _, _, _, _, _, _, _, _, _, _, _, _, _, _, _, _, _, _, rfl, rfl⟩
theorem law_true {ns : List Int} (h : ns.length ≤ 63) : ∃ S', F_law [.s ns] [] = .ok (.d (.bool true)) S' := by
  obtain ⟨u, e1⟩ := cup_ex h
  generalize hR : F_law _ _ = R
  simp -implicitDefEqProofs [F_law, fnD_ap, t_law, e1] at hR
  generalize hX : forL _ _ _ _ _ = X at hR
  have hw : X.To (fun ρ S' => ∃ u' o2 o3 o4 o5 o6 o7 o8 o9 o10 o11 o12 o13 o14 o15 o16 o17 o18 o19 o20 o21 o22 o23 o24, S' = [Cup u'] ∧ ρ = [some (.s ns), some (.r 0), o2, o3, o4, o5, o6, o7, o8, o9, o10, o11, o12, o13, o14, o15, o16, o17, o18, o19, o20, o21, o22, o23, o24]) fun _ _ => False := by
    rw [← hX]
    refine for_to (fun i ρ S' => ∃ u' o2 o3 o4 o5 o6 o7 o8 o9 o10 o11 o12 o13 o14 o15 o16 o17 o18 o19 o20 o21 o22 o23 o24, S' = [Cup u'] ∧ ρ = [some (.s ns), some (.r 0), o2, o3, o4, o5, o6, o7, o8, o9, o10, o11, o12, o13, o14, o15, o16, o17, o18, o19, o20, o21, o22, o23, o24]) ⟨u, _, _, _, _, _, _, _, _, _, _, _, _, _, _, _, _, _, _, _, _, _, _, _, rfl, rfl⟩ (fun ρ S' h => h) ?_
    rintro i d ρ S' hd ⟨u', o2, o3, o4, o5, o6, o7, o8, o9, o10, o11, o12, o13, o14, o15, o16, o17, o18, o19, o20, o21, o22, o23, o24, rfl, rfl⟩
    refine ⟨_, rfl, ?_⟩
    exact ToB_mono (turn_body (o0 := some (.s ns)) (o2 := some (.d d)) u') (fun ρ S' ⟨u', o3, o4, o5, o6, o7, o8, o9, o10, o11, o12, o13, o14, o15, o16, o17, o18, o19, o20, o21, o22, o23, o24, h1, h2⟩ => ⟨u', some (.d d), o3, o4, o5, o6, o7, o8, o9, o10, o11, o12, o13, o14, o15, o16, o17, o18, o19, o20, o21, o22, o23, o24, h1, h2⟩) (fun _ _ h => h.elim) (fun _ _ h => h)
  obtain ⟨ρ', S', rfl, u3, o2, o3, o4, o5, o6, o7, o8, o9, o10, o11, o12, o13, o14, o15, o16, o17, o18, o19, o20, o21, o22, o23, o24, rfl, rfl⟩ := To_nx_inv hw
  simp at hR
  exact ⟨[], hR.symm⟩
end
end LW
theorem PySem.Challenge.cw_masterpins_k93_whole_tighter_systems_holds : PySem.Challenge.rw_masterpins_k93_whole_tighter_systems.Holds := by
  exact LW.law_holds fun ns h => LW.law_true h
